import PyProof.Rows.All
import PyProof.Rows.BitMore
import PyProof.Rows.IntMath
import Wide.All
import OpenK.AllK
import Wide.FinOn
import HandS.ForMost
import HandS.Set
import HandS.SetFor
import HandS.Strs
import PyProof.Rows.SortShellK
import PyProof.Rows.SortStr
import HandS.Defaults
import HandS.Wide
import HandS.WideBits
import HandS.RaiseMore
import PyProof.ReprRoads
import HandS.Codes
import HandS.IsInst
import HandS.Flow
import HandS.StrMore
import HandS.Zip
import HandS.Words
import PyProof.Rows.SeqCalls
import PyProof.Rows.FactsT3
import PyProof.ReprLen
import KE.KStateDown
import Lean
import HandS.Head0
import HandS.Head1
import HandS.Head2
import HandS.HeadEnd
import HandS.HeadHook1
import HandS.HeadHook2
import PySem.Challenge.RW_howeverwide_k07_whole_values
set_option Elab.async false
set_option linter.all false
set_option maxRecDepth 100000
set_option maxHeartbeats 0
/-! ## KMath -/
namespace Hw
open PySem

/-! ### expressions, their values -/
inductive Bop where
  | plus | minus | both | either | unlike
inductive Sop where
  | times | up | down
def Bop.s : Bop → Str
  | .plus => "plus"
  | .minus => "minus"
  | .both => "both"
  | .either => "either"
  | .unlike => "unlike"
def Sop.s : Sop → Str
  | .times => "times"
  | .up => "up"
  | .down => "down"
inductive Ex where
  | nm (x : Str)
  | num (i : Int)
  | bin (o : Bop) (a b : Ex)
  | turned (a : Ex)
  | sc (o : Sop) (k : Int) (a : Ex)

def bop (w : Nat) : Bop → Int → Int → Int
  | .plus, a, b => (a + b) % 2 ^ w
  | .minus, a, b => (a - b) % 2 ^ w
  | .both, a, b => Builtin.bitAnd a b
  | .either, a, b => Builtin.bitOr a b
  | .unlike, a, b => Builtin.bitXor a b
def sop (w : Nat) : Sop → Int → Int → Int
  | .times, k, a => a * k % 2 ^ w
  | .up, k, a => a * 2 ^ k.toNat % 2 ^ w
  | .down, k, a => a / 2 ^ k.toNat
def ev (w : Nat) (ρ : Str → Int) : Ex → Int
  | .nm x => ρ x
  | .num i => i % 2 ^ w
  | .bin o a b => bop w o (ev w ρ a) (ev w ρ b)
  | .turned a => 2 ^ w - 1 - ev w ρ a
  | .sc o k a => sop w o k (ev w ρ a)

/-- the names, as they come -/
def Ex.names : Ex → List Str
  | .nm x => [x]
  | .num _ => []
  | .bin _ a b => a.names ++ b.names
  | .turned a => a.names
  | .sc _ _ a => a.names
/-- the depth (a leaf: 1) -/
def Ex.dep : Ex → Nat
  | .nm _ => 1
  | .num _ => 1
  | .bin _ a b => max a.dep b.dep + 1
  | .turned a => a.dep + 1
  | .sc _ _ a => a.dep + 1
/-- how many knots -/
def Ex.siz : Ex → Nat
  | .nm _ => 1
  | .num _ => 1
  | .bin _ a b => a.siz + b.siz + 1
  | .turned a => a.siz + 1
  | .sc _ _ a => a.siz + 1
def okNames : List Str := ["b", "t1", "x", "y"]
/-- the limits -/
def Ex.Ok : Ex → Prop
  | .nm x => x ∈ okNames
  | .num i => -2000 ≤ i ∧ i ≤ 2000
  | .bin _ a b => a.Ok ∧ b.Ok
  | .turned a => a.Ok
  | .sc .times k a => (-100 ≤ k ∧ k ≤ 100) ∧ a.Ok
  | .sc _ k a => (0 ≤ k ∧ k ≤ 8) ∧ a.Ok
theorem Ex.Ok.k {o : Sop} {k : Int} {a : Ex} (h : (Ex.sc o k a).Ok) : -100 ≤ k ∧ k ≤ 100 ∧ a.Ok ∧ (o ≠ .times → 0 ≤ k ∧ k ≤ 8) := by
  cases o with
  | times => exact ⟨h.1.1, h.1.2, h.2, fun e => absurd rfl e⟩
  | up => have := h.1; exact ⟨by omega, by omega, h.2, fun _ => h.1⟩
  | down => have := h.1; exact ⟨by omega, by omega, h.2, fun _ => h.1⟩
/-- the words fit -/
def Fits (w : Nat) (ρ : Str → Int) (xs : List Str) : Prop := ∀ x ∈ xs, 0 ≤ ρ x ∧ ρ x < 2 ^ w

theorem p2 (w : Nat) : (0 : Int) < 2 ^ w := by
  rw [PyProof.Rows.two_pow_cast]
  exact Int.natCast_pos.mpr (Nat.two_pow_pos w)
theorem mod_rng (a : Int) (w : Nat) : 0 ≤ a % 2 ^ w ∧ a % 2 ^ w < 2 ^ w :=
  ⟨Int.emod_nonneg a (Int.ne_of_gt (p2 w)), Int.emod_lt_of_pos a (p2 w)⟩

theorem and_rng {a b : Int} {w : Nat} (ha : 0 ≤ a) (ha2 : a < 2 ^ w) (hb : 0 ≤ b) : 0 ≤ Builtin.bitAnd a b ∧ Builtin.bitAnd a b < 2 ^ w := by
  rw [PyProof.Rows.bitAnd_pp ha hb]
  refine ⟨Int.natCast_nonneg _, ?_⟩
  have h := @Nat.and_le_left a.toNat b.toNat
  omega
theorem bitNot_not (z : Int) : Builtin.bitNot (Builtin.bitNot z) = z := by
  show -(-z - 1) - 1 = z
  omega
theorem or_nn {x y : Int} (hx : 0 ≤ x) (hy : 0 ≤ y) : Builtin.bitOr x y = ((x.toNat ||| y.toNat : Nat) : Int) := by
  have a : ¬ 0 ≤ Builtin.bitNot x := by
    show ¬ 0 ≤ -x - 1
    omega
  have b : ¬ 0 ≤ Builtin.bitNot y := by
    show ¬ 0 ≤ -y - 1
    omega
  show Builtin.bitNot (Builtin.bitAnd (Builtin.bitNot x) (Builtin.bitNot y)) = _
  rw [PyProof.Rows.bitAnd_nn a b, bitNot_not x, bitNot_not y]
  exact bitNot_not _
theorem or_rng {a b : Int} {w : Nat} (ha : 0 ≤ a) (ha2 : a < 2 ^ w) (hb : 0 ≤ b) (hb2 : b < 2 ^ w) : 0 ≤ Builtin.bitOr a b ∧ Builtin.bitOr a b < 2 ^ w := by
  rw [or_nn ha hb]
  refine ⟨Int.natCast_nonneg _, ?_⟩
  rw [PyProof.Rows.two_pow_cast] at ha2 hb2 ⊢
  have h := @Nat.or_lt_two_pow a.toNat b.toNat w (by omega) (by omega)
  omega
theorem bop_rng {w : Nat} (o : Bop) {a b : Int} (ha : 0 ≤ a) (ha2 : a < 2 ^ w) (hb : 0 ≤ b) (hb2 : b < 2 ^ w) : 0 ≤ bop w o a b ∧ bop w o a b < 2 ^ w := by
  cases o with
  | plus => exact mod_rng _ w
  | minus => exact mod_rng _ w
  | both => exact and_rng ha ha2 hb
  | either => exact or_rng ha ha2 hb hb2
  | unlike =>
    have h1 := or_rng ha ha2 hb hb2
    have h2 := and_rng ha ha2 hb
    have h3 := PyProof.Rows.bitOr_and a b
    have h4 := and_rng hb hb2 ha
    show 0 ≤ Builtin.bitOr a b - Builtin.bitAnd a b ∧ Builtin.bitOr a b - Builtin.bitAnd a b < 2 ^ w
    have h5 : Builtin.bitAnd a b ≤ a := by
      rw [PyProof.Rows.bitAnd_pp ha hb]
      have h := @Nat.and_le_left a.toNat b.toNat
      omega
    have h6 : Builtin.bitAnd a b ≤ b := by
      rw [PyProof.Rows.bitAnd_pp ha hb]
      have h := @Nat.and_le_right a.toNat b.toNat
      omega
    omega
theorem sop_rng {w : Nat} {o : Sop} {k a : Int} (ha : 0 ≤ a) (ha2 : a < 2 ^ w) : 0 ≤ sop w o k a ∧ sop w o k a < 2 ^ w := by
  cases o with
  | times => exact mod_rng _ w
  | up => exact mod_rng _ w
  | down =>
    show 0 ≤ a / 2 ^ k.toNat ∧ a / 2 ^ k.toNat < 2 ^ w
    refine ⟨Int.ediv_nonneg ha (Int.le_of_lt (p2 _)), Int.lt_of_le_of_lt (Int.ediv_le_self _ ha) ha2⟩
theorem ev_rng {w : Nat} {ρ : Str → Int} : ∀ {e : Ex}, Fits w ρ e.names → 0 ≤ ev w ρ e ∧ ev w ρ e < 2 ^ w
  | .nm x, h => h x (List.mem_singleton.mpr rfl)
  | .num i, _ => mod_rng i w
  | .bin o a b, h => by
    have h1 := ev_rng (e := a) fun x hx => h x (List.mem_append_left _ hx)
    have h2 := ev_rng (e := b) fun x hx => h x (List.mem_append_right _ hx)
    exact bop_rng o h1.1 h1.2 h2.1 h2.2
  | .turned a, h => by
    have h1 := ev_rng (e := a) h
    show 0 ≤ 2 ^ w - 1 - ev w ρ a ∧ 2 ^ w - 1 - ev w ρ a < 2 ^ w
    omega
  | .sc o k a, h => by
    have h1 := ev_rng (e := a) h
    exact sop_rng h1.1 h1.2

/-! ### the law's own bits -/
/-- the bit at a place, as the law reckons it -/
def bitOf (a : Int) (p : Nat) : Int := a / 2 ^ p % 2
def bitW : Bop → List Int
  | .either => [1, 2]
  | .unlike => [1]
  | _ => [2]
def sumB (o : Bop) (a b : Int) : Nat → Int
  | 0 => 0
  | p + 1 => sumB o a b p + 2 ^ p * (if (bitOf a p + bitOf b p) ∈ bitW o then 1 else 0)
def Bop.bits : Bop → Bool
  | .plus => false
  | .minus => false
  | _ => true
theorem bit_rng (a : Int) (p : Nat) : 0 ≤ bitOf a p ∧ bitOf a p < 2 := ⟨Int.emod_nonneg _ (by decide), Int.emod_lt_of_pos _ (by decide)⟩
theorem mod_succ (a : Int) (p : Nat) : a % 2 ^ (p + 1) = a % 2 ^ p + 2 ^ p * bitOf a p := by
  have hp := p2 p
  have e1 := Int.emod_def a (2 ^ p)
  have e2 := Int.emod_def (a / 2 ^ p) 2
  have e3 := Int.emod_def a (2 ^ (p + 1))
  have e4 : a / 2 ^ p / 2 = a / 2 ^ (p + 1) := by
    rw [Int.pow_succ, Int.ediv_ediv_of_nonneg (Int.le_of_lt hp)]
  have e5 : (2 : Int) ^ (p + 1) = 2 ^ p * 2 := Int.pow_succ 2 p
  rw [e4] at e2
  rw [e3, e1]
  unfold bitOf
  rw [e2, Int.mul_sub, e5, Int.mul_assoc]
  omega
theorem bit_and {a b : Int} (ha : 0 ≤ a) (hb : 0 ≤ b) (p : Nat) : bitOf (Builtin.bitAnd a b) p = if bitOf a p + bitOf b p = 2 then 1 else 0 := by
  obtain ⟨n, rfl⟩ := Int.eq_ofNat_of_zero_le ha
  obtain ⟨m, rfl⟩ := Int.eq_ofNat_of_zero_le hb
  have c : ∀ z : Nat, bitOf (z : Int) p = ((z / 2 ^ p % 2 : Nat) : Int) := fun z => by
    unfold bitOf
    rw [PyProof.Rows.two_pow_cast]
    rfl
  rw [PyProof.Rows.bitAnd_pp ha hb, Int.toNat_natCast, Int.toNat_natCast, c, c, c]
  have t := Nat.testBit_and n m p
  rw [Nat.testBit_eq_decide_div_mod_eq, Nat.testBit_eq_decide_div_mod_eq, Nat.testBit_eq_decide_div_mod_eq] at t
  have h1 := Nat.mod_two_eq_zero_or_one (n / 2 ^ p)
  have h2 := Nat.mod_two_eq_zero_or_one (m / 2 ^ p)
  have h3 := Nat.mod_two_eq_zero_or_one ((n &&& m) / 2 ^ p)
  rcases h1 with h1 | h1 <;> rcases h2 with h2 | h2 <;> rcases h3 with h3 | h3 <;> rw [h1, h2, h3] at t <;> rw [h1, h2, h3] <;> first | rfl | (simp at t)
theorem sum_both {a b : Int} (ha : 0 ≤ a) (hb : 0 ≤ b) : ∀ p, sumB .both a b p = Builtin.bitAnd a b % 2 ^ p
  | 0 => by
    show (0 : Int) = _ % 2 ^ 0
    rw [Int.pow_zero, Int.emod_one]
  | p + 1 => by
    rw [mod_succ, ← sum_both ha hb p, bit_and ha hb]
    show sumB .both a b p + 2 ^ p * (if (bitOf a p + bitOf b p) ∈ [2] then 1 else 0) = _
    simp only [List.mem_singleton]
theorem sum_either {a b : Int} : ∀ p, sumB .either a b p = a % 2 ^ p + b % 2 ^ p - sumB .both a b p
  | 0 => by
    show (0 : Int) = a % 2 ^ 0 + b % 2 ^ 0 - 0
    rw [Int.pow_zero, Int.emod_one, Int.emod_one]
    rfl
  | p + 1 => by
    have ih := sum_either (a := a) (b := b) p
    show sumB .either a b p + 2 ^ p * (if (bitOf a p + bitOf b p) ∈ [1, 2] then 1 else 0) = a % 2 ^ (p + 1) + b % 2 ^ (p + 1) - (sumB .both a b p + 2 ^ p * (if (bitOf a p + bitOf b p) ∈ [2] then 1 else 0))
    rw [ih, mod_succ, mod_succ]
    have h1 := bit_rng a p
    have h2 := bit_rng b p
    generalize bitOf a p = x at *
    generalize bitOf b p = y at *
    have h3 : x = 0 ∨ x = 1 := by omega
    have h4 : y = 0 ∨ y = 1 := by omega
    rcases h3 with rfl | rfl <;> rcases h4 with rfl | rfl <;> simp <;> omega
theorem sum_unlike {a b : Int} : ∀ p, sumB .unlike a b p = sumB .either a b p - sumB .both a b p
  | 0 => rfl
  | p + 1 => by
    have ih := sum_unlike (a := a) (b := b) p
    show sumB .unlike a b p + 2 ^ p * (if (bitOf a p + bitOf b p) ∈ [1] then 1 else 0) = (sumB .either a b p + 2 ^ p * (if (bitOf a p + bitOf b p) ∈ [1, 2] then 1 else 0)) - (sumB .both a b p + 2 ^ p * (if (bitOf a p + bitOf b p) ∈ [2] then 1 else 0))
    rw [ih]
    have h1 := bit_rng a p
    have h2 := bit_rng b p
    generalize bitOf a p = x at *
    generalize bitOf b p = y at *
    have h3 : x = 0 ∨ x = 1 := by omega
    have h4 : y = 0 ∨ y = 1 := by omega
    rcases h3 with rfl | rfl <;> rcases h4 with rfl | rfl <;> simp <;> omega
theorem sum_bits {w : Nat} {o : Bop} (ho : o.bits = true) {a b : Int} (ha : 0 ≤ a) (ha2 : a < 2 ^ w) (hb : 0 ≤ b) (hb2 : b < 2 ^ w) : sumB o a b w = bop w o a b := by
  have h1 := and_rng (b := b) ha ha2 hb
  have e1 : sumB .both a b w = Builtin.bitAnd a b := by rw [sum_both ha hb, Int.emod_eq_of_lt h1.1 h1.2]
  have e2 : sumB .either a b w = Builtin.bitOr a b := by
    rw [sum_either, e1, Int.emod_eq_of_lt ha ha2, Int.emod_eq_of_lt hb hb2, PyProof.Rows.bitOr_and]
  cases o with
  | plus => cases ho
  | minus => cases ho
  | both => exact e1
  | either => exact e2
  | unlike =>
    rw [sum_unlike, e2, e1]
    rfl
theorem sumB_rng (o : Bop) (a b : Int) : ∀ p, 0 ≤ sumB o a b p ∧ sumB o a b p < 2 ^ p
  | 0 => by
    refine ⟨Int.le_refl _, ?_⟩
    show (0 : Int) < 2 ^ 0
    decide
  | p + 1 => by
    have ih := sumB_rng o a b p
    show 0 ≤ sumB o a b p + 2 ^ p * (if (bitOf a p + bitOf b p) ∈ bitW o then 1 else 0) ∧ sumB o a b p + 2 ^ p * (if (bitOf a p + bitOf b p) ∈ bitW o then 1 else 0) < 2 ^ (p + 1)
    rw [Int.pow_succ]
    split <;> omega

/-! ### what the law asks besides -/
theorem twice_zero {w : Nat} {v : Int} : (v + v * -1 % 2 ^ w) % 2 ^ w = 0 := by
  rw [Int.add_emod, Int.emod_emod, ← Int.add_emod, show v + v * -1 = 0 by omega]
  exact Int.zero_emod _
theorem turned_sum {w : Nat} {v : Int} : (2 ^ w - 1 - v + v) % 2 ^ w = 2 ^ w - 1 := by
  have hp := p2 w
  rw [show (2 : Int) ^ w - 1 - v + v = 2 ^ w - 1 by omega]
  exact Int.emod_eq_of_lt (by omega) (by omega)
theorem down_up {w s : Nat} {v : Int} : v * 2 ^ s % 2 ^ w / 2 ^ s = v % 2 ^ (w - s) := by
  have hs := p2 s
  by_cases h : s ≤ w
  · have e : (2 : Int) ^ w = 2 ^ (w - s) * 2 ^ s := by rw [← Int.pow_add, Nat.sub_add_cancel h]
    rw [e, Int.mul_comm v, Int.mul_comm (2 ^ (w - s)), Int.mul_emod_mul_of_pos _ _ hs, Int.mul_ediv_cancel_left _ (Int.ne_of_gt hs)]
  · have e : (2 : Int) ^ s = 2 ^ (s - w) * 2 ^ w := by rw [← Int.pow_add, Nat.sub_add_cancel (by omega)]
    have z : w - s = 0 := by omega
    rw [z, Int.pow_zero, Int.emod_one]
    rw [show v * 2 ^ s = (v * 2 ^ (s - w)) * 2 ^ w by rw [e, Int.mul_assoc], Int.mul_emod_left]
    exact Int.zero_ediv _
end Hw
/-! ## KSetS -/
/-! sets of texts: set(a list of texts), sorted(such a set) -/
namespace Hw
open PySem PySem.Spec PyProof.Rows L2

/-- the text of a set's entry -/
def txE (e : Int × Value) : Str := match e.2 with
  | .str x _ => x
  | _ => Str.empty
def OkE (w : World) (e : Int × Value) : Prop := ∃ x tk, e.2 = Value.str x tk ∧ e.1 = (PySem.strKind default w).hash x
/-- the object of a set as it is made -/
abbrev newS (w : World) : Obj := { cls := .type "set", dict := none, data := .set #[] 0 (.fresh 0 0 (!w.params.followText "set-order")) }
/-- at a stands the set of the texts xs -/
structure Stx (w : World) (h : Heap) (a : Addr) (xs : List Str) (o : Obj) (es : Array (Int × Value)) (ep : Nat) (t : SetTable) : Prop where
  at_ : h.get? a = some o
  exact_ : o.ExactSet
  dat : o.data = .set es ep t
  good : ∀ e ∈ es.toList, OkE w e
  nd : (es.toList.map txE).Nodup
  mem : ∀ x, x ∈ es.toList.map txE ↔ x ∈ xs
  few : es.size ≤ xs.length
  fits : t.fits es.size = true
  ris : Ris t.place.toList
  led : w.params.followText "set-order" = true ∨ t.led = true
def StxAt (w : World) (h : Heap) (a : Addr) (xs : List Str) : Prop := ∃ o es ep t, Stx w h a xs o es ep t
section
variable {P : Program} {w : World} {A : Around} {E : Value → Shared → Prop} {s : Shared} {a : Addr} {xs : List Str}
theorem StxAt.at {h h' : Heap} (R : StxAt w h a xs) (k : ∀ o, h.get? a = some o → h'.get? a = some o) : StxAt w h' a xs := by
  obtain ⟨o, es, ep, t, r⟩ := R
  exact ⟨o, es, ep, t, { r with at_ := k o r.at_ }⟩
theorem stx_new {h : Heap} (ho : h.get? a = some (newS w)) : StxAt w h a [] :=
  ⟨_, #[], 0, _, ho, ⟨rfl, rfl, rfl⟩, rfl, fun e he => by simp at he, by simp, fun x => by simp, by simp, rfl, List.Pairwise.nil, by
    show _ ∨ (!w.params.followText "set-order") = true
    cases w.params.followText "set-order" <;> simp⟩
theorem okE_elems {l : List (Int × Value)} (g : ∀ e ∈ l, OkE w e) : ElemsOf (PySem.strKind P w) l := by
  intro e he
  obtain ⟨x, tk, h1, h2⟩ := g e he
  refine ⟨⟨x, ?_, h2⟩, ?_⟩
  · rw [h1]
    exact strKind_is P w x tk
  · rw [h1] <;> rfl
theorem okE_is {e : Int × Value} (g : OkE w e) (x : Str) : (PySem.strKind P w).is x e.2 = true ↔ txE e = x := by
  obtain ⟨y, tk, h1, _⟩ := g
  have h2 : txE e = y := by
    unfold txE
    rw [h1]
  rw [h1, h2]
  constructor
  · intro q
    have q1 := (PySem.strKind P w).inj (.str y tk) x y q (strKind_is P w y tk)
    exact q1.symm
  · intro q
    subst q
    exact strKind_is P w y tk

/-- what stands behind a text that was not in -/
structure Stx1 (w : World) (xs : List Str) (es : Array (Int × Value)) : Prop where
  good : ∀ e ∈ es.toList, OkE w e
  nd : (es.toList.map txE).Nodup
  mem : ∀ x, x ∈ es.toList.map txE ↔ x ∈ xs
  few : es.size ≤ xs.length
theorem Stx1.perm {es es' : Array (Int × Value)} (q : Stx1 w xs es) (pm : es'.toList.Perm es.toList) : Stx1 w xs es' where
  good := fun e he => q.good e (pm.mem_iff.mp he)
  nd := (pm.map txE).nodup_iff.mpr q.nd
  mem := fun x => (pm.map txE).mem_iff.trans (q.mem x)
  few := by
    have e := pm.length_eq
    rw [Array.length_toList, Array.length_toList] at e
    have := q.few
    omega
theorem stx_tail {g : Bool → Sem Unit} (hg : ∀ (b : Bool) (s₁ : Shared) (Q' : Unit → Shared → Prop), Q' () s₁ → wpAny (model P w) A (g b) Q' E s₁)
    {o : Obj} {es es1 : Array (Int × Value)} {ep : Nat} {t t2 : SetTable} (ho : s.heap.get? a = some o) (hex : o.ExactSet) (hd : o.data = .set es ep t) (q1 : Stx1 w xs es1) (hx : xs.length < scanBound)
    (hf2 : t2.fits es1.size = true) (hr : Ris t2.place.toList) (hl : w.params.followText "set-order" = true ∨ t2.led = true) {b : Bool} {R : Option Bool → Shared → Prop}
    (hR : ∀ h', Heap.SameBut a s.heap h' → StxAt w h' a xs → R (some true) { s with heap := h' }) :
    wpAny (model P w) A (do
      storeSet a es1 t2
      if (!b && t2.tooFull) = true then do
        g (relayAll t2 es1 (SetTable.grown es1.size)).2.2
        storeSet a (relayAll t2 es1 (SetTable.grown es1.size)).1 (relayAll t2 es1 (SetTable.grown es1.size)).2.1
        pure (some true)
      else pure (some true)) R E s := by
  have bd : ∀ {z : Array (Int × Value)}, Stx1 w xs z → z.size < scanBound := fun {z} qz => Nat.lt_of_le_of_lt qz.few hx
  have st1 := store_at (es' := es1) (t' := t2) ho hd
  have sb1 := Heap.SameBut.update s.heap a (Obj.putSet es1 t2)
  refine wpAny_bind (wpAny_storeSet_of ho hd ?_ (fits_of_scanBound (bd q1)))
  by_cases hc : (!b && t2.tooFull) = true
  · rw [if_pos hc]
    have pm := relayAll_perm t2 es1 (SetTable.grown es1.size)
    have f3 := relayAll_fits t2 es1 (SetTable.grown es1.size)
    have r3 := relayAll_ris t2 es1 (SetTable.grown es1.size)
    have l3 := relayAll_led t2 es1 (SetTable.grown es1.size)
    revert pm f3 r3 l3
    cases relayAll t2 es1 (SetTable.grown es1.size) with
    | mk es2 rest =>
      obtain ⟨t3, gave⟩ := rest
      intro pm f3 r3 l3
      have q2 := q1.perm pm
      refine wpAny_bind (hg _ _ _ (wpAny_bind (wpAny_storeSet_of st1 rfl ?_ (fits_of_scanBound (bd q2)))))
      have st2 := store_at (es' := es2) (t' := t3) st1 rfl
      refine wpAny_pure (hR _ (sb1.trans (Heap.SameBut.update _ a _)) ⟨_, es2, _, t3, st2, hex, rfl, q2.good, q2.nd, q2.mem, q2.few, f3, r3, ?_⟩)
      rcases hl with z | z
      · exact .inl z
      · exact .inr (l3.trans z)
  · rw [if_neg hc]
    exact wpAny_pure (hR _ sb1 ⟨_, es1, _, t2, st1, hex, rfl, q1.good, q1.nd, q1.mem, q1.few, hf2, hr, hl⟩)

/-- a text is put in -/
theorem stx_add {x : Str} {tk : Tok} {Q : Bool → Shared → Prop} (R : StxAt w s.heap a xs) (room : xs.length + 1 < scanBound)
    (hQ : ∀ b h', Heap.SameBut a s.heap h' → StxAt w h' a (xs ++ [x]) → Q b { s with heap := h' }) : wpAny (model P w) A (setAddHashed a (.str x tk) ((PySem.strKind P w).hash x)) Q E s := by
  obtain ⟨o, es, ep, t, r⟩ := R
  have key : (PySem.strKind P w).is x (.str x tk) = true := strKind_is P w x tk
  have sc : (Value.str x tk).scannable = true := rfl
  have el : ElemsOf (PySem.strKind P w) es.toList := okE_elems r.good
  have hb : es.size < scanBound := Nat.lt_of_le_of_lt r.few (by omega)
  unfold setAddHashed setAddHashedIn
  refine wpAny_holding (wpAny_bind (wpAny_setState_of r.at_ r.dat r.fits ?_))
  dsimp only
  rw [byScan_of sc hb el]
  simp only [↓reduceIte]
  unfold setAddByScan
  refine wpAny_bind (wpAny_bind (wpAny_rule (wpAny_bind (wpAny_setScan_of key r.at_ r.dat r.fits el ?_))))
  have inx : ∀ y, y ∈ xs ++ [x] ↔ y = x ∨ y ∈ xs := fun y => by
    rw [List.mem_append, List.mem_singleton]
    exact Or.comm
  have len1 : (xs ++ [x]).length = xs.length + 1 := by simp
  cases fi : List.findIdx? (fun e => (PySem.strKind P w).is x e.2) es.toList with
  | some j =>
    dsimp only
    obtain ⟨hj, pj, _⟩ := List.findIdx?_eq_some_iff_getElem.mp fi
    have hx : x ∈ xs := (r.mem x).mp (List.mem_map.mpr ⟨_, List.getElem_mem hj, (okE_is (r.good _ (List.getElem_mem hj)) x).mp pj⟩)
    refine wpAny_pure (wpAny_pure (hQ _ s.heap (Heap.SameBut.refl a s.heap) ⟨o, es, ep, t, { r with mem := fun y => ?_, few := ?_ }⟩))
    · rw [inx y, r.mem y]
      exact ⟨.inr, fun z => z.elim (fun e => e ▸ hx) id⟩
    · have := r.few
      omega
  | none =>
    dsimp only
    have hx : x ∉ es.toList.map txE := fun z => by
      obtain ⟨e, he, q⟩ := List.mem_map.mp z
      have c := List.findIdx?_eq_none_iff.mp fi e he
      rw [(okE_is (r.good e he) x).mpr q] at c
      cases c
    have gw : ∀ (b : Bool) {s₁ : Shared} {Q' : Unit → Shared → Prop}, Q' () s₁ → wpAny (model P w) A (match b with | true => rule "set.scan.the-table-gave-way" | false => pure ()) Q' E s₁ :=
      fun b s₁ Q' q => by cases b <;> first | exact wpAny_pure q | exact wpAny_rule q
    have pm := layNew_perm t es ((PySem.strKind P w).hash x) (.str x tk)
    have f1 := layNew_fits t es ((PySem.strKind P w).hash x) (.str x tk)
    have r1 := layNew_ris t es ((PySem.strKind P w).hash x) (.str x tk) r.ris
    have l1 := layNew_led t es ((PySem.strKind P w).hash x) (.str x tk)
    revert pm f1 r1 l1
    cases layNew t es ((PySem.strKind P w).hash x) (.str x tk) with
    | mk es1 rest =>
      obtain ⟨t1, dm, gave⟩ := rest
      intro pm f1 r1 l1
      dsimp only at pm f1 r1 l1 ⊢
      rw [Array.toList_push] at pm
      have pc := pm.trans (List.perm_append_singleton _ _)
      have pk : (es1.toList.map txE).Perm (x :: es.toList.map txE) := pc.map txE
      have q1 : Stx1 w (xs ++ [x]) es1 := by
        refine ⟨fun e he => ?_, pk.nodup_iff.mpr (List.nodup_cons.mpr ⟨hx, r.nd⟩), fun y => ?_, ?_⟩
        · rcases List.mem_cons.mp (pc.mem_iff.mp he) with z | z
          · exact ⟨x, tk, by rw [z], by rw [z] <;> rfl⟩
          · exact r.good e z
        · rw [pk.mem_iff, List.mem_cons, r.mem y, inx y]
        · have e := pc.length_eq
          rw [List.length_cons, Array.length_toList, Array.length_toList] at e
          have := r.few
          omega
      have hl1 : w.params.followText "set-order" = true ∨ t1.led = true := r.led.imp id fun z => l1.trans z
      have lt : (xs ++ [x]).length < scanBound := by omega
      refine wpAny_bind (gw _ ?_)
      have gg : ∀ (b : Bool) (s₁ : Shared) (Q' : Unit → Shared → Prop), Q' () s₁ → wpAny (model P w) A (match b with | true => rule "set.scan.the-table-gave-way" | false => pure ()) Q' E s₁ := fun b s₁ Q' q => gw b q
      split
      · refine wpAny_bind ?_
        rw [hashByValue_scannable 8 sc]
        refine wpAny_pure ?_
        refine stx_tail gg r.at_ r.exact_ r.dat q1 lt ?_ ?_ ?_ (fun h' sb q => wpAny_pure (hQ _ h' sb q))
        · first | (split <;> first | exact f1 | exact SetTable.fits_plain_off f1) | exact f1
        · first | (split <;> exact r1) | exact r1
        · first | (split <;> exact hl1) | exact hl1
      · refine wpAny_bind (wpAny_pure ?_)
        simp only [↓reduceIte]
        exact stx_tail gg r.at_ r.exact_ r.dat q1 lt f1 r1 hl1 (fun h' sb q => wpAny_pure (hQ _ h' sb q))

/-- the loop over a list of texts -/
theorem stx_loop {I : Addr} {fp wr : List Addr} {G : Array GenState → Array GenState → Prop} {n : Nat} {Pv : Nat → Value → Prop} {St : Nat → Shared → Prop} {R : Result → Shared → Prop}
    (W : WalksS P w A.in1 I fp wr G n Pv St) (S : Addr) (off : S ∉ fp) (zs : List Str) (hn : n = zs.length) (hb : zs.length + 1 < scanBound) (hv : ∀ i v, Pv i v → ∃ z t, zs[i]? = some z ∧ v = .str z t) :
    ∀ (k i : Nat) (s : Shared), n - i = k → i ≤ n → St i s → StxAt w s.heap S (zs.take i) →
      (∀ s', Moved (S :: wr) G s s' → StxAt w s'.heap S zs → R (.ok (.ret .none)) s') →
      codeAny (model P w) A (.builtin "set.update.loop" ⟨[.ref S, .ref I], []⟩) R s := by
  have nw : S ∉ wr := fun h => off (W.sub _ h)
  have up : ∀ b ∈ wr, b ∈ S :: wr := fun b hb => List.mem_cons_of_mem _ hb
  intro k
  induction k with
  | zero =>
    intro i s e0 hi st hS hR
    have ei : i = n := by omega
    subst ei
    refine codeAny_builtin F.entry_set_update_loop ?_
    rw [Around.under_plainId F.plain_set_update_loop _]
    show wpAny _ A.in1 (pyNext (.ref I) >>= _) _ _ s
    refine wpAny_bind (W.done s _ _ st fun s' hm => ?_)
    show wpAny _ A.in1 (ret Value.none) _ _ s'
    rw [List.take_of_length_le (by omega)] at hS
    exact wpAny_pure (hR s' (hm.mono up) (hS.at fun o e => hm.heap S o nw e))
  | succ k ih =>
    intro i s e0 hi st hS hR
    have lt : i < n := by omega
    refine codeAny_builtin F.entry_set_update_loop ?_
    rw [Around.under_plainId F.plain_set_update_loop _]
    show wpAny _ A.in1 (pyNext (.ref I) >>= _) _ _ s
    refine wpAny_bind (W.item i s _ _ lt st fun v s1 hP st1 hm => ?_)
    obtain ⟨z, t, hz, rfl⟩ := hv i v hP
    show wpAny _ A.in1 (holding [Value.str z t] (setAdd S (.str z t)) >>= _) _ _ s1
    refine wpAny_bind (wpAny_holding ?_)
    unfold setAdd
    refine wpAny_holding (wpAny_bind ((PySem.strKind P w).pyHash (k := z) (strKind_is P w z t) ?_))
    have lt2 : (zs.take i).length + 1 < scanBound := by
      have := List.length_take_le i zs
      omega
    refine stx_add (s := { s1 with toks := s1.toks + 1 }) (hS.at fun o e => hm.heap S o nw e) lt2 fun b h' sb R2 => ?_
    have R3 : StxAt w h' S (zs.take (i + 1)) := by
      have e : zs.take (i + 1) = zs.take i ++ [z] := by rw [List.take_add_one, hz] <;> rfl
      rw [e]
      exact R2
    refine wpAny_pure ⟨plainId_quiet F.plain_set_update_loop _, ih (i + 1) _ (by omega) lt (W.frame _ s1 _ _ st1 (Nat.le_succ _) fun c hc o e => ?_) R3 fun s2 hm2 q2 => ?_⟩
    · rw [sb.2 c fun z : c = S => off (by rw [← z]; exact hc)]
      exact e
    · refine hR s2 (Moved.trans W.gtrans ((hm.mono up).then_heap (Nat.le_succ _) fun c o hc e => ?_) hm2) q2
      rw [sb.2 c fun z : c = S => hc (by rw [z]; exact List.mem_cons_self)]
      exact e

/-- set(l), l a list of texts -/
theorem call_set_txts {l : Addr} {items : Array Value} (zs : List Str) {Q : Value → Shared → Prop} (hh : A.handled = none) (hl : s.heap.IsList l items) (hi : StrsAre items.toList zs) (hb : zs.length + 1 < scanBound)
    (h : ∀ (h' : Heap) (tk : Nat), StxAt w h' s.heap.objs.size zs → (∀ b o, s.heap.get? b = some o → h'.get? b = some o) → Q (.ref s.heap.objs.size) { s with heap := h', toks := tk }) :
    wpAny (model P w) A (call (.type "set") [.ref l]) Q E s := by
  have isz : items.size = zs.length := by
    have q := StrsAre.len_eq hi
    rw [Array.length_toList] at q
    exact q
  obtain ⟨c, tl, hmro⟩ := F.called_set.mro
  have hmade := F.called_set.made
  have hsub := F.called_set.sub
  refine wpAny_call (codeAny_of_tree ?_)
  show wpAny _ _ (callAny (.type "set") _) _ _ _
  refine wpAny_pure ⟨Code.quiet_builtin _ (by decide +kernel), codeAny_builtin F.entry_type_call ?_⟩
  rw [Around.under_plain (weight_type_call_type "set" [.ref l] []) rfl]
  have h1 := F.called_set.notType
  have h2 := F.called_set.canCreate
  have hct := F.typeCall_set_1 (.ref l)
  repeat (any_goals (first | assumption | wp_step))
  refine codeAny_mono (code_set_led1 (.ref l) (E := E) (Q₁ := fun obj s₁ => obj = .ref s.heap.objs.size ∧ s₁ = { s with heap := s.heap.push (newS w) }) ⟨rfl, rfl⟩) fun r s₁ hr => ?_
  cases r with
  | error e => exact hr
  | ok fl =>
    cases fl with
    | ret obj =>
      obtain ⟨rfl, rfl⟩ := hr
      have gS : (s.heap.push (newS w)).get? s.heap.objs.size = some (newS w) := Heap.get?_push_size _ rfl
      have hT : Shared.TypeIs { s with heap := s.heap.push (newS w) } (.ref s.heap.objs.size) "set" := ⟨_, gS, rfl⟩
      have hli := F.called_set.init.lookup
      have hbi := F.called_set.init.bind (.ref s.heap.objs.size)
      repeat (any_goals (first | assumption | wp_step))
      refine codeAny_mono (codeAny_call_builtin (R := wants (fun r s₂ => r = .none ∧ ∃ h' tk, s₂ = { s with heap := h', toks := tk } ∧ StxAt w h' s.heap.objs.size zs ∧ ∀ b o, s.heap.get? b = some o → h'.get? b = some o) E)
        F.called_set.init.plain F.entry_set_init (check_set_init_1 hT ?_)) fun r₂ s₂ hr₂ => ?_
      · obtain ⟨⟨ocls, odict, odata, oslots⟩, hol, hcl, nl, hdl⟩ := hl
        simp only at hcl hdl
        subst hcl hdl
        have hol' : (s.heap.push (newS w)).get? l = some { cls := .type "list", dict := odict, data := .seq items nl, slots := oslots } := Heap.get?_push_of_some _ hol
        have hsls := F.sub_list_set
        have hslf := F.sub_list_frozenset
        have hne : (Value.type "list" == Value.type "dict") = false := by decide
        have hl1 : (s.heap.push (newS w)).IsList l items := ⟨_, hol', rfl, nl, rfl⟩
        unfold Builtin.«set.__init__» noKeywords Builtin.Frozenset.updateFrom
        generalize hPI : pyIter = PI
        wp_walk
        subst hPI
        refine wpAny_pyIter_list hl1 (wpAny_bind (wpAny_runValue ?_))
        have lS : l < s.heap.objs.size := Heap.lt_size hol
        have hz1 : (s.heap.push (newS w)).objs.size = s.heap.objs.size + 1 := Heap.size_push ..
        have h3 : A.in1.in1.in1.handled = none := by simp [hh]
        have lI : l ≠ (s.heap.push (newS w)).objs.size := by
          rw [hz1]
          exact Nat.ne_of_lt (Nat.lt_succ_of_lt lS)
        have off : s.heap.objs.size ∉ [(s.heap.push (newS w)).objs.size, l] := by
          rw [hz1]
          intro z
          rcases List.mem_cons.mp z with z | z
          · exact absurd z (Nat.ne_of_lt (Nat.lt_succ_self _))
          · exact absurd (List.mem_singleton.mp z) (Nat.ne_of_gt lS)
        have hval : ∀ (i : Nat) (v : Value), items[i]? = some v → ∃ z t, zs[i]? = some z ∧ v = .str z t := fun i v hv => by
          have ilt : i < zs.length := by
            rw [← isz]
            exact (Array.getElem?_eq_some_iff.mp hv).1
          obtain ⟨t, e⟩ := SS.strs_at hi i v (by rw [Array.getElem?_toList]; exact hv)
          refine ⟨zs[i], t, List.getElem?_eq_getElem ilt, ?_⟩
          rw [e, List.getD_eq_getElem?_getD, List.getElem?_eq_getElem ilt] <;> rfl
        refine stx_loop ((Walks.list h3 _ l lI items).toS) s.heap.objs.size off zs isz hb hval (items.size - 0) 0 _ (by omega) (Nat.zero_le _) ⟨⟨_, Heap.get?_push_size _ rfl, rfl, rfl⟩, hl1.push _⟩ (stx_new (Heap.get?_push_of_some _ gS)) ?_
        intro s' hm R'
        obtain ⟨h', g2, d', tk', os'⟩ := s'
        obtain rfl : g2 = s.gens := hm.gens
        obtain rfl : d' = s.drawn := hm.drawn
        obtain rfl : os' = s.os := hm.os
        show wpAny _ _ _ _ _ _
        refine wpAny_pure ?_
        show wpAny _ _ (ret Value.none) _ _ _
        refine wpAny_pure ⟨rfl, h', tk', rfl, R', fun b o e => ?_⟩
        have b0 : b < s.heap.objs.size := Heap.lt_size e
        refine hm.heap b o (fun z => ?_) (Heap.get?_push_of_some _ (Heap.get?_push_of_some _ e))
        rcases List.mem_cons.mp z with z | z
        · exact absurd z (Nat.ne_of_lt b0)
        · have z2 := List.mem_singleton.mp z
          rw [hz1] at z2
          exact absurd z2 (Nat.ne_of_lt (Nat.lt_succ_of_lt b0))
      · cases r₂ with
        | error e => exact hr₂
        | ok fl₂ =>
          cases fl₂ with
          | ret r =>
            obtain ⟨rfl, h', tk, rfl, R', k'⟩ := hr₂
            repeat (any_goals (first | assumption | wp_step))
            exact h _ _ R' k'
          | _ => exact hr₂.elim
    | _ => exact hr.elim

end
/-! ### the names in order -/
def rk (x : Str) : Nat := okNames.idxOf x
theorem rk_inj : ∀ x ∈ okNames, ∀ y ∈ okNames, rk x = rk y → x = y := by decide +kernel
theorem rk_le : ∀ x ∈ okNames, ∀ y ∈ okNames, (!ltCps y.cps.toList x.cps.toList) = true → rk x ≤ rk y := by decide +kernel
theorem rk_ok : okNames.Pairwise (fun x y => rk x ≤ rk y) := by decide +kernel
/-- the names of a list, in order, each once -/
def norm (xs : List Str) : List Str := okNames.filter fun x => decide (x ∈ xs)
theorem mem_norm {xs : List Str} {x : Str} : x ∈ norm xs ↔ x ∈ okNames ∧ x ∈ xs := by
  unfold norm
  rw [List.mem_filter, decide_eq_true_eq]
theorem norm_nd (xs : List Str) : (norm xs).Nodup := List.Pairwise.filter _ (by decide +kernel)
theorem norm_len (xs : List Str) : (norm xs).length ≤ 4 := List.length_filter_le _ _
theorem norm_congr {xs ys : List Str} (h : ∀ x, x ∈ xs ↔ x ∈ ys) : norm xs = norm ys := by
  unfold norm
  exact congrArg (fun f => okNames.filter f) (funext fun x => decide_eq_decide.mpr (h x))
theorem rise_pair : ∀ (l : List Str) (p : Str), p ∈ okNames → (∀ x ∈ l, x ∈ okNames) → risingS p l = true → (p :: l).Pairwise (fun x y => rk x ≤ rk y)
  | [], p, _, _, _ => by simp
  | x :: r, p, hp, hl, h => by
    have hx := hl x List.mem_cons_self
    have h1 : (!ltCps x.cps.toList p.cps.toList && risingS x r) = true := h
    obtain ⟨a, b⟩ := Bool.and_eq_true_iff.mp h1
    have le := rk_le p hp x hx a
    have ih := rise_pair r x hx (fun y hy => hl y (List.mem_cons_of_mem _ hy)) b
    refine List.pairwise_cons.mpr ⟨fun y hy => ?_, ih⟩
    rcases List.mem_cons.mp hy with e | e
    · rw [e]
      exact le
    · exact Nat.le_trans le (List.rel_of_pairwise_cons ih e)
theorem sorted_norm {ys xs : List Str} (hs : sortedS ys = true) (nd : ys.Nodup) (hm : ∀ x, x ∈ ys ↔ x ∈ xs) (ok : ∀ x ∈ xs, x ∈ okNames) : ys = norm xs := by
  have hy : ∀ x ∈ ys, x ∈ okNames := fun x hx => ok x ((hm x).mp hx)
  have p1 : ys.Pairwise (fun x y => rk x ≤ rk y) := by
    cases ys with
    | nil => exact List.Pairwise.nil
    | cons p r => exact rise_pair r p (hy p List.mem_cons_self) (fun x hx => hy x (List.mem_cons_of_mem _ hx)) hs
  have p2 : (norm xs).Pairwise (fun x y => rk x ≤ rk y) := List.Pairwise.filter _ rk_ok
  refine List.Perm.eq_of_pairwise (fun a b ha hb h1 h2 => rk_inj a (hy a ha) b (mem_norm.mp hb).1 (Nat.le_antisymm h1 h2)) p1 p2 ((List.perm_ext_iff_of_nodup nd (norm_nd xs)).mpr fun x => ?_)
  rw [mem_norm, hm x]
  exact ⟨fun z => ⟨ok x z, z⟩, fun z => z.2⟩

section
variable {P : Program} {w : World} {A : Around} {E : Value → Shared → Prop} {s : Shared} {a : Addr} {xs : List Str}
theorem txts_of : ∀ (l : List Value), (∀ v ∈ l, ∃ x tk, v = Value.str x tk) → ∃ ys, StrsAre l ys ∧ ys = l.map fun v => txE (0, v)
  | [], _ => ⟨[], .nil, rfl⟩
  | v :: l, h => by
    obtain ⟨x, tk, rfl⟩ := h v List.mem_cons_self
    obtain ⟨ys, h1, h2⟩ := txts_of l fun u hu => h u (List.mem_cons_of_mem _ hu)
    exact ⟨x :: ys, .cons x tk h1, by rw [h2] <;> rfl⟩
/-- sorted(a set of names) -/
theorem sorted_txts {Q : Value → Shared → Prop} (R : StxAt w s.heap a xs) (hh : A.handled = none) (h64 : xs.length < 64) (ok : ∀ x ∈ xs, x ∈ okNames)
    (hQ : ∀ s' p (out : Array Value) (c : Nat), (∀ b o, s.heap.get? b = some o → s'.heap.get? b = some o) → s'.gens = s.gens → s'.os = s.os → s.heap.objs.size ≤ p →
      s'.heap.get? p = some (seqObj "list" out c) → StrsAre out.toList (norm xs) → Q (.ref p) s') :
    wpAny (model P w) A (call (.builtin "sorted") [.ref a]) Q E s := by
  obtain ⟨o, es, ep, t, r⟩ := R
  refine Calls.call_function_entry kind_sorted plain_sorted entry_sorted (args_sorted1 _) ?_
  unfold Builtin.«sorted»
  refine wpAny_bind (m := checkCount "sorted" 1 1 _) (wpAny_pure ?_)
  have few := r.few
  have hb : es.size < scanBound := Nat.lt_of_le_of_lt few (by unfold scanBound; omega)
  refine wpAny_bind (collect_set (A := A.in1) hh ⟨o, r.at_, r.exact_.1, r.dat⟩ r.fits hb r.ris r.led fun s1 vs k1 z1 g1 o1 pm => ?_)
  have vl : vs.length = es.size := by rw [pm.length_eq, List.length_map, Array.length_toList]
  obtain ⟨ys, hS, ey⟩ := txts_of vs fun v hv => by
    obtain ⟨e, he, q⟩ := List.mem_map.mp (pm.mem_iff.mp hv)
    obtain ⟨x, tk, h1, _⟩ := r.good e he
    exact ⟨x, tk, by rw [← q, h1]⟩
  have py : ys.Perm (es.toList.map txE) := by
    have q := pm.map fun v => txE (0, v)
    rw [List.map_map] at q
    rw [ey]
    exact q
  refine wpAny_bind (wpAny_newList ?_ (by rw [vl, sizeLine_eq]; omega))
  have gL : (s1.heap.push (seqObj "list" vs.toArray 0)).get? s1.heap.objs.size = some (seqObj "list" vs.toArray 0) := Heap.get?_push_size _ rfl
  refine wpAny_bind (wpAny_holding (wpAny_call_entry slot_list_sort ⟨_, gL, rfl⟩ entry_list_sort (list_sort_treeK strKind_oneLt gL hS.keysOf (fun v₁ v₂ rest e => keyKind_strs (by rw [← e]; exact hS)) (by omega) fun st' hp hs => ⟨_, rfl, ?_⟩) (args_list_sort _)))
  obtain ⟨zs, h1, h2, h3⟩ := sorted_out_str hS hp hs
  have pz := h2.trans py
  have ez : zs = norm xs := sorted_norm h3 (pz.nodup_iff.mpr r.nd) (fun x => pz.mem_iff.trans (r.mem x)) ok
  obtain ⟨c, hc⟩ := sortedHeap_at (vs := vs) (out := (arrOf st').map (·.2)) gL
  refine wpAny_pure ⟨_, rfl, hQ _ s1.heap.objs.size _ c (fun b u e => ?_) g1 o1 z1 hc (by rw [← ez]; exact h1)⟩
  have q := k1 b u e
  have lt := Heap.lt_size q
  show (sortedHeap (s1.heap.push (seqObj "list" vs.toArray 0)) s1.heap.objs.size vs _).get? b = some u
  rw [sortedHeap_old (Nat.ne_of_lt lt) (by rw [size_push']; exact Nat.lt_succ_of_lt lt)]
  exact Heap.get?_push_of_some _ q
end

/-! ### over the layer -/
def StO (w : World) (a : Addr) (xs : List Str) : HO := .ext fun h => StxAt w h a xs
section
variable {X : Cx}
def rSetTx (K : PySem.W.Frag) (w : World) : List V → Hp → VK → Prop := fun vs H Q => ∃ (l : Addr) (zs : List Str), vs = [.ref l] ∧ SqL K H l (zs.map V.str) ∧ zs.length < 1000 ∧ ∀ p, H p = none → Q (.ref p) (upd H p (StO w p zs))
theorem cr_setTx (hc : X.calm = true) : CallR X (.type "set") (rSetTx X.K X.w) := by
  intro pins s σ H vs us Q I r h
  obtain ⟨l, zs, rfl, hq, h1, q⟩ := h
  rw [Vals.ref1 r]
  obtain ⟨its, rv, pl, hz⟩ := I.list hq
  refine call_set_txts zs (I.ok.hd hc) pl.isList (by simpa using strsAre_of rv) (by unfold scanBound; omega) fun h' tk R k => ?_
  have e : ∃ o, h'.get? s.heap.objs.size = some o := by
    obtain ⟨o, _, _, _, r⟩ := R
    exact ⟨o, r.at_⟩
  have new : ObjOk X.prog X.w (upd H s.heap.objs.size (StO X.w s.heap.objs.size zs)) h' s.heap.objs.size (StO X.w s.heap.objs.size zs) := ⟨R, e, fun h1 h2 p k => StxAt.at p k⟩
  exact ⟨.ref _, _, I.laid (t' := tk) k (Nat.le_refl _) new, rfl, q _ (I.hok.fresh (Nat.le_refl _))⟩
def rSortTx (w : World) : List V → Hp → VK → Prop := fun vs H Q => ∃ (a : Addr) (xs : List Str), vs = [.ref a] ∧ H a = some (StO w a xs) ∧ xs.length < 64 ∧ (∀ x ∈ xs, x ∈ okNames) ∧ ∀ p, H p = none → Q (.ref p) (upd H p (.lst ((norm xs).map V.str)))
theorem cr_sortTx (hc : X.calm = true) : CallR X (.builtin "sorted") (rSortTx X.w) := by
  intro pins s σ H vs us Q I r h
  obtain ⟨a, xs, rfl, ha, h64, ok, q⟩ := h
  have R : StxAt X.w s.heap a xs := (I.hok a _ ha).1
  rw [Vals.ref1 r]
  refine sorted_txts R (I.ok.hd hc) h64 ok fun s' p out c k g o hp hg hi => ?_
  have hlen : ((norm xs).map V.str).length ≤ sizeLine := by
    rw [List.length_map, sizeLine_eq]
    have := norm_len xs
    omega
  have hn : H p = none := I.hok.fresh hp
  have J : Inv X pins σ (upd H p (.lst ((norm xs).map V.str))) { s with heap := s'.heap, gens := s'.gens, drawn := s'.drawn, toks := s'.toks } :=
    I.call (ch := []) (Un.laid k hp hn) (I.hok.laid k hp ⟨hlen, out.toList, c, vals_of_strs hi, hg⟩) (by rw [g]; exact I.bare) (fun _ z => nomatch z)
  have e : s' = { s with heap := s'.heap, gens := s'.gens, drawn := s'.drawn, toks := s'.toks } := by
    cases s'
    cases s
    cases o
    rfl
  rw [e]
  exact ⟨.ref p, _, J, rfl, q p hn⟩
end
end Hw
/-! ## KRules -/
/-! rules that the layer lacks: powers of great numbers, calls by keywords alone, defs that know that no repr is going on, repr of nested data, the end of such a law -/
namespace Hw
open PySem PySem.Spec PyProof.Rows L2

/-! ### powers -/
def CPowW (i j : Int) : Prop := 0 ≤ j ∧ (Builtin.Int.intBits i : Int) * j ≤ 2 ^ 27
theorem op_powW {X : Cx} : OpR X (binaryOp .Pow) (rI CPowW fun i j => .int (i ^ j.toNat)) := opI fun _ _ _ _ _ _ _ hc q => pow_int hc.1 hc.2 q

/-! ### f(k = v, ..) -/
section
variable {X : Cx} {CX : CXT} {k : Nat} {f : Addr} {fd : FuncData} {ps ks : List Str} {sp : Sp} {E : XK} {x : Str} {p pos : Pos} {kws : List Keyword} {tk : TA} {g : List Value → List Value → List Value} {gV : List V → List V → List V}
theorem pe_callK0 (F : FnOk X.prog X.w X.K X.mg X.base CX k f fd ps sp) (hr : Room k X.A) (hg : Gl X x) (hm : X.mg x = some (.ref f)) (hk : PySem.W.keepIn X.K (.ref f) = true) (hb : KBn X.K fd ps 0 ks g gV) (hx : Passes CX X E) (hkw : PK X kws tk)
    (hall : (backToKw pos (keywordEach kws X.env)).all (·.1.isSome) = true := by rfl) (hks : (backToKw pos (keywordEach kws X.env)).filterMap (·.1) = ks := by rfl) (hdb : (x == ("__debug__" : Str)) = false := by decide)
    (hpl : ((backTo pos (starEach [] X.env)).any (·.1) || (backToKw pos (keywordEach kws X.env)).any (·.1.isNone)) = false := by rfl) :
    PE X (.Call (.Name x p) [] kws pos) (tCallN 0 ks.length sp gV E tNil tk) := by
  refine ⟨fun pins s σ H Q I h => wpAny_Call_Name_kw (ld_glob I hg hm ?_ hdb)⟩
  refine PySem.W.callWith_KW0 (h₀ := X.base) I.ok.mod.kin hk hall (thn (hkw.run pos pins s σ H _ I h) fun ws s2 ⟨zs, H2, I2, rz, l1, l2, q2⟩ => ⟨I2.kIn, ?_⟩) hpl
  rw [hks]
  exact run_fnN (us := []) (vs := []) F hr hb hx I2 .nil rz rfl l2 q2
end

/-! ### defs that know that nothing is being shown -/
structure FnG (P : Program) (w : World) (K : PySem.W.Frag) (mg : Str → Option Value) (base : Heap) (k : Nat) (f : Addr) (fd : FuncData) (ps : List Str) (sp : Sp) : Prop where
  len : ∀ vs H Q E, sp vs H Q E → vs.length = ps.length
  run : ∀ (A : Around) (outer : List Env) (s : Shared) (H : Hp) (args : Args) (us : List Value) (vs : List V) (Q : VK) (E : XK), A.guards = some [] → Room k A → Env0 P w K mg base A outer s H → BindsTo s fd args (ps.zip us) → Vals vs us → sp vs H Q E →
    codeAny (model P w) A (.call (.ref f) args) (CR CX0 outer P w H s Q E) s
section
variable {P : Program} {w : World} {K : PySem.W.Frag} {mg : Str → Option Value} {base : Heap} {x qual : Str} {params : Arguments} {body : List Stmt} {scope : Scope} {f : Addr} {fd : FuncData}
theorem okG {N ps : List Str} {k : Nat} {sp : Sp} (F : FunD K x qual params body scope [] [] f fd) (S : FnScope N ps scope) (len : ∀ vs H Q E, sp vs H Q E → vs.length = ps.length)
    (hbody : ∀ (cdv : Value) (A : Around) (outer : List Env) (s : Shared) (H : Hp) (vs : List V) (Q : VK) (E : XK), A.guards = some [] → Room k (A.deeper (envOfC qual scope s.heap.objs.size f cdv)) → sp vs H Q E →
      ∃ t, PSs (cxOf CX0 P w K mg base N qual scope f cdv A outer s H E).nox body t ∧ t { nx := fun _ H' => Q .non H', rt := Q } (start N vs) H) : FnG P w K mg base (k + 1) f fd ps sp := by
  obtain ⟨oc, od, dV, kV, doc, pm, an, cdv, ct, osl, rfl, lk, hcd, _, _⟩ := F.ex
  refine ⟨len, fun A outer s H args us vs Q E hgd hr e0 hb r hsp => ?_⟩
  have KX : K.In s.heap := e0.mod.kin.keeps fun b o e => (e0.bs b o e).1
  have lim : s.heap.NoLimit := e0.mod.nolimit.keeps fun b o e => (e0.bs b o e).1
  have hkind : ∀ y ∈ ps.zip us, scope.names.lookup y.1 = some .local ∨ (scope.names.lookup y.1 = some .cell ∧ ((cellsFrom (s.heap.objs.size + 1) scope.names []).lookup y.1).isSome = true) := by
    rintro ⟨n, v⟩ hy
    rcases S.par n (List.of_mem_zip hy).1 with q | q
    · exact .inl q
    · exact .inr ⟨q, PySem.W.cellsFrom_some _ _ _ (.inl q)⟩
  refine codeAny_call_function hr.depth (KX _ _ lk) rfl S.co S.gen rfl (PySem.W.codeRec_of KX hcd) (hb _ _ _ _ (wpAny_newFunctionEnv_cells S.kind hkind fun env he s1 z => ?_))
  subst he
  refine ⟨lim.keeps z.toInCall.keep, codeAny_func ?_⟩
  obtain ⟨t, ht, hq⟩ := hbody cdv A outer s H vs Q E hgd (hr.deeper _) hsp
  have I : Inv (cxOf CX0 P w K mg base N qual scope f cdv A outer s H E) [] (start N vs) H s1 := inv_start S hr.hd e0 (len _ _ _ _ hsp) r z
  refine wpAny_mono (ht.nox.run [] s1 (start N vs) H _ I hq) (fun fl s' hs => ?_) fun e s' hs => hs
  cases fl with
  | ret u =>
    obtain ⟨v, σ', H', J, rv, q⟩ := hs
    exact ⟨v, H', J.os, J.bare, J.base, J.hok, rv, q⟩
  | next =>
    obtain ⟨σ', H', J, q⟩ := hs
    exact ⟨V.non, H', J.os, J.bare, J.base, J.hok, rfl, q⟩
  | brk => exact hs.choose_spec.choose_spec.2.elim
  | cont => exact hs.choose_spec.choose_spec.2.elim
end
section
variable {X : Cx} {k : Nat} {f : Addr} {fd : FuncData} {ps : List Str} {sp : Sp} {E : XK} {x : Str} {p pos : Pos} {e : Expr} {es : List Expr} {t : TA}
/-- f(e, ..) of such a def -/
theorem pe_callG (hgd : X.A.guards = some []) (F : FnG X.prog X.w X.K X.mg X.base k f fd ps sp) (hr : Room k X.A) (hg : Gl X x) (hm : X.mg x = some (.ref f)) (hk : PySem.W.keepIn X.K (.ref f) = true) (hb : Binds X.K fd ps [])
    (ha : PA X (e :: es) t) (hdb : (x == ("__debug__" : Str)) = false := by decide) (he : starEach (e :: es) X.env = (false, eval e X.env) :: starEach es X.env := by rfl) (hpl : (backTo pos (starEach es X.env)).any (·.1) = false := by rfl) :
    PE X (.Call (.Name x p) (e :: es) [] pos) (tCall sp [] E0 t) := by
  refine ⟨fun pins s σ H Q I h => wpAny_Call_Name_kw (ld_glob I hg hm ?_ hdb)⟩
  refine PySem.W.callWith_K (h₀ := X.base) I.ok.mod.kin hk (thn (ha.run pos pins s σ H _ I h) fun us s1 ⟨vs, H1, I1, r, q⟩ => ⟨I1.kIn, ?_⟩) he hpl
  have q' : sp vs H1 Q E0 := by
    have z : sp (vs ++ []) H1 Q E0 := q
    rw [List.append_nil] at z
    exact z
  have hl : us.length = ps.length := by rw [← r.length]; exact F.len _ _ _ _ q'
  have bd : BindsTo s1 fd ⟨us, []⟩ (ps.zip us) := by
    have z := hb s1 us I1.kIn (by rw [List.append_nil]; exact hl)
    rw [List.append_nil] at z
    exact z
  refine wpAny_call (codeAny_mono (F.run X.A X.stack s1 H1 ⟨us, []⟩ us vs Q E0 hgd hr I1.env0 bd r q') fun r s' hq => ?_)
  cases r with
  | error e => exact False.elim hq
  | ok fl =>
    cases fl with
    | ret u => exact I1.after hq
    | next => exact False.elim hq
    | brk => exact False.elim hq
    | cont => exact False.elim hq
end

/-! ### repr of nested data -/
theorem call_reprD {X : Cx} (hgd : X.A.guards = some []) (hu : X.A.units + 64 < cLine) :
    CallR X (.builtin "repr") (fun xs H Q => ∃ (a : Addr) (d : PyData), xs = [.ref a] ∧ Dp X.K H (.ref a) d ∧ d.showable = true ∧ d.hasDict = false ∧ d.depth ≤ 60 ∧ d.shown.length ≤ sizeLine ∧ Q (.str d.shown) H) := by
  intro pins s σ H xs us Q I r h
  obtain ⟨a, d, rfl, hd, h1, h2, h3, h4, q⟩ := h
  rw [Vals.ref1 r]
  obtain ⟨as, rd⟩ := Dp.reads I d (.ref a) (.ref a) hd rfl
  exact repr_of_reads' rd h1 (PyData.noDict_hsm h2) hgd (by omega) (fun _ _ e => e) (fun h' u tk k => ⟨.str d.shown, H, I.kept k, ⟨u, rfl⟩, q⟩) h4

/-! ### the end -/
/-- at the law's call: an abstract heap with the script alone, over which the law is called -/
theorem law_callG {P : Program} {w : World} {K : PySem.W.Frag} {mg mb : Str → Option Value} {k : Nat} {fa a : Addr} {fd : FuncData} {x : Str} {sp : Sp} {s₁ : Shared} {vs : List Value} {ns : List Int}
    (KX : K.In s₁.heap) (hns : s₁.heap.Ns mainGlobals mg) (hb : s₁.heap.Ns builtinsNs mb) (hbb : ∀ x : Str, x ≠ "__name__" → mb x = bootBuiltins x) (hlim : s₁.heap.NoLimit) (hg : s₁.gens = #[])
    (ha : s₁.heap.get? a = some { cls := .type "list", data := .seq vs.toArray }) (hi : IntsAre vs ns) (hl : ns.length ≤ sizeLine) (hr : Room k callerA)
    (F : ∀ base : Heap, K.In base → base.Ns mainGlobals mg → FnG P w K mg base k fa fd [x] sp) (hbind : ∀ (s : Shared) (u : Value), BindsTo s fd ⟨[u], []⟩ [(x, u)])
    (hsp : ∀ H : Hp, Only H → SqL K H a (ns.map V.int) → sp [.ref a] H (fun v _ => v = .bl true) fun _ _ _ => False) :
    codeAny (model P w) callerA (.call (.ref fa) ⟨[.ref a], []⟩) (fun r s' => r = .ok (.ret (.bool true)) ∧ OldK s₁.heap s'.heap ∧ s'.os = s₁.os ∧ AllBare s'.gens) s₁ := by
  have rv := vals_ints hi
  have go : ∀ H : Hp, Only H → SqL K H a (ns.map V.int) → HOk P w H s₁.heap → (∀ b, H b ≠ none → b = a) → (H a ≠ none → K.lookup a = none) →
      codeAny (model P w) callerA (.call (.ref fa) ⟨[.ref a], []⟩) (fun r s' => r = .ok (.ret (.bool true)) ∧ OldK s₁.heap s'.heap ∧ s'.os = s₁.os ∧ AllBare s'.gens) s₁ := by
    intro H hO hS ok one off
    have dictFree : ∀ {b : Addr} {o : Obj} {es : Array DictEntry} {ep : Nat}, s₁.heap.get? b = some o → o.data = .dict es ep → H b = none := by
      intro b o es ep e d
      cases q : H b with
      | none => rfl
      | some u =>
        obtain rfl : b = a := one b (by rw [q]; simp)
        rw [ha] at e
        cases e
        cases (show Data.seq vs.toArray _ = Data.dict es ep from d)
    have nsk : ∀ {b : Addr} {m : Str → Option Value}, s₁.heap.Ns b m → (hidT s₁.heap H).Ns b m := fun {b m} ⟨o, es, ep, e, d, r⟩ => ⟨o, es, ep, hidT_get e (dictFree e d), d, r⟩
    have kb : K.In (hidT s₁.heap H) := fun b o e => hidT_get (KX b o e) (by
      cases q : H b with
      | none => rfl
      | some u =>
        obtain rfl : b = a := one b (by rw [q]; simp)
        rw [off (by rw [q]; simp)] at e
        cases e)
    have md : Mod K mg (hidT s₁.heap H) := by
      obtain ⟨mc, n1, n2⟩ := hlim
      exact ⟨kb, nsk hns, ⟨mb, nsk hb, hbb⟩, mc, nsk n1, n2⟩
    have e0 : Env0 P w K mg (hidT s₁.heap H) callerA [] s₁ H := ⟨rfl, md, fun b o e => of_hidT e, Nat.le_of_eq (hidT_size _ _), trivial, (fun b hb => by cases hb), ok, .of_eq hg⟩
    refine codeAny_mono ((F _ kb (nsk hns)).run callerA [] s₁ H ⟨[.ref a], []⟩ [.ref a] [.ref a] _ _ rfl hr e0 (hbind s₁ (.ref a)) (.cons rfl .nil) (hsp H hO hS)) fun r s' h => ?_
    cases r with
    | error e => exact False.elim h
    | ok fl =>
      cases fl with
      | next => exact False.elim h
      | brk => exact False.elim h
      | cont => exact False.elim h
      | ret u =>
        obtain ⟨v, H', os, bare, un, ok', r', q⟩ := h
        obtain rfl : v = .bl true := q
        obtain rfl : u = Value.bool true := r'
        refine ⟨rfl, OldK.of_keep fun b o e => ?_, os, bare⟩
        rcases hO b with z | ⟨ob, xs, z⟩
        · exact un.keep b o e z (fun z => by cases z) (fun z => by cases z)
        · obtain ⟨e1, _⟩ := ok b _ z
          obtain ⟨e2, _⟩ := ok' b _ (un.frzs b ob _ z)
          rw [e] at e1
          cases e1
          exact e2
  cases hk : K.lookup a with
  | some o =>
    have e := KX a o hk
    rw [ha] at e
    cases e
    refine go (fun _ => none) (fun _ => .inl rfl) (.inr ⟨_, vs.toArray, _, hk, rfl, rfl, rfl, ?_, by simpa using rv⟩) (fun b u z => by cases (show (none : Option HO) = some u from z)) (fun b z => absurd rfl z) fun z => absurd rfl z
    rw [List.size_toArray, hi.length]
    exact hl
  | none =>
    have fz : ObjOk P w (fun b => if b = a then some (HO.frz { cls := .type "list", data := .seq vs.toArray } (.lst (ns.map V.int))) else none) s₁.heap a (.frz { cls := .type "list", data := .seq vs.toArray } (.lst (ns.map V.int))) :=
      ⟨ha, by rw [List.length_map]; exact hl, vs, _, rv, ha⟩
    refine go (fun b => if b = a then some (.frz { cls := .type "list", data := .seq vs.toArray } (.lst (ns.map V.int))) else none) (fun b => ?_) (.inl (.inr ⟨_, if_pos rfl⟩)) (fun b u z => ?_) (fun b z => ?_) fun _ => hk
    · by_cases hb : b = a
      · exact .inr ⟨_, _, if_pos hb⟩
      · exact .inl (if_neg hb)
    · by_cases hb : b = a
      · subst hb
        cases ((if_pos rfl).symm.trans z)
        exact fz
      · cases ((if_neg hb).symm.trans z)
    · by_cases hb : b = a
      · exact hb
      · exact absurd (if_neg hb) z

theorem walk_ofG {l : PySem.W.OpenLaw} {n k : Nat} {q : Program} {loose : List Str} {XP : (Str → Option Value) → Heap → Prop} {YP : World → Heap → Prop} {d : DefRec} {x : Str}
    (hn : l.most = some n) (hn2 : n ≤ sizeLine) (hdf : d.params.defaults = []) (hr : Room k callerA)
    (F : ∀ (w : World) (mg : Str → Option Value) (fa : Addr) (h : Heap), YP w h → h.Ns mainGlobals mg → mg d.name = some (.ref fa) →
      ∃ (K : PySem.W.Frag) (fd : FuncData) (sp : Sp), K.In h ∧ (∀ (s : Shared) (u : Value), BindsTo s fd ⟨[u], []⟩ [(x, u)]) ∧
        (∀ (H : Hp) (a : Addr) (ns : List Int), ns.length ≤ n → Only H → SqL K H a (ns.map V.int) → sp [.ref a] H (fun v _ => v = .bl true) fun _ _ _ => False) ∧
        ∀ base : Heap, K.In base → base.Ns mainGlobals mg → FnG l.prog w K mg base k fa fd [x] sp) :
    PySem.W.WalkO q loose XP YP l.row.toRowW d [] (fun f vs => PySem.call f vs) := by
  refine Att.attach_call hn hdf fun w s₀ s₁ mg mb fa o pm cd doc a vs ns G Y ho hd hcd hmg hobj hints hlen hg => ?_
  obtain ⟨K, fd, sp, KX, hb, hsp, hF⟩ := F w mg fa _ Y G.T.g hmg
  exact law_callG KX G.T.g G.T.b G.T.builtins G.T.nolimit hg hobj hints (Nat.le_trans hlen hn2) hr hF hb (fun H hO hS => hsp H a ns hlen hO hS)
end Hw
/-! ## KBase -/
namespace Hw
open PySem PySem.Spec PyProof.Rows L2

/-! ### the text by places -/
def top (i : Nat) : Stmt := PySem.Challenge.pw_howeverwide_k07_whole_values.main.body.getD i (.Pass ⟨0, 0, 0, 0⟩)
abbrev FnP (K : PySem.W.Frag) (x : Str) (i : Nat) (f : Addr) (fd : FuncData) : Prop := FunD K x x (L2.defArgs (top i)) (L2.defBody (top i)) (L2.defScope (top i)) [] [] f fd

def takenNames : List Str := ["all", "and", "bit", "iff", "not", "or", "some", "then", "told", "top", "under"]
/-- what the module's names stand for -/
structure Txt (K : PySem.W.Frag) (mg : Str → Option Value) : Prop where
  isi : mg "isinstance" = none
  int : mg "int" = none
  bool : mg "bool" = none
  str : mg "str" = none
  tuple : mg "tuple" = none
  list : mg "list" = none
  len : mg "len" = none
  zip : mg "zip" = none
  sorted : mg "sorted" = none
  set : mg "set" = none
  dict : mg "dict" = none
  sum : mg "sum" = none
  max : mg "max" = none
  range : mg "range" = none
  repr : mg "repr" = none
  letters : ∃ u, mg "LETTERS" = some u ∧ RelV (.str "abcdefghijklmnopqrstuvwxyz") u
  figures : ∃ u, mg "FIGURES" = some u ∧ RelV (.str "0123456789") u
  mostL : ∃ u, mg "MOST_LETTERS" = some u ∧ RelV (.int 6) u
  mostF : ∃ u, mg "MOST_FIGURES" = some u ∧ RelV (.int 4) u
  mostW : ∃ u, mg "MOST_WIDTH" = some u ∧ RelV (.int 64) u
  taken : ∃ a, mg "TAKEN" = some (.ref a) ∧ ∀ H, SqL K H a (takenNames.map V.str)

theorem fin {Q : VK} {a b : V} {H : Hp} (q : Q a H) (e : a = b) : Q b H := e ▸ q
theorem bT {b : Bool} (h : b = true) : V.bl true = V.bl b := congrArg V.bl h.symm
theorem bF {b : Bool} (h : b = false) : V.bl false = V.bl b := congrArg V.bl h.symm
theorem pe_gc {X : Cx} {x : Str} {v : V} {pos : Pos} (h : ∃ u, X.mg x = some u ∧ RelV v u) (hg : Gl X x := by rfl) (hd : (x == ("__debug__" : Str)) = false := by decide) : PE X (.Name x pos) (tC v) := by
  obtain ⟨u, hm, r⟩ := h
  exact pe_glob hg hm r hd
theorem iteE {A B : Prop} {b : Bool} (e : b = true) (h : A) : if b = true then A else B := by rw [if_pos e]; exact h
theorem iteN {A B : Prop} {b : Bool} (e : b = false) (h : B) : if b = true then A else B := by rw [e, if_neg Bool.false_ne_true]; exact h
theorem dT {c : Prop} [Decidable c] (h : c) : decide c = true := decide_eq_true h
theorem dF {c : Prop} [Decidable c] (h : ¬ c) : decide c = false := decide_eq_false h
theorem ndF {c : Prop} [Decidable c] (h : c) : (!decide c) = false := by rw [decide_eq_true h] <;> rfl
theorem ndT {c : Prop} [Decidable c] (h : ¬ c) : (!decide c) = true := by rw [decide_eq_false h] <;> rfl
theorem same_new {H : Hp} {p : Addr} (h : H p = none) (o : HO) : Same H (upd H p o) := fun b u q => by rw [upd_ne (ne_of_none q h)]; exact q
/-- a def that may be called by its name -/
def Cal (P : Program) (w : World) (K : PySem.W.Frag) (mg : Str → Option Value) (base : Heap) (k : Nat) (x : Str) (sp : Sp) : Prop :=
  ∃ (f : Addr) (fd : FuncData) (ps : List Str), FnOk P w K mg base CX0 k f fd ps sp ∧ mg x = some (.ref f) ∧ PySem.W.keepIn K (.ref f) = true ∧ Binds K fd ps []
section
variable {X : Cx} {k j : Nat} {x : Str} {sp : Sp} {p pos : Pos} {e : Expr} {es : List Expr} {t : TA}
theorem pe_c (c : Cal X.prog X.w X.K X.mg X.base k x sp) (hr : Room j X.A) (ha : PA X (e :: es) t) (hk : k ≤ j := by decide) (hg : Gl X x := by rfl)
    (hdb : (x == ("__debug__" : Str)) = false := by decide) (he : starEach (e :: es) X.env = (false, eval e X.env) :: starEach es X.env := by rfl) (hpl : (backTo pos (starEach es X.env)).any (·.1) = false := by rfl) :
    PE X (.Call (.Name x p) (e :: es) [] pos) (tCall sp [] E0 t) := by
  obtain ⟨f, fd, ps, F, hm, kp, b⟩ := c
  exact pe_call F (hr.mono hk) hg hm kp b .nil pass0 ha hdb he hpl
end
section
variable {P : Program} {w : World} {K : PySem.W.Frag} {mg : Str → Option Value} {base : Heap}
/-- a def of the text keeps its promise, so it may be called by its name -/
theorem calD {x : Str} {i : Nat} {f : Addr} {fd : FuncData} {N ps : List Str} {k : Nat} {sp : Sp} (F : FnP K x i f fd) (m : mg x = some (.ref f)) (S : FnScope N ps (L2.defScope (top i))) (len : ∀ vs H Q E, sp vs H Q E → vs.length = ps.length)
    (hb : ∀ (kV doc pm : Value) (an : Option Addr) (cdv ct : Value) (us : List Value), us.length = ps.length → bindArgs (PySem.W.fnOf x x (L2.defArgs (top i)) (L2.defBody (top i)) (L2.defScope (top i)) .none kV doc pm an cdv ct) ⟨us, []⟩ = pure (ps.zip us))
    (hbody : ∀ (cdv : Value) (A : Around) (outer : List Env) (s : Shared) (H : Hp) (vs : List V) (Q : VK) (E : XK), Room k (A.deeper (envOfC x (L2.defScope (top i)) s.heap.objs.size f cdv)) → sp vs H Q E →
      ∃ t, PSs (cxOf CX0 P w K mg base N x (L2.defScope (top i)) f cdv A outer s H E).nox (L2.defBody (top i)) t ∧ t { nx := fun _ H' => Q .non H', rt := Q } (start N vs) H) : Cal P w K mg base (k + 1) x sp := by
  refine ⟨f, fd, ps, F.ok S len fun cdv A outer s H vs Q E hr h => ?_, m, F.kp, F.bindsN hb⟩
  obtain ⟨t, a, b⟩ := hbody cdv A outer s H vs Q E hr h
  exact ⟨t, a.nox, b⟩
theorem Cal.up {j k : Nat} {x : Str} {sp : Sp} (c : Cal P w K mg base j x sp) (h : j ≤ k) : Cal P w K mg base k x sp := by
  obtain ⟨f, fd, ps, F, r⟩ := c
  exact ⟨f, fd, ps, F.mono h, r⟩
theorem Cal.weak {k : Nat} {x : Str} {sp sp' : Sp} (c : Cal P w K mg base k x sp) (h : ∀ vs H Q E, sp' vs H Q E → sp vs H Q E) : Cal P w K mg base k x sp' := by
  obtain ⟨f, fd, ps, F, r⟩ := c
  exact ⟨f, fd, ps, F.imp h, r⟩
end

/-! ### isinstance -/
theorem ki_ii : kitB "int" "int" = some true := by decide +kernel
theorem ki_ib : kitB "int" "bool" = some false := by decide +kernel
theorem ki_is : kitB "int" "str" = some false := by decide +kernel
theorem ki_it : kitB "int" "tuple" = some false := by decide +kernel
theorem ki_ss : kitB "str" "str" = some true := by decide +kernel
theorem ki_si : kitB "str" "int" = some false := by decide +kernel
theorem ki_st : kitB "str" "tuple" = some false := by decide +kernel
theorem ki_tt : kitB "tuple" "tuple" = some true := by decide +kernel
theorem ki_ti : kitB "tuple" "int" = some false := by decide +kernel
theorem ki_ts : kitB "tuple" "str" = some false := by decide +kernel
theorem ki_ll : kitB "list" "list" = some true := by decide +kernel
def rIsiS (K : PySem.W.Frag) : List V → Hp → VK → Prop := fun xs H Q => match xs with
  | [x, .ty T] => ∃ (S : String) (b : Bool), TyX K H x (.type S) ∧ kitB S T = some b ∧ Q (.bl b) H
  | _ => False
theorem call_isiS {X : Cx} : CallR X (.builtin "isinstance") (rIsiS X.K) := by
  intro pins s σ H xs us Q I r h
  unfold rIsiS at h
  split at h
  · obtain ⟨S, b, ty, k, q⟩ := h
    exact call_isi pins s σ H _ us Q I r ⟨_, _, .type S, .type _, b, rfl, .ty _, ty, kit_ty k, q⟩
  · exact h.elim
/-- isinstance(e, T) -/
theorem pe_isi {X : Cx} {t : Str} {T : String} {e : Expr} {ta : TE} {p p2 pos : Pos} (hm : X.mg "isinstance" = none) (mT : X.mg t = none) (bT : bootBuiltins t = some (.type T)) (he : PE X e ta) (hg : Gl X "isinstance" := by rfl) (gT : Gl X t := by rfl)
    (hn : t ≠ "__name__" := by decide) (hd : (t == ("__debug__" : Str)) = false := by decide) (hs : starEach [e, .Name t p2] X.env = (false, eval e X.env) :: starEach [.Name t p2] X.env := by rfl) :
    PE X (.Call (.Name "isinstance" p) [e, .Name t p2] [] pos) (tCB (rIsiS X.K) (tCons ta (tCons (tC (.ty T)) tNil))) :=
  pe_callB call_isiS hg hm boot_isinstance (pa_cons he (pa_cons (pe_bltn (v := .ty T) gT mT bT rfl hn hd) pa_nil) hs) (by decide) (by decide) hs rfl
/-! ### calls of built-ins of one argument -/
section
variable {X : Cx} {x : Str} {e : Expr} {te : TE} {p pos : Pos} {id T : String} {r : List V → Hp → VK → Prop}
theorem pe_b1 (hc : CallR X (.builtin id) r) (hm : X.mg x = none) (hv : bootBuiltins x = some (.builtin id)) (he : PE X e te) (hg : Gl X x := by rfl) (hn : x ≠ "__name__" := by decide) (hd : (x == ("__debug__" : Str)) = false := by decide)
    (hs : starEach [e] X.env = (false, eval e X.env) :: starEach [] X.env := by rfl) : PE X (.Call (.Name x p) [e] [] pos) (tCB r (tCons te tNil)) :=
  pe_callB hc hg hm hv (pa_cons he pa_nil hs) hn hd hs rfl
theorem pe_t1 (hc : CallR X (.type T) r) (hm : X.mg x = none) (hv : bootBuiltins x = some (.type T)) (he : PE X e te) (hg : Gl X x := by rfl) (hn : x ≠ "__name__" := by decide) (hd : (x == ("__debug__" : Str)) = false := by decide)
    (hs : starEach [e] X.env = (false, eval e X.env) :: starEach [] X.env := by rfl) : PE X (.Call (.Name x p) [e] [] pos) (tCB r (tCons te tNil)) :=
  pe_callTy hc hg hm hv (pa_cons he pa_nil hs) hn hd hs rfl
end
/-! ### the first defs -/
section
variable {P : Program} {w : World} {K : PySem.W.Frag} {mg : Str → Option Value} {base : Heap}
/-- an int, or a tuple -/
def spWhole : Sp := fun vs H Q _ => ∃ v, vs = [v] ∧ ((∃ i, v = .int i ∧ Q (.bl true) H) ∨ (∃ a xs, v = .ref a ∧ H a = some (.tup xs) ∧ Q (.bl false) H))
theorem sc12 : FnScope ["value"] ["value"] (L2.defScope (top 12)) := ⟨rfl, rfl, rfl, by decide +kernel, rfl, by decide +kernel, by decide +kernel⟩
theorem c_is_whole {f : Addr} {fd : FuncData} (F : FnP K "is_whole" 12 f fd) (m : mg "is_whole" = some (.ref f)) (T : Txt K mg) : Cal P w K mg base 1 "is_whole" spWhole := by
  refine calD F m sc12 (fun vs H Q E h => ?_) (fun _ _ _ _ _ _ us hl => match us, hl with | [_], _ => rfl) (fun cdv A outer s H vs Q E hr h => ?_)
  · obtain ⟨v, rfl, _⟩ := h
    rfl
  obtain ⟨v, rfl, h⟩ := h
  refine ⟨_, pss_one (ps_ret (pe_and (pe_isi T.isi T.int boot_int (pv 0)) (pe_one (pe_not (pe_isi T.isi T.bool boot_bool (pv 0)))))), ?_⟩
  rcases h with ⟨i, rfl, q⟩ | ⟨a, xs, rfl, ha, q⟩
  · exact ⟨_, rfl, _, _, .base (.int i), ki_ii, _, rfl, _, rfl, _, _, .base (.int i), ki_ib, _, rfl, q⟩
  · exact ⟨_, rfl, _, _, .base (.tup ha), ki_ti, _, rfl, q⟩
end
end Hw
/-! ## KKinds -/
namespace Hw
open PySem PySem.Spec PyProof.Rows L2
section
variable {P : Program} {w : World} {K : PySem.W.Frag} {mg : Str → Option Value} {base : Heap} {f : Addr} {fd : FuncData}

/-! ### counts, widths, words -/
def spCount : Sp := fun vs H Q _ => ∃ i, vs = [.int i] ∧ Q (.bl (decide (0 ≤ i))) H
theorem sc13 : FnScope ["value"] ["value"] (L2.defScope (top 13)) := ⟨rfl, rfl, rfl, by decide +kernel, rfl, by decide +kernel, by decide +kernel⟩
theorem c_is_count (F : FnP K "is_count" 13 f fd) (m : mg "is_count" = some (.ref f)) (T : Txt K mg) (W : Cal P w K mg base 1 "is_whole" spWhole) : Cal P w K mg base 2 "is_count" spCount := by
  refine calD F m sc13 (fun vs H Q E h => ?_) (fun _ _ _ _ _ _ us hl => match us, hl with | [_], _ => rfl) (fun cdv A outer s H vs Q E hr h => ?_)
  · obtain ⟨i, rfl, _⟩ := h
    rfl
  obtain ⟨i, rfl, q⟩ := h
  refine ⟨_, pss_one (ps_ret (pe_and (pe_c W hr (pa_cons (pv 0) pa_nil)) (pe_one (pe_cmpR op_ge (pv 0) pe_int (nomark _))))), ?_⟩
  exact ⟨_, rfl, _, rfl, .inl ⟨i, rfl, _, rfl, _, rfl, i, 0, rfl, rfl, q⟩⟩
def spWidth : Sp := fun vs H Q _ => ∃ n : Nat, vs = [.int n] ∧ n ≤ 64 ∧ Q (.bl true) H
theorem sc14 : FnScope ["value"] ["value"] (L2.defScope (top 14)) := ⟨rfl, rfl, rfl, by decide +kernel, rfl, by decide +kernel, by decide +kernel⟩
theorem c_is_width (F : FnP K "is_width" 14 f fd) (m : mg "is_width" = some (.ref f)) (T : Txt K mg) (W : Cal P w K mg base 2 "is_count" spCount) : Cal P w K mg base 3 "is_width" spWidth := by
  refine calD F m sc14 (fun vs H Q E h => ?_) (fun _ _ _ _ _ _ us hl => match us, hl with | [_], _ => rfl) (fun cdv A outer s H vs Q E hr h => ?_)
  · obtain ⟨i, rfl, _⟩ := h
    rfl
  obtain ⟨n, rfl, hn, q⟩ := h
  refine ⟨_, pss_one (ps_ret (pe_and (pe_c W hr (pa_cons (pv 0) pa_nil)) (pe_one (pe_cmpR op_le (pv 0) (pe_gc T.mostW) (nomark _))))), ?_⟩
  refine ⟨_, rfl, _, rfl, _, rfl, ?_⟩
  rw [decide_eq_true (show (0 : Int) ≤ (n : Int) by omega)]
  exact ⟨_, rfl, _, _, rfl, rfl, fin q (bT (decide_eq_true (show (n : Int) ≤ 64 by omega)))⟩
def spCheckW : Sp := fun vs H Q _ => ∃ n : Nat, vs = [.int n] ∧ n ≤ 64 ∧ Q .non H
theorem sc15 : FnScope ["width"] ["width"] (L2.defScope (top 15)) := ⟨rfl, rfl, rfl, by decide +kernel, rfl, by decide +kernel, by decide +kernel⟩
theorem c_check_width (F : FnP K "check_width" 15 f fd) (m : mg "check_width" = some (.ref f)) (T : Txt K mg) (W : Cal P w K mg base 3 "is_width" spWidth) : Cal P w K mg base 4 "check_width" spCheckW := by
  refine calD F m sc15 (fun vs H Q E h => ?_) (fun _ _ _ _ _ _ us hl => match us, hl with | [_], _ => rfl) (fun cdv A outer s H vs Q E hr h => ?_)
  · obtain ⟨i, rfl, _⟩ := h
    rfl
  obtain ⟨n, rfl, hn, q⟩ := h
  refine ⟨_, pss_one (ps_if (pt_not (pt_val (pe_c W hr (pa_cons (pv 0) pa_nil)))) pss_never pss_nil), ?_⟩
  exact ⟨_, rfl, n, rfl, hn, _, rfl, iteF q⟩
def spPow : Sp := fun vs H Q _ => ∃ n : Nat, vs = [.int n] ∧ n ≤ 1000 ∧ Q (.int (2 ^ n)) H
theorem sc16 : FnScope ["many"] ["many"] (L2.defScope (top 16)) := ⟨rfl, rfl, rfl, by decide +kernel, rfl, by decide +kernel, by decide +kernel⟩
theorem c_power (F : FnP K "power_of_two" 16 f fd) (m : mg "power_of_two" = some (.ref f)) (T : Txt K mg) : Cal P w K mg base 1 "power_of_two" spPow := by
  refine calD F m sc16 (fun vs H Q E h => ?_) (fun _ _ _ _ _ _ us hl => match us, hl with | [_], _ => rfl) (fun cdv A outer s H vs Q E hr h => ?_)
  · obtain ⟨i, rfl, _⟩ := h
    rfl
  obtain ⟨n, rfl, hn, q⟩ := h
  refine ⟨_, pss_one (ps_ret (pe_op op_shl pe_int (pv 0))), ?_⟩
  refine ⟨_, rfl, 1, n, rfl, rfl, ⟨by omega, by omega, by decide⟩, fin q ?_⟩
  show V.int (2 ^ n) = V.int (1 * 2 ^ (n : Int).toNat)
  rw [Int.toNat_natCast, Int.one_mul]
def spWord : Sp := fun vs H Q _ => ∃ (n : Nat) (i : Int), vs = [.int n, .int i] ∧ n ≤ 64 ∧ 0 ≤ i ∧ i < 2 ^ n ∧ Q (.bl true) H
theorem sc17 : FnScope ["width", "value"] ["width", "value"] (L2.defScope (top 17)) := ⟨rfl, rfl, rfl, by decide +kernel, rfl, by decide +kernel, by decide +kernel⟩
theorem c_is_word (F : FnP K "is_word" 17 f fd) (m : mg "is_word" = some (.ref f)) (T : Txt K mg) (W : Cal P w K mg base 2 "is_count" spCount) (Z : Cal P w K mg base 1 "power_of_two" spPow) : Cal P w K mg base 3 "is_word" spWord := by
  refine calD F m sc17 (fun vs H Q E h => ?_) (fun _ _ _ _ _ _ us hl => match us, hl with | [_, _], _ => rfl) (fun cdv A outer s H vs Q E hr h => ?_)
  · obtain ⟨n, i, rfl, _⟩ := h
    rfl
  obtain ⟨n, i, rfl, hn, h0, h1, q⟩ := h
  refine ⟨_, pss_one (ps_ret (pe_and (pe_c W hr (pa_cons (pv 1) pa_nil)) (pe_one (pe_cmpR op_lt (pv 1) (pe_c Z hr (pa_cons (pv 0) pa_nil)) (nomark _))))), ?_⟩
  refine ⟨_, rfl, i, rfl, _, rfl, ?_⟩
  rw [decide_eq_true h0]
  exact ⟨_, rfl, _, rfl, n, rfl, by omega, _, _, rfl, rfl, fin q (bT (decide_eq_true h1))⟩

/-! ### names -/
def spName : Sp := fun vs H Q _ => ∃ v, vs = [v] ∧ ((∃ x, v = .str x ∧ x ∈ okNames ∧ ∀ H', Same H H' → Q (.bl true) H') ∨ (∃ i, v = .int i ∧ Q (.bl false) H) ∨ (∃ a xs, v = .ref a ∧ H a = some (.tup xs) ∧ Q (.bl false) H))
theorem sc18 : FnScope ["value", "head", "tail"] ["value"] (L2.defScope (top 18)) := ⟨rfl, rfl, rfl, by decide +kernel, rfl, by decide +kernel, by decide +kernel⟩
/-- what is_name reckons of a name, all at once -/
def nameOk (z : Str) : Bool :=
  let hd := Txt.rstripChars z "0123456789"
  let tl := cutS z (some (hd.length : Int)) none
  decide (z.length ≤ 10) && decide (1 ≤ hd.length) && decide (hd.length ≤ 6) && decide (Txt.stripChars hd "abcdefghijklmnopqrstuvwxyz" = "") && decide (tl.length ≤ 4) && !(inV (.str z) (takenNames.map V.str)) && (inV (.str tl) [.str "", .str "0"] || decide (0 < tl.length ∧ tl.cps.getD 0 0 ≠ 48))
theorem names_ok : ∀ z ∈ okNames, nameOk z = true := by decide +kernel
theorem taken_flat : (takenNames.map V.str).all flatV = true := by decide +kernel
theorem c_is_name (F : FnP K "is_name" 18 f fd) (m : mg "is_name" = some (.ref f)) (T : Txt K mg) : Cal P w K mg base 1 "is_name" spName := by
  refine calD F m sc18 (fun vs H Q E h => ?_) (fun _ _ _ _ _ _ us hl => match us, hl with | [_], _ => rfl) (fun cdv A outer s H vs Q E hr h => ?_)
  · obtain ⟨v, rfl, _⟩ := h
    rfl
  obtain ⟨v, rfl, h⟩ := h
  obtain ⟨at_, mt, ht⟩ := T.taken
  refine ⟨_, pss_cons (ps_if (pt_not (pt_val (pe_isi T.isi T.str boot_str (pv 0)))) (pss_one (ps_ret pe_bl)) pss_nil) <|
    pss_cons (ps_set (i := 1) sc18.nd rfl (Or.inl rfl) (pe_bm PySem.F.plainAttrs_str PySem.F.slot_str_rstrip PySem.F.type_str_rstrip mt_rstripChars (pv 0) (pa_cons (pe_gc T.figures) pa_nil))) <|
    pss_cons (ps_set (i := 2) sc18.nd rfl (Or.inl rfl) (pe_slice sl_str (pv 0) (po_some (pe_b1 call_len_str T.len boot_len (pv 1))) po_none)) <|
    pss_cons (ps_if (PW.pt (pw_or (pt_not (pt_chain op_le op_le pe_int (pe_b1 call_len_str T.len boot_len (pv 1)) (pe_gc T.mostL))) <|
        pw_or (pt_cmpR op_ne (pe_bm PySem.F.plainAttrs_str PySem.F.slot_str_strip PySem.F.type_str_strip mt_stripChars (pv 1) (pa_cons (pe_gc T.letters) pa_nil)) pe_str (nomark _)) <|
        pw_or1 (pt_cmpR op_gt (pe_b1 call_len_str T.len boot_len (pv 2)) (pe_gc T.mostF) (nomark _)))) (pss_one (ps_ret pe_bl)) pss_nil) <|
    pss_one (ps_ret (pe_and (pe_cmpR op_notIn_seq (pv 0) (pe_gc (v := .ref at_) ⟨_, mt, rfl⟩) (by rfl)) <|
      pe_one (pe_or (pe_cmpR op_in_seq (pv 2) (pe_lst (pa_cons pe_str (pa_cons pe_str pa_nil))) (by rfl)) <|
        pe_one (pe_cmpR op_ne (pe_ix ix_str (pv 2) pe_int (fun _ _ => rfl)) pe_str (nomark _))))), ?_⟩
  rcases h with ⟨x, rfl, hx, q⟩ | ⟨i, rfl, q⟩ | ⟨a, xs, rfl, ha, q⟩
  · have ok := names_ok x hx
    unfold nameOk at ok
    simp only [Bool.and_eq_true, decide_eq_true_eq, Bool.not_eq_true'] at ok
    obtain ⟨⟨⟨⟨⟨⟨o1, o2⟩, o3⟩, o4⟩, o5⟩, o6⟩, o7⟩ := ok
    have z1 : x.length ≤ sizeLine := small1000 (by omega) |> Nat.le_of_lt
    generalize hh : Txt.rstripChars x "0123456789" = hd at o2 o3 o4 o5 o7
    generalize ht' : cutS x (some (hd.length : Int)) none = tl at o5 o7
    have z2 : hd.length ≤ sizeLine := small1000 (by omega) |> Nat.le_of_lt
    have z3 : tl.length ≤ sizeLine := small1000 (by omega) |> Nat.le_of_lt
    refine ⟨_, rfl, "str", true, .base (.str x), ki_ss, _, rfl, iteF ?_⟩
    refine ⟨_, rfl, rfl, x, "0123456789", rfl, rfl, z1, ?_⟩
    rw [hh]
    refine ⟨_, rfl, ⟨_, rfl, hd, rfl, z2, (hd.length : Int), rfl, x, rfl, z1, ?_⟩⟩
    rw [ht']
    refine ⟨_, rfl, hd, rfl, z2, _, _, rfl, rfl, _, rfl, iteE (dT (by omega)) ⟨_, _, rfl, rfl, _, rfl, iteN (ndF (by omega)) ?_⟩⟩
    refine ⟨_, rfl, rfl, hd, _, rfl, rfl, z2, rfl, _, rfl, iteN (ndF (by rw [o4])) ?_⟩
    refine ⟨_, rfl, tl, rfl, z3, _, _, rfl, rfl, _, rfl, iteN (dF (by omega)) ?_⟩
    refine ⟨_, rfl, at_, _, rfl, .inl (ht _), rfl, taken_flat, _, rfl, iteE (by rw [o6] <;> rfl) ?_⟩
    refine ⟨_, rfl, (by show 2 ≤ sizeLine; decide), fun p hp => ⟨p, _, rfl, .inl (SqL.of upd_same), rfl, rfl, _, rfl, ?_⟩⟩
    cases e : inV (V.str tl) [V.str "", V.str "0"] with
    | true => exact iteE rfl (q _ (same_new hp _))
    | false =>
      rw [e, Bool.false_or, decide_eq_true_eq] at o7
      refine iteN rfl ⟨_, rfl, tl, 0, tl.cps.getD 0 0, rfl, rfl, z3, ?_, rfl, fin (q _ (same_new hp _)) (bT (ndT ?_))⟩
      · refine atI_nat (j := 0) ?_
        obtain ⟨⟨l⟩⟩ := tl
        cases l with
        | nil => exact absurd o7.1 (by decide)
        | cons c r => rfl
      · intro z
        have z' : (#[tl.cps.getD 0 0] : Array Nat) = #[48] := by
          injection z with z
          injection z
        exact o7.2 (by simpa using z')
  · exact ⟨_, rfl, _, _, .base (.int i), ki_is, _, rfl, iteT q⟩
  · exact ⟨_, rfl, _, _, .base (.tup ha), ki_ts, _, rfl, iteT q⟩
end
end Hw
/-! ## KExpr -/
namespace Hw
open PySem PySem.Spec PyProof.Rows L2

/-! ### an expression in the heap -/
def TrV (H : Hp) : Ex → V → Prop
  | .nm x, v => v = .str x
  | .num i, v => v = .int i
  | .bin o a b, v => ∃ p x y, v = .ref p ∧ H p = some (.tup [.str o.s, x, y]) ∧ TrV H a x ∧ TrV H b y
  | .turned a, v => ∃ p x, v = .ref p ∧ H p = some (.tup [.str "turned", x]) ∧ TrV H a x
  | .sc o k a, v => ∃ p x, v = .ref p ∧ H p = some (.tup [.str o.s, .int k, x]) ∧ TrV H a x
theorem TrV.same {H H' : Hp} (g : Same H H') : ∀ {e : Ex} {v : V}, TrV H e v → TrV H' e v
  | .nm _, _, h => h
  | .num _, _, h => h
  | .bin _ _ _, _, ⟨p, x, y, h1, h2, h3, h4⟩ => ⟨p, x, y, h1, g _ _ h2, TrV.same g h3, TrV.same g h4⟩
  | .turned _, _, ⟨p, x, h1, h2, h3⟩ => ⟨p, x, h1, g _ _ h2, TrV.same g h3⟩
  | .sc _ _ _, _, ⟨p, x, h1, h2, h3⟩ => ⟨p, x, h1, g _ _ h2, TrV.same g h3⟩

section
variable {P : Program} {w : World} {K : PySem.W.Frag} {mg : Str → Option Value} {base : Heap} {f : Addr} {fd : FuncData}
theorem strs_flat (hs : List Str) : (hs.map V.str).all flatV = true := by
  rw [List.all_map]
  exact List.all_eq_true.mpr fun _ _ => rfl
theorem inV_str (h : Str) : ∀ hs : List Str, inV (.str h) (hs.map V.str) = decide (h ∈ hs)
  | [] => rfl
  | x :: r => by
    have ih := inV_str h r
    show (eqV (.str x) (.str h) || inV (.str h) (r.map V.str)) = _
    rw [ih]
    show ((x == h) || _) = _
    by_cases e : x = h
    · subst e
      simp
    · have e2 : ¬ h = x := fun z => e z.symm
      simp [e, e2]
/-- has_head of a tuple that begins with a text -/
def spHead (K : PySem.W.Frag) : Sp := fun vs H Q _ => ∃ (a b : Addr) (h : Str) (r : List V) (hs : List Str) (m : Nat), vs = [.ref a, .ref b, .int m] ∧ H a = some (.tup (.str h :: r)) ∧ SqL K H b (hs.map V.str) ∧ Q (.bl (decide (r.length + 1 = m) && decide (h ∈ hs))) H
theorem sc19 : FnScope ["value", "heads", "many"] ["value", "heads", "many"] (L2.defScope (top 19)) := ⟨rfl, rfl, rfl, by decide +kernel, rfl, by decide +kernel, by decide +kernel⟩
theorem c_has_head (F : FnP K "has_head" 19 f fd) (m : mg "has_head" = some (.ref f)) (T : Txt K mg) : Cal P w K mg base 1 "has_head" (spHead K) := by
  refine calD F m sc19 (fun vs H Q E h => ?_) (fun _ _ _ _ _ _ us hl => match us, hl with | [_, _, _], _ => rfl) (fun cdv A outer s H vs Q E hr h => ?_)
  · obtain ⟨_, _, _, _, _, _, rfl, _⟩ := h
    rfl
  obtain ⟨a, b, h, r, hs, m', rfl, ha, hb, q⟩ := h
  refine ⟨_, pss_one (ps_ret (pe_and (pe_isi T.isi T.tuple boot_tuple (pv 0)) <| pe_and (pe_cmpR op_eq (pe_b1 call_len_seq T.len boot_len (pv 0)) (pv 2) (nomark _)) <|
    pe_and (pe_isi T.isi T.str boot_str (pe_ix ix_tup (pv 0) pe_int (fun _ _ => rfl))) <| pe_one (pe_cmpR op_in_seq (pe_ix ix_tup (pv 0) pe_int (fun _ _ => rfl)) (pv 1) (by rfl)))), ?_⟩
  refine ⟨_, rfl, "tuple", true, .base (.tup ha), ki_tt, _, rfl, iteT ?_⟩
  refine ⟨_, rfl, a, _, rfl, .inr (SqT.of ha), _, rfl, rfl, _, rfl, ?_⟩
  have e : (decide (V.int (((V.str h :: r).length : Nat) : Int) = V.int (m' : Int))) = decide (r.length + 1 = m') := by
    rw [List.length_cons]
    refine decide_eq_decide.mpr ⟨fun z => ?_, fun z => by rw [z]⟩
    injection z with z
    omega
  by_cases hm : r.length + 1 = m'
  · refine iteE (by rw [e]; exact dT hm) ?_
    refine ⟨_, rfl, a, _, 0, .str h, rfl, rfl, SqT.of ha, atI_nat (j := 0) rfl, "str", true, .base (.str h), ki_ss, _, rfl, iteT ?_⟩
    refine ⟨_, rfl, a, _, 0, .str h, rfl, rfl, SqT.of ha, atI_nat (j := 0) rfl, _, rfl, b, _, rfl, .inl hb, rfl, strs_flat hs, fin q ?_⟩
    rw [dT hm, Bool.true_and, inV_str] <;> rfl
  · refine iteN (by rw [e]; exact dF hm) (fin q ?_)
    rw [dF hm, Bool.false_and]

/-- is_expression, of a depth below n -/
def spExpr (n : Nat) : Sp := fun vs H Q _ => ∃ (v : V) (e : Ex), vs = [v] ∧ TrV H e v ∧ e.Ok ∧ e.dep ≤ n ∧ ∀ H', Same H H' → Q (.bl true) H'
theorem sc20 : FnScope ["value", "fits"] ["value"] (L2.defScope (top 20)) := ⟨rfl, rfl, rfl, by decide +kernel, rfl, by decide +kernel, by decide +kernel⟩
theorem dep_pos (e : Ex) : 1 ≤ e.dep := by cases e <;> simp [Ex.dep]
def heads5 : List Str := ["plus", "minus", "both", "either", "unlike"]
def heads3 : List Str := ["times", "up", "down"]
theorem bop_in (o : Bop) : o.s ∈ heads5 := by cases o <;> decide
theorem bop_out (o : Bop) : ¬ o.s ∈ heads3 := by cases o <;> decide
theorem sop_in (o : Sop) : o.s ∈ heads3 := by cases o <;> decide
theorem sop_out (o : Sop) : ¬ o.s ∈ heads5 := by cases o <;> decide
theorem trn_out5 : ¬ ("turned" : Str) ∈ heads5 := by decide
theorem trn_out3 : ¬ ("turned" : Str) ∈ heads3 := by decide
theorem c_is_expr0 (F : FnP K "is_expression" 20 f fd) (m : mg "is_expression" = some (.ref f)) : Cal P w K mg base 2 "is_expression" (spExpr 0) := by
  have no : ∀ vs H Q E, ¬ spExpr 0 vs H Q E := fun vs H Q E h => by
    obtain ⟨v, e, _, _, _, h1, _⟩ := h
    have := dep_pos e
    omega
  exact ⟨f, fd, ["value"], ⟨fun vs H Q E h => absurd h (no vs H Q E), fun A outer s H args us vs Q E _ _ _ _ h => absurd h (no vs H Q E)⟩, m, F.kp, F.bindsN fun _ _ _ _ _ _ us hl => match us, hl with | [_], _ => rfl⟩
theorem c_is_expr1 (F : FnP K "is_expression" 20 f fd) (m : mg "is_expression" = some (.ref f)) (T : Txt K mg) (N : Cal P w K mg base 1 "is_name" spName) (W : Cal P w K mg base 1 "is_whole" spWhole) (C : Cal P w K mg base 2 "is_count" spCount)
    (D : Cal P w K mg base 1 "has_head" (spHead K)) {n : Nat} (R : Cal P w K mg base (n + 2) "is_expression" (spExpr n)) : Cal P w K mg base (n + 3) "is_expression" (spExpr (n + 1)) := by
  refine calD F m sc20 (fun vs H Q E h => ?_) (fun _ _ _ _ _ _ us hl => match us, hl with | [_], _ => rfl) (fun cdv A outer s H vs Q E hr h => ?_)
  · obtain ⟨_, _, rfl, _⟩ := h
    rfl
  obtain ⟨v, e, rfl, ht, ok, hd, q⟩ := h
  have l1 : 1 ≤ n + 2 := by omega
  have l2 : 2 ≤ n + 2 := by omega
  refine ⟨_, pss_cons (ps_if (PW.pt (pw_or (pt_val (pe_c N hr (pa_cons (pv 0) pa_nil) l1)) <| pw_or1 (pt_val (pe_c W hr (pa_cons (pv 0) pa_nil) l1)))) (pss_one (ps_ret pe_bl)) pss_nil) <|
    pss_cons (ps_if (pt_val (pe_c D hr (pa_cons (pv 0) (pa_cons (pe_lst (pa_cons pe_str (pa_cons pe_str (pa_cons pe_str (pa_cons pe_str (pa_cons pe_str pa_nil)))))) (pa_cons pe_int pa_nil))) l1))
      (pss_one (ps_ret (pe_and (pe_c R hr (pa_cons (pe_ix ix_tup (pv 0) pe_int (fun _ _ => rfl)) pa_nil) (Nat.le_refl _)) (pe_one (pe_c R hr (pa_cons (pe_ix ix_tup (pv 0) pe_int (fun _ _ => rfl)) pa_nil) (Nat.le_refl _)))))) pss_nil) <|
    pss_cons (ps_if (pt_val (pe_c D hr (pa_cons (pv 0) (pa_cons (pe_lst (pa_cons pe_str (pa_cons pe_str (pa_cons pe_str pa_nil)))) (pa_cons pe_int pa_nil))) l1))
      (pss_cons (ps_set (i := 1) sc20.nd rfl (Or.inl rfl) (pe_ifExp (pt_cmpR op_eq (pe_ix ix_tup (pv 0) pe_int (fun _ _ => rfl)) pe_str (nomark _))
          (pe_c W hr (pa_cons (pe_ix ix_tup (pv 0) pe_int (fun _ _ => rfl)) pa_nil) l1) (pe_c C hr (pa_cons (pe_ix ix_tup (pv 0) pe_int (fun _ _ => rfl)) pa_nil) l2))) <|
        pss_one (ps_ret (pe_and (pv 1) (pe_one (pe_c R hr (pa_cons (pe_ix ix_tup (pv 0) pe_int (fun _ _ => rfl)) pa_nil) (Nat.le_refl _)))))) pss_nil) <|
    pss_one (ps_ret (pe_and (pe_c D hr (pa_cons (pv 0) (pa_cons (pe_lst (pa_cons pe_str pa_nil)) (pa_cons pe_int pa_nil))) l1) (pe_one (pe_c R hr (pa_cons (pe_ix ix_tup (pv 0) pe_int (fun _ _ => rfl)) pa_nil) (Nat.le_refl _))))), ?_⟩
  have five : 5 ≤ sizeLine := by decide
  cases e with
  | nm x =>
    obtain rfl : v = .str x := ht
    exact ⟨_, rfl, _, rfl, .inl ⟨x, rfl, ok, fun H' g => ⟨_, rfl, iteT (iteT (q H' g))⟩⟩⟩
  | num i =>
    obtain rfl : v = .int i := ht
    exact ⟨_, rfl, _, rfl, .inr (.inl ⟨i, rfl, _, rfl, iteF ⟨_, rfl, _, rfl, .inl ⟨i, rfl, _, rfl, iteT (q H (Same.refl H))⟩⟩⟩)⟩
  | bin o a b =>
    obtain ⟨p, x, y, rfl, hp, hx, hy⟩ := ht
    refine ⟨_, rfl, _, rfl, .inr (.inr ⟨p, _, rfl, hp, _, rfl, iteF ⟨_, rfl, _, rfl, .inr ⟨p, _, rfl, hp, _, rfl, iteF ?_⟩⟩⟩)⟩
    refine ⟨_, rfl, five, fun t nt => ?_⟩
    have g1 := same_new nt (.lst (heads5.map V.str))
    refine ⟨p, t, o.s, [x, y], heads5, 3, rfl, g1 _ _ hp, SqL.of upd_same, _, rfl, iteE (by rw [dT (bop_in o)]; rfl) ?_⟩
    have da : a.dep ≤ n := by simp [Ex.dep] at hd; omega
    have db : b.dep ≤ n := by simp [Ex.dep] at hd; omega
    refine ⟨_, rfl, p, _, 1, x, rfl, rfl, SqT.of (g1 _ _ hp), atI_nat (j := 1) rfl, x, a, rfl, hx.same g1, ok.1, da, fun H2 g2 => ⟨_, rfl, iteT ?_⟩⟩
    have g12 := g1.trans g2
    refine ⟨_, rfl, p, _, 2, y, rfl, rfl, SqT.of (g12 _ _ hp), atI_nat (j := 2) rfl, y, b, rfl, hy.same g12, ok.2, db, fun H3 g3 => q H3 (g12.trans g3)⟩
  | turned a =>
    obtain ⟨p, x, rfl, hp, hx⟩ := ht
    refine ⟨_, rfl, _, rfl, .inr (.inr ⟨p, _, rfl, hp, _, rfl, iteF ⟨_, rfl, _, rfl, .inr ⟨p, _, rfl, hp, _, rfl, iteF ?_⟩⟩⟩)⟩
    refine ⟨_, rfl, five, fun t nt => ?_⟩
    have g1 := same_new nt (.lst (heads5.map V.str))
    refine ⟨p, t, "turned", [x], heads5, 3, rfl, g1 _ _ hp, SqL.of upd_same, _, rfl, iteN rfl ?_⟩
    refine ⟨_, rfl, by show 3 ≤ sizeLine; decide, fun t2 nt2 => ?_⟩
    have g2 := g1.trans (same_new nt2 (.lst (heads3.map V.str)))
    refine ⟨p, t2, "turned", [x], heads3, 3, rfl, g2 _ _ hp, SqL.of upd_same, _, rfl, iteN rfl ?_⟩
    refine ⟨_, rfl, by show 1 ≤ sizeLine; decide, fun t3 nt3 => ?_⟩
    have g3 := g2.trans (same_new nt3 (.lst [.str "turned"]))
    have da : a.dep ≤ n := by simp [Ex.dep] at hd; omega
    refine ⟨p, t3, "turned", [x], ["turned"], 2, rfl, g3 _ _ hp, SqL.of upd_same, _, rfl, iteE rfl ?_⟩
    exact ⟨_, rfl, p, _, 1, x, rfl, rfl, SqT.of (g3 _ _ hp), atI_nat (j := 1) rfl, x, a, rfl, hx.same g3, ok, da, fun H3 g => q H3 (g3.trans g)⟩
  | sc o k a =>
    obtain ⟨p, x, rfl, hp, hx⟩ := ht
    obtain ⟨k1, k2, oka, k3⟩ := ok.k
    refine ⟨_, rfl, _, rfl, .inr (.inr ⟨p, _, rfl, hp, _, rfl, iteF ⟨_, rfl, _, rfl, .inr ⟨p, _, rfl, hp, _, rfl, iteF ?_⟩⟩⟩)⟩
    refine ⟨_, rfl, five, fun t nt => ?_⟩
    have g1 := same_new nt (.lst (heads5.map V.str))
    refine ⟨p, t, o.s, [.int k, x], heads5, 3, rfl, g1 _ _ hp, SqL.of upd_same, _, rfl, iteN (by rw [dF (sop_out o)]; rfl) ?_⟩
    refine ⟨_, rfl, by show 3 ≤ sizeLine; decide, fun t2 nt2 => ?_⟩
    have g2 := g1.trans (same_new nt2 (.lst (heads3.map V.str)))
    refine ⟨p, t2, o.s, [.int k, x], heads3, 3, rfl, g2 _ _ hp, SqL.of upd_same, _, rfl, iteE (by rw [dT (sop_in o)]; rfl) ?_⟩
    have da : a.dep ≤ n := by simp [Ex.dep] at hd; omega
    refine ⟨_, rfl, p, _, 0, .str o.s, rfl, rfl, SqT.of (g2 _ _ hp), atI_nat (j := 0) rfl, rfl, _, rfl, ?_⟩
    have last : ∀ (b : Bool), b = true → (tAndV (tVar 1) (tCall (spExpr n) [] E0 (tCons (tOp (rIxT K) (tVar 0) (tC (.int 2))) tNil))) [some (.ref p), some (.bl b)] _ Q := fun b hb => by
      subst hb
      exact ⟨_, rfl, _, rfl, iteT ⟨_, rfl, p, _, 2, x, rfl, rfl, SqT.of (g2 _ _ hp), atI_nat (j := 2) rfl, x, a, rfl, hx.same g2, oka, da, fun H3 g => q H3 (g2.trans g)⟩⟩
    refine ite2 (fun c => ?_) (fun c => ?_)
    · exact ⟨_, rfl, p, _, 1, .int k, rfl, rfl, SqT.of (g2 _ _ hp), atI_nat (j := 1) rfl, _, rfl, .inl ⟨k, rfl, last true rfl⟩⟩
    · have c' : o ≠ .times := by
        intro z
        subst z
        exact c (by decide)
      exact ⟨_, rfl, p, _, 1, .int k, rfl, rfl, SqT.of (g2 _ _ hp), atI_nat (j := 1) rfl, k, rfl, last _ (dT (k3 c').1)⟩
theorem c_is_expr (F : FnP K "is_expression" 20 f fd) (m : mg "is_expression" = some (.ref f)) (T : Txt K mg) (N : Cal P w K mg base 1 "is_name" spName) (W : Cal P w K mg base 1 "is_whole" spWhole) (C : Cal P w K mg base 2 "is_count" spCount)
    (D : Cal P w K mg base 1 "has_head" (spHead K)) : ∀ n, Cal P w K mg base (n + 2) "is_expression" (spExpr n)
  | 0 => c_is_expr0 F m
  | n + 1 => c_is_expr1 F m T N W C D (c_is_expr F m T N W C D n)
/-- check_expression, of a depth of at most 9 -/
def spCheckE : Sp := fun vs H Q _ => ∃ (v : V) (e : Ex), vs = [v] ∧ TrV H e v ∧ e.Ok ∧ e.dep ≤ 9 ∧ ∀ H', Same H H' → Q .non H'
theorem sc21 : FnScope ["expression"] ["expression"] (L2.defScope (top 21)) := ⟨rfl, rfl, rfl, by decide +kernel, rfl, by decide +kernel, by decide +kernel⟩
theorem c_check_expr (F : FnP K "check_expression" 21 f fd) (m : mg "check_expression" = some (.ref f)) (T : Txt K mg) (R : Cal P w K mg base 11 "is_expression" (spExpr 9)) : Cal P w K mg base 12 "check_expression" spCheckE := by
  refine calD F m sc21 (fun vs H Q E h => ?_) (fun _ _ _ _ _ _ us hl => match us, hl with | [_], _ => rfl) (fun cdv A outer s H vs Q E hr h => ?_)
  · obtain ⟨_, _, rfl, _⟩ := h
    rfl
  obtain ⟨v, e, rfl, ht, ok, hd, q⟩ := h
  refine ⟨_, pss_one (ps_if (pt_not (pt_val (pe_c R hr (pa_cons (pv 0) pa_nil)))) pss_never pss_nil), ?_⟩
  exact ⟨_, rfl, v, e, rfl, ht, ok, hd, fun H' g => ⟨_, rfl, iteF (q H' g)⟩⟩
end
end Hw
/-! ## KFill -/
namespace Hw
open PySem PySem.Spec PyProof.Rows L2

/-! ### a filling in the heap -/
abbrev Fil := List (Str × Int)
def fnames (fl : Fil) : List Str := fl.map (·.1)
def PairAt (H : Hp) (p : Addr) (kv : Str × Int) : Prop := H p = some (.tup [.str kv.1, .int kv.2])
structure FillAt (H : Hp) (b : Addr) (ps : List Addr) (fl : Fil) : Prop where
  lst : H b = some (.lst (ps.map V.ref))
  all : Paired (PairAt H) ps fl
theorem Paired.imp {α β : Type} {F G : α → β → Prop} (f : ∀ a b, F a b → G a b) : ∀ {l : List α} {m : List β}, Paired F l m → Paired G l m
  | _, _, .nil => .nil
  | _, _, .cons h t => .cons (f _ _ h) (Paired.imp f t)
theorem Paired.at_ {α β : Type} {F : α → β → Prop} : ∀ {l : List α} {m : List β} {i : Nat} {x : α}, Paired F l m → l[i]? = some x → ∃ y, m[i]? = some y ∧ F x y
  | _, _, _, _, .nil, h => by simp at h
  | _, _, 0, _, .cons h t, e => by
    simp at e
    subst e
    exact ⟨_, rfl, h⟩
  | _, _, i + 1, x, .cons h t, e => by
    obtain ⟨y, h1, h2⟩ := Paired.at_ (i := i) (x := x) t (by simpa using e)
    exact ⟨y, by simpa using h1, h2⟩
theorem FillAt.same {H H' : Hp} {b : Addr} {ps : List Addr} {fl : Fil} (g : Same H H') (h : FillAt H b ps fl) : FillAt H' b ps fl := ⟨g _ _ h.lst, Paired.imp (fun _ _ z => g _ _ z) h.all⟩
theorem FillAt.len {H : Hp} {b : Addr} {ps : List Addr} {fl : Fil} (h : FillAt H b ps fl) : ps.length = fl.length := h.all.length
/-- the words fit the width -/
def FitsF (n : Nat) (fl : Fil) : Prop := ∀ kv ∈ fl, 0 ≤ kv.2 ∧ kv.2 < 2 ^ n

section
variable {P : Program} {w : World} {K : PySem.W.Frag} {mg : Str → Option Value} {base : Heap} {f : Addr} {fd : FuncData}
def spFill : Sp := fun vs H Q _ => ∃ (n : Nat) (a b : Addr) (ps : List Addr) (fl : Fil), vs = [.int n, .ref a, .ref b] ∧ n ≤ 64 ∧ H a = some (.lst ((fnames fl).map V.str)) ∧ FillAt H b ps fl ∧ FitsF n fl ∧ ∀ H', Same H H' → Q (.bl true) H'
theorem sc22 : FnScope ["width", "names", "value", "name", "item"] ["width", "names", "value"] (L2.defScope (top 22)) := ⟨rfl, rfl, rfl, by decide +kernel, rfl, by decide +kernel, by decide +kernel⟩
theorem c_is_filling (F : FnP K "is_filling" 22 f fd) (m : mg "is_filling" = some (.ref f)) (T : Txt K mg) (W : Cal P w K mg base 3 "is_word" spWord) : Cal P w K mg base 4 "is_filling" spFill := by
  refine calD F m sc22 (fun vs H Q E h => ?_) (fun _ _ _ _ _ _ us hl => match us, hl with | [_, _, _], _ => rfl) (fun cdv A outer s H vs Q E hr h => ?_)
  · obtain ⟨_, _, _, _, _, rfl, _⟩ := h
    rfl
  obtain ⟨n, a, b, ps, fl, rfl, hn, ha, hF, fit, q⟩ := h
  refine ⟨_, pss_cons (ps_if (PW.pt (pw_or (pt_not (pt_val (pe_isi T.isi T.list boot_list (pv 2)))) <| pw_or1 (pt_cmpR op_ne (pe_b1 call_len_seq T.len boot_len (pv 2)) (pe_b1 call_len_seq T.len boot_len (pv 1)) (nomark _)))) (pss_one (ps_ret pe_bl)) pss_nil) <|
    pss_cons (ps_for PassesOwn.never rfl (pi_zip (by rfl) T.zip (pa_cons (pv 1) (pa_cons (pv 2) pa_nil))) (pg_tup rfl (pgs_cons (pg_name (i := 3) sc22.nd rfl (Or.inl rfl)) (pgs_cons (pg_name (i := 4) sc22.nd rfl (Or.inl rfl)) pgs_nil)))
      (pss_one (ps_if (PW.pt (pw_or (pt_not (pt_val (pe_isi T.isi T.tuple boot_tuple (pv 4)))) <| pw_or (pt_cmpR op_ne (pe_b1 call_len_seq T.len boot_len (pv 4)) pe_int (nomark _)) <|
        pw_or (pt_not (pt_val (pe_isi T.isi T.str boot_str (pe_ix ix_tup (pv 4) pe_int (fun _ _ => rfl))))) <| pw_or1 (pt_cmpR op_ne (pe_ix ix_tup (pv 4) pe_int (fun _ _ => rfl)) (pv 3) (nomark _)))) (pss_one (ps_ret pe_bl)) pss_nil))) <|
    pss_one (ps_ret (pe_cmpR (op_eqD hr.units) (pe_lc (own := [("item", 4)]) (g := gName 4) rfl sc22.nd (pi_list (pv 2))
      (blkOk_by (own := [("item", 4)]) (N := ["width", "names", "value", "name", "item"]) (sc := L2.defScope (top 22)) (by decide +kernel)) (fun _ _ _ _ _ => pg_name (i := 4) sc22.nd rfl (Or.inl rfl))
      (fun _ _ _ _ _ => pts_one (pt_not (pt_val (pe_c W hr (pa_cons (pv 0) (pa_cons (pe_ix (r := rIxT K) ix_tup (pv 4) pe_int (fun _ _ => rfl)) pa_nil)))))) (fun _ _ _ _ _ => pv 4)) (pe_lst pa_nil) (nomark _))), ?_⟩
  have len1 : (ps.map V.ref).length = fl.length := by rw [List.length_map, hF.len]
  have len2 : ((fnames fl).map V.str).length = fl.length := by rw [List.length_map]; exact List.length_map _
  refine ⟨_, rfl, "list", true, .base (.lst hF.lst), ki_ll, _, rfl, iteF ?_⟩
  refine ⟨_, rfl, b, _, rfl, .inl (SqL.of hF.lst), _, rfl, a, _, rfl, .inl (SqL.of ha), rfl, _, rfl, iteN (ndF (by rw [len1, len2])) ?_⟩
  refine ⟨_, rfl, _, rfl, a, b, _, _, rfl, SqL.of ha, SqL.of hF.lst, ?_⟩
  refine RZ.for_zipL (by rw [len1, len2]) (fun i σ H' => ∃ x y, σ = [some (.int n), some (.ref a), some (.ref b), x, y] ∧ Same H H') ⟨none, none, rfl, Same.refl H⟩ (fun i σ H' ⟨x, y, e, g⟩ => ⟨SqL.of (g _ _ ha), SqL.of (g _ _ hF.lst)⟩) (fun i x y t σ H' hx hy ⟨x0, y0, e, g⟩ nt => ?_) (fun σ H' ⟨x0, y0, e, g⟩ => ?_)
  · subst e
    obtain ⟨p, hp, rfl⟩ : ∃ p, ps[i]? = some p ∧ V.ref p = y := by
      rw [List.getElem?_map] at hy
      cases hp : ps[i]? with
      | none => rw [hp] at hy; cases hy
      | some p => rw [hp] at hy; exact ⟨p, rfl, Option.some.inj hy⟩
    obtain ⟨kv, hkv, hpa⟩ := Paired.at_ hF.all hp
    obtain rfl : x = .str kv.1 := by
      rw [List.getElem?_map] at hx
      unfold fnames at hx
      rw [List.getElem?_map, hkv] at hx
      exact (Option.some.inj hx).symm
    have g1 := g.trans (same_new nt (.tup [.str kv.1, .ref p]))
    have hpt := g1 _ _ hpa
    refine ⟨t, _, rfl, SqT.of upd_same, rfl, _, _, rfl, _, _, rfl, rfl, ?_⟩
    refine ⟨_, rfl, "tuple", true, .base (.tup hpt), ki_tt, _, rfl, iteF ?_⟩
    refine ⟨_, rfl, p, _, rfl, .inr (SqT.of hpt), rfl, _, rfl, iteN (ndF rfl) ?_⟩
    refine ⟨_, rfl, p, _, 0, .str kv.1, rfl, rfl, SqT.of hpt, atI_nat (j := 0) rfl, "str", true, .base (.str _), ki_ss, _, rfl, iteF ?_⟩
    refine ⟨_, rfl, p, _, 0, .str kv.1, rfl, rfl, SqT.of hpt, atI_nat (j := 0) rfl, _, rfl, rfl, _, rfl, iteN (ndF rfl) ?_⟩
    exact ⟨_, _, rfl, g1⟩
  · subst e
    refine ⟨_, rfl, b, rfl, ⟨_, SqL.of (g _ _ hF.lst)⟩, fun D nD => ?_⟩
    have gD := g.trans (same_new nD (.lst []))
    refine lc_list (a := b) (xs := ps.map V.ref) (fun i H2 => Same H H2 ∧ H2 D = some (.lst [])) ⟨gD, upd_same⟩ (fun i H2 _ p => SqL.of (p.1 _ _ hF.lst)) (fun i x H2 hx ⟨g2, e2⟩ => ?_) (fun H2 ⟨g2, e2⟩ => ?_)
    · obtain ⟨p, hp, rfl⟩ : ∃ p, ps[i]? = some p ∧ V.ref p = x := by
        rw [List.getElem?_map] at hx
        cases hp : ps[i]? with
        | none => rw [hp] at hx; cases hx
        | some p => rw [hp] at hx; exact ⟨p, rfl, Option.some.inj hx⟩
      obtain ⟨kv, hkv, hpa⟩ := Paired.at_ hF.all hp
      have fk := fit kv (List.mem_of_getElem? hkv)
      refine ⟨rfl, _, rfl, _, rfl, p, _, 1, .int kv.2, rfl, rfl, SqT.of (g2 _ _ hpa), atI_nat (j := 1) rfl, n, kv.2, rfl, hn, fk.1, fk.2, _, rfl, iteF ⟨g2, e2⟩⟩
    · refine ⟨by show 0 ≤ sizeLine; decide, fun t nt => ?_⟩
      refine ⟨.list [], .list [], .lst (SqL.of (same_new nt (.lst []) _ _ e2)) .nil, .lst (SqL.of upd_same) .nil, rfl, rfl, fin (q _ (g2.trans (same_new nt _))) ?_⟩
      exact bT rfl
end
end Hw
/-! ## KNames -/
namespace Hw
open PySem PySem.Spec PyProof.Rows L2

def Ex.kids : Ex → List Ex
  | .bin _ a b => [a, b]
  | .turned a => [a]
  | .sc _ _ a => [a]
  | _ => []
/-- the values of parts -/
abbrev TrAll (H : Hp) (xs : List V) (es : List Ex) : Prop := Paired (fun x e => TrV H e x) xs es
theorem TrAll.same {H H' : Hp} (g : Same H H') {xs : List V} {es : List Ex} (h : TrAll H xs es) : TrAll H' xs es := Paired.imp (fun _ _ z => TrV.same g z) h
theorem names_len : ∀ e : Ex, 2 * e.names.length ≤ 2 ^ e.dep
  | .nm _ => by simp [Ex.names, Ex.dep]
  | .num _ => by simp [Ex.names, Ex.dep]
  | .bin _ a b => by
    have h1 := names_len a
    have h2 := names_len b
    have p1 : 2 ^ a.dep ≤ 2 ^ max a.dep b.dep := Nat.pow_le_pow_right (by decide) (Nat.le_max_left _ _)
    have p2 : 2 ^ b.dep ≤ 2 ^ max a.dep b.dep := Nat.pow_le_pow_right (by decide) (Nat.le_max_right _ _)
    show 2 * (a.names ++ b.names).length ≤ 2 ^ (max a.dep b.dep + 1)
    rw [List.length_append, Nat.pow_succ]
    omega
  | .turned a => by
    have h1 := names_len a
    show 2 * a.names.length ≤ 2 ^ (a.dep + 1)
    rw [Nat.pow_succ]
    omega
  | .sc _ _ a => by
    have h1 := names_len a
    show 2 * a.names.length ≤ 2 ^ (a.dep + 1)
    rw [Nat.pow_succ]
    omega
theorem names_ok_of : ∀ {e : Ex}, e.Ok → ∀ x ∈ e.names, x ∈ okNames
  | .nm y, h, x, hx => by
    obtain rfl := List.mem_singleton.mp hx
    exact h
  | .num _, _, x, hx => by cases hx
  | .bin _ a b, h, x, hx => (List.mem_append.mp hx).elim (names_ok_of h.1 x) (names_ok_of h.2 x)
  | .turned a, h, x, hx => names_ok_of (e := a) h x hx
  | .sc o k a, h, x, hx => names_ok_of h.k.2.2.1 x hx
theorem kids_ok : ∀ {e : Ex}, e.Ok → ∀ c ∈ e.kids, c.Ok
  | .nm _, _, c, hc => by cases hc
  | .num _, _, c, hc => by cases hc
  | .bin _ a b, h, c, hc => by
    rcases List.mem_cons.mp hc with rfl | hc
    · exact h.1
    · obtain rfl := List.mem_singleton.mp hc
      exact h.2
  | .turned a, h, c, hc => by
    obtain rfl := List.mem_singleton.mp hc
    exact h
  | .sc o k a, h, c, hc => by
    obtain rfl := List.mem_singleton.mp hc
    exact h.k.2.2.1
theorem kids_dep {e c : Ex} (hc : c ∈ e.kids) : c.dep + 1 ≤ e.dep := by
  cases e with
  | nm _ => cases hc
  | num _ => cases hc
  | bin _ a b =>
    rcases List.mem_cons.mp hc with rfl | hc
    · simp [Ex.dep]; omega
    · obtain rfl := List.mem_singleton.mp hc
      simp [Ex.dep]; omega
  | turned a =>
    obtain rfl := List.mem_singleton.mp hc
    simp [Ex.dep]
  | sc _ _ a =>
    obtain rfl := List.mem_singleton.mp hc
    simp [Ex.dep]
/-- the names of some of the parts -/
def knames (es : List Ex) : List Str := es.flatMap Ex.names
theorem kids_names {e : Ex} (h : ∀ x, e ≠ .nm x) : knames e.kids = e.names := by
  cases e with
  | nm x => exact absurd rfl (h x)
  | num _ => rfl
  | bin _ a b => simp [knames, Ex.kids, Ex.names]
  | turned a => simp [knames, Ex.kids, Ex.names]
  | sc _ _ a => simp [knames, Ex.kids, Ex.names]
theorem take_names (es : List Ex) (i : Nat) : (knames (es.take i)).length ≤ (knames es).length := by
  have e : knames es = knames (es.take i) ++ knames (es.drop i) := by
    unfold knames
    rw [← List.flatMap_append, List.take_append_drop]
  rw [e, List.length_append]
  omega
theorem names_step {es : List Ex} {i : Nat} {c : Ex} (h : es[i]? = some c) : knames (es.take (i + 1)) = knames (es.take i) ++ c.names := by
  unfold knames
  rw [List.take_add_one, h, List.flatMap_append]
  simp

section
variable {P : Program} {w : World} {K : PySem.W.Frag} {mg : Str → Option Value} {base : Heap} {f : Addr} {fd : FuncData}
/-- the list of the parts, a new one -/
def spParts : Sp := fun vs H Q _ => ∃ (v : V) (e : Ex), vs = [v] ∧ TrV H e v ∧ ∀ H' l xs, Same H H' → H' l = some (.lst xs) → TrAll H' xs e.kids → Q (.ref l) H'
theorem sc23 : FnScope ["value"] ["value"] (L2.defScope (top 23)) := ⟨rfl, rfl, rfl, by decide +kernel, rfl, by decide +kernel, by decide +kernel⟩
def heads4 : List Str := ["times", "up", "down", "bit"]
theorem bop_out4 (o : Bop) : ¬ o.s ∈ heads4 := by cases o <;> decide
theorem sop_in4 (o : Sop) : o.s ∈ heads4 := by cases o <;> decide
theorem c_exprs_of (F : FnP K "expressions_of" 23 f fd) (m : mg "expressions_of" = some (.ref f)) (T : Txt K mg) (W : Cal P w K mg base 1 "is_whole" spWhole) : Cal P w K mg base 2 "expressions_of" spParts := by
  refine calD F m sc23 (fun vs H Q E h => ?_) (fun _ _ _ _ _ _ us hl => match us, hl with | [_], _ => rfl) (fun cdv A outer s H vs Q E hr h => ?_)
  · obtain ⟨_, _, rfl, _⟩ := h
    rfl
  obtain ⟨v, e, rfl, ht, q⟩ := h
  refine ⟨_, pss_cons (ps_if (PW.pt (pw_or (pt_val (pe_isi T.isi T.str boot_str (pv 0))) <| pw_or1 (pt_val (pe_c W hr (pa_cons (pv 0) pa_nil))))) (pss_one (ps_ret (pe_lst pa_nil))) pss_nil) <|
    pss_one (ps_ret (pe_t1 call_list_of T.list boot_list (pe_ifExp (pt_cmpR op_in_seq (pe_ix ix_tup (pv 0) pe_int (fun _ _ => rfl)) (pe_lst (pa_cons pe_str (pa_cons pe_str (pa_cons pe_str (pa_cons pe_str pa_nil))))) (by rfl))
      (pe_slice sl_tup (pv 0) (po_some pe_int) po_none) (pe_slice sl_tup (pv 0) (po_some pe_int) po_none)))), ?_⟩
  have four : 4 ≤ sizeLine := by decide
  have empty : ∀ {H : Hp}, e.kids = [] → (∀ H' l xs, Same H H' → H' l = some (.lst xs) → TrAll H' xs e.kids → Q (.ref l) H') → (0 ≤ sizeLine ∧ ∀ p, H p = none → Q (.ref p) (upd H p (.lst []))) := fun {H} he q =>
    ⟨Nat.zero_le _, fun p np => q _ p [] (same_new np _) upd_same (by rw [he]; exact .nil)⟩
  cases e with
  | nm x =>
    obtain rfl : v = .str x := ht
    exact ⟨_, rfl, "str", true, .base (.str x), ki_ss, _, rfl, iteT (iteT (empty rfl q))⟩
  | num i =>
    obtain rfl : v = .int i := ht
    exact ⟨_, rfl, "int", false, .base (.int i), ki_is, _, rfl, iteF ⟨_, rfl, _, rfl, .inl ⟨i, rfl, _, rfl, iteT (empty rfl q)⟩⟩⟩
  | bin o a b =>
    obtain ⟨p, x, y, rfl, hp, hx, hy⟩ := ht
    refine ⟨_, rfl, "tuple", false, .base (.tup hp), ki_ts, _, rfl, iteF ⟨_, rfl, _, rfl, .inr ⟨p, _, rfl, hp, _, rfl, iteF ?_⟩⟩⟩
    refine ⟨_, rfl, p, _, 0, .str o.s, rfl, rfl, SqT.of hp, atI_nat (j := 0) rfl, four, fun t nt => ?_⟩
    have g1 := same_new nt (.lst (heads4.map V.str))
    refine ⟨t, heads4.map V.str, rfl, .inl (SqL.of upd_same), rfl, strs_flat _, _, rfl, iteN (by rw [inV_str]; exact dF (bop_out4 o)) ?_⟩
    refine ⟨_, rfl, 1, rfl, p, _, rfl, SqT.of (g1 _ _ hp), (by show ¬ (HT.sIx 3 0 (some 1) = 0 ∧ HT.sIx 3 3 none = 3); decide), fun t2 nt2 => ?_⟩
    have g2 := g1.trans (same_new nt2 (.tup [x, y]))
    refine ⟨t2, [x, y], rfl, .inr (SqT.of upd_same), fun l nl => ?_⟩
    have g3 := g2.trans (same_new nl (.lst [x, y]))
    exact q _ l [x, y] g3 upd_same (.cons (hx.same g3) (.cons (hy.same g3) .nil))
  | turned a =>
    obtain ⟨p, x, rfl, hp, hx⟩ := ht
    refine ⟨_, rfl, "tuple", false, .base (.tup hp), ki_ts, _, rfl, iteF ⟨_, rfl, _, rfl, .inr ⟨p, _, rfl, hp, _, rfl, iteF ?_⟩⟩⟩
    refine ⟨_, rfl, p, _, 0, .str "turned", rfl, rfl, SqT.of hp, atI_nat (j := 0) rfl, four, fun t nt => ?_⟩
    have g1 := same_new nt (.lst (heads4.map V.str))
    refine ⟨t, heads4.map V.str, rfl, .inl (SqL.of upd_same), rfl, strs_flat _, _, rfl, iteN (by rw [inV_str]; decide) ?_⟩
    refine ⟨_, rfl, 1, rfl, p, _, rfl, SqT.of (g1 _ _ hp), (by show ¬ (HT.sIx 2 0 (some 1) = 0 ∧ HT.sIx 2 2 none = 2); decide), fun t2 nt2 => ?_⟩
    have g2 := g1.trans (same_new nt2 (.tup [x]))
    refine ⟨t2, [x], rfl, .inr (SqT.of upd_same), fun l nl => ?_⟩
    have g3 := g2.trans (same_new nl (.lst [x]))
    exact q _ l [x] g3 upd_same (.cons (hx.same g3) .nil)
  | sc o k a =>
    obtain ⟨p, x, rfl, hp, hx⟩ := ht
    refine ⟨_, rfl, "tuple", false, .base (.tup hp), ki_ts, _, rfl, iteF ⟨_, rfl, _, rfl, .inr ⟨p, _, rfl, hp, _, rfl, iteF ?_⟩⟩⟩
    refine ⟨_, rfl, p, _, 0, .str o.s, rfl, rfl, SqT.of hp, atI_nat (j := 0) rfl, four, fun t nt => ?_⟩
    have g1 := same_new nt (.lst (heads4.map V.str))
    refine ⟨t, heads4.map V.str, rfl, .inl (SqL.of upd_same), rfl, strs_flat _, _, rfl, iteE (by rw [inV_str]; exact dT (sop_in4 o)) ?_⟩
    refine ⟨_, rfl, 2, rfl, p, _, rfl, SqT.of (g1 _ _ hp), (by show ¬ (HT.sIx 3 0 (some 2) = 0 ∧ HT.sIx 3 3 none = 3); decide), fun t2 nt2 => ?_⟩
    have g2 := g1.trans (same_new nt2 (.tup [x]))
    refine ⟨t2, [x], rfl, .inr (SqT.of upd_same), fun l nl => ?_⟩
    have g3 := g2.trans (same_new nl (.lst [x]))
    exact q _ l [x] g3 upd_same (.cons (hx.same g3) .nil)

/-- the names in an expression, a new list -/
def spAll (n : Nat) : Sp := fun vs H Q _ => ∃ (v : V) (e : Ex), vs = [v] ∧ TrV H e v ∧ e.Ok ∧ e.dep ≤ n ∧ n ≤ 9 ∧ ∀ H' l, Same H H' → H' l = some (.lst (e.names.map V.str)) → Q (.ref l) H'
theorem sc24 : FnScope ["expression", "found", "part"] ["expression"] (L2.defScope (top 24)) := ⟨rfl, rfl, rfl, by decide +kernel, rfl, by decide +kernel, by decide +kernel⟩
theorem c_all_names0 (F : FnP K "all_names" 24 f fd) (m : mg "all_names" = some (.ref f)) : Cal P w K mg base 2 "all_names" (spAll 0) := by
  have no : ∀ vs H Q E, ¬ spAll 0 vs H Q E := fun vs H Q E h => by
    obtain ⟨v, e, _, _, _, h1, _⟩ := h
    have := dep_pos e
    omega
  exact ⟨f, fd, ["expression"], ⟨fun vs H Q E h => absurd h (no vs H Q E), fun A outer s H args us vs Q E _ _ _ _ h => absurd h (no vs H Q E)⟩, m, F.kp, F.bindsN fun _ _ _ _ _ _ us hl => match us, hl with | [_], _ => rfl⟩
theorem c_all_names1 (F : FnP K "all_names" 24 f fd) (m : mg "all_names" = some (.ref f)) (T : Txt K mg) (D : Cal P w K mg base 2 "expressions_of" spParts) {n : Nat} (R : Cal P w K mg base (n + 2) "all_names" (spAll n)) : Cal P w K mg base (n + 3) "all_names" (spAll (n + 1)) := by
  refine calD F m sc24 (fun vs H Q E h => ?_) (fun _ _ _ _ _ _ us hl => match us, hl with | [_], _ => rfl) (fun cdv A outer s H vs Q E hr h => ?_)
  · obtain ⟨_, _, rfl, _⟩ := h
    rfl
  obtain ⟨v, e, rfl, ht, ok, hd, h9, q⟩ := h
  refine ⟨_, pss_cons (ps_if (pt_val (pe_isi T.isi T.str boot_str (pv 0))) (pss_one (ps_ret (pe_lst (pa_cons (pv 0) pa_nil)))) pss_nil) <|
    pss_cons (ps_set (i := 1) sc24.nd rfl (Or.inl rfl) (pe_lst pa_nil)) <|
    pss_cons (ps_for PassesOwn.never rfl (pi_list (pe_c D hr (pa_cons (pv 0) pa_nil) (by omega))) (pg_name (i := 2) sc24.nd rfl (Or.inl rfl))
      (pss_one (ps_set (i := 1) sc24.nd rfl (Or.inl rfl) (pe_op op_cat (pv 1) (pe_c R hr (pa_cons (pv 2) pa_nil) (Nat.le_refl _)))))) <|
    pss_one (ps_ret (pv 1)), ?_⟩
  by_cases isN : ∃ x, e = .nm x
  · obtain ⟨x, rfl⟩ := isN
    obtain rfl : v = .str x := ht
    exact ⟨_, rfl, "str", true, .base (.str x), ki_ss, _, rfl, iteT ⟨_, rfl, by show 1 ≤ sizeLine; decide, fun p np => q _ p (same_new np _) upd_same⟩⟩
  have nN : ∀ x, e ≠ .nm x := fun x z => isN ⟨x, z⟩
  have rest : (tSeq (tAsg (tLst tNil) (gName 1)) <| tSeq (tFor (iList K (tCall spParts [] E0 (tCons (tVar 0) tNil))) (gName 2) (tAsg (tOp rCat (tVar 1) (tCall (spAll n) [] E0 (tCons (tVar 2) tNil))) (gName 1))) (tRet (tVar 1))) { nx := fun _ H' => Q .non H', rt := Q } [some v, none, none] H := by
    refine ⟨Nat.zero_le _, fun fa nfa => ?_⟩
    have g1 := same_new nfa (.lst [])
    refine ⟨_, rfl, v, e, rfl, ht.same g1, fun H2 l xs g2 hl hx => ⟨l, rfl, ⟨xs, SqL.of hl⟩, ?_⟩⟩
    have xl : xs.length = e.kids.length := hx.length
    have bound : (knames e.kids).length ≤ 512 := by
      rw [kids_names nN]
      have h1 := names_len e
      have h2 : 2 ^ e.dep ≤ 2 ^ 9 := Nat.pow_le_pow_right (by decide) (by omega)
      omega
    refine for_list (a := l) (xs := xs) (fun i σ H' => ∃ fa z, σ = [some v, some (.ref fa), z] ∧ Same H2 H' ∧ H' fa = some (.lst ((knames (e.kids.take i)).map V.str))) ⟨fa, none, rfl, Same.refl _, by rw [List.take_zero]; exact g2 _ _ upd_same⟩ (fun i σ H' _ ⟨_, _, _, g, _⟩ => SqL.of (g _ _ hl)) (fun i x σ H' hi ⟨fa', z, e1, g, hf⟩ => ?_) (fun σ H' ⟨fa', z, e1, g, hf⟩ => ?_)
    · subst e1
      obtain ⟨c, hc, hxc⟩ := Paired.at_ (hx.same g) hi
      have mc := List.mem_of_getElem? hc
      have dc := kids_dep mc
      refine ⟨_, rfl, _, rfl, x, c, rfl, hxc, kids_ok ok c mc, by omega, by omega, fun H3 l3 g3 hl3 => ?_⟩
      have st := names_step hc
      have b1 := take_names e.kids (i + 1)
      rw [st, List.length_append] at b1
      refine ⟨fa', l3, _, _, rfl, rfl, g3 _ _ hf, hl3, ?_, fun p np => ⟨p, _, rfl, g.trans (g3.trans (same_new np _)), ?_⟩⟩
      · rw [List.length_map, List.length_map]
        exact Nat.le_of_lt (small1000 (by omega))
      · rw [upd_same, st, List.map_append]
    · subst e1
      refine ⟨_, rfl, q _ fa' (g1.trans (g2.trans g)) ?_⟩
      rw [hf, List.take_of_length_le (by omega), kids_names nN]
  cases e with
  | nm x => exact absurd rfl (nN x)
  | num i =>
    obtain rfl : v = .int i := ht
    exact ⟨_, rfl, "int", false, .base (.int i), ki_is, _, rfl, iteF rest⟩
  | bin o a b =>
    obtain ⟨p, x, y, rfl, hp, hx, hy⟩ := id ht
    exact ⟨_, rfl, "tuple", false, .base (.tup hp), ki_ts, _, rfl, iteF rest⟩
  | turned a =>
    obtain ⟨p, x, rfl, hp, hx⟩ := id ht
    exact ⟨_, rfl, "tuple", false, .base (.tup hp), ki_ts, _, rfl, iteF rest⟩
  | sc o k a =>
    obtain ⟨p, x, rfl, hp, hx⟩ := id ht
    exact ⟨_, rfl, "tuple", false, .base (.tup hp), ki_ts, _, rfl, iteF rest⟩
theorem c_all_names (F : FnP K "all_names" 24 f fd) (m : mg "all_names" = some (.ref f)) (T : Txt K mg) (D : Cal P w K mg base 2 "expressions_of" spParts) : ∀ n, Cal P w K mg base (n + 2) "all_names" (spAll n)
  | 0 => c_all_names0 F m
  | n + 1 => c_all_names1 F m T D (c_all_names F m T D n)

/-- the names in order, a new list -/
def spNames : Sp := fun vs H Q _ => ∃ (v : V) (e : Ex), vs = [v] ∧ TrV H e v ∧ e.Ok ∧ e.dep ≤ 6 ∧ ∀ H' l, Same H H' → H' l = some (.lst ((norm e.names).map V.str)) → Q (.ref l) H'
theorem sc25 : FnScope ["expression"] ["expression"] (L2.defScope (top 25)) := ⟨rfl, rfl, rfl, by decide +kernel, rfl, by decide +kernel, by decide +kernel⟩
theorem c_names_of (F : FnP K "names_of_expression" 25 f fd) (m : mg "names_of_expression" = some (.ref f)) (T : Txt K mg) (D : Cal P w K mg base 8 "all_names" (spAll 6)) : Cal P w K mg base 9 "names_of_expression" spNames := by
  refine calD F m sc25 (fun vs H Q E h => ?_) (fun _ _ _ _ _ _ us hl => match us, hl with | [_], _ => rfl) (fun cdv A outer s H vs Q E hr h => ?_)
  · obtain ⟨_, _, rfl, _⟩ := h
    rfl
  obtain ⟨v, e, rfl, ht, ok, hd, q⟩ := h
  refine ⟨_, pss_one (ps_ret (pe_b1 (cr_sortTx rfl) T.sorted boot_sorted (pe_t1 (cr_setTx rfl) T.set boot_set (pe_c D hr (pa_cons (pv 0) pa_nil))))), ?_⟩
  have b1 := names_len e
  have b2 : 2 ^ e.dep ≤ 2 ^ 6 := Nat.pow_le_pow_right (by decide) hd
  refine ⟨_, rfl, v, e, rfl, ht, ok, hd, by decide, fun H1 l g1 hl => ?_⟩
  refine ⟨l, e.names, rfl, SqL.of hl, by omega, fun p np => ?_⟩
  refine ⟨p, e.names, rfl, upd_same, by omega, names_ok_of ok, fun r nr => ?_⟩
  exact q _ r (g1.trans ((same_new np _).trans (same_new nr _))) upd_same
end
end Hw
/-! ## KVal -/
namespace Hw
open PySem PySem.Spec PyProof.Rows L2

/-! ### words by names -/
def rho : Fil → Str → Int
  | [], _ => 0
  | kv :: r, x => if x = kv.1 then kv.2 else rho r x
def kvsF (fl : Fil) : List (Key × V) := fl.map fun kv => (Sum.inr kv.1, .int kv.2)
theorem rho_fits {n : Nat} : ∀ {fl : Fil}, FitsF n fl → ∀ x, 0 ≤ rho fl x ∧ rho fl x < 2 ^ n
  | [], _, x => ⟨Int.le_refl _, p2 n⟩
  | kv :: r, h, x => by
    unfold rho
    split
    · exact h kv (List.mem_cons_self ..)
    · exact rho_fits (fun z hz => h z (List.mem_cons_of_mem _ hz)) x
theorem valV_merge : ∀ (fl : Fil) (kvs : List (Key × V)) (x : Str), (fnames fl).Nodup → valV (mergeK kvs (kvsF fl)) (.inr x) = if x ∈ fnames fl then some (.int (rho fl x)) else valV kvs (.inr x)
  | [], kvs, x, _ => rfl
  | kv :: r, kvs, x, nd => by
    have nd' : ¬ kv.1 ∈ fnames r ∧ (fnames r).Nodup := List.nodup_cons.mp nd
    show valV (mergeK (putK kvs (.inr kv.1) (.int kv.2)) (kvsF r)) (.inr x) = _
    rw [valV_merge r _ x nd'.2, valV_put]
    show _ = if x ∈ kv.1 :: fnames r then some (V.int (if x = kv.1 then kv.2 else rho r x)) else valV kvs (.inr x)
    by_cases e : x = kv.1
    · subst e
      rw [if_neg nd'.1, if_pos rfl, if_pos rfl, if_pos (List.mem_cons_self ..)]
    · have e2 : ¬ (Sum.inr x : Key) = Sum.inr kv.1 := fun z => e (by injection z)
      rw [if_neg e2, if_neg e]
      by_cases c : x ∈ fnames r
      · rw [if_pos c, if_pos (List.mem_cons_of_mem _ c)]
      · have c2 : ¬ x ∈ kv.1 :: fnames r := fun z => by
          rcases List.mem_cons.mp z with z | z
          · exact e z
          · exact c z
        rw [if_neg c, if_neg c2]
/-- what a dict of words says of some names -/
def WordsAt (m : Nat) (kvs : List (Key × V)) (ρ : Str → Int) (xs : List Str) : Prop := ∀ x ∈ xs, valV kvs (.inr x) = some (.int (ρ x)) ∧ 0 ≤ ρ x ∧ ρ x < 2 ^ m
theorem WordsAt.fits {m : Nat} {kvs : List (Key × V)} {ρ : Str → Int} {xs : List Str} (h : WordsAt m kvs ρ xs) : Fits m ρ xs := fun x hx => (h x hx).2
theorem words_at {m : Nat} {fl : Fil} {xs : List Str} (f : FitsF m fl) (nd : (fnames fl).Nodup) (hx : ∀ x ∈ xs, x ∈ fnames fl) : WordsAt m (mergeK [] (kvsF fl)) (rho fl) xs := fun x h => ⟨by rw [valV_merge fl [] x nd, if_pos (hx x h)], rho_fits f x⟩

section
variable {P : Program} {w : World} {K : PySem.W.Frag} {mg : Str → Option Value} {base : Heap} {f : Addr} {fd : FuncData}
def heads2 : List Str := ["plus", "minus"]
/-- value_of -/
def spVal (n : Nat) : Sp := fun vs H Q _ => ∃ (m : Nat) (v : V) (d : Addr) (kvs : List (Key × V)) (ρ : Str → Int) (e : Ex), vs = [.int m, v, .ref d] ∧ m ≤ 64 ∧ TrV H e v ∧ e.Ok ∧ e.dep ≤ n ∧ H d = some (.dK kvs) ∧ WordsAt m kvs ρ e.names ∧
  ∀ H', Same H H' → Q (.int (ev m ρ e)) H'
theorem sc27 : FnScope ["width", "expression", "words", "whole", "head", "inner", "one", "other"] ["width", "expression", "words"] (L2.defScope (top 27)) := ⟨rfl, rfl, rfl, by decide +kernel, rfl, by decide +kernel, by decide +kernel⟩
theorem c_value_of0 (F : FnP K "value_of" 27 f fd) (m : mg "value_of" = some (.ref f)) : Cal P w K mg base 2 "value_of" (spVal 0) := by
  have no : ∀ vs H Q E, ¬ spVal 0 vs H Q E := fun vs H Q E h => by
    obtain ⟨_, _, _, _, _, e, _, _, _, _, h1, _⟩ := h
    have := dep_pos e
    omega
  exact ⟨f, fd, ["width", "expression", "words"], ⟨fun vs H Q E h => absurd h (no vs H Q E), fun A outer s H args us vs Q E _ _ _ _ h => absurd h (no vs H Q E)⟩, m, F.kp, F.bindsN fun _ _ _ _ _ _ us hl => match us, hl with | [_, _, _], _ => rfl⟩
theorem pow64 {m : Nat} (h : m ≤ 64) : (2 : Int) ^ m ≤ 2 ^ 64 := by
  rw [PyProof.Rows.two_pow_cast, PyProof.Rows.two_pow_cast]
  exact Int.ofNat_le.mpr (Nat.pow_le_pow_right (by decide) h)
theorem c_value_of1 (F : FnP K "value_of" 27 f fd) (m : mg "value_of" = some (.ref f)) (T : Txt K mg) (Z : Cal P w K mg base 1 "power_of_two" spPow) {n : Nat} (R : Cal P w K mg base (n + 2) "value_of" (spVal n)) : Cal P w K mg base (n + 3) "value_of" (spVal (n + 1)) := by
  refine calD F m sc27 (fun vs H Q E h => ?_) (fun _ _ _ _ _ _ us hl => match us, hl with | [_, _, _], _ => rfl) (fun cdv A outer s H vs Q E hr h => ?_)
  · obtain ⟨_, _, _, _, _, _, rfl, _⟩ := h
    rfl
  obtain ⟨m', v, d, kvs, ρ, e, rfl, hm, ht, ok, hd, hk, hρ, q⟩ := h
  refine ⟨_, pss_cons (ps_set (i := 3) sc27.nd rfl (Or.inl rfl) (pe_c Z hr (pa_cons (pv 0) pa_nil) (by omega))) <|
    pss_cons (ps_if (pt_val (pe_isi T.isi T.str boot_str (pv 1))) (pss_one (ps_ret (pe_dget (hu_of hr) (pv 2) (pv 1) (fun _ _ => rfl)))) pss_nil) <|
    pss_cons (ps_if (pt_val (pe_isi T.isi T.int boot_int (pv 1))) (pss_one (ps_ret (pe_op op_mod (pv 1) (pv 3)))) pss_nil) <|
    pss_cons (ps_set (i := 4) sc27.nd rfl (Or.inl rfl) (pe_ix ix_tup (pv 1) pe_int (fun _ _ => rfl))) <|
    pss_cons (ps_if (pt_cmpR op_in_seq (pv 4) (pe_tup (pa_cons pe_str (pa_cons pe_str (pa_cons pe_str pa_nil)))) (by rfl))
      (pss_cons (ps_set (i := 5) sc27.nd rfl (Or.inl rfl) (pe_c R hr (pa_cons (pv 0) (pa_cons (pe_ix ix_tup (pv 1) pe_int (fun _ _ => rfl)) (pa_cons (pv 2) pa_nil))) (Nat.le_refl _))) <|
       pss_cons (ps_if (pt_cmpR op_eq (pv 4) pe_str (nomark _)) (pss_one (ps_ret (pe_op op_shr (pv 5) (pe_ix ix_tup (pv 1) pe_int (fun _ _ => rfl))))) pss_nil) <|
       pss_one (ps_ret (pe_op op_mod (pe_ifExp (pt_cmpR op_eq (pv 4) pe_str (nomark _)) (pe_op op_mul (pv 5) (pe_ix ix_tup (pv 1) pe_int (fun _ _ => rfl))) (pe_op op_shl (pv 5) (pe_ix ix_tup (pv 1) pe_int (fun _ _ => rfl)))) (pv 3)))) pss_nil) <|
    pss_cons (ps_if (pt_cmpR op_eq (pv 4) pe_str (nomark _)) (pss_one (ps_ret (pe_op op_sub (pe_op op_sub (pv 3) pe_int) (pe_c R hr (pa_cons (pv 0) (pa_cons (pe_ix ix_tup (pv 1) pe_int (fun _ _ => rfl)) (pa_cons (pv 2) pa_nil))) (Nat.le_refl _))))) pss_nil) <|
    pss_cons (ps_par (i := 6) (j := 7) rfl sc27.nd rfl rfl (by decide) rfl rfl (pa_cons (pe_c R hr (pa_cons (pv 0) (pa_cons (pe_ix ix_tup (pv 1) pe_int (fun _ _ => rfl)) (pa_cons (pv 2) pa_nil))) (Nat.le_refl _))
      (pa_cons (pe_c R hr (pa_cons (pv 0) (pa_cons (pe_ix ix_tup (pv 1) pe_int (fun _ _ => rfl)) (pa_cons (pv 2) pa_nil))) (Nat.le_refl _)) pa_nil)) (by rfl)) <|
    pss_cons (ps_if (pt_cmpR op_in_seq (pv 4) (pe_tup (pa_cons pe_str (pa_cons pe_str pa_nil))) (by rfl))
      (pss_one (ps_ret (pe_op op_mod (pe_ifExp (pt_cmpR op_eq (pv 4) pe_str (nomark _)) (pe_op op_add (pv 6) (pv 7)) (pe_op op_sub (pv 6) (pv 7))) (pv 3)))) pss_nil) <|
    pss_cons (ps_if (pt_cmpR op_eq (pv 4) pe_str (nomark _)) (pss_one (ps_ret (pe_op op_and (pv 6) (pv 7)))) pss_nil) <|
    pss_one (ps_ret (pe_ifExp (pt_cmpR op_eq (pv 4) pe_str (nomark _)) (pe_op op_or (pv 6) (pv 7)) (pe_op op_xor (pv 6) (pv 7)))), ?_⟩
  have three : 3 ≤ sizeLine := by decide
  have two : 2 ≤ sizeLine := by decide
  have pp := p2 m'
  have p64 := pow64 hm
  refine ⟨_, rfl, m', rfl, by omega, ?_⟩
  cases e with
  | nm x =>
    obtain rfl : v = .str x := ht
    refine ⟨_, rfl, "str", true, .base (.str x), ki_ss, _, rfl, iteT ⟨_, rfl, _, rfl, d, .int (ρ x), rfl, ?_, q H (Same.refl H)⟩⟩
    rw [← (hρ x (List.mem_singleton.mpr rfl)).1]
    exact DGet.k (k := .inr x) hk
  | num i =>
    obtain rfl : v = .int i := ht
    refine ⟨_, rfl, "int", false, .base (.int i), ki_is, _, rfl, iteF ⟨_, rfl, _, _, .base (.int i), ki_ii, _, rfl, iteT ⟨_, rfl, _, rfl, i, 2 ^ m', rfl, rfl, pp, q H (Same.refl H)⟩⟩⟩
  | bin o a b =>
    obtain ⟨p, x, y, rfl, hp, hx, hy⟩ := ht
    have da : a.dep ≤ n := by simp [Ex.dep] at hd; omega
    have db : b.dep ≤ n := by simp [Ex.dep] at hd; omega
    have wa : WordsAt m' kvs ρ a.names := fun z hz => hρ z (List.mem_append_left _ hz)
    have wb : WordsAt m' kvs ρ b.names := fun z hz => hρ z (List.mem_append_right _ hz)
    refine ⟨_, rfl, "tuple", false, .base (.tup hp), ki_ts, _, rfl, iteF ⟨_, rfl, _, _, .base (.tup hp), ki_ti, _, rfl, iteF ?_⟩⟩
    refine ⟨_, rfl, p, _, 0, .str o.s, rfl, rfl, SqT.of hp, atI_nat (j := 0) rfl, ?_⟩
    refine ⟨_, rfl, three, fun t nt => ?_⟩
    have g1 := same_new nt (.tup (heads3.map V.str))
    refine ⟨t, heads3.map V.str, rfl, .inr (SqT.of upd_same), rfl, strs_flat _, _, rfl, iteN (by rw [inV_str]; exact dF (bop_out o)) ?_⟩
    refine ⟨_, rfl, by cases o <;> rfl, _, rfl, iteN (by cases o <;> decide) ?_⟩
    refine ⟨_, rfl, _, rfl, p, _, 1, x, rfl, rfl, SqT.of (g1 _ _ hp), atI_nat (j := 1) rfl, _, rfl, m', x, d, kvs, ρ, a, rfl, hm, hx.same g1, ok.1, da, g1 _ _ hk, wa, fun H2 g2 => ?_⟩
    have g12 := g1.trans g2
    refine ⟨_, rfl, _, rfl, p, _, 2, y, rfl, rfl, SqT.of (g12 _ _ hp), atI_nat (j := 2) rfl, _, rfl, m', y, d, kvs, ρ, b, rfl, hm, hy.same g12, ok.2, db, g12 _ _ hk, wb, fun H3 g3 => ?_⟩
    have g13 := g12.trans g3
    refine ⟨_, _, rfl, ?_⟩
    refine ⟨_, rfl, two, fun t2 nt2 => ?_⟩
    have g4 := g13.trans (same_new nt2 (.tup (heads2.map V.str)))
    refine ⟨t2, heads2.map V.str, rfl, .inr (SqT.of upd_same), rfl, strs_flat _, _, rfl, ?_⟩
    cases o with
    | plus => exact iteE (by rw [inV_str]; decide) ⟨_, rfl, rfl, _, rfl, iteE (by decide) ⟨_, rfl, _, rfl, _, _, rfl, rfl, _, rfl, _, _, rfl, rfl, pp, q _ g4⟩⟩
    | minus => exact iteE (by rw [inV_str]; decide) ⟨_, rfl, rfl, _, rfl, iteN (by decide) ⟨_, rfl, _, rfl, _, _, rfl, rfl, _, rfl, _, _, rfl, rfl, pp, q _ g4⟩⟩
    | both => exact iteN (by rw [inV_str]; decide) ⟨_, rfl, rfl, _, rfl, iteE (by decide) ⟨_, rfl, _, rfl, _, _, rfl, rfl, q _ g4⟩⟩
    | either => exact iteN (by rw [inV_str]; decide) ⟨_, rfl, rfl, _, rfl, iteN (by decide) ⟨_, rfl, rfl, _, rfl, iteE (by decide) ⟨_, rfl, _, rfl, _, _, rfl, rfl, q _ g4⟩⟩⟩
    | unlike => exact iteN (by rw [inV_str]; decide) ⟨_, rfl, rfl, _, rfl, iteN (by decide) ⟨_, rfl, rfl, _, rfl, iteN (by decide) ⟨_, rfl, _, rfl, _, _, rfl, rfl, q _ g4⟩⟩⟩
  | turned a =>
    obtain ⟨p, x, rfl, hp, hx⟩ := ht
    have da : a.dep ≤ n := by simp [Ex.dep] at hd; omega
    refine ⟨_, rfl, "tuple", false, .base (.tup hp), ki_ts, _, rfl, iteF ⟨_, rfl, _, _, .base (.tup hp), ki_ti, _, rfl, iteF ?_⟩⟩
    refine ⟨_, rfl, p, _, 0, .str "turned", rfl, rfl, SqT.of hp, atI_nat (j := 0) rfl, ?_⟩
    refine ⟨_, rfl, three, fun t nt => ?_⟩
    have g1 := same_new nt (.tup (heads3.map V.str))
    refine ⟨t, heads3.map V.str, rfl, .inr (SqT.of upd_same), rfl, strs_flat _, _, rfl, iteN (by rw [inV_str]; exact dF trn_out3) ?_⟩
    refine ⟨_, rfl, rfl, _, rfl, iteE (by decide) ?_⟩
    refine ⟨_, rfl, _, _, rfl, rfl, _, rfl, _, rfl, p, _, 1, x, rfl, rfl, SqT.of (g1 _ _ hp), atI_nat (j := 1) rfl, _, rfl, m', x, d, kvs, ρ, a, rfl, hm, hx.same g1, ok, da, g1 _ _ hk, hρ, fun H2 g2 => ?_⟩
    exact ⟨_, _, rfl, rfl, q _ (g1.trans g2)⟩
  | sc o k a =>
    obtain ⟨p, x, rfl, hp, hx⟩ := ht
    obtain ⟨k1, k2, oka, k3⟩ := ok.k
    have da : a.dep ≤ n := by simp [Ex.dep] at hd; omega
    have rg := ev_rng hρ.fits (e := a)
    refine ⟨_, rfl, "tuple", false, .base (.tup hp), ki_ts, _, rfl, iteF ⟨_, rfl, _, _, .base (.tup hp), ki_ti, _, rfl, iteF ?_⟩⟩
    refine ⟨_, rfl, p, _, 0, .str o.s, rfl, rfl, SqT.of hp, atI_nat (j := 0) rfl, ?_⟩
    refine ⟨_, rfl, three, fun t nt => ?_⟩
    have g1 := same_new nt (.tup (heads3.map V.str))
    refine ⟨t, heads3.map V.str, rfl, .inr (SqT.of upd_same), rfl, strs_flat _, _, rfl, iteE (by rw [inV_str]; exact dT (sop_in o)) ?_⟩
    refine ⟨_, rfl, _, rfl, p, _, 2, x, rfl, rfl, SqT.of (g1 _ _ hp), atI_nat (j := 2) rfl, _, rfl, m', x, d, kvs, ρ, a, rfl, hm, hx.same g1, oka, da, g1 _ _ hk, hρ, fun H2 g2 => ?_⟩
    have g12 := g1.trans g2
    have hp2 := g12 _ _ hp
    cases o with
    | times =>
      refine ⟨_, rfl, rfl, _, rfl, iteN (by decide) ⟨_, rfl, rfl, _, rfl, iteE (by decide) ⟨_, rfl, _, rfl, p, _, 1, .int k, rfl, rfl, SqT.of hp2, atI_nat (j := 1) rfl, _, _, rfl, rfl, .inr ⟨by omega, by omega⟩, _, rfl, _, _, rfl, rfl, pp, q _ g12⟩⟩⟩
    | up =>
      have k4 := k3 (fun z => nomatch z)
      refine ⟨_, rfl, rfl, _, rfl, iteN (by decide) ⟨_, rfl, rfl, _, rfl, iteN (by decide) ⟨_, rfl, _, rfl, p, _, 1, .int k, rfl, rfl, SqT.of hp2, atI_nat (j := 1) rfl, _, _, rfl, rfl, ⟨k4.1, by omega, ?_⟩, _, rfl, _, _, rfl, rfl, pp, q _ g12⟩⟩⟩
      have e64 : (2 : Int) ^ 64 = 18446744073709551616 := by decide
      have e64' : (2 : Nat) ^ 64 = 18446744073709551616 := by decide
      omega
    | down =>
      have k4 := k3 (fun z => nomatch z)
      exact ⟨_, rfl, rfl, _, rfl, iteE (by decide) ⟨_, rfl, _, rfl, p, _, 1, .int k, rfl, rfl, SqT.of hp2, atI_nat (j := 1) rfl, _, _, rfl, rfl, k4.1, q _ g12⟩⟩
theorem c_value_of (F : FnP K "value_of" 27 f fd) (m : mg "value_of" = some (.ref f)) (T : Txt K mg) (Z : Cal P w K mg base 1 "power_of_two" spPow) : ∀ n, Cal P w K mg base (n + 2) "value_of" (spVal n)
  | 0 => c_value_of0 F m
  | n + 1 => c_value_of1 F m T Z (c_value_of F m T Z n)

/-! ### value -/
def spCheckF : Sp := fun vs H Q _ => ∃ (n : Nat) (a b : Addr) (ps : List Addr) (fl : Fil), vs = [.int n, .ref a, .ref b] ∧ n ≤ 64 ∧ H a = some (.lst ((fnames fl).map V.str)) ∧ FillAt H b ps fl ∧ FitsF n fl ∧ ∀ H', Same H H' → Q .non H'
theorem sc28 : FnScope ["width", "names", "filling"] ["width", "names", "filling"] (L2.defScope (top 28)) := ⟨rfl, rfl, rfl, by decide +kernel, rfl, by decide +kernel, by decide +kernel⟩
theorem c_check_filling (F : FnP K "check_filling" 28 f fd) (m : mg "check_filling" = some (.ref f)) (D : Cal P w K mg base 4 "is_filling" spFill) : Cal P w K mg base 5 "check_filling" spCheckF := by
  refine calD F m sc28 (fun vs H Q E h => ?_) (fun _ _ _ _ _ _ us hl => match us, hl with | [_, _, _], _ => rfl) (fun cdv A outer s H vs Q E hr h => ?_)
  · obtain ⟨_, _, _, _, _, rfl, _⟩ := h
    rfl
  obtain ⟨n, a, b, ps, fl, rfl, hn, ha, hF, fit, q⟩ := h
  refine ⟨_, pss_one (ps_if (pt_not (pt_val (pe_c D hr (pa_cons (pv 0) (pa_cons (pv 1) (pa_cons (pv 2) pa_nil)))))) pss_never pss_nil), ?_⟩
  exact ⟨_, rfl, _, rfl, _, rfl, n, a, b, ps, fl, rfl, hn, ha, hF, fit, fun H' g => ⟨_, rfl, iteF (q H' g)⟩⟩
/-- value -/
def spValue : Sp := fun vs H Q _ => ∃ (m : Nat) (v : V) (b : Addr) (ps : List Addr) (fl : Fil) (e : Ex), vs = [.int m, v, .ref b] ∧ m ≤ 64 ∧ TrV H e v ∧ e.Ok ∧ e.dep ≤ 6 ∧ FillAt H b ps fl ∧ FitsF m fl ∧ fnames fl = norm e.names ∧
  ∀ H', Same H H' → Q (.int (ev m (rho fl) e)) H'
theorem sc29 : FnScope ["width", "expression", "filling"] ["width", "expression", "filling"] (L2.defScope (top 29)) := ⟨rfl, rfl, rfl, by decide +kernel, rfl, by decide +kernel, by decide +kernel⟩
theorem fill_pairs {H : Hp} {K : PySem.W.Frag} : ∀ {ps : List Addr} {fl : Fil}, Paired (PairAt H) ps fl → Paired (fun p kv => SqT K H p [kV kv.1, kv.2]) ps (kvsF fl)
  | _, _, .nil => .nil
  | _, _, .cons h t => .cons (SqT.of h) (fill_pairs t)
/-- as calD, the rule itself -/
theorem okD {x : Str} {i : Nat} {f : Addr} {fd : FuncData} {N ps : List Str} {k : Nat} {sp : Sp} (F : FnP K x i f fd) (S : FnScope N ps (L2.defScope (top i))) (len : ∀ vs H Q E, sp vs H Q E → vs.length = ps.length)
    (hbody : ∀ (cdv : Value) (A : Around) (outer : List Env) (s : Shared) (H : Hp) (vs : List V) (Q : VK) (E : XK), Room k (A.deeper (envOfC x (L2.defScope (top i)) s.heap.objs.size f cdv)) → sp vs H Q E →
      ∃ t, PSs (cxOf CX0 P w K mg base N x (L2.defScope (top i)) f cdv A outer s H E).nox (L2.defBody (top i)) t ∧ t { nx := fun _ H' => Q .non H', rt := Q } (start N vs) H) : FnOk P w K mg base CX0 (k + 1) f fd ps sp :=
  F.ok S len fun cdv A outer s H vs Q E hr h => by
    obtain ⟨t, a, b⟩ := hbody cdv A outer s H vs Q E hr h
    exact ⟨t, a.nox, b⟩
def ps29 : List Str := ["width", "expression", "filling"]
def ks29 : List Str := ["filling", "expression", "width"]
def rev3 {α : Type} : List α → List α
  | [a, b, c] => [c, b, a]
  | l => l
/-- value may be called by place and by keywords -/
def CalV (P : Program) (w : World) (K : PySem.W.Frag) (mg : Str → Option Value) (base : Heap) : Prop :=
  ∃ (f : Addr) (fd : FuncData), FnOk P w K mg base CX0 13 f fd ps29 spValue ∧ mg "value" = some (.ref f) ∧ PySem.W.keepIn K (.ref f) = true ∧ Binds K fd ps29 [] ∧ KBn K fd ps29 0 ks29 (fun _ ws => rev3 ws) (fun _ zs => rev3 zs)
theorem rev3_rel {zs : List V} {ws : List Value} (r : Vals zs ws) : Vals (rev3 zs) (rev3 ws) := by
  match zs, ws, r with
  | [], _, .nil => exact .nil
  | [_], _, .cons h .nil => exact .cons h .nil
  | [_, _], _, .cons h (.cons h2 .nil) => exact .cons h (.cons h2 .nil)
  | [_, _, _], _, .cons h (.cons h2 (.cons h3 .nil)) => exact .cons h3 (.cons h2 (.cons h .nil))
  | _ :: _ :: _ :: _ :: _, _, .cons h (.cons h2 (.cons h3 (.cons h4 t))) => exact .cons h (.cons h2 (.cons h3 (.cons h4 t)))
theorem c_value (F : FnP K "value" 29 f fd) (m : mg "value" = some (.ref f)) (T : Txt K mg) (CW : Cal P w K mg base 4 "check_width" spCheckW) (CE : Cal P w K mg base 12 "check_expression" spCheckE) (CF : Cal P w K mg base 5 "check_filling" spCheckF)
    (NE : Cal P w K mg base 9 "names_of_expression" spNames) (VO : Cal P w K mg base 8 "value_of" (spVal 6)) : CalV P w K mg base := by
  refine ⟨f, fd, okD F sc29 (fun vs H Q E h => ?_) (fun cdv A outer s H vs Q E hr h => ?_), m, F.kp, F.bindsN fun _ _ _ _ _ _ us hl => match us, hl with | [_, _, _], _ => rfl, ⟨fun s us ws X l1 l2 => ?_, fun _ r => rev3_rel r⟩⟩
  · obtain ⟨_, _, _, _, _, _, rfl, _⟩ := h
    rfl
  rotate_left
  · obtain ⟨oc, od, dV, kV, doc, pm, an, cdv, ct, osl, rfl, lk, hcd, hD, hK⟩ := F.ex
    rcases hD with ⟨_, rfl⟩ | ⟨e, _⟩
    · obtain rfl : us = [] := List.eq_nil_of_length_eq_zero l1
      match ws, l2 with
      | [_, _, _], _ => exact .of_eq rfl
    · exact absurd rfl e
  obtain ⟨m', v, b, ps, fl, e, rfl, hm, ht, ok, hd, hF, fit, hn, q⟩ := h
  refine ⟨_, pss_cons (ps_expr (pe_c CW hr (pa_cons (pv 0) pa_nil))) <| pss_cons (ps_expr (pe_c CE hr (pa_cons (pv 1) pa_nil))) <|
    pss_cons (ps_expr (pe_c CF hr (pa_cons (pv 0) (pa_cons (pe_c NE hr (pa_cons (pv 1) pa_nil)) (pa_cons (pv 2) pa_nil))))) <|
    pss_one (ps_ret (pe_c VO hr (pa_cons (pv 0) (pa_cons (pv 1) (pa_cons (pe_t1 (call_dictP rfl) T.dict boot_dict (pv 2)) pa_nil))))), ?_⟩
  refine ⟨_, rfl, m', rfl, hm, ?_⟩
  refine ⟨_, rfl, v, e, rfl, ht, ok, by omega, fun H1 g1 => ?_⟩
  refine ⟨_, rfl, _, rfl, v, e, rfl, ht.same g1, ok, hd, fun H2 l g2 hl => ?_⟩
  have g12 := g1.trans g2
  refine ⟨_, rfl, m', l, b, ps, fl, rfl, hm, by rw [hn]; exact hl, hF.same g12, fit, fun H3 g3 => ?_⟩
  have g13 := g12.trans g3
  have hF3 := hF.same g13
  refine ⟨_, rfl, _, rfl, _, rfl, b, ps, kvsF fl, rfl, SqL.of hF3.lst, fill_pairs hF3.all, fun d nd => ?_⟩
  have g4 := g13.trans (same_new nd (.dK (mergeK [] (kvsF fl))))
  refine ⟨m', v, d, _, rho fl, e, rfl, hm, ht.same g4, ok, hd, upd_same, words_at fit (by rw [hn]; exact norm_nd _) (fun x hx => by rw [hn]; exact mem_norm.mpr ⟨names_ok_of ok x hx, hx⟩), fun H4 g5 => q _ (g4.trans g5)⟩
/-- called by place -/
theorem CalV.c (h : CalV P w K mg base) : Cal P w K mg base 13 "value" spValue := by
  obtain ⟨f, fd, F, m, kp, b, _⟩ := h
  exact ⟨f, fd, ps29, F, m, kp, b⟩
end
section
variable {X : Cx} {j : Nat} {p pos : Pos} {kws : List Keyword} {tk : TA}
/-- value(filling = .., expression = .., width = ..) -/
theorem pe_cK (c : CalV X.prog X.w X.K X.mg X.base) (hr : Room j X.A) (hkw : PK X kws tk) (hk : 13 ≤ j := by decide) (hg : Gl X "value" := by rfl)
    (hall : (backToKw pos (keywordEach kws X.env)).all (·.1.isSome) = true := by rfl) (hks : (backToKw pos (keywordEach kws X.env)).filterMap (·.1) = ks29 := by rfl)
    (hpl : ((backTo pos (starEach [] X.env)).any (·.1) || (backToKw pos (keywordEach kws X.env)).any (·.1.isNone)) = false := by rfl) :
    PE X (.Call (.Name "value" p) [] kws pos) (tCallN 0 ks29.length spValue (fun _ zs => rev3 zs) E0 tNil tk) := by
  obtain ⟨f, fd, F, m, kp, _, b⟩ := c
  exact pe_callK0 F (hr.mono hk) hg m kp b pass0 hkw hall hks (by decide) hpl
end
end Hw
/-! ## KLaw1 -/
namespace Hw
open PySem PySem.Spec PyProof.Rows L2

/-! ### the generator -/
/-- a generator with some draws left -/
def GenAt (H : Hp) (g : Addr) (n : Nat) : Prop := ∃ a b c : Int, H g = some (.lst [.int a, .int b, .int c]) ∧ 0 ≤ c ∧ c + 3 * n ≤ 1000000000000000000
theorem GenAt.less {H : Hp} {g : Addr} {n k : Nat} (h : GenAt H g n) (hk : k ≤ n) : GenAt H g k := by
  obtain ⟨a, b, c, h1, h2, h3⟩ := h
  exact ⟨a, b, c, h1, h2, by omega⟩
theorem GenAt.same {H H' : Hp} {g : Addr} {n : Nat} (h : GenAt H g n) (s : Same H H') : GenAt H' g n := by
  obtain ⟨a, b, c, h1, h2⟩ := h
  exact ⟨a, b, c, s _ _ h1, h2⟩
/-- the same, but for g -/
def SameG (g : Addr) (H H' : Hp) : Prop := ∀ b o, b ≠ g → H b = some o → H' b = some o
theorem SameG.refl {g : Addr} {H : Hp} : SameG g H H := fun _ _ _ h => h
theorem SameG.trans {g : Addr} {H H1 H2 : Hp} (h : SameG g H H1) (k : SameG g H1 H2) : SameG g H H2 := fun b o n e => k b o n (h b o n e)
theorem SameG.of {g : Addr} {H H' : Hp} (s : Same H H') : SameG g H H' := fun b o _ e => s b o e
theorem SameG.set {g : Addr} {H : Hp} {o : HO} : SameG g H (upd H g o) := fun b u n e => by rw [upd_ne n]; exact e
theorem SameG.then {g : Addr} {H H1 H2 : Hp} (h : SameG g H H1) (k : Same H1 H2) : SameG g H H2 := h.trans (.of k)
/-- something other than a list stays -/
theorem SameG.keep {g : Addr} {n : Nat} {H H' : Hp} (s : SameG g H H') (G : GenAt H g n) {b : Addr} {o : HO} (e : H b = some o) (ho : ∀ a b c : Int, o ≠ .lst [.int a, .int b, .int c]) : H' b = some o := by
  refine s b o (fun z => ?_) e
  subst z
  obtain ⟨a, b', c, h1, _⟩ := G
  rw [h1] at e
  exact ho a b' c (Option.some.inj e).symm
theorem SameG.tup {g : Addr} {n : Nat} {H H' : Hp} (s : SameG g H H') (G : GenAt H g n) {b : Addr} {xs : List V} (e : H b = some (.tup xs)) : H' b = some (.tup xs) := s.keep G e fun _ _ _ z => nomatch z
theorem TrV.sameG {g : Addr} {n : Nat} {H H' : Hp} (s : SameG g H H') (G : GenAt H g n) : ∀ {e : Ex} {v : V}, TrV H e v → TrV H' e v
  | .nm _, _, h => h
  | .num _, _, h => h
  | .bin _ _ _, _, ⟨p, x, y, h1, h2, h3, h4⟩ => ⟨p, x, y, h1, s.tup G h2, TrV.sameG s G h3, TrV.sameG s G h4⟩
  | .turned _, _, ⟨p, x, h1, h2, h3⟩ => ⟨p, x, h1, s.tup G h2, TrV.sameG s G h3⟩
  | .sc _ _ _, _, ⟨p, x, h1, h2, h3⟩ => ⟨p, x, h1, s.tup G h2, TrV.sameG s G h3⟩
theorem SameG.pairs {g : Addr} {n : Nat} {H H' : Hp} (s : SameG g H H') (G : GenAt H g n) {ps : List Addr} {fl : Fil} (h : Paired (PairAt H) ps fl) : Paired (PairAt H') ps fl := Paired.imp (fun _ _ z => s.tup G z) h
theorem SameG.fill {g : Addr} {n : Nat} {H H' : Hp} (s : SameG g H H') (G : GenAt H g n) {b : Addr} {ps : List Addr} {fl : Fil} (hb : b ≠ g) (h : FillAt H b ps fl) : FillAt H' b ps fl := ⟨s _ _ hb h.lst, s.pairs G h.all⟩

section
variable {P : Program} {w : World} {K : PySem.W.Frag} {mg : Str → Option Value} {base : Heap} {f : Addr} {fd : FuncData}
def spHash : Sp := fun vs H Q _ => ∃ a c : Int, vs = [.int a, .int c] ∧ 0 ≤ c ∧ c ≤ 2000000000000000000 ∧ ∀ r : Int, Q (.int r) H
theorem sc31 : FnScope ["_law_seed", "_law_index", "_law_mixed"] ["_law_seed", "_law_index"] (L2.defScope (top 31)) := ⟨rfl, rfl, rfl, by decide +kernel, rfl, by decide +kernel, by decide +kernel⟩
theorem c_hash (F : FnP K "_law_hash" 31 f fd) (m : mg "_law_hash" = some (.ref f)) (T : Txt K mg) : Cal P w K mg base 1 "_law_hash" spHash := by
  refine calD F m sc31 (fun vs H Q E h => ?_) (fun _ _ _ _ _ _ us hl => match us, hl with | [_, _], _ => rfl) (fun cdv A outer s H vs Q E hr h => ?_)
  · obtain ⟨_, _, rfl, _⟩ := h
    rfl
  obtain ⟨a, c, rfl, h0, h1, q⟩ := h
  refine ⟨_, pss_cons (ps_set (i := 2) sc31.nd rfl (Or.inl rfl) (pe_op op_mod (pe_t1 call_int1 T.int boot_int (pe_op op_add (pe_op op_add (pe_op op_add (pe_op op_mul (pv 0) pe_int) (pe_op op_mul (pe_op op_mul pe_int (pv 1)) (pv 1))) (pe_op op_mul pe_int (pv 1))) pe_int)) pe_int)) <|
    pss_cons (ps_set (i := 2) sc31.nd rfl (Or.inl rfl) (pe_op op_mod (pe_t1 call_int1 T.int boot_int (pe_op op_add (pe_op op_add (pe_op op_mul (pv 2) (pv 2)) (pe_op op_mul pe_int (pv 1))) pe_int)) pe_int)) <|
    pss_one (ps_ret (pe_op op_mod (pe_t1 call_int1 T.int boot_int (pe_op op_mul (pv 2) pe_int)) pe_int)), ?_⟩
  refine ⟨_, rfl, _, _, rfl, rfl, .inr ⟨by omega, by omega⟩, _, rfl, _, _, rfl, rfl, .inl ⟨by omega, by omega⟩, _, rfl, _, _, rfl, rfl, .inr ⟨by omega, by omega⟩, _, _, rfl, rfl, _, rfl, _, _, rfl, rfl, .inl ⟨by omega, by omega⟩, _, _, rfl, rfl, _, _, rfl, rfl,
    .inl ⟨_, rfl, _, _, rfl, rfl, by show (0 : Int) < 2147483629; decide, ?_⟩⟩
  have z1 : ∀ x : Int, -(2 ^ 64) < x % 2147483629 ∧ x % 2147483629 < 2 ^ 64 := fun x => by omega
  refine ⟨_, rfl, _, rfl, _, _, rfl, rfl, .inl (z1 _), _, rfl, _, _, rfl, rfl, .inl ⟨by omega, by omega⟩, _, _, rfl, rfl, _, _, rfl, rfl, .inl ⟨_, rfl, _, _, rfl, rfl, by show (0 : Int) < 2147483587; decide, ?_⟩⟩
  exact ⟨_, rfl, _, _, rfl, rfl, .inr ⟨by omega, by omega⟩, .inl ⟨_, rfl, _, _, rfl, rfl, by show (0 : Int) < 2147483647; decide, q _⟩⟩

def spRand : Sp := fun vs H Q _ => ∃ (g : Addr) (b : Int) (n : Nat), vs = [.ref g, .int b] ∧ GenAt H g (n + 1) ∧ 0 < b ∧ b ≤ 18446744073709551616 ∧ ∀ H' r, SameG g H H' → GenAt H' g n → 0 ≤ r → r < b → Q (.int r) H'
theorem sc32 : FnScope ["_law_generator_here", "_law_bound", "_law_drawn", "_law_turn"] ["_law_generator_here", "_law_bound"] (L2.defScope (top 32)) := ⟨rfl, rfl, rfl, by decide +kernel, rfl, by decide +kernel, by decide +kernel⟩
theorem c_random (F : FnP K "_law_random" 32 f fd) (m : mg "_law_random" = some (.ref f)) (T : Txt K mg) (D : Cal P w K mg base 1 "_law_hash" spHash) : Cal P w K mg base 2 "_law_random" spRand := by
  refine calD F m sc32 (fun vs H Q E h => ?_) (fun _ _ _ _ _ _ us hl => match us, hl with | [_, _], _ => rfl) (fun cdv A outer s H vs Q E hr h => ?_)
  · obtain ⟨_, _, _, rfl, _⟩ := h
    rfl
  obtain ⟨g, b, n, rfl, ⟨x0, x1, c, hg, c0, c1⟩, b0, b1, q⟩ := h
  refine ⟨_, pss_cons (ps_if (pt_cmpR op_gt (pe_ix ix_list (pv 0) pe_int (fun _ _ => rfl)) pe_int (nomark _))
      (pss_cons (ps_set (i := 2) sc32.nd rfl (Or.inl rfl) (pe_op op_mod (pe_t1 call_int1 T.int boot_int (pe_ix ix_list (pv 0) pe_int (fun _ _ => rfl))) (pv 1))) <|
       pss_cons (ps_asg (pe_op op_fdivW (pe_ix ix_list (pv 0) pe_int (fun _ _ => rfl)) (pv 1)) (pg_sub (pv 0) pe_int set_list)) <|
       pss_one (ps_ret (pv 2))) pss_nil) <|
    pss_cons (ps_set (i := 2) sc32.nd rfl (Or.inl rfl) pe_int) <|
    pss_cons (ps_for PassesOwn.never rfl (pi_range1 (by rfl) T.range (pa_cons (pe_op op_add pe_int (pe_op op_fdiv (pe_bits (pv 1)) pe_int)) pa_nil)) (pg_name (i := 3) sc32.nd rfl (Or.inl rfl))
      (pss_cons (ps_asg (pe_op op_add (pe_ix ix_list (pv 0) pe_int (fun _ _ => rfl)) pe_int) (pg_sub (pv 0) pe_int set_list)) <|
       pss_one (ps_set (i := 2) sc32.nd rfl (Or.inl rfl) (pe_op op_add (pe_op op_mul (pv 2) pe_int) (pe_c D hr (pa_cons (pe_ix ix_list (pv 0) pe_int (fun _ _ => rfl)) (pa_cons (pe_ix ix_list (pv 0) pe_int (fun _ _ => rfl)) pa_nil))))))) <|
    pss_one (ps_ret (pe_op op_mod (pe_t1 call_int1 T.int boot_int (pv 2)) (pv 1))), ?_⟩
  have n2 : b.natAbs < 2 ^ 65 := by
    have : (2 : Nat) ^ 65 = 36893488147419103232 := by decide
    omega
  have last : ∀ d : Int, 0 ≤ d % b ∧ d % b < b := fun d => ⟨Int.emod_nonneg _ (by omega), Int.emod_lt_of_pos _ b0⟩
  refine ⟨_, rfl, g, _, 0, .int x0, rfl, rfl, SqL.of hg, rfl, _, _, rfl, rfl, _, rfl, ite2 (fun _ => ?_) (fun _ => ?_)⟩
  · refine ⟨_, rfl, g, _, 0, .int x0, rfl, rfl, SqL.of hg, rfl, .inl ⟨_, rfl, _, rfl, _, _, rfl, rfl, b0, ?_⟩⟩
    refine ⟨_, rfl, g, _, 0, .int x0, rfl, rfl, SqL.of hg, rfl, _, rfl, _, _, rfl, rfl, wide_div b0 n2 (by decide) (by decide), _, rfl, g, _, 0, 0, rfl, rfl, hg, rfl, ?_⟩
    exact ⟨_, rfl, q _ _ SameG.set ⟨_, _, c, upd_same, c0, by omega⟩ (last _).1 (last _).2⟩
  · have bits := PyProof.Rows.intBits_le n2
    refine ⟨_, rfl, b, rfl, _, _, rfl, rfl, ⟨by decide, by decide⟩, _, _, rfl, rfl, _, rfl, by omega, by omega, ?_⟩
    have k3 : (1 + (Builtin.Int.intBits b : Int) / 30).toNat ≤ 3 := by omega
    generalize (1 + (Builtin.Int.intBits b : Int) / 30).toNat = k at k3
    refine for_range (lo := 0) (n := k) (fun i σ H' => ∃ (d : Int) (z : Option V), σ = [some (.ref g), some (.int b), some (.int d), z] ∧ SameG g H H' ∧ H' g = some (.lst [.int x0, .int x1, .int (c + i)])) ⟨0, none, rfl, SameG.refl, by rw [hg]; simp⟩
      (fun i σ H' hi ⟨d, z, e1, s1, h1⟩ => ?_) (fun σ H' ⟨d, z, e1, s1, h1⟩ => ?_)
    · subst e1
      refine ⟨_, rfl, g, _, 2, _, rfl, rfl, SqL.of h1, rfl, _, _, rfl, rfl, _, rfl, g, _, 2, 2, rfl, rfl, h1, rfl, ?_⟩
      refine ⟨_, rfl, _, _, rfl, rfl, .inr ⟨by omega, by omega⟩, _, rfl, g, _, 1, _, rfl, rfl, SqL.of upd_same, rfl, _, rfl, g, _, 2, _, rfl, rfl, SqL.of upd_same, rfl, x1, c + i + 1, rfl, by omega, by omega, fun r => ?_⟩
      refine ⟨_, _, rfl, rfl, _, _, rfl, s1.trans SameG.set, ?_⟩
      rw [upd_same]
      show some (HO.lst [.int x0, .int x1, .int (c + i + 1)]) = some (HO.lst [.int x0, .int x1, .int (c + ((i + 1 : Nat) : Int))])
      rw [show c + ((i + 1 : Nat) : Int) = c + i + 1 by omega]
    · subst e1
      exact ⟨_, rfl, .inl ⟨_, rfl, _, rfl, _, _, rfl, rfl, b0, q _ _ s1 ⟨_, _, _, h1, by omega, by omega⟩ (last _).1 (last _).2⟩⟩

def spCell : Sp := fun vs H Q _ => ∃ (a : Addr) (i : Nat) (ns : List Int), vs = [.ref a, .int i] ∧ SqL K H a (ns.map V.int) ∧ ∀ H' v, Same H H' → Q (.int v) H'
theorem sc33 : FnScope ["_law_script", "_law_index"] ["_law_script", "_law_index"] (L2.defScope (top 33)) := ⟨rfl, rfl, rfl, by decide +kernel, rfl, by decide +kernel, by decide +kernel⟩
theorem cut_ints (ns : List Int) (lo hi : Option Int) : ∃ ms : List Int, cutV (ns.map V.int) lo hi = ms.map V.int := by
  unfold cutV
  rw [← List.map_drop, ← List.map_take]
  exact ⟨_, rfl⟩
theorem c_cell (F : FnP K "_law_cell" 33 f fd) (m : mg "_law_cell" = some (.ref f)) (T : Txt K mg) : Cal P w K mg base 1 "_law_cell" (spCell (K := K)) := by
  refine calD F m sc33 (fun vs H Q E h => ?_) (fun _ _ _ _ _ _ us hl => match us, hl with | [_, _], _ => rfl) (fun cdv A outer s H vs Q E hr h => ?_)
  · obtain ⟨_, _, _, rfl, _⟩ := h
    rfl
  obtain ⟨a, i, ns, rfl, hs, q⟩ := h
  refine ⟨_, pss_cons (ps_if (pt_cmpR op_lt (pv 1) (pe_b1 call_len_seq T.len boot_len (pv 0)) (nomark _)) (pss_one (ps_ret (pe_ix ix_list (pv 0) (pv 1) (fun _ _ => rfl)))) pss_nil) <|
    pss_one (ps_ret (pe_op op_mod (pe_b1 (cr_sum rfl) T.sum boot_sum (pe_slice sl_list (pv 0) po_none (po_some pe_int))) pe_int)), ?_⟩
  refine ⟨_, rfl, _, rfl, a, _, rfl, .inl hs, _, _, rfl, rfl, _, rfl, ite2 (fun z => ?_) (fun _ => ?_)⟩
  · have z' : i < ns.length := by
      have := of_decide_eq_true z
      rw [List.length_map] at this
      omega
    refine ⟨_, rfl, _, rfl, a, _, i, .int ns[i], rfl, rfl, hs, atI_nat ?_, q H _ (Same.refl H)⟩
    rw [List.getElem?_map, List.getElem?_eq_getElem z']
    rfl
  · refine ⟨_, rfl, 1, rfl, a, _, rfl, hs, fun p np => ?_⟩
    obtain ⟨ms, e⟩ := cut_ints ns none (some 1)
    refine ⟨p, ms, rfl, SqL.of (by rw [upd_same, e]), _, _, rfl, rfl, by show (0 : Int) < 1000003; decide, q _ _ (same_new np _)⟩

def spGen (K : PySem.W.Frag) : Sp := fun vs H Q _ => ∃ (a : Addr) (i : Nat) (ns : List Int), vs = [.ref a, .int i] ∧ i ≤ 4 ∧ SqL K H a (ns.map V.int) ∧ ∀ H' g, Same H H' → GenAt H' g 100000 → H g = none → Q (.ref g) H'
theorem sc34 : FnScope ["_law_script", "_law_index", "_law_seed"] ["_law_script", "_law_index"] (L2.defScope (top 34)) := ⟨rfl, rfl, rfl, by decide +kernel, rfl, by decide +kernel, by decide +kernel⟩
theorem none_of {H H' : Hp} (s : Same H H') {p : Addr} (h : H' p = none) : H p = none := by
  cases e : H p with
  | none => rfl
  | some o => rw [s _ _ e] at h; cases h
theorem powp : CPowW (10 ^ (60 : Int).toNat) 10 := by
  have b : ((10 : Int) ^ (60 : Int).toNat).natAbs < 2 ^ 200 := by decide
  have := PyProof.Rows.intBits_le b
  refine ⟨by decide, ?_⟩
  have e : (2 : Int) ^ 27 = 134217728 := by decide
  rw [e]
  omega
theorem c_generator (F : FnP K "_law_generator" 34 f fd) (m : mg "_law_generator" = some (.ref f)) (T : Txt K mg) (D : Cal P w K mg base 1 "_law_cell" (spCell (K := K))) : Cal P w K mg base 2 "_law_generator" (spGen K) := by
  refine calD F m sc34 (fun vs H Q E h => ?_) (fun _ _ _ _ _ _ us hl => match us, hl with | [_, _], _ => rfl) (fun cdv A outer s H vs Q E hr h => ?_)
  · obtain ⟨_, _, _, rfl, _⟩ := h
    rfl
  obtain ⟨a, i, ns, rfl, i4, hs, q⟩ := h
  refine ⟨_, pss_cons (ps_set (i := 2) sc34.nd rfl (Or.inl rfl) (pe_c D hr (pa_cons (pv 0) (pa_cons (pv 1) pa_nil)))) <|
    pss_one (ps_ret (pe_lst (pa_cons (pe_op op_mod (pe_t1 call_int1 T.int boot_int (pe_callB (call_max2 rfl) (by rfl) T.max boot_max (pa_cons (pe_op op_sub (pv 2) (pe_op op_pow pe_int pe_int)) (pa_cons pe_int pa_nil)) (by decide) (by decide) (by rfl) (by rfl))) (pe_op op_powW (pe_op op_pow pe_int pe_int) pe_int)) <|
      pa_cons (pe_op op_mod (pe_t1 call_int1 T.int boot_int (pv 2)) pe_int) <| pa_cons (pe_op op_mul pe_int (pv 1)) pa_nil))), ?_⟩
  refine ⟨_, rfl, _, rfl, a, i, ns, rfl, hs, fun H1 v g1 => ?_⟩
  refine ⟨_, rfl, _, _, rfl, rfl, ⟨by decide, by decide, by decide⟩, _, _, rfl, rfl, _, _, rfl, .inl ⟨_, rfl, _, _, rfl, rfl, ⟨by decide, by decide, by decide⟩, _, _, rfl, rfl, powp, _, _, rfl, rfl, by show (0 : Int) < (10 ^ Int.toNat 60) ^ Int.toNat 10; decide, ?_⟩⟩
  refine ⟨_, rfl, .inl ⟨_, rfl, _, _, rfl, rfl, by show (0 : Int) < 2147483647; decide, _, rfl, _, _, rfl, rfl, .inl ⟨by omega, by omega⟩, by show 3 ≤ sizeLine; decide, fun p np => ?_⟩⟩
  exact q _ p (g1.trans (same_new np _)) ⟨_, _, _, upd_same, by omega, by omega⟩ (none_of g1 np)

def spLP : Sp := fun vs H Q _ => ∃ n : Nat, vs = [.int n] ∧ n ≤ 1000 ∧ Q (.int (2 ^ n)) H
theorem sc35 : FnScope ["_law_many", "_law_found", "_law_turn"] ["_law_many"] (L2.defScope (top 35)) := ⟨rfl, rfl, rfl, by decide +kernel, rfl, by decide +kernel, by decide +kernel⟩
theorem c_lpower (F : FnP K "_law_power" 35 f fd) (m : mg "_law_power" = some (.ref f)) (T : Txt K mg) : Cal P w K mg base 1 "_law_power" spLP := by
  refine calD F m sc35 (fun vs H Q E h => ?_) (fun _ _ _ _ _ _ us hl => match us, hl with | [_], _ => rfl) (fun cdv A outer s H vs Q E hr h => ?_)
  · obtain ⟨_, rfl, _⟩ := h
    rfl
  obtain ⟨n, rfl, hn, q⟩ := h
  refine ⟨_, pss_cons (ps_set (i := 1) sc35.nd rfl (Or.inl rfl) pe_int) <|
    pss_cons (ps_for PassesOwn.never rfl (pi_range1 (by rfl) T.range (pa_cons (pv 0) pa_nil)) (pg_name (i := 2) sc35.nd rfl (Or.inl rfl)) (pss_one (ps_set (i := 1) sc35.nd rfl (Or.inl rfl) (pe_op op_mul (pv 1) pe_int)))) <|
    pss_one (ps_ret (pv 1)), ?_⟩
  refine ⟨_, rfl, _, rfl, by omega, by omega, ?_⟩
  rw [Int.toNat_natCast]
  refine for_range (lo := 0) (n := n) (fun i σ H' => ∃ (z : Option V), σ = [some (.int n), some (.int (2 ^ i)), z] ∧ H' = H) ⟨none, rfl, rfl⟩ (fun i σ H' hi ⟨z, e1, e2⟩ => ?_) (fun σ H' ⟨z, e1, e2⟩ => ?_)
  · subst e1 e2
    exact ⟨_, rfl, _, _, rfl, rfl, .inr ⟨by omega, by omega⟩, _, rfl, rfl⟩
  · subst e1 e2
    exact ⟨_, rfl, q⟩
def spLB : Sp := fun vs H Q _ => ∃ (a : Int) (n : Nat), vs = [.int a, .int n] ∧ n ≤ 1000 ∧ Q (.int (bitOf a n)) H
theorem sc36 : FnScope ["_law_word", "_law_place"] ["_law_word", "_law_place"] (L2.defScope (top 36)) := ⟨rfl, rfl, rfl, by decide +kernel, rfl, by decide +kernel, by decide +kernel⟩
theorem div2 {n : Nat} (h : n ≤ 1000) : CDivW 0 (2 ^ n) := by
  refine wide_div (p2 n) (b := n + 1) ?_ (by omega) (by omega)
  rw [PyProof.Rows.two_pow_cast, Int.natAbs_natCast]
  exact Nat.pow_lt_pow_right (by decide) (by omega)
theorem c_lbit (F : FnP K "_law_bit" 36 f fd) (m : mg "_law_bit" = some (.ref f)) (T : Txt K mg) (D : Cal P w K mg base 1 "_law_power" spLP) : Cal P w K mg base 2 "_law_bit" spLB := by
  refine calD F m sc36 (fun vs H Q E h => ?_) (fun _ _ _ _ _ _ us hl => match us, hl with | [_, _], _ => rfl) (fun cdv A outer s H vs Q E hr h => ?_)
  · obtain ⟨_, _, rfl, _⟩ := h
    rfl
  obtain ⟨a, n, rfl, hn, q⟩ := h
  refine ⟨_, pss_one (ps_ret (pe_op op_mod (pe_t1 call_int1 T.int boot_int (pe_op op_fdivW (pv 0) (pe_c D hr (pa_cons (pv 1) pa_nil)))) pe_int)), ?_⟩
  exact ⟨_, rfl, _, rfl, n, rfl, hn, _, _, rfl, rfl, div2 hn, .inl ⟨_, rfl, _, _, rfl, rfl, by show (0 : Int) < 2; decide, q⟩⟩
end
end Hw
/-! ## KLaw2 -/
namespace Hw
open PySem PySem.Spec PyProof.Rows L2
section
variable {P : Program} {w : World} {K : PySem.W.Frag} {mg : Str → Option Value} {base : Heap} {f : Addr} {fd : FuncData}
def n37 : List Str := ["_law_width", "_law_told", "_law_words_here", "_law_whole", "_law_parts", "_law_inner", "_law_found", "_law_place", "_law_many", "_law_wanted", "_law_part"]
theorem sc37 : FnScope n37 ["_law_width", "_law_told", "_law_words_here"] (L2.defScope (top 37)) := ⟨rfl, rfl, rfl, by decide +kernel, rfl, by decide +kernel, by decide +kernel⟩
theorem c_lvalue0 (F : FnP K "_law_value" 37 f fd) (m : mg "_law_value" = some (.ref f)) : Cal P w K mg base 3 "_law_value" (spVal 0) := by
  have no : ∀ vs H Q E, ¬ spVal 0 vs H Q E := fun vs H Q E h => by
    obtain ⟨_, _, _, _, _, e, _, _, _, _, h1, _⟩ := h
    have := dep_pos e
    omega
  exact ⟨f, fd, ["_law_width", "_law_told", "_law_words_here"], ⟨fun vs H Q E h => absurd h (no vs H Q E), fun A outer s H args us vs Q E _ _ _ _ h => absurd h (no vs H Q E)⟩, m, F.kp, F.bindsN fun _ _ _ _ _ _ us hl => match us, hl with | [_, _, _], _ => rfl⟩
theorem inV_int (h : Int) : ∀ hs : List Int, inV (.int h) (hs.map V.int) = decide (h ∈ hs)
  | [] => rfl
  | x :: r => by
    have ih := inV_int h r
    show (eqV (.int x) (.int h) || inV (.int h) (r.map V.int)) = _
    rw [ih]
    show ((x == h) || _) = _
    by_cases e : x = h
    · subst e
      simp
    · have e2 : ¬ h = x := fun z => e z.symm
      simp [e, e2]
theorem ints_flat (hs : List Int) : (hs.map V.int).all flatV = true := by
  rw [List.all_map]
  exact List.all_eq_true.mpr fun _ _ => rfl
def bitsS : List Str := ["both", "either", "unlike"]
/-- the place of a word of bits -/
def Bop.at_ : Bop → Nat
  | .either => 1
  | .unlike => 2
  | _ => 0
theorem bop_at {o : Bop} (h : o.bits = true) : (bitsS.map V.str)[o.at_]? = some (.str o.s) ∧ eqV (.str o.s) (.str o.s) = true ∧ ∀ (m : Nat) (z : V), m < o.at_ → (bitsS.map V.str)[m]? = some z → eqV z (.str o.s) = false := by
  cases o with
  | plus => cases h
  | minus => cases h
  | both => exact ⟨rfl, by decide, fun m z hm => absurd hm (Nat.not_lt_zero _)⟩
  | either => 
    refine ⟨rfl, by decide, fun m z hm hz => ?_⟩
    match m, hm, hz with
    | 0, _, hz =>
      obtain rfl : V.str "both" = z := Option.some.inj hz
      decide
  | unlike => 
    refine ⟨rfl, by decide, fun m z hm hz => ?_⟩
    match m, hm, hz with
    | 0, _, hz =>
      obtain rfl : V.str "both" = z := Option.some.inj hz
      decide
    | 1, _, hz =>
      obtain rfl : V.str "either" = z := Option.some.inj hz
      decide
theorem same_over {H1 H2 : Hp} {D : Addr} (g : Same H1 H2) (h : H1 D = none) (o : HO) : Same H1 (upd H2 D o) := fun b u q => by rw [upd_ne (ne_of_none q h)]; exact g b u q
theorem take_step {α β : Type} {es : List α} {h : α → β} {i : Nat} {c : α} (e : es[i]? = some c) : (es.map h).take (i + 1) = (es.map h).take i ++ [h c] := by
  rw [List.take_add_one, List.getElem?_map, e]
  rfl
theorem bl01 (b : Bool) : -(2 ^ 64) < (if b = true then (1 : Int) else 0) ∧ (if b = true then (1 : Int) else 0) < 2 ^ 64 := by cases b <;> decide
theorem sumB_step (o : Bop) (a b : Int) (i : Nat) : sumB o a b i + 2 ^ i * (if inV (.int (bitOf a i + bitOf b i)) ((bitW o).map V.int) = true then 1 else 0) = sumB o a b (i + 1) := by
  show _ = sumB o a b i + 2 ^ i * (if (bitOf a i + bitOf b i) ∈ bitW o then 1 else 0)
  rw [inV_int]
  by_cases c : (bitOf a i + bitOf b i) ∈ bitW o
  · rw [dT c, if_pos rfl, if_pos c]
  · rw [dF c, if_neg Bool.false_ne_true, if_neg c]
theorem div1 {n : Nat} (h : n ≤ 1000) (a : Int) : CDivW a (2 ^ n) := div2 h
theorem nat_of {k : Int} (h : 0 ≤ k) : ∃ n : Nat, k = (n : Int) := ⟨k.toNat, by omega⟩
theorem c_lvalue1 (F : FnP K "_law_value" 37 f fd) (m : mg "_law_value" = some (.ref f)) (T : Txt K mg) (Z : Cal P w K mg base 1 "_law_power" spLP) (B : Cal P w K mg base 2 "_law_bit" spLB) {n : Nat} (R : Cal P w K mg base (n + 3) "_law_value" (spVal n)) :
    Cal P w K mg base (n + 4) "_law_value" (spVal (n + 1)) := by
  refine calD F m sc37 (fun vs H Q E h => ?_) (fun _ _ _ _ _ _ us hl => match us, hl with | [_, _, _], _ => rfl) (fun cdv A outer s H vs Q E hr h => ?_)
  · obtain ⟨_, _, _, _, _, _, rfl, _⟩ := h
    rfl
  obtain ⟨m', v, d, kvs, ρ, e, rfl, hm, ht, ok, hd, hk, hρ, q⟩ := h
  have l1 : 1 ≤ n + 3 := by omega
  have l2 : 2 ≤ n + 3 := by omega
  refine ⟨_, pss_cons (ps_set (i := 3) sc37.nd rfl (Or.inl rfl) (pe_c Z hr (pa_cons (pv 0) pa_nil) l1)) <|
    pss_cons (ps_if (pt_val (pe_isi T.isi T.str boot_str (pv 1))) (pss_one (ps_ret (pe_dget (hu_of hr) (pv 2) (pv 1) (fun _ _ => rfl)))) pss_nil) <|
    pss_cons (ps_if (pt_val (pe_isi T.isi T.int boot_int (pv 1))) (pss_one (ps_ret (pe_op op_mod (pe_t1 call_int1 T.int boot_int (pv 1)) (pv 3)))) pss_nil) <|
    pss_cons (ps_setLc (i := 4) (own := [("_law_part", 10)]) (g := gName 10) (by rfl) sc37.nd rfl rfl (sw_true rfl rfl rfl (by decide +kernel)) (pi_tup (pe_slice sl_tup (pv 1) (po_some pe_int) po_none))
      (blkOk_by (own := [("_law_part", 10)]) (N := n37) (sc := L2.defScope (top 37)) (by decide +kernel)) (fun _ _ _ _ _ => pg_name (i := 10) sc37.nd rfl (Or.inl rfl))
      (fun _ _ _ _ _ => pts_one (pt_cmpR (r := rIn K true) op_notIn_seq (pe_ix (r := rIxT K) ix_tup (pv 1) pe_int (fun _ _ => rfl)) (pe_lst (pa_cons pe_str (pa_cons pe_str (pa_cons pe_str pa_nil)))) (by rfl)))
      (fun _ _ _ _ _ => pe_c R hr (pa_cons (pv 0) (pa_cons (pv 10) (pa_cons (pv 2) pa_nil))) (Nat.le_refl _))) <|
    pss_cons (ps_if (pt_cmpR op_in_seq (pe_ix ix_tup (pv 1) pe_int (fun _ _ => rfl)) (pe_lst (pa_cons pe_str (pa_cons pe_str (pa_cons pe_str pa_nil)))) (by rfl))
      (pss_cons (ps_set (i := 5) sc37.nd rfl (Or.inl rfl) (pe_c R hr (pa_cons (pv 0) (pa_cons (pe_ix ix_tup (pv 1) pe_int (fun _ _ => rfl)) (pa_cons (pv 2) pa_nil))) (Nat.le_refl _))) <|
       pss_cons (ps_if (pt_cmpR op_eq (pe_ix ix_tup (pv 1) pe_int (fun _ _ => rfl)) pe_str (nomark _)) (pss_one (ps_ret (pe_op op_fdivW (pv 5) (pe_c Z hr (pa_cons (pe_ix ix_tup (pv 1) pe_int (fun _ _ => rfl)) pa_nil) l1)))) pss_nil) <|
       pss_one (ps_ret (pe_op op_mod (pe_t1 call_int1 T.int boot_int (pe_op op_mul (pv 5) (pe_ifExp (pt_cmpR op_eq (pe_ix ix_tup (pv 1) pe_int (fun _ _ => rfl)) pe_str (nomark _)) (pe_ix ix_tup (pv 1) pe_int (fun _ _ => rfl)) (pe_c Z hr (pa_cons (pe_ix ix_tup (pv 1) pe_int (fun _ _ => rfl)) pa_nil) l1)))) (pv 3)))) pss_nil) <|
    pss_cons (ps_if (pt_cmpR op_eq (pe_ix ix_tup (pv 1) pe_int (fun _ _ => rfl)) pe_str (nomark _)) (pss_one (ps_ret (pe_op op_sub (pe_op op_sub (pv 3) pe_int) (pe_ix ix_list (pv 4) pe_int (fun _ _ => rfl))))) pss_nil) <|
    pss_cons (ps_if (pt_cmpR op_in_seq (pe_ix ix_tup (pv 1) pe_int (fun _ _ => rfl)) (pe_lst (pa_cons pe_str (pa_cons pe_str pa_nil))) (by rfl))
      (pss_one (ps_ret (pe_op op_mod (pe_t1 call_int1 T.int boot_int (pe_op op_add (pe_ix ix_list (pv 4) pe_int (fun _ _ => rfl)) (pe_ifExp (pt_cmpR op_eq (pe_ix ix_tup (pv 1) pe_int (fun _ _ => rfl)) pe_str (nomark _)) (pe_ix ix_list (pv 4) pe_int (fun _ _ => rfl)) (pe_op op_sub pe_int (pe_ix ix_list (pv 4) pe_int (fun _ _ => rfl)))))) (pv 3)))) pss_nil) <|
    pss_cons (ps_set (i := 6) sc37.nd rfl (Or.inl rfl) pe_int) <|
    pss_cons (ps_for PassesOwn.never rfl (pi_range1 (by rfl) T.range (pa_cons (pv 0) pa_nil)) (pg_name (i := 7) sc37.nd rfl (Or.inl rfl))
      (pss_cons (ps_set (i := 8) sc37.nd rfl (Or.inl rfl) (pe_op op_add (pe_c B hr (pa_cons (pe_ix ix_list (pv 4) pe_int (fun _ _ => rfl)) (pa_cons (pv 7) pa_nil)) l2) (pe_c B hr (pa_cons (pe_ix ix_list (pv 4) pe_int (fun _ _ => rfl)) (pa_cons (pv 7) pa_nil)) l2))) <|
       pss_cons (ps_set (i := 9) sc37.nd rfl (Or.inl rfl) (pe_ix ix_list (pe_lst (pa_cons (pe_lst (pa_cons pe_int pa_nil)) (pa_cons (pe_lst (pa_cons pe_int (pa_cons pe_int pa_nil))) (pa_cons (pe_lst (pa_cons pe_int pa_nil)) pa_nil))))
          (pe_bm PySem.F.plainAttrs_list PySem.F.slot_list_index PySem.F.type_list_index mt_index (pe_lst (pa_cons pe_str (pa_cons pe_str (pa_cons pe_str pa_nil)))) (pa_cons (pe_ix ix_tup (pv 1) pe_int (fun _ _ => rfl)) pa_nil)) (fun _ _ => rfl))) <|
       pss_one (ps_set (i := 6) sc37.nd rfl (Or.inl rfl) (pe_op op_add (pv 6) (pe_op op_mul (pe_c Z hr (pa_cons (pv 7) pa_nil) l1) (pe_t1 call_int1 T.int boot_int (pe_cmpR op_in_seq (pv 8) (pv 9) (by rfl)))))))) <|
    pss_one (ps_ret (pv 6)), ?_⟩
  have three : 3 ≤ sizeLine := by decide
  have two : 2 ≤ sizeLine := by decide
  have one : 1 ≤ sizeLine := by decide
  have pp := p2 m'
  have p64 := pow64 hm
  refine ⟨_, rfl, m', rfl, by omega, ?_⟩
  cases e with
  | nm x =>
    obtain rfl : v = .str x := ht
    refine ⟨_, rfl, "str", true, .base (.str x), ki_ss, _, rfl, iteT ⟨_, rfl, _, rfl, d, .int (ρ x), rfl, ?_, q H (Same.refl H)⟩⟩
    rw [← (hρ x (List.mem_singleton.mpr rfl)).1]
    exact DGet.k (k := .inr x) hk
  | num i =>
    obtain rfl : v = .int i := ht
    refine ⟨_, rfl, "int", false, .base (.int i), ki_is, _, rfl, iteF ⟨_, rfl, _, _, .base (.int i), ki_ii, _, rfl, iteT ⟨_, rfl, .inl ⟨_, rfl, _, rfl, i, 2 ^ m', rfl, rfl, pp, q H (Same.refl H)⟩⟩⟩⟩
  | bin o a b =>
    obtain ⟨p, x, y, rfl, hp, hx, hy⟩ := ht
    have da : a.dep ≤ n := by simp [Ex.dep] at hd; omega
    have db : b.dep ≤ n := by simp [Ex.dep] at hd; omega
    have wa : WordsAt m' kvs ρ a.names := fun z hz => hρ z (List.mem_append_left _ hz)
    have wb : WordsAt m' kvs ρ b.names := fun z hz => hρ z (List.mem_append_right _ hz)
    have tr : TrAll H [x, y] [a, b] := .cons hx (.cons hy .nil)
    have kids : ∀ c ∈ [a, b], c.Ok ∧ c.dep ≤ n ∧ WordsAt m' kvs ρ c.names := fun c hc => by
      rcases List.mem_cons.mp hc with rfl | hc
      · exact ⟨ok.1, da, wa⟩
      · obtain rfl := List.mem_singleton.mp hc
        exact ⟨ok.2, db, wb⟩
    have ra := ev_rng wa.fits (e := a)
    have rb := ev_rng wb.fits (e := b)
    refine ⟨_, rfl, "tuple", false, .base (.tup hp), ki_ts, _, rfl, iteF ⟨_, rfl, _, _, .base (.tup hp), ki_ti, _, rfl, iteF ?_⟩⟩
    refine ⟨_, rfl, 1, rfl, p, _, rfl, SqT.of hp, (by show ¬ (HT.sIx 3 0 (some 1) = 0 ∧ HT.sIx 3 3 none = 3); decide), fun t nt => ?_⟩
    have g1 := same_new nt (.tup [x, y])
    refine ⟨t, rfl, ⟨[x, y], SqT.of upd_same⟩, fun D nD => ?_⟩
    have gD := same_new nD (.lst [])
    refine lc_tup (a := t) (xs := [x, y]) (fun i H2 => Same (upd H t (.tup [x, y])) H2 ∧ H2 D = some (.lst (([a, b].map fun c => V.int (ev m' ρ c)).take i))) ⟨gD, upd_same⟩ (fun i H2 _ p => SqT.of (p.1 _ _ upd_same)) (fun i x' H2 hi ⟨g2, e2⟩ => ?_) (fun H2 ⟨g2, e2⟩ => ?_)
    · have g12 := g1.trans g2
      obtain ⟨c, hc, hxc⟩ := Paired.at_ tr hi
      obtain ⟨c1, c2, c3⟩ := kids c (List.mem_of_getElem? hc)
      refine ⟨rfl, _, rfl, p, _, 0, .str o.s, rfl, rfl, SqT.of (g12 _ _ hp), atI_nat (j := 0) rfl, three, fun t2 nt2 => ?_⟩
      have g3 := same_new nt2 (.lst (heads3.map V.str))
      refine ⟨t2, heads3.map V.str, rfl, .inl (SqL.of upd_same), rfl, strs_flat _, _, rfl, iteE (by rw [inV_str, dF (bop_out o)]; rfl) ?_⟩
      refine ⟨_, rfl, _, rfl, _, rfl, m', x', d, kvs, ρ, c, rfl, hm, hxc.same (g12.trans g3), c1, c2, (g12.trans g3) _ _ hk, c3, fun H4 g4 => ?_⟩
      refine ⟨_, (g3.trans g4) _ _ e2, ?_, ?_⟩
      · refine Nat.lt_of_lt_of_le (Nat.lt_succ_of_le (List.length_take_le' _ _)) three
      · refine ⟨same_over (g2.trans (g3.trans g4)) nD _, ?_⟩
        rw [upd_same, take_step hc]
    · have g := g1.trans g2
      refine ⟨_, rfl, p, _, 0, .str o.s, rfl, rfl, SqT.of (g _ _ hp), atI_nat (j := 0) rfl, three, fun t2 nt2 => ?_⟩
      have g3 := same_new nt2 (.lst (heads3.map V.str))
      refine ⟨t2, heads3.map V.str, rfl, .inl (SqL.of upd_same), rfl, strs_flat _, _, rfl, iteN (by rw [inV_str]; exact dF (bop_out o)) ?_⟩
      refine ⟨_, rfl, p, _, 0, .str o.s, rfl, rfl, SqT.of ((g.trans g3) _ _ hp), atI_nat (j := 0) rfl, by cases o <;> rfl, _, rfl, iteN (by cases o <;> decide) ?_⟩
      refine ⟨_, rfl, p, _, 0, .str o.s, rfl, rfl, SqT.of ((g.trans g3) _ _ hp), atI_nat (j := 0) rfl, two, fun t3 nt3 => ?_⟩
      have g4 := g3.trans (same_new nt3 (.lst (heads2.map V.str)))
      have hD := g4 _ _ e2
      have g5 := g.trans g4
      refine ⟨t3, heads2.map V.str, rfl, .inl (SqL.of upd_same), rfl, strs_flat _, _, rfl, ?_⟩
      by_cases hb : o.bits = true
      · refine iteN (by rw [inV_str]; cases o <;> first | (cases hb; done) | decide) ⟨_, rfl, _, rfl, by omega, by omega, ?_⟩
        rw [Int.toNat_natCast]
        refine for_range (lo := 0) (n := m') (fun i σ H' => ∃ z7 z8 z9, σ = [some (.int m'), some (.ref p), some (.ref d), some (.int (2 ^ m')), some (.ref D), none, some (.int (sumB o (ev m' ρ a) (ev m' ρ b) i)), z7, z8, z9, none] ∧ Same (upd (upd H2 t2 (.lst (heads3.map V.str))) t3 (.lst (heads2.map V.str))) H') ⟨none, none, none, rfl, Same.refl _⟩
          (fun i σ H' hi ⟨z7, z8, z9, e1, g6⟩ => ?_) (fun σ H' ⟨z7, z8, z9, e1, g6⟩ => ?_)
        · subst e1
          have hD' := g6 _ _ hD
          refine ⟨_, rfl, D, _, 0, _, rfl, rfl, SqL.of hD', rfl, _, rfl, ev m' ρ a, i, by rw [Int.zero_add] <;> rfl, by omega, ?_⟩
          refine ⟨_, rfl, D, _, 1, _, rfl, rfl, SqL.of hD', rfl, _, rfl, ev m' ρ b, i, by rw [Int.zero_add] <;> rfl, by omega, _, _, rfl, rfl, ?_⟩
          refine ⟨one, fun l1 n1 => ⟨two, fun l2 n2 => ⟨one, fun l3 n3 => ⟨three, fun L nL => ⟨three, fun t4 n4 => ?_⟩⟩⟩⟩⟩
          have a1 := same_new n1 (.lst [.int 2])
          have a2 := same_new n2 (.lst [.int 1, .int 2])
          have a3 := same_new n3 (.lst [.int 1])
          have a4 := same_new nL (.lst [.ref l1, .ref l2, .ref l3])
          have a5 := same_new n4 (.lst (bitsS.map V.str))
          have b3 := a3.trans (a4.trans a5)
          have b2 := a2.trans b3
          have g7 := g6.trans (a1.trans b2)
          obtain ⟨f1, f2, f3⟩ := bop_at hb
          obtain ⟨lj, hj, hlj⟩ : ∃ lj, [V.ref l1, .ref l2, .ref l3][o.at_]? = some (.ref lj) ∧ (upd (upd (upd (upd (upd H' l1 (.lst [.int 2])) l2 (.lst [.int 1, .int 2])) l3 (.lst [.int 1])) L (.lst [.ref l1, .ref l2, .ref l3])) t4 (.lst (bitsS.map V.str))) lj = some (.lst ((bitW o).map V.int)) := by
            cases o with
            | plus => cases hb
            | minus => cases hb
            | both => exact ⟨l1, rfl, b2 _ _ upd_same⟩
            | either => exact ⟨l2, rfl, b3 _ _ upd_same⟩
            | unlike => exact ⟨l3, rfl, (a4.trans a5) _ _ upd_same⟩
          refine ⟨.inl ⟨rfl, _, SqL.of upd_same⟩, _, rfl, p, _, 0, .str o.s, rfl, rfl, SqT.of ((g5.trans g7) _ _ hp), atI_nat (j := 0) rfl, ?_⟩
          refine ⟨t4, _, _, o.at_, _, rfl, rfl, SqL.of upd_same, by cases o <;> rfl, strs_flat bitsS, f1, f2, f3, ?_⟩
          refine ⟨L, _, o.at_, .ref lj, rfl, rfl, SqL.of (a5 _ _ upd_same), atI_nat hj, ?_⟩
          refine ⟨_, rfl, _, rfl, i, by rw [Int.zero_add] <;> rfl, by omega, _, rfl, _, rfl, lj, _, rfl, .inl (SqL.of hlj), rfl, ints_flat _, .inr ⟨_, rfl, _, _, rfl, rfl, .inr (bl01 _), _, _, rfl, rfl, ?_⟩⟩
          exact ⟨_, _, _, by rw [← sumB_step] <;> rfl, g7⟩
        · subst e1
          exact ⟨_, rfl, fin (q _ (g5.trans g6)) (by rw [sum_bits hb ra.1 ra.2 rb.1 rb.2] <;> rfl)⟩
      · cases o with
        | plus => exact iteE (by rw [inV_str]; decide) ⟨_, rfl, D, _, 0, _, rfl, rfl, SqL.of hD, rfl, _, rfl, p, _, 0, .str "plus", rfl, rfl, SqT.of (g5 _ _ hp), atI_nat (j := 0) rfl, rfl, _, rfl, iteE (by decide) ⟨_, rfl, D, _, 1, _, rfl, rfl, SqL.of hD, rfl, _, _, rfl, rfl, .inl ⟨_, rfl, _, rfl, _, _, rfl, rfl, pp, q _ g5⟩⟩⟩
        | minus =>
          refine iteE (by rw [inV_str]; decide) ⟨_, rfl, D, _, 0, _, rfl, rfl, SqL.of hD, rfl, _, rfl, p, _, 0, .str "minus", rfl, rfl, SqT.of (g5 _ _ hp), atI_nat (j := 0) rfl, rfl, _, rfl, iteN (by decide) ⟨_, rfl, D, _, 1, _, rfl, rfl, SqL.of hD, rfl, _, _, rfl, rfl, _, _, rfl, rfl, .inl ⟨_, rfl, _, rfl, _, _, rfl, rfl, pp, fin (q _ g5) ?_⟩⟩⟩
          show V.int ((ev m' ρ a - ev m' ρ b) % 2 ^ m') = V.int ((ev m' ρ a + (0 - ev m' ρ b)) % 2 ^ m')
          rw [show ev m' ρ a + (0 - ev m' ρ b) = ev m' ρ a - ev m' ρ b by omega]
        | both => exact absurd rfl hb
        | either => exact absurd rfl hb
        | unlike => exact absurd rfl hb
  | turned a =>
    obtain ⟨p, x, rfl, hp, hx⟩ := ht
    have da : a.dep ≤ n := by simp [Ex.dep] at hd; omega
    have tr : TrAll H [x] [a] := .cons hx .nil
    refine ⟨_, rfl, "tuple", false, .base (.tup hp), ki_ts, _, rfl, iteF ⟨_, rfl, _, _, .base (.tup hp), ki_ti, _, rfl, iteF ?_⟩⟩
    refine ⟨_, rfl, 1, rfl, p, _, rfl, SqT.of hp, (by show ¬ (HT.sIx 2 0 (some 1) = 0 ∧ HT.sIx 2 2 none = 2); decide), fun t nt => ?_⟩
    have g1 := same_new nt (.tup [x])
    refine ⟨t, rfl, ⟨[x], SqT.of upd_same⟩, fun D nD => ?_⟩
    have gD := same_new nD (.lst [])
    refine lc_tup (a := t) (xs := [x]) (fun i H2 => Same (upd H t (.tup [x])) H2 ∧ H2 D = some (.lst (([a].map fun c => V.int (ev m' ρ c)).take i))) ⟨gD, upd_same⟩ (fun i H2 _ p => SqT.of (p.1 _ _ upd_same)) (fun i x' H2 hi ⟨g2, e2⟩ => ?_) (fun H2 ⟨g2, e2⟩ => ?_)
    · have g12 := g1.trans g2
      obtain ⟨c, hc, hxc⟩ := Paired.at_ tr hi
      obtain rfl := List.mem_singleton.mp (List.mem_of_getElem? hc)
      refine ⟨rfl, _, rfl, p, _, 0, .str "turned", rfl, rfl, SqT.of (g12 _ _ hp), atI_nat (j := 0) rfl, three, fun t2 nt2 => ?_⟩
      have g3 := same_new nt2 (.lst (heads3.map V.str))
      refine ⟨t2, heads3.map V.str, rfl, .inl (SqL.of upd_same), rfl, strs_flat _, _, rfl, iteE (by rw [inV_str, dF trn_out3]; rfl) ?_⟩
      refine ⟨_, rfl, _, rfl, _, rfl, m', x', d, kvs, ρ, c, rfl, hm, hxc.same (g12.trans g3), ok, da, (g12.trans g3) _ _ hk, hρ, fun H4 g4 => ?_⟩
      refine ⟨_, (g3.trans g4) _ _ e2, ?_, ?_⟩
      · refine Nat.lt_of_lt_of_le (Nat.lt_succ_of_le (List.length_take_le' _ _)) two
      · refine ⟨same_over (g2.trans (g3.trans g4)) nD _, ?_⟩
        rw [upd_same, take_step hc]
    · have g := g1.trans g2
      refine ⟨_, rfl, p, _, 0, .str "turned", rfl, rfl, SqT.of (g _ _ hp), atI_nat (j := 0) rfl, three, fun t2 nt2 => ?_⟩
      have g3 := same_new nt2 (.lst (heads3.map V.str))
      refine ⟨t2, heads3.map V.str, rfl, .inl (SqL.of upd_same), rfl, strs_flat _, _, rfl, iteN (by rw [inV_str]; exact dF trn_out3) ?_⟩
      refine ⟨_, rfl, p, _, 0, .str "turned", rfl, rfl, SqT.of ((g.trans g3) _ _ hp), atI_nat (j := 0) rfl, rfl, _, rfl, iteE (by decide) ?_⟩
      exact ⟨_, rfl, _, _, rfl, rfl, _, rfl, D, _, 0, _, rfl, rfl, SqL.of (g3 _ _ e2), rfl, _, _, rfl, rfl, q _ (g.trans g3)⟩
  | sc o k a =>
    obtain ⟨p, x, rfl, hp, hx⟩ := ht
    obtain ⟨k1, k2, oka, k3⟩ := ok.k
    have da : a.dep ≤ n := by simp [Ex.dep] at hd; omega
    have rg := ev_rng hρ.fits (e := a)
    refine ⟨_, rfl, "tuple", false, .base (.tup hp), ki_ts, _, rfl, iteF ⟨_, rfl, _, _, .base (.tup hp), ki_ti, _, rfl, iteF ?_⟩⟩
    refine ⟨_, rfl, 1, rfl, p, _, rfl, SqT.of hp, (by show ¬ (HT.sIx 3 0 (some 1) = 0 ∧ HT.sIx 3 3 none = 3); decide), fun t nt => ?_⟩
    have g1 := same_new nt (.tup [.int k, x])
    refine ⟨t, rfl, ⟨[.int k, x], SqT.of upd_same⟩, fun D nD => ?_⟩
    have gD := same_new nD (.lst [])
    refine lc_tup (a := t) (xs := [.int k, x]) (fun i H2 => Same (upd H t (.tup [.int k, x])) H2 ∧ H2 D = some (.lst [])) ⟨gD, upd_same⟩ (fun i H2 _ p => SqT.of (p.1 _ _ upd_same)) (fun i x' H2 hi ⟨g2, e2⟩ => ?_) (fun H2 ⟨g2, e2⟩ => ?_)
    · have g12 := g1.trans g2
      refine ⟨rfl, _, rfl, p, _, 0, .str o.s, rfl, rfl, SqT.of (g12 _ _ hp), atI_nat (j := 0) rfl, three, fun t2 nt2 => ?_⟩
      have g3 := same_new nt2 (.lst (heads3.map V.str))
      refine ⟨t2, heads3.map V.str, rfl, .inl (SqL.of upd_same), rfl, strs_flat _, _, rfl, iteN (by rw [inV_str, dT (sop_in o)]; rfl) ⟨g2.trans g3, g3 _ _ e2⟩⟩
    · have g := g1.trans g2
      refine ⟨_, rfl, p, _, 0, .str o.s, rfl, rfl, SqT.of (g _ _ hp), atI_nat (j := 0) rfl, three, fun t2 nt2 => ?_⟩
      have g3 := g.trans (same_new nt2 (.lst (heads3.map V.str)))
      refine ⟨t2, heads3.map V.str, rfl, .inl (SqL.of upd_same), rfl, strs_flat _, _, rfl, iteE (by rw [inV_str]; exact dT (sop_in o)) ?_⟩
      refine ⟨_, rfl, _, rfl, p, _, 2, x, rfl, rfl, SqT.of (g3 _ _ hp), atI_nat (j := 2) rfl, _, rfl, m', x, d, kvs, ρ, a, rfl, hm, hx.same g3, oka, da, g3 _ _ hk, hρ, fun H4 g4 => ?_⟩
      have g5 := g3.trans g4
      have hp5 := g5 _ _ hp
      have big : -(2 ^ 64) < ev m' ρ a ∧ ev m' ρ a < 2 ^ 64 := ⟨by omega, by omega⟩
      cases o with
      | times =>
        exact ⟨_, rfl, p, _, 0, .str "times", rfl, rfl, SqT.of hp5, atI_nat (j := 0) rfl, rfl, _, rfl, iteN (by decide) ⟨_, rfl, _, rfl, p, _, 0, .str "times", rfl, rfl, SqT.of hp5, atI_nat (j := 0) rfl, rfl, _, rfl, iteE (by decide)
          ⟨_, rfl, p, _, 1, .int k, rfl, rfl, SqT.of hp5, atI_nat (j := 1) rfl, _, _, rfl, rfl, .inl big, .inl ⟨_, rfl, _, rfl, _, _, rfl, rfl, pp, q _ g5⟩⟩⟩⟩
      | up =>
        have k4 := k3 (fun z => nomatch z)
        obtain ⟨kn, rfl⟩ := nat_of k4.1
        exact ⟨_, rfl, p, _, 0, .str "up", rfl, rfl, SqT.of hp5, atI_nat (j := 0) rfl, rfl, _, rfl, iteN (by decide) ⟨_, rfl, _, rfl, p, _, 0, .str "up", rfl, rfl, SqT.of hp5, atI_nat (j := 0) rfl, rfl, _, rfl, iteN (by decide)
          ⟨_, rfl, p, _, 1, .int kn, rfl, rfl, SqT.of hp5, atI_nat (j := 1) rfl, kn, rfl, by omega, _, _, rfl, rfl, .inl big, .inl ⟨_, rfl, _, rfl, _, _, rfl, rfl, pp, q _ g5⟩⟩⟩⟩
      | down =>
        have k4 := k3 (fun z => nomatch z)
        obtain ⟨kn, rfl⟩ := nat_of k4.1
        exact ⟨_, rfl, p, _, 0, .str "down", rfl, rfl, SqT.of hp5, atI_nat (j := 0) rfl, rfl, _, rfl, iteE (by decide)
          ⟨_, rfl, _, rfl, p, _, 1, .int kn, rfl, rfl, SqT.of hp5, atI_nat (j := 1) rfl, kn, rfl, by omega, _, _, rfl, rfl, div1 (by omega) _, q _ g5⟩⟩
theorem c_lvalue (F : FnP K "_law_value" 37 f fd) (m : mg "_law_value" = some (.ref f)) (T : Txt K mg) (Z : Cal P w K mg base 1 "_law_power" spLP) (B : Cal P w K mg base 2 "_law_bit" spLB) : ∀ n, Cal P w K mg base (n + 3) "_law_value" (spVal n)
  | 0 => c_lvalue0 F m
  | n + 1 => c_lvalue1 F m T Z B (c_lvalue F m T Z B n)
end
end Hw
/-! ## KLaw3 -/
namespace Hw
open PySem PySem.Spec PyProof.Rows L2
section
variable {P : Program} {w : World} {K : PySem.W.Frag} {mg : Str → Option Value} {base : Heap} {f : Addr} {fd : FuncData}
/-! ### the law's expressions -/
def fuel : Nat → Nat
  | 0 => 0
  | n + 1 => 3 + 2 * fuel n
def NamesK (xs : List Str) : Prop := xs = [] ∨ xs = [("x" : Str)] ∨ xs = [("b" : Str), "x"]
/-- an expression of a depth of n at most, by draws from g, the names from the list l -/
def spLE (n : Nat) : Sp := fun vs H Q _ => ∃ (g l : Addr) (xs : List Str) (k : Nat), vs = [.ref g, .ref l, .int ((n : Int) - 1)] ∧ 1 ≤ n ∧ GenAt H g (k + fuel n) ∧ H l = some (.lst (xs.map V.str)) ∧ NamesK xs ∧ l ≠ g ∧
  ∀ H' v e, SameG g H H' → GenAt H' g k → TrV H' e v → e.Ok → e.dep ≤ n → (∀ x ∈ e.names, x ∈ xs) → Q v H'
def n41 : List Str := ["_law_generator_here", "_law_names", "_law_deep", "_law_way", "_law_op", "_law_number"]
theorem sc41 : FnScope n41 ["_law_generator_here", "_law_names", "_law_deep"] (L2.defScope (top 41)) := ⟨rfl, rfl, rfl, by decide +kernel, rfl, by decide +kernel, by decide +kernel⟩
theorem c_lexpr0 (F : FnP K "_law_expression" 41 f fd) (m : mg "_law_expression" = some (.ref f)) : Cal P w K mg base 2 "_law_expression" (spLE 0) := by
  have no : ∀ vs H Q E, ¬ spLE 0 vs H Q E := fun vs H Q E h => by
    obtain ⟨_, _, _, _, _, h1, _⟩ := h
    omega
  exact ⟨f, fd, ["_law_generator_here", "_law_names", "_law_deep"], ⟨fun vs H Q E h => absurd h (no vs H Q E), fun A outer s H args us vs Q E _ _ _ _ h => absurd h (no vs H Q E)⟩, m, F.kp, F.bindsN fun _ _ _ _ _ _ us hl => match us, hl with | [_, _, _], _ => rfl⟩
def ops9 : List Str := ["plus", "minus", "both", "either", "unlike", "turned", "times", "up", "down"]
theorem ops9_at : ∀ {r : Int}, 0 ≤ r → r < 9 → ∃ s, atI (ops9.map V.str) r = some (.str s) ∧ ((∃ o : Bop, s = o.s) ∨ s = "turned" ∨ ∃ o : Sop, s = o.s) := by
  intro r h0 h1
  obtain ⟨n, rfl⟩ := nat_of h0
  have hn : n < 9 := by omega
  match n, hn with
  | 0, _ => exact ⟨_, rfl, .inl ⟨.plus, rfl⟩⟩
  | 1, _ => exact ⟨_, rfl, .inl ⟨.minus, rfl⟩⟩
  | 2, _ => exact ⟨_, rfl, .inl ⟨.both, rfl⟩⟩
  | 3, _ => exact ⟨_, rfl, .inl ⟨.either, rfl⟩⟩
  | 4, _ => exact ⟨_, rfl, .inl ⟨.unlike, rfl⟩⟩
  | 5, _ => exact ⟨_, rfl, .inr (.inl rfl)⟩
  | 6, _ => exact ⟨_, rfl, .inr (.inr ⟨.times, rfl⟩)⟩
  | 7, _ => exact ⟨_, rfl, .inr (.inr ⟨.up, rfl⟩)⟩
  | 8, _ => exact ⟨_, rfl, .inr (.inr ⟨.down, rfl⟩)⟩
theorem dp_strs {H : Hp} : ∀ xs : List Str, DpAll K H (xs.map V.str) (xs.map PyData.str)
  | [] => .nil
  | x :: r => .cons (.str x) (dp_strs r)
theorem namesK_shaped {xs : List Str} (h : NamesK xs) : SeqAt.shaped (.list (xs.map PyData.str)) = true := by
  rcases h with rfl | rfl | rfl <;> decide +kernel
theorem namesK_ok {xs : List Str} (h : NamesK xs) : ∀ x ∈ xs, x ∈ okNames := by
  rcases h with rfl | rfl | rfl <;> decide +kernel
theorem eqv_nil (xs : List Str) : PyData.eqv (.list (xs.map PyData.str)) (.list []) = decide (xs = []) := by
  cases xs with
  | nil => rfl
  | cons x r => rfl
theorem c_lexpr1 (F : FnP K "_law_expression" 41 f fd) (m : mg "_law_expression" = some (.ref f)) (T : Txt K mg) (D : Cal P w K mg base 2 "_law_random" spRand) {n : Nat} (R : Cal P w K mg base (n + 2) "_law_expression" (spLE n)) : Cal P w K mg base (n + 3) "_law_expression" (spLE (n + 1)) := by
  refine calD F m sc41 (fun vs H Q E h => ?_) (fun _ _ _ _ _ _ us hl => match us, hl with | [_, _, _], _ => rfl) (fun cdv A outer s H vs Q E hr h => ?_)
  · obtain ⟨_, _, _, _, rfl, _⟩ := h
    rfl
  obtain ⟨g, l, xs, k, rfl, _, hG, hl, hx, lg, q⟩ := h
  have l2 : 2 ≤ n + 2 := by omega
  refine ⟨_, pss_cons (ps_set (i := 3) sc41.nd rfl (Or.inl rfl) (pe_c D hr (pa_cons (pv 0) (pa_cons pe_int pa_nil)) l2)) <|
    pss_cons (ps_if (PW.pt (pw_or (pt_cmpR op_eq (pv 2) pe_int (nomark _)) <| pw_or1 (pt_cmpR op_eq (pv 3) pe_int (nomark _))))
      (pss_one (ps_ret (pe_ifExp (PW.pt (pw_and (pt_cmpR (op_neD hr.units) (pv 1) (pe_lst pa_nil) (nomark _)) <| pw_and1 (pt_cmpR op_gt (pe_c D hr (pa_cons (pv 0) (pa_cons pe_int pa_nil)) l2) pe_int (nomark _))))
        (pe_ix ix_list (pv 1) (pe_c D hr (pa_cons (pv 0) (pa_cons (pe_b1 call_len_seq T.len boot_len (pv 1)) pa_nil)) l2) (fun _ _ => rfl)) (pe_op op_sub (pe_c D hr (pa_cons (pv 0) (pa_cons pe_int pa_nil)) l2) pe_int)))) pss_nil) <|
    pss_cons (ps_set (i := 4) sc41.nd rfl (Or.inl rfl) (pe_ix ix_list (pe_lst (pa_cons pe_str (pa_cons pe_str (pa_cons pe_str (pa_cons pe_str (pa_cons pe_str (pa_cons pe_str (pa_cons pe_str (pa_cons pe_str (pa_cons pe_str pa_nil)))))))))) (pe_c D hr (pa_cons (pv 0) (pa_cons pe_int pa_nil)) l2) (fun _ _ => rfl))) <|
    pss_cons (ps_if (pt_cmpR op_eq (pv 4) pe_str (nomark _)) (pss_one (ps_ret (pe_tup (pa_cons (pv 4) (pa_cons (pe_c R hr (pa_cons (pv 0) (pa_cons (pv 1) (pa_cons (pe_op op_sub (pv 2) pe_int) pa_nil))) (Nat.le_refl _)) pa_nil))))) pss_nil) <|
    pss_cons (ps_if (pt_cmpR op_in_seq (pv 4) (pe_lst (pa_cons pe_str (pa_cons pe_str (pa_cons pe_str pa_nil)))) (by rfl))
      (pss_cons (ps_set (i := 5) sc41.nd rfl (Or.inl rfl) (pe_ifExp (pt_cmpR op_eq (pv 4) pe_str (nomark _)) (pe_op op_sub (pe_c D hr (pa_cons (pv 0) (pa_cons pe_int pa_nil)) l2) pe_int) (pe_c D hr (pa_cons (pv 0) (pa_cons pe_int pa_nil)) l2))) <|
       pss_one (ps_ret (pe_tup (pa_cons (pv 4) (pa_cons (pv 5) (pa_cons (pe_c R hr (pa_cons (pv 0) (pa_cons (pv 1) (pa_cons (pe_op op_sub (pv 2) pe_int) pa_nil))) (Nat.le_refl _)) pa_nil)))))) pss_nil) <|
    pss_one (ps_ret (pe_tup (pa_cons (pv 4) (pa_cons (pe_c R hr (pa_cons (pv 0) (pa_cons (pv 1) (pa_cons (pe_op op_sub (pv 2) pe_int) pa_nil))) (Nat.le_refl _)) (pa_cons (pe_c R hr (pa_cons (pv 0) (pa_cons (pv 1) (pa_cons (pe_op op_sub (pv 2) pe_int) pa_nil))) (Nat.le_refl _)) pa_nil))))), ?_⟩
  have fu : fuel (n + 1) = 3 + 2 * fuel n := rfl
  rw [fu] at hG
  have deep : ((n + 1 : Nat) : Int) - 1 = n := by omega
  refine ⟨_, rfl, g, 5, k + 2 + 2 * fuel n, rfl, hG.less (by omega), by decide, by decide, fun H1 way s1 G1 w0 w1 => ?_⟩
  have hl1 := s1 _ _ lg hl
  have num : ∀ (σ : L2.St) H2, σ[0]? = some (some (V.ref g)) → SameG g H1 H2 → GenAt H2 g (k + 1) → (tOp (rI0 fun i j => .int (i - j)) (tCall spRand [] E0 (tCons (tVar 0) (tCons (tC (.int 9)) tNil))) (tC (.int 4))) σ H2 Q := fun σ H2 e0 s2 G2 =>
    ⟨_, e0, g, 9, k, rfl, G2, by decide, by decide, fun H3 r s3 G3 r0 r1 => ⟨_, _, rfl, rfl, q H3 (.int (r - 4)) (.num (r - 4)) (s1.trans (s2.trans s3)) G3 rfl ⟨by omega, by omega⟩ (by show 1 ≤ n + 1; omega) (fun x hx => nomatch hx)⟩⟩
  refine ⟨_, rfl, rfl, _, rfl, ite2 (fun z => iteT ?a) (fun z => ⟨_, rfl, rfl, _, rfl, ite2 (fun z2 => ?b) (fun z2 => ?c)⟩)⟩
  case c =>
    have n1 : 1 ≤ n := by
      rcases Nat.eq_zero_or_pos n with e | e
      · subst e
        exact absurd rfl z
      · exact e
    have two : 2 ≤ sizeLine := by decide
    have three : 3 ≤ sizeLine := by decide
    refine ⟨by show 9 ≤ sizeLine; decide, fun t nt => ?_⟩
    have a1 := same_new nt (.lst (ops9.map V.str))
    have tg : t ≠ g := fun e => by
      obtain ⟨_, _, _, e2, _⟩ := G1
      rw [e, e2] at nt
      cases nt
    refine ⟨_, rfl, g, 9, k + 1 + 2 * fuel n, rfl, (G1.same a1).less (by omega), by decide, by decide, fun H2 r s2 G2 r0 r1 => ?_⟩
    obtain ⟨op, ho, kind⟩ := ops9_at r0 r1
    refine ⟨t, _, r, .str op, rfl, rfl, SqL.of (s2 _ _ tg upd_same), ho, ?_⟩
    have s12 := (s1.then a1).trans s2
    have hl2 := s12 _ _ lg hl
    refine ⟨_, rfl, rfl, _, rfl, ?_⟩
    rcases kind with ⟨o, rfl⟩ | rfl | ⟨o, rfl⟩
    · refine iteN (by cases o <;> decide) ⟨_, rfl, three, fun t2 nt2 => ?_⟩
      have a2 := same_new nt2 (.lst (heads3.map V.str))
      refine ⟨t2, heads3.map V.str, rfl, .inl (SqL.of upd_same), by cases o <;> rfl, strs_flat _, _, rfl, iteN (by rw [inV_str]; exact dF (bop_out o)) ?_⟩
      refine ⟨_, rfl, _, rfl, _, rfl, _, rfl, _, _, rfl, rfl, g, l, xs, k + 1 + fuel n, by rw [deep] <;> rfl, n1, (G2.same a2).less (by omega), a2 _ _ hl2, hx, lg, fun H3 v1 e1 s3 G3 tv1 ok1 dp1 nm1 => ?_⟩
      have hl3 := s3 _ _ lg (a2 _ _ hl2)
      refine ⟨_, rfl, _, rfl, _, rfl, _, _, rfl, rfl, g, l, xs, k + 1, by rw [deep] <;> rfl, n1, G3.less (by omega), hl3, hx, lg, fun H4 v2 e2 s4 G4 tv2 ok2 dp2 nm2 => ?_⟩
      refine ⟨three, fun p np => ?_⟩
      have a4 := same_new np (.tup [.str o.s, v1, v2])
      refine q _ (.ref p) (.bin o e1 e2) ((((s12.then a2).trans s3).trans s4).then a4) ((G4.same a4).less (by omega)) ⟨p, v1, v2, rfl, upd_same, (tv1.sameG s4 G3).same a4, tv2.same a4⟩ ⟨ok1, ok2⟩ ?_ (fun x hx => (List.mem_append.mp hx).elim (nm1 x) (nm2 x))
      show max e1.dep e2.dep + 1 ≤ n + 1
      omega
    · refine iteE (by decide) ⟨_, rfl, _, rfl, _, rfl, _, rfl, _, _, rfl, rfl, g, l, xs, k, by rw [deep] <;> rfl, n1, G2.less (by omega), hl2, hx, lg, fun H3 v1 e1 s3 G3 tv1 ok1 dp1 nm1 => ?_⟩
      refine ⟨two, fun p np => ?_⟩
      have a4 := same_new np (.tup [.str "turned", v1])
      refine q _ (.ref p) (.turned e1) ((s12.trans s3).then a4) (G3.same a4) ⟨p, v1, rfl, upd_same, tv1.same a4⟩ ok1 ?_ nm1
      show e1.dep + 1 ≤ n + 1
      omega
    · refine iteN (by cases o <;> decide) ⟨_, rfl, three, fun t2 nt2 => ?_⟩
      have a2 := same_new nt2 (.lst (heads3.map V.str))
      refine ⟨t2, heads3.map V.str, rfl, .inl (SqL.of upd_same), by cases o <;> rfl, strs_flat _, _, rfl, iteE (by rw [inV_str]; exact dT (sop_in o)) ?_⟩
      have end_ : ∀ H3 (r : Int), SameG g H2 H3 → GenAt H3 g (k + fuel n) → (∀ e : Ex, e.Ok → (Ex.sc o r e).Ok) → (tRet (tTup (tCons (tVar 4) (tCons (tVar 5) (tCons (tCall (spLE n) [] E0 (tCons (tVar 0) (tCons (tVar 1) (tCons (tOp (rI0 fun i j => .int (i - j)) (tVar 2) (tC (.int 1))) tNil)))) tNil)))))
          { nx := fun _ H' => Q .non H', rt := Q } [some (.ref g), some (.ref l), some (.int (((n + 1 : Nat) : Int) - 1)), some (.int way), some (.str o.s), some (.int r)] H3 := fun H3 r s3 G3 okr => by
        have hl3 := s3 _ _ lg hl2
        refine ⟨_, rfl, _, rfl, _, rfl, _, rfl, _, rfl, _, _, rfl, rfl, g, l, xs, k, by rw [deep] <;> rfl, n1, G3, hl3, hx, lg, fun H4 v1 e1 s4 G4 tv1 ok1 dp1 nm1 => ?_⟩
        refine ⟨three, fun p np => ?_⟩
        have a4 := same_new np (.tup [.str o.s, .int r, v1])
        refine q _ (.ref p) (.sc o r e1) (((s12.trans s3).trans s4).then a4) (G4.same a4) ⟨p, v1, rfl, upd_same, tv1.same a4⟩ (okr e1 ok1) ?_ nm1
        show e1.dep + 1 ≤ n + 1
        omega
      refine ⟨_, rfl, by cases o <;> rfl, _, rfl, ?_⟩
      cases o with
      | times => exact iteE (by decide) ⟨_, rfl, g, 7, k + fuel n, rfl, (G2.same a2).less (by omega), by decide, by decide, fun H3 r s3 G3 r0 r1 => ⟨_, _, rfl, rfl, end_ H3 (r - 3) ((SameG.of a2).trans s3) G3 (fun e he => ⟨⟨by omega, by omega⟩, he⟩)⟩⟩
      | up => exact iteN (by decide) ⟨_, rfl, g, 3, k + fuel n, rfl, (G2.same a2).less (by omega), by decide, by decide, fun H3 r s3 G3 r0 r1 => end_ H3 r ((SameG.of a2).trans s3) G3 (fun e he => ⟨⟨by omega, by omega⟩, he⟩)⟩
      | down => exact iteN (by decide) ⟨_, rfl, g, 3, k + fuel n, rfl, (G2.same a2).less (by omega), by decide, by decide, fun H3 r s3 G3 r0 r1 => end_ H3 r ((SameG.of a2).trans s3) G3 (fun e he => ⟨⟨by omega, by omega⟩, he⟩)⟩
  all_goals
    refine ⟨_, rfl, Nat.zero_le _, fun t nt => ?_⟩
    have a1 := same_new nt (.lst [])
    refine ⟨.list (xs.map PyData.str), .list [], .lst (SqL.of (a1 _ _ hl1)) (dp_strs xs), .lst (SqL.of upd_same) .nil, namesK_shaped hx, rfl, _, rfl, ?_⟩
    by_cases e : xs = []
    · exact iteN (by rw [eqv_nil]; exact ndF e) (iteF (num _ _ rfl (.of a1) ((G1.same a1).less (by omega))))
    · refine iteE (by rw [eqv_nil]; exact ndT e) ⟨_, rfl, g, 4, k + 1, rfl, (G1.same a1).less (by omega), by decide, by decide, fun H2 r s2 G2 r0 r1 => ⟨_, _, rfl, rfl, _, rfl, ite2 (fun z3 => ?_) (fun z3 => num _ _ rfl ((SameG.of a1).trans s2) G2)⟩⟩
      have hl2 := s2 _ _ lg (a1 _ _ hl1)
      have lx : 0 < xs.length ∧ xs.length ≤ 2 := by
        rcases hx with rfl | rfl | rfl
        · exact absurd rfl e
        · exact ⟨by decide, by decide⟩
        · exact ⟨by decide, by decide⟩
      have ll : (xs.map V.str).length = xs.length := List.length_map _
      refine ⟨_, rfl, _, rfl, _, rfl, l, _, rfl, .inl (SqL.of hl2), g, _, k, rfl, G2, by omega, by omega, fun H3 r' s3 G3 r2 r3 => ?_⟩
      obtain ⟨i, rfl⟩ := nat_of r2
      have hi : i < xs.length := by omega
      refine ⟨l, _, i, .str xs[i], rfl, rfl, SqL.of (s3 _ _ lg hl2), atI_nat ?_, ?_⟩
      · rw [List.getElem?_map, List.getElem?_eq_getElem hi]
        rfl
      · refine q _ _ (.nm xs[i]) (((s1.then a1).trans s2).trans s3) G3 rfl (namesK_ok hx _ (List.getElem_mem hi)) (by show 1 ≤ n + 1; omega) (fun x h => ?_)
        obtain rfl := List.mem_singleton.mp h
        exact List.getElem_mem hi
theorem c_lexpr (F : FnP K "_law_expression" 41 f fd) (m : mg "_law_expression" = some (.ref f)) (T : Txt K mg) (D : Cal P w K mg base 2 "_law_random" spRand) : ∀ n, Cal P w K mg base (n + 2) "_law_expression" (spLE n)
  | 0 => c_lexpr0 F m
  | n + 1 => c_lexpr1 F m T D (c_lexpr F m T D n)
end
end Hw
/-! ## KLaw4 -/
namespace Hw
open PySem PySem.Spec PyProof.Rows L2
section
variable {P : Program} {w : World} {K : PySem.W.Frag} {mg : Str → Option Value} {base : Heap} {f : Addr} {fd : FuncData}
theorem sc44 : FnScope ["_law_told", "_law_found", "_law_part"] ["_law_told"] (L2.defScope (top 44)) := ⟨rfl, rfl, rfl, by decide +kernel, rfl, by decide +kernel, by decide +kernel⟩
theorem c_told0 (F : FnP K "_law_told_names" 44 f fd) (m : mg "_law_told_names" = some (.ref f)) : Cal P w K mg base 2 "_law_told_names" (spAll 0) := by
  have no : ∀ vs H Q E, ¬ spAll 0 vs H Q E := fun vs H Q E h => by
    obtain ⟨v, e, _, _, _, h1, _⟩ := h
    have := dep_pos e
    omega
  exact ⟨f, fd, ["_law_told"], ⟨fun vs H Q E h => absurd h (no vs H Q E), fun A outer s H args us vs Q E _ _ _ _ h => absurd h (no vs H Q E)⟩, m, F.kp, F.bindsN fun _ _ _ _ _ _ us hl => match us, hl with | [_], _ => rfl⟩
theorem c_told1 (F : FnP K "_law_told_names" 44 f fd) (m : mg "_law_told_names" = some (.ref f)) (T : Txt K mg) {n : Nat} (R : Cal P w K mg base (n + 2) "_law_told_names" (spAll n)) : Cal P w K mg base (n + 3) "_law_told_names" (spAll (n + 1)) := by
  refine calD F m sc44 (fun vs H Q E h => ?_) (fun _ _ _ _ _ _ us hl => match us, hl with | [_], _ => rfl) (fun cdv A outer s H vs Q E hr h => ?_)
  · obtain ⟨_, _, rfl, _⟩ := h
    rfl
  obtain ⟨v, e, rfl, ht, ok, hd, h9, q⟩ := h
  refine ⟨_, pss_cons (ps_if (pt_val (pe_isi T.isi T.str boot_str (pv 0))) (pss_one (ps_ret (pe_lst (pa_cons (pv 0) pa_nil)))) pss_nil) <|
    pss_cons (ps_set (i := 1) sc44.nd rfl (Or.inl rfl) (pe_lst pa_nil)) <|
    pss_cons (ps_if (pt_val (pe_isi T.isi T.tuple boot_tuple (pv 0)))
      (pss_one (ps_for PassesOwn.never rfl (pi_tup (pe_slice sl_tup (pv 0) (po_some (pe_ifExp (pt_cmpR op_in_seq (pe_ix ix_tup (pv 0) pe_int (fun _ _ => rfl)) (pe_lst (pa_cons pe_str (pa_cons pe_str (pa_cons pe_str pa_nil)))) (by rfl)) pe_int pe_int)) po_none)) (pg_name (i := 2) sc44.nd rfl (Or.inl rfl))
        (pss_one (ps_set (i := 1) sc44.nd rfl (Or.inl rfl) (pe_op op_cat (pv 1) (pe_c R hr (pa_cons (pv 2) pa_nil) (Nat.le_refl _))))))) pss_nil) <|
    pss_one (ps_ret (pv 1)), ?_⟩
  have three : 3 ≤ sizeLine := by decide
  cases e with
  | nm x =>
    obtain rfl : v = .str x := ht
    exact ⟨_, rfl, "str", true, .base (.str x), ki_ss, _, rfl, iteT ⟨_, rfl, by show 1 ≤ sizeLine; decide, fun p np => q _ p (same_new np _) upd_same⟩⟩
  | num i =>
    obtain rfl : v = .int i := ht
    exact ⟨_, rfl, "int", false, .base (.int i), ki_is, _, rfl, iteF ⟨Nat.zero_le _, fun p np => ⟨_, rfl, "int", false, .base (.int i), ki_it, _, rfl, iteF ⟨_, rfl, q _ p (same_new np _) upd_same⟩⟩⟩⟩
  | bin o a b =>
    obtain ⟨p, x, y, rfl, hp, hx, hy⟩ := id ht
    refine ⟨_, rfl, "tuple", false, .base (.tup hp), ki_ts, _, rfl, iteF ⟨Nat.zero_le _, fun fa nfa => ?_⟩⟩
    have g1 := same_new nfa (.lst [])
    refine ⟨_, rfl, "tuple", true, .base (.tup (g1 _ _ hp)), ki_tt, _, rfl, iteT ?_⟩
    refine ⟨_, rfl, _, rfl, p, _, 0, .str o.s, rfl, rfl, SqT.of (g1 _ _ hp), atI_nat (j := 0) rfl, three, fun t2 nt2 => ?_⟩
    have gl := same_new nt2 (.lst (heads3.map V.str))
    have g2 := g1.trans gl
    obtain ⟨H2, eH2⟩ : ∃ H2, H2 = upd (upd H fa (.lst [])) t2 (.lst (heads3.map V.str)) := ⟨_, rfl⟩
    have e2 : H2 fa = some (.lst []) := by rw [eH2]; exact gl _ _ upd_same
    rw [← eH2] at g2
    refine ⟨t2, heads3.map V.str, rfl, .inl (SqL.of upd_same), rfl, strs_flat _, _, rfl, iteN (by rw [inV_str]; exact dF (bop_out o)) ?_⟩
    refine ⟨1, rfl, p, _, rfl, SqT.of (by have z := g2 _ _ hp; rw [eH2] at z; exact z), (by show ¬ (HT.sIx 3 0 (some 1) = 0 ∧ HT.sIx 3 3 none = 3); decide), fun t nt => ?_⟩
    have nt : H2 t = none := by rw [eH2]; exact nt
    rw [show upd (upd H fa (.lst [])) t2 (.lst [.str "times", .str "up", .str "down"]) = H2 from eH2.symm]
    · have g3 := g2.trans (same_new nt (.tup [x, y]))
      have tr : TrAll (upd _ t (.tup [x, y])) [x, y] [a, b] := .cons (hx.same g3) (.cons (hy.same g3) .nil)
      refine ⟨t, rfl, ⟨[x, y], SqT.of upd_same⟩, ?_⟩
      have bound : (knames [a, b]).length ≤ 256 := by
        rw [show knames [a, b] = Ex.names (Ex.bin o a b) from kids_names (e := (Ex.bin o a b)) (fun x z => nomatch z)]
        have h1 := names_len (Ex.bin o a b)
        have h2 : 2 ^ Ex.dep (Ex.bin o a b) ≤ 2 ^ 9 := Nat.pow_le_pow_right (by decide) (by omega)
        omega
      refine for_tup (a := t) (xs := [x, y]) (fun i σ H' => ∃ fa z, σ = [some (.ref p), some (.ref fa), z] ∧ Same (upd H2 t (.tup [x, y])) H' ∧ H' fa = some (.lst ((knames ([a, b].take i)).map V.str))) ⟨fa, none, rfl, Same.refl _, (same_new nt (.tup [x, y])) _ _ e2⟩ (fun i σ H' _ ⟨_, _, _, g, _⟩ => SqT.of (g _ _ upd_same)) (fun i x' σ H' hi ⟨fa', z, e1, g, hf⟩ => ?_) (fun σ H' ⟨fa', z, e1, g, hf⟩ => ?_)
      · subst e1
        obtain ⟨c, hc, hxc⟩ := Paired.at_ (tr.same g) hi
        have mc := List.mem_of_getElem? hc
        have dc := kids_dep (e := (Ex.bin o a b)) mc
        refine ⟨_, rfl, _, rfl, x', c, rfl, hxc, kids_ok (e := (Ex.bin o a b)) ok c mc, by omega, by omega, fun H3 l3 g4 hl3 => ?_⟩
        have st := names_step hc
        have b1 := take_names [a, b] (i + 1)
        rw [st, List.length_append] at b1
        refine ⟨fa', l3, _, _, rfl, rfl, g4 _ _ hf, hl3, ?_, fun p2 np2 => ⟨p2, _, rfl, g.trans (g4.trans (same_new np2 _)), ?_⟩⟩
        · rw [List.length_map, List.length_map]
          exact Nat.le_of_lt (small1000 (by omega))
        · rw [upd_same, st, List.map_append]
      · subst e1
        refine ⟨_, rfl, q _ fa' (g3.trans g) ?_⟩
        rw [hf]
        show some (HO.lst ((knames ([a, b].take 2)).map V.str)) = some (HO.lst ((Ex.names (Ex.bin o a b)).map V.str))
        rw [show [a, b].take 2 = [a, b] from rfl, show knames [a, b] = Ex.names (Ex.bin o a b) from kids_names (e := (Ex.bin o a b)) (fun x z => nomatch z)]
  | turned a =>
    obtain ⟨p, x, rfl, hp, hx⟩ := id ht
    refine ⟨_, rfl, "tuple", false, .base (.tup hp), ki_ts, _, rfl, iteF ⟨Nat.zero_le _, fun fa nfa => ?_⟩⟩
    have g1 := same_new nfa (.lst [])
    refine ⟨_, rfl, "tuple", true, .base (.tup (g1 _ _ hp)), ki_tt, _, rfl, iteT ?_⟩
    refine ⟨_, rfl, _, rfl, p, _, 0, .str "turned", rfl, rfl, SqT.of (g1 _ _ hp), atI_nat (j := 0) rfl, three, fun t2 nt2 => ?_⟩
    have gl := same_new nt2 (.lst (heads3.map V.str))
    have g2 := g1.trans gl
    obtain ⟨H2, eH2⟩ : ∃ H2, H2 = upd (upd H fa (.lst [])) t2 (.lst (heads3.map V.str)) := ⟨_, rfl⟩
    have e2 : H2 fa = some (.lst []) := by rw [eH2]; exact gl _ _ upd_same
    rw [← eH2] at g2
    refine ⟨t2, heads3.map V.str, rfl, .inl (SqL.of upd_same), rfl, strs_flat _, _, rfl, iteN (by rw [inV_str]; exact dF trn_out3) ?_⟩
    refine ⟨1, rfl, p, _, rfl, SqT.of (by have z := g2 _ _ hp; rw [eH2] at z; exact z), (by show ¬ (HT.sIx 2 0 (some 1) = 0 ∧ HT.sIx 2 2 none = 2); decide), fun t nt => ?_⟩
    have nt : H2 t = none := by rw [eH2]; exact nt
    rw [show upd (upd H fa (.lst [])) t2 (.lst [.str "times", .str "up", .str "down"]) = H2 from eH2.symm]
    · have g3 := g2.trans (same_new nt (.tup [x]))
      have tr : TrAll (upd _ t (.tup [x])) [x] [a] := .cons (hx.same g3) .nil
      refine ⟨t, rfl, ⟨[x], SqT.of upd_same⟩, ?_⟩
      have bound : (knames [a]).length ≤ 256 := by
        rw [show knames [a] = Ex.names (Ex.turned a) from kids_names (e := (Ex.turned a)) (fun x z => nomatch z)]
        have h1 := names_len (Ex.turned a)
        have h2 : 2 ^ Ex.dep (Ex.turned a) ≤ 2 ^ 9 := Nat.pow_le_pow_right (by decide) (by omega)
        omega
      refine for_tup (a := t) (xs := [x]) (fun i σ H' => ∃ fa z, σ = [some (.ref p), some (.ref fa), z] ∧ Same (upd H2 t (.tup [x])) H' ∧ H' fa = some (.lst ((knames ([a].take i)).map V.str))) ⟨fa, none, rfl, Same.refl _, (same_new nt (.tup [x])) _ _ e2⟩ (fun i σ H' _ ⟨_, _, _, g, _⟩ => SqT.of (g _ _ upd_same)) (fun i x' σ H' hi ⟨fa', z, e1, g, hf⟩ => ?_) (fun σ H' ⟨fa', z, e1, g, hf⟩ => ?_)
      · subst e1
        obtain ⟨c, hc, hxc⟩ := Paired.at_ (tr.same g) hi
        have mc := List.mem_of_getElem? hc
        have dc := kids_dep (e := (Ex.turned a)) mc
        refine ⟨_, rfl, _, rfl, x', c, rfl, hxc, kids_ok (e := (Ex.turned a)) ok c mc, by omega, by omega, fun H3 l3 g4 hl3 => ?_⟩
        have st := names_step hc
        have b1 := take_names [a] (i + 1)
        rw [st, List.length_append] at b1
        refine ⟨fa', l3, _, _, rfl, rfl, g4 _ _ hf, hl3, ?_, fun p2 np2 => ⟨p2, _, rfl, g.trans (g4.trans (same_new np2 _)), ?_⟩⟩
        · rw [List.length_map, List.length_map]
          exact Nat.le_of_lt (small1000 (by omega))
        · rw [upd_same, st, List.map_append]
      · subst e1
        refine ⟨_, rfl, q _ fa' (g3.trans g) ?_⟩
        rw [hf]
        show some (HO.lst ((knames ([a].take 1)).map V.str)) = some (HO.lst ((Ex.names (Ex.turned a)).map V.str))
        rw [show [a].take 1 = [a] from rfl, show knames [a] = Ex.names (Ex.turned a) from kids_names (e := (Ex.turned a)) (fun x z => nomatch z)]
  | sc o k a =>
    obtain ⟨p, x, rfl, hp, hx⟩ := id ht
    refine ⟨_, rfl, "tuple", false, .base (.tup hp), ki_ts, _, rfl, iteF ⟨Nat.zero_le _, fun fa nfa => ?_⟩⟩
    have g1 := same_new nfa (.lst [])
    refine ⟨_, rfl, "tuple", true, .base (.tup (g1 _ _ hp)), ki_tt, _, rfl, iteT ?_⟩
    refine ⟨_, rfl, _, rfl, p, _, 0, .str o.s, rfl, rfl, SqT.of (g1 _ _ hp), atI_nat (j := 0) rfl, three, fun t2 nt2 => ?_⟩
    have gl := same_new nt2 (.lst (heads3.map V.str))
    have g2 := g1.trans gl
    obtain ⟨H2, eH2⟩ : ∃ H2, H2 = upd (upd H fa (.lst [])) t2 (.lst (heads3.map V.str)) := ⟨_, rfl⟩
    have e2 : H2 fa = some (.lst []) := by rw [eH2]; exact gl _ _ upd_same
    rw [← eH2] at g2
    refine ⟨t2, heads3.map V.str, rfl, .inl (SqL.of upd_same), rfl, strs_flat _, _, rfl, iteE (by rw [inV_str]; exact dT (sop_in o)) ?_⟩
    refine ⟨2, rfl, p, _, rfl, SqT.of (by have z := g2 _ _ hp; rw [eH2] at z; exact z), (by show ¬ (HT.sIx 3 0 (some 2) = 0 ∧ HT.sIx 3 3 none = 3); decide), fun t nt => ?_⟩
    have nt : H2 t = none := by rw [eH2]; exact nt
    rw [show upd (upd H fa (.lst [])) t2 (.lst [.str "times", .str "up", .str "down"]) = H2 from eH2.symm]
    · have g3 := g2.trans (same_new nt (.tup [x]))
      have tr : TrAll (upd _ t (.tup [x])) [x] [a] := .cons (hx.same g3) .nil
      refine ⟨t, rfl, ⟨[x], SqT.of upd_same⟩, ?_⟩
      have bound : (knames [a]).length ≤ 256 := by
        rw [show knames [a] = Ex.names (Ex.sc o k a) from kids_names (e := (Ex.sc o k a)) (fun x z => nomatch z)]
        have h1 := names_len (Ex.sc o k a)
        have h2 : 2 ^ Ex.dep (Ex.sc o k a) ≤ 2 ^ 9 := Nat.pow_le_pow_right (by decide) (by omega)
        omega
      refine for_tup (a := t) (xs := [x]) (fun i σ H' => ∃ fa z, σ = [some (.ref p), some (.ref fa), z] ∧ Same (upd H2 t (.tup [x])) H' ∧ H' fa = some (.lst ((knames ([a].take i)).map V.str))) ⟨fa, none, rfl, Same.refl _, (same_new nt (.tup [x])) _ _ e2⟩ (fun i σ H' _ ⟨_, _, _, g, _⟩ => SqT.of (g _ _ upd_same)) (fun i x' σ H' hi ⟨fa', z, e1, g, hf⟩ => ?_) (fun σ H' ⟨fa', z, e1, g, hf⟩ => ?_)
      · subst e1
        obtain ⟨c, hc, hxc⟩ := Paired.at_ (tr.same g) hi
        have mc := List.mem_of_getElem? hc
        have dc := kids_dep (e := (Ex.sc o k a)) mc
        refine ⟨_, rfl, _, rfl, x', c, rfl, hxc, kids_ok (e := (Ex.sc o k a)) ok c mc, by omega, by omega, fun H3 l3 g4 hl3 => ?_⟩
        have st := names_step hc
        have b1 := take_names [a] (i + 1)
        rw [st, List.length_append] at b1
        refine ⟨fa', l3, _, _, rfl, rfl, g4 _ _ hf, hl3, ?_, fun p2 np2 => ⟨p2, _, rfl, g.trans (g4.trans (same_new np2 _)), ?_⟩⟩
        · rw [List.length_map, List.length_map]
          exact Nat.le_of_lt (small1000 (by omega))
        · rw [upd_same, st, List.map_append]
      · subst e1
        refine ⟨_, rfl, q _ fa' (g3.trans g) ?_⟩
        rw [hf]
        show some (HO.lst ((knames ([a].take 1)).map V.str)) = some (HO.lst ((Ex.names (Ex.sc o k a)).map V.str))
        rw [show [a].take 1 = [a] from rfl, show knames [a] = Ex.names (Ex.sc o k a) from kids_names (e := (Ex.sc o k a)) (fun x z => nomatch z)]
theorem c_told (F : FnP K "_law_told_names" 44 f fd) (m : mg "_law_told_names" = some (.ref f)) (T : Txt K mg) : ∀ n, Cal P w K mg base (n + 2) "_law_told_names" (spAll n)
  | 0 => c_told0 F m
  | n + 1 => c_told1 F m T (c_told F m T n)

def spWords : Sp := fun vs H Q _ => ∃ (b : Addr) (ps : List Addr) (fl : Fil), vs = [.ref b] ∧ FillAt H b ps fl ∧ fl.length ≤ 500 ∧ ∀ H' d, Same H H' → H' d = some (.dK (mergeK [] (kvsF fl))) → Q (.ref d) H'
theorem sc47 : FnScope ["_law_filling", "_law_found", "_law_name", "_law_word"] ["_law_filling"] (L2.defScope (top 47)) := ⟨rfl, rfl, rfl, by decide +kernel, rfl, by decide +kernel, by decide +kernel⟩
theorem merge_step {fl : Fil} {i : Nat} {kv : Str × Int} (h : fl[i]? = some kv) : mergeK [] (kvsF (fl.take (i + 1))) = putK (mergeK [] (kvsF (fl.take i))) (.inr kv.1) (.int kv.2) := by
  unfold mergeK kvsF
  rw [List.take_add_one, h, List.map_append, List.foldl_append]
  rfl
theorem c_words (F : FnP K "_law_words" 47 f fd) (m : mg "_law_words" = some (.ref f)) (T : Txt K mg) : Cal P w K mg base 1 "_law_words" spWords := by
  refine calD F m sc47 (fun vs H Q E h => ?_) (fun _ _ _ _ _ _ us hl => match us, hl with | [_], _ => rfl) (fun cdv A outer s H vs Q E hr h => ?_)
  · obtain ⟨_, _, _, rfl, _⟩ := h
    rfl
  obtain ⟨b, ps, fl, rfl, hF, h500, q⟩ := h
  refine ⟨_, pss_cons (ps_set (i := 1) sc47.nd rfl (Or.inl rfl) pe_dnewK) <|
    pss_cons (ps_for PassesOwn.never rfl (pi_list (pv 0)) (pg_tup rfl (pgs_cons (pg_name (i := 2) sc47.nd rfl (Or.inl rfl)) (pgs_cons (pg_name (i := 3) sc47.nd rfl (Or.inl rfl)) pgs_nil)))
      (pss_one (ps_dput (hu_of hr) (pv 1) (pv 2) (pv 3) (by rfl)))) <|
    pss_one (ps_ret (pv 1)), ?_⟩
  refine fun d nd => ⟨_, rfl, b, rfl, ⟨_, SqL.of (same_new nd (.dK []) _ _ hF.lst)⟩, ?_⟩
  have g1 := same_new nd (.dK [])
  refine for_list (a := b) (xs := ps.map V.ref) (fun i σ H' => ∃ x y, σ = [some (.ref b), some (.ref d), x, y] ∧ Same H H' ∧ H' d = some (.dK (mergeK [] (kvsF (fl.take i))))) ⟨none, none, rfl, g1, upd_same⟩ (fun i σ H' _ ⟨_, _, _, g, _⟩ => SqL.of (g _ _ hF.lst)) (fun i x' σ H' hi ⟨x0, y0, e1, g, hd⟩ => ?_) (fun σ H' ⟨x0, y0, e1, g, hd⟩ => ?_)
  · subst e1
    obtain ⟨p, hp, rfl⟩ : ∃ p, ps[i]? = some p ∧ V.ref p = x' := by
      rw [List.getElem?_map] at hi
      cases hp : ps[i]? with
      | none => rw [hp] at hi; cases hi
      | some p => rw [hp] at hi; exact ⟨p, rfl, Option.some.inj hi⟩
    obtain ⟨kv, hkv, hpa⟩ := Paired.at_ hF.all hp
    refine ⟨p, _, rfl, SqT.of (g _ _ hpa), rfl, _, _, rfl, _, _, rfl, rfl, ?_⟩
    refine ⟨_, rfl, _, rfl, _, rfl, d, _, rfl, DPut.k (k := .inr kv.1) hd ?_, ?_⟩
    · have z := length_mergeK (kvsF (fl.take i)) []
      have z2 : (kvsF (fl.take i)).length ≤ fl.length := by
        unfold kvsF
        rw [List.length_map, List.length_take]
        omega
      rw [List.length_nil] at z
      exact small1000 (by omega)
    · refine ⟨_, _, rfl, same_over g nd _, ?_⟩
      rw [upd_same, merge_step hkv]
  · subst e1
    refine ⟨_, rfl, q _ d g ?_⟩
    rw [hd, List.length_map, hF.len, List.take_length]
end
end Hw
/-! ## KRepr -/
namespace Hw
open PySem PySem.Spec PyProof.Rows L2

/-! ### expressions and fillings as data that can be shown -/
def dE : Ex → PyData
  | .nm x => .str x
  | .num i => .int i
  | .bin o a b => .tuple [.str o.s, dE a, dE b]
  | .turned a => .tuple [.str "turned", dE a]
  | .sc o k a => .tuple [.str o.s, .int k, dE a]
def dF1 (kv : Str × Int) : PyData := .tuple [.str kv.1, .int kv.2]
def dFl (fl : Fil) : PyData := .list (fl.map dF1)
structure Nice (d : PyData) (m n : Nat) : Prop where
  sh : d.showable = true
  hd : d.hasDict = false
  ls : d.leavesShort 30 = true
  dp : d.depth ≤ m
  wt : d.weight ≤ n
structure NiceA (ds : List PyData) (m n : Nat) : Prop where
  sh : PyData.showableAll ds = true
  hd : PyData.hasDictAll ds = false
  ls : PyData.leavesShortAll 30 ds = true
  dp : PyData.depthAll ds ≤ m
  wt : PyData.weightAll ds ≤ n
theorem NiceA.nil {m n : Nat} : NiceA [] m n := ⟨rfl, rfl, rfl, Nat.zero_le _, Nat.zero_le _⟩
theorem NiceA.cons {d : PyData} {ds : List PyData} {m n1 n2 n : Nat} (h : Nice d m n1) (k : NiceA ds m n2) (e : n1 + 1 + n2 ≤ n) : NiceA (d :: ds) m n := by
  refine ⟨?_, ?_, ?_, ?_, ?_⟩
  · simp only [PyData.showableAll, h.sh, k.sh, Bool.and_self]
  · simp only [PyData.hasDictAll, h.hd, k.hd, Bool.or_self]
  · simp only [PyData.leavesShortAll, h.ls, k.ls, Bool.and_self]
  · have h1 := h.dp
    have h2 := k.dp
    simp only [PyData.depthAll]
    omega
  · have h1 := h.wt
    have h2 := k.wt
    simp only [PyData.weightAll]
    omega
theorem NiceA.tup {ds : List PyData} {m n : Nat} (h : NiceA ds m n) : Nice (.tuple ds) (m + 1) n := by
  refine ⟨?_, ?_, ?_, ?_, ?_⟩
  · simp only [PyData.showable, h.sh]
  · simp only [PyData.hasDict, h.hd]
  · simp only [PyData.leavesShort, h.ls]
  · have h1 := h.dp
    simp only [PyData.depth]
    omega
  · have h1 := h.wt
    simp only [PyData.weight]
    omega
theorem NiceA.lst {ds : List PyData} {m n : Nat} (h : NiceA ds m n) : Nice (.list ds) (m + 1) n := by
  refine ⟨?_, ?_, ?_, ?_, ?_⟩
  · simp only [PyData.showable, h.sh]
  · simp only [PyData.hasDict, h.hd]
  · simp only [PyData.leavesShort, h.ls]
  · have h1 := h.dp
    simp only [PyData.depth]
    omega
  · have h1 := h.wt
    simp only [PyData.weight]
    omega
theorem Nice.mono {d : PyData} {m m' n n' : Nat} (h : Nice d m n) (h1 : m ≤ m') (h2 : n ≤ n') : Nice d m' n' := ⟨h.sh, h.hd, h.ls, Nat.le_trans h.dp h1, Nat.le_trans h.wt h2⟩
def wordsL : List Str := ["b", "t1", "x", "y", "plus", "minus", "both", "either", "unlike", "turned", "times", "up", "down"]
theorem wordsL_ok : ∀ x ∈ wordsL, (x.cps.toList.all fun c => decide (c < 16 ^ 8)) = true ∧ x.cps.size ≤ 6 := by decide +kernel
theorem nice_str {x : Str} (h : x ∈ wordsL) {m : Nat} : Nice (.str x) m 6 := by
  have k := wordsL_ok x h
  refine ⟨?_, ?_, ?_, ?_, ?_⟩
  · simp only [PyData.showable]
  · simp only [PyData.hasDict]
  · simp only [PyData.leavesShort]
    exact k.1
  · simp only [PyData.depth]
    exact Nat.zero_le _
  · simp only [PyData.weight]
    exact k.2
theorem nice_int {i : Int} (h : i.natAbs < 18446744073709551616) {m : Nat} : Nice (.int i) m 65 := by
  have e64 : (2 : Nat) ^ 64 = 18446744073709551616 := by decide
  have h64 : i.natAbs.log2 < 64 := PySem.Flt.log2_lt_of (by decide) (by rw [e64]; exact h)
  refine ⟨?_, ?_, ?_, ?_, ?_⟩
  · simp only [PyData.showable]
    exact decide_eq_true (by omega)
  · simp only [PyData.hasDict]
  · simp only [PyData.leavesShort]
    have e := int_text_length_le10 (a := i) (k := 20) (by decide) (by have : (10 : Nat) ^ 20 = 100000000000000000000 := by decide
                                                                      omega)
    refine decide_eq_true ?_
    show (Str.ofString (toString i)).length ≤ 30
    rw [PySem.ofString_length]
    omega
  · simp only [PyData.depth]
    exact Nat.zero_le _
  · simp only [PyData.weight]
    split <;> omega
theorem ok_words {x : Str} (h : x ∈ okNames) : x ∈ wordsL := by
  revert x
  decide +kernel
theorem bop_words (o : Bop) : o.s ∈ wordsL := by cases o <;> decide
theorem sop_words (o : Sop) : o.s ∈ wordsL := by cases o <;> decide
theorem nice_ex : ∀ {e : Ex}, e.Ok → Nice (dE e) e.dep (100 * 2 ^ e.dep - 100)
  | .nm x, h => (nice_str (ok_words h)).mono (Nat.le_refl _) (by show 6 ≤ 100 * 2 ^ 1 - 100; decide)
  | .num i, h => (nice_int (by have := h.1; have := h.2; omega)).mono (Nat.le_refl _) (by show 65 ≤ 100 * 2 ^ 1 - 100; decide)
  | .bin o a b, h => by
    have h1 := nice_ex h.1
    have h2 := nice_ex h.2
    have p1 : 2 ^ a.dep ≤ 2 ^ max a.dep b.dep := Nat.pow_le_pow_right (by decide) (Nat.le_max_left _ _)
    have p2 : 2 ^ b.dep ≤ 2 ^ max a.dep b.dep := Nat.pow_le_pow_right (by decide) (Nat.le_max_right _ _)
    have p3 : 2 ^ 1 ≤ 2 ^ a.dep := Nat.pow_le_pow_right (by decide) (dep_pos a)
    have p4 : 2 ^ 1 ≤ 2 ^ b.dep := Nat.pow_le_pow_right (by decide) (dep_pos b)
    have p5 : 2 ^ (max a.dep b.dep + 1) = 2 ^ max a.dep b.dep * 2 := Nat.pow_succ ..
    refine NiceA.tup (m := max a.dep b.dep) (.cons (nice_str (bop_words o)) (.cons (h1.mono (Nat.le_max_left _ _) (Nat.le_refl _)) (.cons (h2.mono (Nat.le_max_right _ _) (Nat.le_refl _)) .nil (n2 := 0) (Nat.le_refl _)) (Nat.le_refl _)) ?_)
    show _ ≤ 100 * 2 ^ (max a.dep b.dep + 1) - 100
    omega
  | .turned a, h => by
    have h1 := nice_ex (e := a) h
    have p3 : 2 ^ 1 ≤ 2 ^ a.dep := Nat.pow_le_pow_right (by decide) (dep_pos a)
    have p5 : 2 ^ (a.dep + 1) = 2 ^ a.dep * 2 := Nat.pow_succ ..
    refine NiceA.tup (m := a.dep) (.cons (nice_str (x := "turned") (by decide)) (.cons h1 .nil (n2 := 0) (Nat.le_refl _)) ?_)
    show _ ≤ 100 * 2 ^ (a.dep + 1) - 100
    omega
  | .sc o k a, h => by
    have hk := h.k
    have h1 := nice_ex hk.2.2.1
    have p3 : 2 ^ 1 ≤ 2 ^ a.dep := Nat.pow_le_pow_right (by decide) (dep_pos a)
    have p5 : 2 ^ (a.dep + 1) = 2 ^ a.dep * 2 := Nat.pow_succ ..
    refine NiceA.tup (m := a.dep) (.cons (nice_str (sop_words o)) (.cons (nice_int (i := k) (by omega)) (.cons h1 .nil (n2 := 0) (Nat.le_refl _)) (Nat.le_refl _)) ?_)
    show _ ≤ 100 * 2 ^ (a.dep + 1) - 100
    omega
theorem nice_fil : ∀ {fl : Fil}, (∀ kv ∈ fl, kv.1 ∈ okNames ∧ kv.2.natAbs < 18446744073709551616) → NiceA (fl.map dF1) 1 (fl.length * 80)
  | [], _ => .nil
  | kv :: r, h => by
    have h0 := h kv (List.mem_cons_self ..)
    have h1 := nice_fil (fl := r) fun z hz => h z (List.mem_cons_of_mem _ hz)
    have h2 : Nice (dF1 kv) 1 73 := NiceA.tup (m := 0) (.cons (nice_str (ok_words h0.1)) (.cons (nice_int h0.2) .nil (n2 := 0) (Nat.le_refl _)) (by decide))
    refine .cons h2 h1 ?_
    rw [List.length_cons]
    omega
theorem nice_all {e : Ex} {fl : Fil} (ok : e.Ok) (hd : e.dep ≤ 6) (hl : fl.length ≤ 4) (h : ∀ kv ∈ fl, kv.1 ∈ okNames ∧ kv.2.natAbs < 18446744073709551616) : Nice (.list [dE e, dFl fl]) 7 7000 := by
  have h1 := nice_ex ok
  have h2 := nice_fil h
  have p : 2 ^ e.dep ≤ 2 ^ 6 := Nat.pow_le_pow_right (by decide) hd
  refine NiceA.lst (m := 6) (.cons (h1.mono hd (n' := 6300) ?_) (.cons (h2.lst.mono (m' := 6) (by decide) (n' := 320) (by omega)) .nil (n2 := 0) (Nat.le_refl _)) (by decide))
  omega
theorem Nice.fits {d : PyData} (h : Nice d 7 7000) : d.shown.length ≤ sizeLine := by
  have z := PyData.shown_le 30 (by decide) d h.ls
  have w := h.wt
  have : sizeLine = 16777216 := by decide
  omega
section
variable {H : Hp} {K : PySem.W.Frag}
theorem dp_ex : ∀ {e : Ex} {v : V}, TrV H e v → Dp K H v (dE e)
  | .nm x, _, h => by
    obtain rfl := h
    exact .str x
  | .num i, _, h => by
    obtain rfl := h
    exact .int i
  | .bin o a b, _, ⟨p, x, y, h1, h2, h3, h4⟩ => by
    subst h1
    exact .tup (SqT.of h2) (.cons (.str _) (.cons (dp_ex h3) (.cons (dp_ex h4) .nil)))
  | .turned a, _, ⟨p, x, h1, h2, h3⟩ => by
    subst h1
    exact .tup (SqT.of h2) (.cons (.str _) (.cons (dp_ex h3) .nil))
  | .sc o k a, _, ⟨p, x, h1, h2, h3⟩ => by
    subst h1
    exact .tup (SqT.of h2) (.cons (.str _) (.cons (.int _) (.cons (dp_ex h3) .nil)))
theorem dp_pairs : ∀ {ps : List Addr} {fl : Fil}, Paired (PairAt H) ps fl → DpAll K H (ps.map V.ref) (fl.map dF1)
  | _, _, .nil => .nil
  | _, _, .cons h t => .cons (.tup (SqT.of h) (.cons (.str _) (.cons (.int _) .nil))) (dp_pairs t)
theorem dp_fil {b : Addr} {ps : List Addr} {fl : Fil} (h : FillAt H b ps fl) : Dp K H (.ref b) (dFl fl) := .lst (SqL.of h.lst) (dp_pairs h.all)
end
end Hw
/-! ## KRight -/
namespace Hw
open PySem PySem.Spec PyProof.Rows L2
section
variable {P : Program} {w : World} {K : PySem.W.Frag} {mg : Str → Option Value} {base : Heap} {f : Addr} {fd : FuncData}
theorem ne_gen {H : Hp} {g t : Addr} {n : Nat} (G : GenAt H g n) (h : H t = none) : t ≠ g := fun e => by
  obtain ⟨_, _, _, e2, _⟩ := G
  rw [e, e2] at h
  cases h
theorem SameG.over {g D : Addr} {H1 H2 : Hp} (s : SameG g H1 H2) (h : H1 D = none) (o : HO) : SameG g H1 (upd H2 D o) := fun b u n q => by rw [upd_ne (ne_of_none q h)]; exact s b u n q
theorem GenAt.over {H : Hp} {g D : Addr} {n : Nat} (G : GenAt H g n) (h : D ≠ g) (o : HO) : GenAt (upd H D o) g n := by
  obtain ⟨a, b, c, h1, h2⟩ := G
  exact ⟨a, b, c, by rw [upd_ne (Ne.symm h)]; exact h1, h2⟩
theorem pair_over {H : Hp} {D q : Addr} {ys : List V} {kv : Str × Int} (h : H D = some (.lst ys)) (o : HO) (k : PairAt H q kv) : PairAt (upd H D o) q kv := by
  have n : q ≠ D := fun e => by
    subst e
    rw [show H q = some (.tup [.str kv.1, .int kv.2]) from k] at h
    cases h
  show upd H D o q = _
  rw [upd_ne n]
  exact k
theorem Paired.snoc {α β : Type} {F : α → β → Prop} {l : List α} {m : List β} {a : α} {b : β} (h : Paired F l m) (k : F a b) : Paired F (l ++ [a]) (m ++ [b]) := by
  induction h with
  | nil => exact .cons k .nil
  | cons h _ ih => exact .cons h ih
theorem log_small {w : Nat} (hw : w ≤ 64) {i : Int} (h0 : 0 ≤ i) (h1 : i < 2 ^ w) : i.natAbs.log2 < 1920 := by
  have p := pow64 hw
  have e : (2 : Int) ^ 64 = 18446744073709551616 := by decide
  have e2 : (2 : Nat) ^ 65 = 36893488147419103232 := by decide
  have z : i.natAbs.log2 < 65 := PySem.Flt.log2_lt_of (by decide) (by rw [e2]; omega)
  omega
theorem fit_small {w : Nat} (hw : w ≤ 64) {fl : Fil} (h : FitsF w fl) {xs : List Str} (hn : fnames fl = norm xs) : ∀ kv ∈ fl, kv.1 ∈ okNames ∧ kv.2.natAbs < 18446744073709551616 := fun kv hk => by
  have p := pow64 hw
  have e : (2 : Int) ^ 64 = 18446744073709551616 := by decide
  have f := h kv hk
  refine ⟨?_, by omega⟩
  have z : kv.1 ∈ fnames fl := List.mem_map_of_mem hk
  rw [hn] at z
  exact (mem_norm.mp z).1
/-- a def that is called where nothing is being shown -/
def CalG (P : Program) (w : World) (K : PySem.W.Frag) (mg : Str → Option Value) (base : Heap) (k : Nat) (x : Str) (sp : Sp) : Prop :=
  ∃ (f : Addr) (fd : FuncData) (ps : List Str), FnG P w K mg base k f fd ps sp ∧ mg x = some (.ref f) ∧ PySem.W.keepIn K (.ref f) = true ∧ Binds K fd ps []
/-- what the law's own generators go through: all right -/
def spRight : Sp := fun vs H Q _ => ∃ (g : Addr), vs = [.ref g] ∧ GenAt H g 1000 ∧ ∀ H', SameG g H H' → Q (.bl true) H'
def n48 : List Str := ["_law_generator_here", "_law_names", "_law_told", "_law_found", "_law_width", "_law_filling", "_law_kept", "_law_due", "_law_twice", "_law_shift", "_law_name"]
theorem sc48 : FnScope n48 ["_law_generator_here"] (L2.defScope (top 48)) := ⟨rfl, rfl, rfl, by decide +kernel, rfl, by decide +kernel, by decide +kernel⟩
/-- the tools of the law -/
structure Tools (P : Program) (w : World) (K : PySem.W.Frag) (mg : Str → Option Value) (base : Heap) : Prop where
  V : CalV P w K mg base
  D : Cal P w K mg base 2 "_law_random" spRand
  Z : Cal P w K mg base 1 "_law_power" spLP
  LE : Cal P w K mg base 6 "_law_expression" (spLE 4)
  TN : Cal P w K mg base 6 "_law_told_names" (spAll 4)
  LV : Cal P w K mg base 8 "_law_value" (spVal 5)
  WD : Cal P w K mg base 1 "_law_words" spWords
theorem c_right (F : FnP K "_law_right" 48 f fd) (m : mg "_law_right" = some (.ref f)) (T : Txt K mg) (C : Tools P w K mg base) : CalG P w K mg base 14 "_law_right" spRight := by
  refine ⟨f, fd, ["_law_generator_here"], okG F sc48 (fun vs H Q E h => ?_) (fun cdv A outer s H vs Q E hgd hr h => ?_), m, F.kp, F.bindsN fun _ _ _ _ _ _ us hl => match us, hl with | [_], _ => rfl⟩
  · obtain ⟨_, rfl, _⟩ := h
    rfl
  obtain ⟨g, rfl, hG, q⟩ := h
  refine ⟨_, pss_cons (ps_set (i := 1) sc48.nd rfl (Or.inl rfl) (pe_ix ix_list (pe_lst (pa_cons (pe_lst pa_nil) (pa_cons (pe_lst (pa_cons pe_str pa_nil)) (pa_cons (pe_lst (pa_cons pe_str (pa_cons pe_str pa_nil))) pa_nil)))) (pe_c C.D hr (pa_cons (pv 0) (pa_cons pe_int pa_nil))) (fun _ _ => rfl))) <|
    pss_cons (ps_set (i := 2) sc48.nd rfl (Or.inl rfl) (pe_c C.LE hr (pa_cons (pv 0) (pa_cons (pv 1) (pa_cons pe_int pa_nil))))) <|
    pss_cons (ps_set (i := 3) sc48.nd rfl (Or.inl rfl) (pe_b1 (cr_sortTx rfl) T.sorted boot_sorted (pe_t1 (cr_setTx rfl) T.set boot_set (pe_c C.TN hr (pa_cons (pv 2) pa_nil))))) <|
    pss_cons (ps_for PassesOwn.never rfl (pi_list (pe_lst (pa_cons (pe_c C.D hr (pa_cons (pv 0) (pa_cons pe_int pa_nil))) (pa_cons (pe_op op_add pe_int (pe_c C.D hr (pa_cons (pv 0) (pa_cons pe_int pa_nil)))) (pa_cons (pe_c C.D hr (pa_cons (pv 0) (pa_cons pe_int pa_nil))) pa_nil))))) (pg_name (i := 4) sc48.nd rfl (Or.inr rfl))
      (pss_cons (ps_setLc (i := 5) (own := [("_law_name", 10)]) (g := gName 10) (by rfl) sc48.nd rfl rfl (sw_true rfl rfl rfl (by decide +kernel)) (pi_list (pv 3))
        (blkOk_by (own := [("_law_name", 10)]) (N := n48) (sc := L2.defScope (top 48)) (by decide +kernel)) (fun _ _ _ _ _ => pg_name (i := 10) sc48.nd rfl (Or.inl rfl)) (fun _ _ _ _ _ => pts_nil)
        (fun _ _ _ _ _ => pe_tup (pa_cons (pv 10) (pa_cons (pe_c C.D hr (pa_cons (pv 0) (pa_cons (pe_c C.Z hr (pa_cons (pv 4) pa_nil)) pa_nil))) pa_nil)))) <|
       pss_cons (ps_par (i := 6) (j := 7) rfl sc48.nd rfl rfl (by decide) rfl rfl (pa_cons (pe_b1 (call_reprD hgd hr.units) T.repr boot_repr (pe_lst (pa_cons (pv 2) (pa_cons (pv 5) pa_nil))))
          (pa_cons (pe_c C.LV hr (pa_cons (pv 4) (pa_cons (pv 2) (pa_cons (pe_c C.WD hr (pa_cons (pv 5) pa_nil)) pa_nil)))) pa_nil)) (by rfl)) <|
       pss_cons (ps_if (PW.pt (pw_or (pt_cmpR op_ne (pe_b1 SkE.call_repr_int T.repr boot_repr (pe_c C.V.c hr (pa_cons (pv 4) (pa_cons (pv 2) (pa_cons (pv 5) pa_nil))))) (pe_b1 SkE.call_repr_int T.repr boot_repr (pv 7)) (nomark _)) <|
          pw_or1 (pt_cmpR op_ne (pe_b1 SkE.call_repr_int T.repr boot_repr (pe_cK C.V hr (pk_cons (pv 5) (pk_cons (pv 2) (pk_cons (pv 4) pk_nil))))) (pe_b1 SkE.call_repr_int T.repr boot_repr (pv 7)) (nomark _)))) (pss_one (ps_ret pe_bl)) pss_nil) <|
       pss_cons (ps_set (i := 8) sc48.nd rfl (Or.inl rfl) (pe_c C.V.c hr (pa_cons (pv 4) (pa_cons (pe_tup (pa_cons pe_str (pa_cons (pv 2) (pa_cons (pe_tup (pa_cons pe_str (pa_cons (pe_un un_neg pe_int) (pa_cons (pv 2) pa_nil)))) pa_nil)))) (pa_cons (pv 5) pa_nil))))) <|
       pss_cons (ps_if (PW.pt (pw_or (pt_cmpR op_ne (pv 8) pe_int (nomark _)) <|
          pw_or (pt_cmpR op_ne (pe_c C.V.c hr (pa_cons (pv 4) (pa_cons (pe_tup (pa_cons pe_str (pa_cons (pe_tup (pa_cons pe_str (pa_cons (pv 2) pa_nil))) (pa_cons (pv 2) pa_nil)))) (pa_cons (pv 5) pa_nil)))) (pe_op op_sub (pe_c C.Z hr (pa_cons (pv 4) pa_nil)) pe_int) (nomark _)) <|
          pw_or1 (pt_cmpR op_ne (pe_b1 (call_reprD hgd hr.units) T.repr boot_repr (pe_lst (pa_cons (pv 2) (pa_cons (pv 5) pa_nil)))) (pv 6) (nomark _)))) (pss_one (ps_ret pe_bl)) pss_nil) <|
       pss_cons (ps_set (i := 9) sc48.nd rfl (Or.inl rfl) (pe_c C.D hr (pa_cons (pv 0) (pa_cons pe_int pa_nil)))) <|
       pss_one (ps_if (pt_cmpR op_ne (pe_c C.V.c hr (pa_cons (pv 4) (pa_cons (pe_tup (pa_cons pe_str (pa_cons (pv 9) (pa_cons (pe_tup (pa_cons pe_str (pa_cons (pv 9) (pa_cons (pv 2) pa_nil)))) pa_nil)))) (pa_cons (pv 5) pa_nil))))
          (pe_op op_mod (pe_t1 call_int1 T.int boot_int (pv 7)) (pe_c C.Z hr (pa_cons (pe_callB (call_max2 rfl) (by rfl) T.max boot_max (pa_cons (pe_op op_sub (pv 4) (pv 9)) (pa_cons pe_int pa_nil)) (by decide) (by decide) (by rfl) (by rfl)) pa_nil))) (nomark _)) (pss_one (ps_ret pe_bl)) pss_nil))) <|
    pss_one (ps_ret pe_bl), ?_⟩
  have zero : 0 ≤ sizeLine := Nat.zero_le _
  have one : 1 ≤ sizeLine := by decide
  have two : 2 ≤ sizeLine := by decide
  have three : 3 ≤ sizeLine := by decide
  refine ⟨zero, fun e1 n1 => ⟨one, fun e2 n2 => ⟨two, fun e3 n3 => ⟨three, fun L0 nL0 => ?_⟩⟩⟩⟩
  have a1 := same_new n1 (.lst [])
  have a2 := same_new n2 (.lst [.str "x"])
  have a3 := same_new n3 (.lst [.str "b", .str "x"])
  have a4 := same_new nL0 (.lst [.ref e1, .ref e2, .ref e3])
  have b2 := a2.trans (a3.trans a4)
  have b3 := a3.trans a4
  have aa := a1.trans b2
  have g1 := ne_gen hG n1
  have g2 := ne_gen (hG.same a1) n2
  have g3 := ne_gen (hG.same (a1.trans a2)) n3
  have g4 := ne_gen (hG.same (a1.trans (a2.trans a3))) nL0
  refine ⟨_, rfl, g, 3, 999, rfl, hG.same aa, by decide, by decide, fun H1 r1 s1 G1 r10 r11 => ?_⟩
  obtain ⟨ln, xs, hln, hl, hx, lg⟩ : ∃ (ln : Addr) (xs : List Str), atI [V.ref e1, .ref e2, .ref e3] r1 = some (.ref ln) ∧ H1 ln = some (.lst (xs.map V.str)) ∧ NamesK xs ∧ ln ≠ g := by
    obtain ⟨i, rfl⟩ := nat_of r10
    have hi : i < 3 := by omega
    match i, hi with
    | 0, _ => exact ⟨e1, [], rfl, s1 _ _ g1 (b2 _ _ upd_same), .inl rfl, g1⟩
    | 1, _ => exact ⟨e2, ["x"], rfl, s1 _ _ g2 (b3 _ _ upd_same), .inr (.inl rfl), g2⟩
    | 2, _ => exact ⟨e3, ["b", "x"], rfl, s1 _ _ g3 (a4 _ _ upd_same), .inr (.inr rfl), g3⟩
  refine ⟨L0, _, r1, .ref ln, rfl, rfl, SqL.of (s1 _ _ g4 upd_same), hln, ?_⟩
  have t1 : SameG g H H1 := (SameG.of aa).trans s1
  refine ⟨_, rfl, _, rfl, g, ln, xs, 900, rfl, by decide, G1.less (by decide), hl, hx, lg, fun H2 v e s2 G2 tv ok dp nm => ?_⟩
  have nl := names_len e
  have nl2 : 2 ^ e.dep ≤ 2 ^ 4 := Nat.pow_le_pow_right (by decide) dp
  refine ⟨_, rfl, v, e, rfl, tv, ok, dp, by decide, fun H3 l3 c3 hl3 => ⟨l3, e.names, rfl, SqL.of hl3, by omega, fun p4 np4 => ⟨p4, e.names, rfl, upd_same, by omega, names_ok_of ok, fun r nr => ?_⟩⟩⟩
  have c4 : Same H2 (upd (upd H3 p4 (StO w p4 e.names)) r (.lst ((norm e.names).map V.str))) := c3.trans ((same_new np4 _).trans (same_new nr (.lst ((norm e.names).map V.str))))
  have hr4 : upd (upd H3 p4 (StO w p4 e.names)) r (.lst ((norm e.names).map V.str)) r = some (.lst ((norm e.names).map V.str)) := upd_same
  have G4 := G2.same c4
  have tv4 := tv.same c4
  have t4 := (t1.trans s2).then c4
  have rg : r ≠ g := fun z => by
    obtain ⟨_, _, _, e2, _⟩ := G4
    have h6 := congrArg (upd (upd H3 p4 (StO w p4 e.names)) r (.lst ((norm e.names).map V.str))) z
    have h7 := hr4.symm.trans (h6.trans e2)
    cases hn : norm e.names with
    | nil => rw [hn] at h7; cases h7
    | cons y ys => rw [hn] at h7; cases h7
  refine ⟨_, rfl, g, 6, 800, rfl, G4.less (by decide), by decide, by decide, fun H5 w0 s5 G5 w00 w01 => ⟨_, rfl, g, 3, 700, rfl, G5.less (by decide), by decide, by decide, fun H6 w1 s6 G6 w10 w11 => ⟨_, _, rfl, rfl, _, rfl, g, 65, 600, rfl, G6.less (by decide), by decide, by decide, fun H7 w2 s7 G7 w20 w21 => ⟨three, fun L nL => ?_⟩⟩⟩⟩
  have s47 := s5.trans (s6.trans s7)
  have Lg := ne_gen G7 nL
  have aL := same_new nL (.lst [.int w0, .int (1 + w1), .int w2])
  have s48 := s47.then aL
  refine ⟨L, rfl, ⟨_, SqL.of upd_same⟩, ?_⟩
  have wid : ∀ x ∈ [V.int w0, .int (1 + w1), .int w2], ∃ n : Nat, x = .int n ∧ n ≤ 64 := fun x hx => by
    rcases List.mem_cons.mp hx with rfl | hx
    · obtain ⟨n, rfl⟩ := nat_of w00
      exact ⟨n, rfl, by omega⟩
    rcases List.mem_cons.mp hx with rfl | hx
    · obtain ⟨n, rfl⟩ := nat_of w10
      exact ⟨1 + n, rfl, by omega⟩
    obtain rfl := List.mem_singleton.mp hx
    obtain ⟨n, rfl⟩ := nat_of w20
    exact ⟨n, rfl, by omega⟩
  refine for_list (a := L) (xs := [.int w0, .int (1 + w1), .int w2]) (fun i σ H' => ∃ z4 z5 z6 z7 z8 z9, σ = [some (.ref g), some (.ref ln), some v, some (.ref r), z4, z5, z6, z7, z8, z9, none] ∧ SameG g (upd H7 L (.lst [.int w0, .int (1 + w1), .int w2])) H' ∧ GenAt H' g (100 - 10 * i))
    ⟨none, none, none, none, none, none, rfl, SameG.refl, (G7.same aL).less (by decide)⟩ (fun i σ H' _ ⟨_, _, _, _, _, _, _, s9, _⟩ => SqL.of (s9 _ _ Lg upd_same)) (fun i x σ H' hi ⟨z4, z5, z6, z7, z8, z9, ez, s9, G9⟩ => ?_) (fun σ H' ⟨z4, z5, z6, z7, z8, z9, ez, s9, G9⟩ => ?_)
  · subst ez
    obtain ⟨n, rfl, hn64⟩ := wid x (List.mem_of_getElem? hi)
    have i3 : i < 3 := (List.getElem?_eq_some_iff.mp hi).1
    have s49 := s48.trans s9
    have tv9 := tv4.sameG s49 G4
    have hr9 := s49 _ _ rg hr4
    refine ⟨_, rfl, r, rfl, ⟨_, SqL.of hr9⟩, fun D nD => ?_⟩
    have Dg := ne_gen G9 nD
    have lenN := norm_len e.names
    refine lc_list (a := r) (xs := (norm e.names).map V.str) (fun j H2 => ∃ (ps : List Addr) (fil : Fil), SameG g H' H2 ∧ GenAt H2 g (100 - 10 * i - j) ∧ H2 D = some (.lst (ps.map V.ref)) ∧ Paired (PairAt H2) ps fil ∧ fnames fil = (norm e.names).take j ∧ FitsF n fil ∧ ps.length ≤ j)
      ⟨[], [], SameG.refl.over nD _, G9.over Dg _, upd_same, .nil, rfl, (fun kv hk => nomatch hk), Nat.le_refl _⟩ (fun j H2 _ ⟨ps, fil, s10, _⟩ => SqL.of (s10 _ _ rg hr9)) (fun j x H2 hj ⟨ps, fil, s10, G10, hD, hp, hf, fit, hlen⟩ => ?_) (fun H2 ⟨ps, fil, s10, G10, hD, hp, hf, fit, hlen⟩ => ?_)
    · obtain ⟨x, hxn, rfl⟩ : ∃ y, (norm e.names)[j]? = some y ∧ V.str y = x := by
        rw [List.getElem?_map] at hj
        cases hq : (norm e.names)[j]? with
        | none => rw [hq] at hj; cases hj
        | some y => rw [hq] at hj; exact ⟨y, rfl, Option.some.inj hj⟩
      have j4 : j < 4 := Nat.lt_of_lt_of_le (List.getElem?_eq_some_iff.mp hxn).1 lenN
      have pp := p2 n
      have p64 := pow64 hn64
      have e64 : (2 : Int) ^ 64 = 18446744073709551616 := by decide
      refine ⟨rfl, _, rfl, _, rfl, _, rfl, n, rfl, by omega, g, _, 100 - 10 * i - (j + 1), rfl, G10.less (by omega), pp, by omega, fun H3 r' s11 G11 r0 r1 => ⟨two, fun p np => ?_⟩⟩
      have a12 := same_new np (.tup [.str x, .int r'])
      have hD3 := a12 _ _ (s11 _ _ Dg hD)
      refine ⟨ps.map V.ref, hD3, by rw [List.length_map]; exact small1000 (by omega), ps ++ [p], fil ++ [(x, r')], ((s10.trans s11).then a12).over nD _, (G11.same a12).over Dg _, ?_, ?_, ?_, ?_, ?_⟩
      · rw [upd_same, List.map_append]
        rfl
      · refine Paired.snoc (Paired.imp (fun q kv k => pair_over hD3 _ (a12 _ _ k)) (s11.pairs G10 hp)) (pair_over hD3 _ upd_same)
      · unfold fnames at hf ⊢
        rw [List.map_append, hf, List.take_add_one, hxn]
        rfl
      · intro kv hk
        rcases List.mem_append.mp hk with hk | hk
        · exact fit kv hk
        · obtain rfl := List.mem_singleton.mp hk
          exact ⟨r0, r1⟩
      · rw [List.length_append]
        exact Nat.succ_le_succ hlen
    · have hn : fnames fil = norm e.names := by
        rw [hf, List.length_map, List.take_length]
      have hF : FillAt H2 D ps fil := ⟨hD, hp⟩
      have Ga : GenAt H2 g (100 - 10 * i - 5) := G10.less (by rw [List.length_map]; omega)
      have tva := tv9.sameG s10 G9
      have lenF : fil.length ≤ 4 := by
        have z : (fnames fil).length = fil.length := List.length_map _
        rw [← z, hn]
        exact lenN
      have nice : Nice (.list [dE e, dFl fil]) 7 7000 := nice_all ok (by omega) lenF (fit_small hn64 fit hn)
      have fits : Fits n (rho fil) e.names := fun x _ => rho_fits fit x
      have rg := ev_rng fits (e := e)
      have small := log_small hn64 rg.1 rg.2
      have nd : (fnames fil).Nodup := by rw [hn]; exact norm_nd _
      have sub : ∀ x ∈ e.names, x ∈ fnames fil := fun x hx => by rw [hn]; exact mem_norm.mpr ⟨names_ok_of ok x hx, hx⟩
      have pp := p2 n
      -- what is kept, what is due
      refine ⟨_, rfl, _, rfl, two, fun l nl => ⟨l, .list [dE e, dFl fil], rfl, .lst (SqL.of upd_same) (.cons (dp_ex (tva.same (same_new nl (.lst [v, .ref D])))) (.cons (dp_fil (hF.same (same_new nl (.lst [v, .ref D])))) .nil)), nice.sh, nice.hd, Nat.le_trans nice.dp (by decide), nice.fits, ?_⟩⟩
      have c1 := same_new nl (.lst [v, .ref D])
      refine ⟨_, rfl, _, rfl, _, rfl, D, ps, fil, rfl, hF.same c1, by omega, fun Hd d gd hd => ⟨n, v, d, mergeK [] (kvsF fil), rho fil, e, rfl, hn64, tva.same (c1.trans gd), ok, by omega, hd, words_at fit nd sub, fun He ge => ?_⟩⟩
      have cE := c1.trans (gd.trans ge)
      have tvE := tva.same cE
      have hFE := hF.same cE
      have GE := Ga.same cE
      refine ⟨_, _, rfl, ?_⟩
      -- the value, by place and by name
      refine ⟨_, rfl, _, rfl, _, rfl, n, v, D, ps, fil, e, rfl, hn64, tvE, ok, by omega, hFE, fit, hn, fun H10 c10 => ⟨_, rfl, small, _, rfl, _, rfl, small, rfl, _, rfl, iteN (ndF rfl) ?_⟩⟩
      refine ⟨_, rfl, _, rfl, _, rfl, rfl, rfl, n, v, D, ps, fil, e, rfl, hn64, tvE.same c10, ok, by omega, hFE.same c10, fit, hn, fun H11 c11 => ⟨_, rfl, small, _, rfl, _, rfl, small, rfl, _, rfl, iteN (ndF rfl) ?_⟩⟩
      have c12 := c10.trans c11
      have tvF := tvE.same c12
      have hFF := hFE.same c12
      have GF := GE.same c12
      -- with the same times -1
      have hn2 : fnames fil = norm (Ex.bin .plus e (.sc .times (-1) e)).names := hn.trans (norm_congr fun x => by simp [Ex.names])
      have hn3 : fnames fil = norm (Ex.bin .plus (.turned e) e).names := hn.trans (norm_congr fun x => by simp [Ex.names])
      refine ⟨_, rfl, _, rfl, 1, rfl, _, rfl, three, fun p1 np1 => ⟨three, fun p2 np2 => ?_⟩⟩
      have d1 := same_new np1 (.tup [.str "times", .int (-1), v])
      have d2 := same_new np2 (.tup [.str "plus", v, .ref p1])
      have d12 := d1.trans d2
      refine ⟨_, rfl, n, .ref p2, D, ps, fil, .bin .plus e (.sc .times (-1) e), rfl, hn64, ⟨p2, v, .ref p1, rfl, upd_same, tvF.same d12, p1, v, rfl, d2 _ _ upd_same, tvF.same d12⟩, ⟨ok, ⟨by decide, by decide⟩, ok⟩, by simp only [Ex.dep]; omega, hFF.same d12, fit, hn2, fun H13 c13 => ?_⟩
      have cG := d12.trans c13
      have tvG := tvF.same cG
      have hFG := hFF.same cG
      have GG := GF.same cG
      refine ⟨_, rfl, rfl, _, rfl, iteN (ndF (congrArg V.int twice_zero)) ?_⟩
      -- with its turned
      refine ⟨_, rfl, _, rfl, two, fun p3 np3 => ⟨_, rfl, three, fun p4 np4 => ?_⟩⟩
      have d3 := same_new np3 (.tup [.str "turned", v])
      have d4 := same_new np4 (.tup [.str "plus", .ref p3, v])
      have d34 := d3.trans d4
      refine ⟨_, rfl, n, .ref p4, D, ps, fil, .bin .plus (.turned e) e, rfl, hn64, ⟨p4, .ref p3, v, rfl, upd_same, ⟨p3, v, rfl, d4 _ _ upd_same, tvG.same d34⟩, tvG.same d34⟩, ⟨ok, ok⟩, by simp only [Ex.dep]; omega, hFG.same d34, fit, hn3, fun H15 c15 => ?_⟩
      have cI := d34.trans c15
      have tvI := tvG.same cI
      have hFI := hFG.same cI
      have GI := GG.same cI
      refine ⟨_, rfl, n, rfl, by omega, _, _, rfl, rfl, rfl, _, rfl, iteN (ndF (congrArg V.int turned_sum)) ?_⟩
      -- what was handed stays
      refine ⟨_, rfl, _, rfl, two, fun l2 nl2 => ⟨l2, .list [dE e, dFl fil], rfl, .lst (SqL.of upd_same) (.cons (dp_ex (tvI.same (same_new nl2 (.lst [v, .ref D])))) (.cons (dp_fil (hFI.same (same_new nl2 (.lst [v, .ref D])))) .nil)), nice.sh, nice.hd, Nat.le_trans nice.dp (by decide), nice.fits, ?_⟩⟩
      have c16 := same_new nl2 (.lst [v, .ref D])
      refine ⟨_, rfl, rfl, _, rfl, iteN (ndF rfl) ?_⟩
      -- shifted up and down
      refine ⟨_, rfl, g, 9, 100 - 10 * i - 6, rfl, (GI.same c16).less (by omega), by decide, by decide, fun H17 sh s17 G17 sh0 sh1 => ?_⟩
      obtain ⟨k, rfl⟩ := nat_of sh0
      have tvJ := (tvI.same c16).sameG s17 (GI.same c16)
      have hFJ := s17.fill (GI.same c16) Dg (hFI.same c16)
      have hn4 : fnames fil = norm (Ex.sc .down k (.sc .up k e)).names := hn
      refine ⟨_, rfl, _, rfl, _, rfl, _, rfl, three, fun p5 np5 => ⟨three, fun p6 np6 => ?_⟩⟩
      have d5 := same_new np5 (.tup [.str "up", .int k, v])
      have d6 := same_new np6 (.tup [.str "down", .int k, .ref p5])
      have d56 := d5.trans d6
      refine ⟨_, rfl, n, .ref p6, D, ps, fil, .sc .down k (.sc .up k e), rfl, hn64, ⟨p6, .ref p5, rfl, upd_same, p5, v, rfl, d6 _ _ upd_same, tvJ.same d56⟩, ⟨⟨by omega, by omega⟩, ⟨by omega, by omega⟩, ok⟩, by simp only [Ex.dep]; omega, hFJ.same d56, fit, hn4, fun H18 c18 => ?_⟩
      have emax : (if (0 : Int) > (n : Int) - (k : Int) then 0 else (n : Int) - (k : Int)) = ((n - k : Nat) : Int) := by split <;> omega
      refine ⟨_, rfl, .inl ⟨_, rfl, _, rfl, _, rfl, _, _, rfl, rfl, _, _, rfl, n - k, by rw [← emax] <;> rfl, by omega, _, _, rfl, rfl, Hw.p2 (n - k), rfl, _, rfl, iteN (ndF (congrArg V.int down_up)) ?_⟩⟩
      exact ⟨_, _, _, _, _, _, rfl, (((((s9.trans s10).then (cE.trans (c12.trans (cG.trans (cI.trans c16))))).trans s17).then (d56.trans c18))), ((G17.same d56).same c18).less (by omega)⟩
  · subst ez
    exact q _ (((t4.trans s48).trans s9))
end
end Hw
/-! ## KWide -/
namespace Hw
open PySem PySem.Spec PyProof.Rows L2
theorem TrV.overL {H : Hp} {D : Addr} {ys : List V} (h : H D = some (.lst ys)) (o : HO) : ∀ {e : Ex} {v : V}, TrV H e v → TrV (upd H D o) e v
  | .nm _, _, k => k
  | .num _, _, k => k
  | .bin _ _ _, _, ⟨p, x, y, h1, h2, h3, h4⟩ => ⟨p, x, y, h1, by rw [upd_ne (fun z => by rw [z, h] at h2; cases h2)]; exact h2, TrV.overL h o h3, TrV.overL h o h4⟩
  | .turned _, _, ⟨p, x, h1, h2, h3⟩ => ⟨p, x, h1, by rw [upd_ne (fun z => by rw [z, h] at h2; cases h2)]; exact h2, TrV.overL h o h3⟩
  | .sc _ _ _, _, ⟨p, x, h1, h2, h3⟩ => ⟨p, x, h1, by rw [upd_ne (fun z => by rw [z, h] at h2; cases h2)]; exact h2, TrV.overL h o h3⟩
/-- a part: a name times a number -/
def PartAt (H : Hp) (p : Addr) (x : Str) : Prop := ∃ k : Int, TrV H (.sc .times k (.nm x)) (.ref p) ∧ -100 ≤ k ∧ k ≤ 100
theorem four {α β : Type} {F : α → β → Prop} {ps : List α} {a b c d : β} (h : Paired F ps [a, b, c, d]) : ∃ q0 q1 q2 q3, ps = [q0, q1, q2, q3] ∧ F q0 a ∧ F q1 b ∧ F q2 c ∧ F q3 d := by
  cases h with
  | cons h0 h =>
    cases h with
    | cons h1 h =>
      cases h with
      | cons h2 h =>
        cases h with
        | cons h3 h =>
          cases h
          exact ⟨_, _, _, _, rfl, h0, h1, h2, h3⟩
section
variable {P : Program} {w : World} {K : PySem.W.Frag} {mg : Str → Option Value} {base : Heap} {f : Addr} {fd : FuncData}
def n49 : List Str := ["_law_generator_here", "_law_names", "_law_parts", "_law_told", "_law_turn", "_law_width", "_law_filling", "_law_name"]
theorem sc49 : FnScope n49 ["_law_generator_here"] (L2.defScope (top 49)) := ⟨rfl, rfl, rfl, by decide +kernel, rfl, by decide +kernel, by decide +kernel⟩
theorem c_wide (F : FnP K "_law_wide_right" 49 f fd) (m : mg "_law_wide_right" = some (.ref f)) (T : Txt K mg) (C : Tools P w K mg base) : Cal P w K mg base 14 "_law_wide_right" spRight := by
  refine calD F m sc49 (fun vs H Q E h => ?_) (fun _ _ _ _ _ _ us hl => match us, hl with | [_], _ => rfl) (fun cdv A outer s H vs Q E hr h => ?_)
  · obtain ⟨_, rfl, _⟩ := h
    rfl
  obtain ⟨g, rfl, hG, q⟩ := h
  refine ⟨_, pss_cons (ps_set (i := 1) sc49.nd rfl (Or.inl rfl) (pe_lst (pa_cons pe_str (pa_cons pe_str (pa_cons pe_str (pa_cons pe_str pa_nil)))))) <|
    pss_cons (ps_setLc (i := 2) (own := [("_law_name", 7)]) (g := gName 7) (by rfl) sc49.nd rfl rfl (sw_true rfl rfl rfl (by decide +kernel)) (pi_list (pv 1))
        (blkOk_by (own := [("_law_name", 7)]) (N := n49) (sc := L2.defScope (top 49)) (by decide +kernel)) (fun _ _ _ _ _ => pg_name (i := 7) sc49.nd rfl (Or.inl rfl)) (fun _ _ _ _ _ => pts_nil)
        (fun _ _ _ _ _ => pe_tup (pa_cons pe_str (pa_cons (pe_op op_sub (pe_c C.D hr (pa_cons (pv 0) (pa_cons pe_int pa_nil))) pe_int) (pa_cons (pv 7) pa_nil))))) <|
    pss_cons (ps_set (i := 3) sc49.nd rfl (Or.inl rfl) (pe_tup (pa_cons pe_str (pa_cons (pe_tup (pa_cons pe_str (pa_cons (pe_ix ix_list (pv 2) pe_int (fun _ _ => rfl)) (pa_cons (pe_tup (pa_cons pe_str (pa_cons (pe_ix ix_list (pv 2) pe_int (fun _ _ => rfl)) pa_nil))) pa_nil))))
      (pa_cons (pe_tup (pa_cons pe_str (pa_cons (pe_tup (pa_cons pe_str (pa_cons (pe_c C.D hr (pa_cons (pv 0) (pa_cons pe_int pa_nil))) (pa_cons (pe_ix ix_list (pv 2) pe_int (fun _ _ => rfl)) pa_nil))))
        (pa_cons (pe_tup (pa_cons pe_str (pa_cons (pe_ix ix_list (pv 2) pe_int (fun _ _ => rfl)) (pa_cons (pe_op op_sub (pe_c C.D hr (pa_cons (pv 0) (pa_cons pe_int pa_nil))) pe_int) pa_nil)))) pa_nil)))) pa_nil))))) <|
    pss_cons (ps_for PassesOwn.never rfl (pi_range1 (by rfl) T.range (pa_cons pe_int pa_nil)) (pg_name (i := 4) sc49.nd rfl (Or.inl rfl))
      (pss_cons (ps_set (i := 5) sc49.nd rfl (Or.inr rfl) (pe_c C.D hr (pa_cons (pv 0) (pa_cons pe_int pa_nil)))) <|
       pss_cons (ps_setLc (i := 6) (own := [("_law_name", 7)]) (g := gName 7) (by rfl) sc49.nd rfl rfl (sw_true rfl rfl rfl (by decide +kernel)) (pi_list (pv 1))
        (blkOk_by (own := [("_law_name", 7)]) (N := n49) (sc := L2.defScope (top 49)) (by decide +kernel)) (fun _ _ _ _ _ => pg_name (i := 7) sc49.nd rfl (Or.inl rfl)) (fun _ _ _ _ _ => pts_nil)
        (fun _ _ _ _ _ => pe_tup (pa_cons (pv 7) (pa_cons (pe_c C.D hr (pa_cons (pv 0) (pa_cons (pe_c C.Z hr (pa_cons (pv 5) pa_nil)) pa_nil))) pa_nil)))) <|
       pss_one (ps_if (pt_cmpR op_ne (pe_b1 SkE.call_repr_int T.repr boot_repr (pe_c C.V.c hr (pa_cons (pv 5) (pa_cons (pv 3) (pa_cons (pv 6) pa_nil)))))
          (pe_b1 SkE.call_repr_int T.repr boot_repr (pe_c C.LV hr (pa_cons (pv 5) (pa_cons (pv 3) (pa_cons (pe_c C.WD hr (pa_cons (pv 6) pa_nil)) pa_nil))))) (nomark _)) (pss_one (ps_ret pe_bl)) pss_nil))) <|
    pss_one (ps_ret pe_bl), ?_⟩
  have two : 2 ≤ sizeLine := by decide
  have three : 3 ≤ sizeLine := by decide
  refine ⟨by show 4 ≤ sizeLine; decide, fun r nr => ?_⟩
  have a1 := same_new nr (.lst (okNames.map V.str))
  have rg := ne_gen hG nr
  have G1 := hG.same a1
  have hr1 : upd H r (.lst (okNames.map V.str)) r = some (.lst (okNames.map V.str)) := upd_same
  -- the parts
  refine ⟨_, rfl, r, rfl, ⟨_, SqL.of hr1⟩, fun D nD => ?_⟩
  have Dg := ne_gen G1 nD
  refine lc_list (a := r) (xs := okNames.map V.str) (fun j H2 => ∃ (ps : List Addr), SameG g (upd H r (.lst (okNames.map V.str))) H2 ∧ GenAt H2 g (1000 - j) ∧ H2 D = some (.lst (ps.map V.ref)) ∧ Paired (PartAt H2) ps (okNames.take j) ∧ ps.length ≤ j)
    ⟨[], SameG.refl.over nD _, G1.over Dg _, upd_same, .nil, Nat.le_refl _⟩ (fun j H2 _ ⟨ps, s10, _⟩ => SqL.of (s10 _ _ rg hr1)) (fun j x H2 hj ⟨ps, s10, G10, hD, hp, hlen⟩ => ?_) (fun H2 ⟨ps, s10, G10, hD, hp, hlen⟩ => ?_)
  · obtain ⟨x, hxn, rfl⟩ : ∃ y, okNames[j]? = some y ∧ V.str y = x := by
      rw [List.getElem?_map] at hj
      cases hq : okNames[j]? with
      | none => rw [hq] at hj; cases hj
      | some y => rw [hq] at hj; exact ⟨y, rfl, Option.some.inj hj⟩
    have j4 : j < 4 := (List.getElem?_eq_some_iff.mp hxn).1
    refine ⟨rfl, _, rfl, g, 201, 1000 - (j + 1), rfl, G10.less (by omega), by decide, by decide, fun H3 r' s11 G11 r0 r1 => ⟨_, _, rfl, rfl, _, rfl, three, fun p np => ?_⟩⟩
    have a12 := same_new np (.tup [.str "times", .int (r' - 100), .str x])
    have hD3 := a12 _ _ (s11 _ _ Dg hD)
    refine ⟨ps.map V.ref, hD3, by rw [List.length_map]; exact small1000 (by omega), ps ++ [p], ((s10.trans s11).then a12).over nD _, (G11.same a12).over Dg _, ?_, ?_, ?_⟩
    · rw [upd_same, List.map_append]
      rfl
    · rw [List.take_add_one, hxn]
      refine Paired.snoc (Paired.imp (fun q y ⟨k, t, b⟩ => ⟨k, TrV.overL hD3 _ ((t.sameG s11 G10).same a12), b⟩) hp) ⟨r' - 100, TrV.overL hD3 _ ⟨p, .str x, rfl, upd_same, rfl⟩, by omega, by omega⟩
    · rw [List.length_append]
      exact Nat.succ_le_succ hlen
  -- the sum
  obtain ⟨q0, q1, q2, q3, rfl, ⟨k0, m0, b0⟩, ⟨k1, m1, b1⟩, ⟨k2, m2, b2⟩, ⟨k3, m3, b3⟩⟩ := four (show Paired (PartAt H2) ps ["b", "t1", "x", "y"] from hp)
  have hD : H2 D = some (.lst [.ref q0, .ref q1, .ref q2, .ref q3]) := hD
  have G2 : GenAt H2 g 990 := G10.less (by show 990 ≤ 1000 - 4; decide)
  refine ⟨_, rfl, D, _, 0, _, rfl, rfl, SqL.of hD, rfl, _, rfl, D, _, 1, _, rfl, rfl, SqL.of hD, rfl, two, fun p1 np1 => ⟨three, fun p2 np2 => ?_⟩⟩
  have c1 := same_new np1 (.tup [.str "turned", .ref q1])
  have c2 := same_new np2 (.tup [.str "minus", .ref q0, .ref p1])
  have c12 := c1.trans c2
  have G3' := G2.same c12
  refine ⟨_, rfl, g, 9, 989, rfl, G3', by decide, by decide, fun H3 r3 s3 G3 r30 r31 => ?_⟩
  have hD3 := s3 _ _ Dg (c12 _ _ hD)
  refine ⟨_, rfl, D, _, 2, _, rfl, rfl, SqL.of hD3, rfl, three, fun p3 np3 => ?_⟩
  have c3 := same_new np3 (.tup [.str "up", .int r3, .ref q2])
  have G4' := G3.same c3
  refine ⟨_, rfl, D, _, 3, _, rfl, rfl, SqL.of (c3 _ _ hD3), rfl, _, rfl, g, 2001, 988, rfl, G4', by decide, by decide, fun H4 r4 s4 G4 r40 r41 => ⟨_, _, rfl, rfl, three, fun p4 np4 => ⟨three, fun p5 np5 => ⟨three, fun p6 np6 => ?_⟩⟩⟩⟩
  have c4 := same_new np4 (.tup [.str "plus", .ref q3, .int (r4 - 1000)])
  have c5 := same_new np5 (.tup [.str "unlike", .ref p3, .ref p4])
  have c6 := same_new np6 (.tup [.str "plus", .ref p2, .ref p5])
  have c56 := c5.trans c6
  have c46 := c4.trans c56
  have mv : ∀ {e : Ex} {v : V}, TrV H2 e v → TrV _ e v := fun t => ((((t.same c12).sameG s3 G3').same c3).sameG s4 G4').same c46
  have hq1 := c46 _ _ (s4.tup G4' (c3 _ _ (s3.tup G3' (c2 _ _ (show upd H2 p1 (.tup [.str "turned", .ref q1]) p1 = some (.tup [.str "turned", .ref q1]) from upd_same)))))
  have hq2 := c46 _ _ (s4.tup G4' (c3 _ _ (s3.tup G3' (show upd (upd H2 p1 (.tup [.str "turned", .ref q1])) p2 (.tup [.str "minus", .ref q0, .ref p1]) p2 = some (.tup [.str "minus", .ref q0, .ref p1]) from upd_same))))
  have hq3 := c46 _ _ (s4.tup G4' (show upd H3 p3 (.tup [.str "up", .int r3, .ref q2]) p3 = some (.tup [.str "up", .int r3, .ref q2]) from upd_same))
  obtain ⟨e, he⟩ : ∃ e : Ex, e = .bin .plus (.bin .minus (.sc .times k0 (.nm "b")) (.turned (.sc .times k1 (.nm "t1")))) (.bin .unlike (.sc .up r3 (.sc .times k2 (.nm "x"))) (.bin .plus (.sc .times k3 (.nm "y")) (.num (r4 - 1000)))) := ⟨_, rfl⟩
  have tv : TrV (upd (upd (upd H4 p4 (.tup [.str "plus", .ref q3, .int (r4 - 1000)])) p5 (.tup [.str "unlike", .ref p3, .ref p4])) p6 (.tup [.str "plus", .ref p2, .ref p5])) e (.ref p6) := by
    rw [he]
    exact ⟨p6, .ref p2, .ref p5, rfl, upd_same, ⟨p2, .ref q0, .ref p1, rfl, hq2, mv m0, p1, .ref q1, rfl, hq1, mv m1⟩, p5, .ref p3, .ref p4, rfl, c6 _ _ upd_same, ⟨p3, .ref q2, rfl, hq3, mv m2⟩, p4, .ref q3, .int (r4 - 1000), rfl, c56 _ _ upd_same, mv m3, rfl⟩
  have ok : e.Ok := by
    rw [he]
    have i0 : ("b" : Str) ∈ okNames := by decide
    have i1 : ("t1" : Str) ∈ okNames := by decide
    have i2 : ("x" : Str) ∈ okNames := by decide
    have i3 : ("y" : Str) ∈ okNames := by decide
    exact ⟨⟨⟨b0, i0⟩, ⟨b1, i1⟩⟩, ⟨⟨r30, by omega⟩, ⟨b2, i2⟩⟩, ⟨b3, i3⟩, by omega, by omega⟩
  have dp : e.dep ≤ 5 := by
    rw [he]
    exact Nat.le_refl 5
  have nm : e.names = okNames := by
    rw [he]
    rfl
  have nrm : norm e.names = okNames := by
    rw [nm]
    decide
  have G6 := G4.same c46
  have s6 : SameG g (upd H r (.lst (okNames.map V.str))) _ := (((s10.then c12).trans s3).then c3).trans s4 |>.then c46
  have hr6 := s6 _ _ rg hr1
  generalize hH6 : upd (upd (upd H4 p4 (.tup [.str "plus", .ref q3, .int (r4 - 1000)])) p5 (.tup [.str "unlike", .ref p3, .ref p4])) p6 (.tup [.str "plus", .ref p2, .ref p5]) = H6 at tv G6 s6 hr6 ⊢
  refine ⟨_, rfl, by decide, by decide, ?_⟩
  refine for_range (lo := 0) (n := 4) (fun i σ H' => ∃ z4 z5 z6, σ = [some (.ref g), some (.ref r), some (.ref D), some (.ref p6), z4, z5, z6, none] ∧ SameG g H6 H' ∧ GenAt H' g (900 - 10 * i)) ⟨none, none, none, rfl, SameG.refl, G6.less (by decide)⟩
    (fun i σ H' hi ⟨z4, z5, z6, ez, s9, G9⟩ => ?_) (fun σ H' ⟨z4, z5, z6, ez, s9, G9⟩ => ?_)
  · subst ez
    refine ⟨_, rfl, g, 65, 900 - 10 * i - 1, rfl, G9.less (by omega), by decide, by decide, fun H7 wd s7 G7 w0 w1 => ?_⟩
    obtain ⟨n, rfl⟩ := nat_of w0
    have hn64 : n ≤ 64 := by omega
    have s97 := s9.trans s7
    have tv7 := tv.sameG s97 G6
    have hr7 := s97 _ _ rg hr6
    refine ⟨_, rfl, r, rfl, ⟨_, SqL.of hr7⟩, fun D nD => ?_⟩
    have Dg := ne_gen G7 nD
    refine lc_list (a := r) (xs := okNames.map V.str) (fun j H2 => ∃ (ps : List Addr) (fil : Fil), SameG g H7 H2 ∧ GenAt H2 g (900 - 10 * i - 1 - j) ∧ H2 D = some (.lst (ps.map V.ref)) ∧ Paired (PairAt H2) ps fil ∧ fnames fil = okNames.take j ∧ FitsF n fil ∧ ps.length ≤ j)
      ⟨[], [], SameG.refl.over nD _, G7.over Dg _, upd_same, .nil, rfl, (fun kv hk => nomatch hk), Nat.le_refl _⟩ (fun j H2 _ ⟨ps, fil, s10, _⟩ => SqL.of (s10 _ _ rg hr7)) (fun j x H2 hj ⟨ps, fil, s10, G10, hD, hp, hf, fit, hlen⟩ => ?_) (fun H2 ⟨ps, fil, s10, G10, hD, hp, hf, fit, hlen⟩ => ?_)
    · obtain ⟨x, hxn, rfl⟩ : ∃ y, okNames[j]? = some y ∧ V.str y = x := by
        rw [List.getElem?_map] at hj
        cases hq : okNames[j]? with
        | none => rw [hq] at hj; cases hj
        | some y => rw [hq] at hj; exact ⟨y, rfl, Option.some.inj hj⟩
      have j4 : j < 4 := (List.getElem?_eq_some_iff.mp hxn).1
      have pp := Hw.p2 n
      have p64 := pow64 hn64
      have e64 : (2 : Int) ^ 64 = 18446744073709551616 := by decide
      refine ⟨rfl, _, rfl, _, rfl, _, rfl, n, rfl, by omega, g, _, 900 - 10 * i - 1 - (j + 1), rfl, G10.less (by omega), pp, by omega, fun H3 r' s11 G11 r0 r1 => ⟨two, fun p np => ?_⟩⟩
      have a12 := same_new np (.tup [.str x, .int r'])
      have hD3 := a12 _ _ (s11 _ _ Dg hD)
      refine ⟨ps.map V.ref, hD3, by rw [List.length_map]; exact small1000 (by omega), ps ++ [p], fil ++ [(x, r')], ((s10.trans s11).then a12).over nD _, (G11.same a12).over Dg _, ?_, ?_, ?_, ?_, ?_⟩
      · rw [upd_same, List.map_append]
        rfl
      · refine Paired.snoc (Paired.imp (fun q kv k => pair_over hD3 _ (a12 _ _ k)) (s11.pairs G10 hp)) (pair_over hD3 _ upd_same)
      · unfold fnames at hf ⊢
        rw [List.map_append, hf, List.take_add_one, hxn]
        rfl
      · intro kv hk
        rcases List.mem_append.mp hk with hk | hk
        · exact fit kv hk
        · obtain rfl := List.mem_singleton.mp hk
          exact ⟨r0, r1⟩
      · rw [List.length_append]
        exact Nat.succ_le_succ hlen
    · have hn : fnames fil = norm e.names := by
        rw [hf, nrm]
        rfl
      have hF : FillAt H2 D ps fil := ⟨hD, hp⟩
      have Ga : GenAt H2 g (900 - 10 * i - 6) := G10.less (by show 900 - 10 * i - 6 ≤ 900 - 10 * i - 1 - 4; omega)
      have tva := tv7.sameG s10 G7
      have lenF : fil.length ≤ 4 := by
        have z : (fnames fil).length = fil.length := List.length_map _
        rw [← z, hn]
        exact norm_len _
      have fits : Fits n (rho fil) e.names := fun x _ => rho_fits fit x
      have rg' := ev_rng fits (e := e)
      have small := log_small hn64 rg'.1 rg'.2
      have nd : (fnames fil).Nodup := by rw [hn]; exact norm_nd _
      have sub : ∀ x ∈ e.names, x ∈ fnames fil := fun x hx => by rw [hn]; exact mem_norm.mpr ⟨names_ok_of ok x hx, hx⟩
      refine ⟨_, rfl, _, rfl, _, rfl, n, .ref p6, D, ps, fil, e, rfl, hn64, tva, ok, by omega, hF, fit, hn, fun H10 c10 => ⟨_, rfl, small, ?_⟩⟩
      refine ⟨_, rfl, _, rfl, _, rfl, D, ps, fil, rfl, hF.same c10, by omega, fun Hd d gd hd => ⟨n, .ref p6, d, mergeK [] (kvsF fil), rho fil, e, rfl, hn64, tva.same (c10.trans gd), ok, dp, hd, words_at fit nd sub, fun He ge => ?_⟩⟩
      have cE := c10.trans (gd.trans ge)
      refine ⟨_, rfl, small, rfl, _, rfl, iteN (ndF rfl) ?_⟩
      exact ⟨_, _, _, rfl, (s97.trans s10).then cE, (Ga.same cE).less (by omega)⟩
  · subst ez
    exact q _ (((SameG.of a1).trans s6).trans s9)
end
end Hw
/-! ## KTop -/
namespace Hw
open PySem PySem.Spec PyProof.Rows L2
theorem same_fresh {g : Addr} {H H1 H2 : Hp} (s : Same H H1) (k : SameG g H1 H2) (h : H g = none) : Same H H2 := fun b o e => k b o (ne_of_none e h) (s b o e)
theorem SqL.same {K : PySem.W.Frag} {H H' : Hp} {a : Addr} {xs : List V} (h : SqL K H a xs) (s : Same H H') : SqL K H' a xs := by
  rcases h with (h | ⟨o, h⟩) | h
  · exact .inl (.inl (s _ _ h))
  · exact .inl (.inr ⟨o, s _ _ h⟩)
  · exact .inr h
theorem dpi {K : PySem.W.Frag} {H : Hp} {i j : Int} (h : i = j) : Dp K H (.int i) (.int j) := h ▸ .int i
section
variable {X : Cx} {k j : Nat} {x : Str} {sp : Sp} {p pos : Pos} {e : Expr} {es : List Expr} {t : TA}
theorem pe_cG (hgd : X.A.guards = some []) (c : CalG X.prog X.w X.K X.mg X.base k x sp) (hr : Room j X.A) (ha : PA X (e :: es) t) (hk : k ≤ j := by decide) (hg : Gl X x := by rfl)
    (hdb : (x == ("__debug__" : Str)) = false := by decide) (he : starEach (e :: es) X.env = (false, eval e X.env) :: starEach es X.env := by rfl) (hpl : (backTo pos (starEach es X.env)).any (·.1) = false := by rfl) :
    PE X (.Call (.Name x p) (e :: es) [] pos) (tCall sp [] E0 t) := by
  obtain ⟨f, fd, ps, F, hm, kp, b⟩ := c
  exact pe_callG hgd F (hr.mono hk) hg hm kp b ha hdb he hpl
end
theorem ok_x : ("x" : Str) ∈ okNames := by decide
theorem ok_y : ("y" : Str) ∈ okNames := by decide
theorem nm_a {r9 : Int} : fnames ([] : Fil) = norm (Ex.names (.bin .minus (.num (r9 - 1000)) (.num (0)))) := by
  show [] = norm []
  decide +kernel
theorem ev_a {r9 : Int} (fl : Fil) : ev 64 (rho fl) (.bin .minus (.num (r9 - 1000)) (.num (0))) = (r9 - 1000) % 2 ^ 64 := by
  show ((r9 - 1000) % 2 ^ 64 - 0 % 2 ^ 64) % 2 ^ 64 = _
  rw [Int.zero_emod, Int.sub_zero, Int.emod_emod]
theorem nm_b : fnames ([("x", 0)] : Fil) = norm (Ex.names (.sc .times 100 (.nm "x"))) := by decide +kernel
theorem ev_b : ev 0 (rho ([("x", 0)] : Fil)) (.sc .times 100 (.nm "x")) = 0 := by decide +kernel
theorem nm_c : fnames ([("x", 2)] : Fil) = norm (Ex.names (.bin .plus (.nm "x") (.num (-3)))) := by decide +kernel
theorem ev_c : ev 4 (rho ([("x", 2)] : Fil)) (.bin .plus (.nm "x") (.num (-3))) = 15 := by decide +kernel
theorem nm_d : fnames ([("x", 6)] : Fil) = norm (Ex.names (.sc .times 5 (.turned (.nm "x")))) := by decide +kernel
theorem ev_d : ev 3 (rho ([("x", 6)] : Fil)) (.sc .times 5 (.turned (.nm "x"))) = 5 := by decide +kernel
theorem nm_e : fnames ([("x", 7)] : Fil) = norm (Ex.names (.sc .down 1 (.sc .up 2 (.nm "x")))) := by decide +kernel
theorem ev_e : ev 4 (rho ([("x", 7)] : Fil)) (.sc .down 1 (.sc .up 2 (.nm "x"))) = 6 := by decide +kernel
theorem nm_f : fnames ([] : Fil) = norm (Ex.names (.num (5))) := by decide +kernel
theorem ev_f : ev 0 (rho ([] : Fil)) (.num (5)) = 0 := by decide +kernel
theorem nm_g : fnames ([("x", 5), ("y", 3)] : Fil) = norm (Ex.names (.bin .unlike (.nm "x") (.bin .both (.nm "y") (.num (6))))) := by decide +kernel
theorem ev_g : ev 4 (rho ([("x", 5), ("y", 3)] : Fil)) (.bin .unlike (.nm "x") (.bin .both (.nm "y") (.num (6)))) = 7 := by decide +kernel
theorem nm_h : fnames ([] : Fil) = norm (Ex.names (.sc .up 8 (.num (3)))) := by decide +kernel
theorem ev_h : ev 2 (rho ([] : Fil)) (.sc .up 8 (.num (3))) = 0 := by decide +kernel
theorem nm_i : fnames ([] : Fil) = norm (Ex.names (.sc .down 8 (.num (-1)))) := by decide +kernel
theorem ev_i : ev 3 (rho ([] : Fil)) (.sc .down 8 (.num (-1))) = 0 := by decide +kernel
theorem nice7 : Nice (.list [.int 15, .int 5, .int 6, .int 0, .int 7, .int 0, .int 0]) 7 7000 := (NiceA.lst (m := 0) (n := 500) (.cons (nice_int (by decide)) (.cons (nice_int (by decide)) (.cons (nice_int (by decide)) (.cons (nice_int (by decide)) (.cons (nice_int (by decide)) (.cons (nice_int (by decide)) (.cons (nice_int (by decide)) .nil (n2 := 0) (Nat.le_refl _)) (Nat.le_refl _)) (Nat.le_refl _)) (Nat.le_refl _)) (Nat.le_refl _)) (Nat.le_refl _)) (by decide))).mono (by decide) (by decide)
section
variable {P : Program} {w : World} {K : PySem.W.Frag} {mg : Str → Option Value} {base : Heap} {f : Addr} {fd : FuncData}
def spLaw (K : PySem.W.Frag) : Sp := fun vs H Q _ => ∃ (a : Addr) (ns : List Int), vs = [.ref a] ∧ SqL K H a (ns.map V.int) ∧ ∀ H', Q (.bl true) H'
theorem sc50 : FnScope ["_law_script", "_law_index", "_law_far", "_law_told"] ["_law_script"] (L2.defScope (top 50)) := ⟨rfl, rfl, rfl, by decide +kernel, rfl, by decide +kernel, by decide +kernel⟩
theorem c_law (F : FnP K "law" 50 f fd) (T : Txt K mg) (C : Tools P w K mg base) (GN : Cal P w K mg base 2 "_law_generator" (spGen K)) (WR : Cal P w K mg base 14 "_law_wide_right" spRight) (RT : CalG P w K mg base 14 "_law_right" spRight) : FnG P w K mg base 15 f fd ["_law_script"] (spLaw K) := by
  refine okG F sc50 (fun vs H Q E h => ?_) (fun cdv A outer s H vs Q E hgd hr h => ?_)
  · obtain ⟨_, _, rfl, _⟩ := h
    rfl
  obtain ⟨a, ns, rfl, hS, q⟩ := h
  refine ⟨_, pss_cons (ps_if (pt_not (pt_val (pe_c WR hr (pa_cons (pe_c GN hr (pa_cons (pv 0) (pa_cons pe_int pa_nil))) pa_nil)))) (pss_one (ps_ret pe_bl)) pss_nil) <|
    pss_cons (ps_for PassesOwn.never rfl (pi_range1 (by rfl) T.range (pa_cons pe_int pa_nil)) (pg_name (i := 1) sc50.nd rfl (Or.inl rfl)) (pss_one (ps_if (pt_not (pt_val (pe_cG hgd RT hr (pa_cons (pe_c GN hr (pa_cons (pv 0) (pa_cons (pv 1) pa_nil))) pa_nil)))) (pss_one (ps_ret pe_bl)) pss_nil))) <|
    pss_cons (ps_set (i := 2) sc50.nd rfl (Or.inl rfl) (pe_op op_sub (pe_c C.D hr (pa_cons (pe_c GN hr (pa_cons (pv 0) (pa_cons pe_int pa_nil))) (pa_cons pe_int pa_nil))) pe_int)) <|
    pss_cons (ps_if (PW.pt (pw_or (pt_cmpR op_ne (pe_c C.V.c hr (pa_cons pe_int (pa_cons (pe_tup (pa_cons pe_str (pa_cons (pv 2) (pa_cons pe_int pa_nil)))) (pa_cons (pe_lst pa_nil) pa_nil)))) (pe_op op_mod (pe_t1 call_int1 T.int boot_int (pv 2)) (pe_c C.Z hr (pa_cons pe_int pa_nil))) (nomark _)) <|
      pw_or1 (pt_cmpR op_ne (pe_c C.V.c hr (pa_cons pe_int (pa_cons (pe_tup (pa_cons pe_str (pa_cons pe_int (pa_cons pe_str pa_nil)))) (pa_cons (pe_lst (pa_cons (pe_tup (pa_cons pe_str (pa_cons pe_int pa_nil))) pa_nil)) pa_nil)))) pe_int (nomark _)))) (pss_one (ps_ret pe_bl)) pss_nil) <|
    pss_cons (ps_set (i := 3) sc50.nd rfl (Or.inl rfl) (pe_lst (pa_cons (pe_c C.V.c hr (pa_cons pe_int (pa_cons (pe_tup (pa_cons pe_str (pa_cons pe_str (pa_cons (pe_un un_neg pe_int) pa_nil)))) (pa_cons (pe_lst (pa_cons (pe_tup (pa_cons pe_str (pa_cons pe_int pa_nil))) pa_nil)) pa_nil)))) (pa_cons (pe_c C.V.c hr (pa_cons pe_int (pa_cons (pe_tup (pa_cons pe_str (pa_cons pe_int (pa_cons (pe_tup (pa_cons pe_str (pa_cons pe_str pa_nil))) pa_nil)))) (pa_cons (pe_lst (pa_cons (pe_tup (pa_cons pe_str (pa_cons pe_int pa_nil))) pa_nil)) pa_nil)))) (pa_cons (pe_c C.V.c hr (pa_cons pe_int (pa_cons (pe_tup (pa_cons pe_str (pa_cons pe_int (pa_cons (pe_tup (pa_cons pe_str (pa_cons pe_int (pa_cons pe_str pa_nil)))) pa_nil)))) (pa_cons (pe_lst (pa_cons (pe_tup (pa_cons pe_str (pa_cons pe_int pa_nil))) pa_nil)) pa_nil)))) pa_nil))))) <|
    pss_cons (ps_set (i := 3) sc50.nd rfl (Or.inl rfl) (pe_op op_cat (pv 3) (pe_lst (pa_cons (pe_c C.V.c hr (pa_cons pe_int (pa_cons pe_int (pa_cons (pe_lst pa_nil) pa_nil)))) (pa_cons (pe_c C.V.c hr (pa_cons pe_int (pa_cons (pe_tup (pa_cons pe_str (pa_cons pe_str (pa_cons (pe_tup (pa_cons pe_str (pa_cons pe_str (pa_cons pe_int pa_nil)))) pa_nil)))) (pa_cons (pe_lst (pa_cons (pe_tup (pa_cons pe_str (pa_cons pe_int pa_nil))) (pa_cons (pe_tup (pa_cons pe_str (pa_cons pe_int pa_nil))) pa_nil))) pa_nil)))) (pa_cons (pe_c C.V.c hr (pa_cons pe_int (pa_cons (pe_tup (pa_cons pe_str (pa_cons pe_int (pa_cons pe_int pa_nil)))) (pa_cons (pe_lst pa_nil) pa_nil)))) (pa_cons (pe_c C.V.c hr (pa_cons pe_int (pa_cons (pe_tup (pa_cons pe_str (pa_cons pe_int (pa_cons (pe_un un_neg pe_int) pa_nil)))) (pa_cons (pe_lst pa_nil) pa_nil)))) pa_nil))))))) <|
    pss_one (ps_ret (pe_cmpR op_eq (pe_b1 (call_reprD hgd hr.units) T.repr boot_repr (pv 3)) (pe_b1 (call_reprD hgd hr.units) T.repr boot_repr (pe_lst (pa_cons pe_int (pa_cons pe_int (pa_cons pe_int (pa_cons pe_int (pa_cons pe_int (pa_cons pe_int (pa_cons pe_int pa_nil))))))))) (nomark _))), ?_⟩
  have sz0 : 0 ≤ sizeLine := by decide
  have sz1 : 1 ≤ sizeLine := by decide
  have sz2 : 2 ≤ sizeLine := by decide
  have sz3 : 3 ≤ sizeLine := by decide
  have sz4 : 4 ≤ sizeLine := by decide
  have sz7 : 7 ≤ sizeLine := by decide
  -- the wide sum
  refine ⟨_, rfl, a, 4, ns, rfl, by decide, hS, fun H1 g1 s1 G1 n1 => ⟨g1, rfl, G1.less (by decide), fun H2 s2 => ⟨_, rfl, iteF ?_⟩⟩⟩
  have k2 := same_fresh s1 s2 n1
  -- three generators
  refine ⟨_, rfl, by decide, by decide, ?_⟩
  refine for_range (lo := 0) (n := 3) (fun i σ H' => ∃ z1, σ = [some (.ref a), z1, none, none] ∧ Same H H') ⟨none, rfl, k2⟩ (fun i σ H' hi ⟨z1, ez, s⟩ => ?_) (fun σ H3 ⟨z1, ez, k3⟩ => ?_)
  · subst ez
    refine ⟨_, rfl, _, rfl, a, i, ns, by rw [Int.zero_add] <;> rfl, by omega, SqL.same hS s, fun H4 g4 s4 G4 n4 => ⟨g4, rfl, G4.less (by decide), fun H5 s5 => ⟨_, rfl, iteF ?_⟩⟩⟩
    exact ⟨_, rfl, s.trans (same_fresh s4 s5 n4)⟩
  subst ez
  -- far
  refine ⟨_, rfl, a, 3, ns, rfl, by decide, SqL.same hS k3, fun H4 g4 s4 G4 n4 => ⟨g4, 2001, 99999, rfl, G4, by decide, by decide, fun H5 r9 s5 G5 r90 r91 => ⟨_, _, rfl, rfl, ?_⟩⟩⟩
  refine ⟨_, rfl, sz3, fun a0 h_a0 => ?_⟩
  have c_a0 := same_new h_a0 (.tup [.str "minus", .int (r9 - 1000), .int (0)])
  refine ⟨sz0, fun a1 h_a1 => ?_⟩
  have c_a1 := same_new h_a1 (.lst [])
  have all_a := c_a0.trans (c_a1)
  refine ⟨64, .ref a0, a1, [], ([] : Fil), (.bin .minus (.num (r9 - 1000)) (.num (0))), rfl, by decide, ⟨a0, .int (r9 - 1000), .int (0), rfl, (c_a1) _ _ upd_same, rfl, rfl⟩, ⟨⟨by omega, by omega⟩, ⟨by decide, by decide⟩⟩, (by show _ ≤ 6; simp only [Ex.dep]; decide), ⟨upd_same, .nil⟩, (fun kv hk => nomatch hk), nm_a, fun Ha g_a => ?_⟩
  refine ⟨_, rfl, .inl ⟨_, rfl, 64, rfl, by decide, _, _, rfl, rfl, Hw.p2 64, rfl, _, rfl, iteN (ndF (congrArg V.int (ev_a []))) ?_⟩⟩
  refine ⟨sz3, fun b0 h_b0 => ?_⟩
  have c_b0 := same_new h_b0 (.tup [.str "times", .int (100), .str "x"])
  refine ⟨sz2, fun b1 h_b1 => ?_⟩
  have c_b1 := same_new h_b1 (.tup [.str "x", .int 0])
  refine ⟨sz1, fun b2 h_b2 => ?_⟩
  have c_b2 := same_new h_b2 (.lst [.ref b1])
  have all_b := c_b0.trans (c_b1.trans (c_b2))
  refine ⟨0, .ref b0, b2, [b1], ([("x", 0)] : Fil), (.sc .times 100 (.nm "x")), rfl, by decide, ⟨b0, .str "x", rfl, (c_b1.trans (c_b2)) _ _ upd_same, rfl⟩, ⟨⟨by decide, by decide⟩, ok_x⟩, (by show _ ≤ 6; simp only [Ex.dep]; decide), ⟨upd_same, .cons ((c_b2) _ _ upd_same) (.nil)⟩, (by unfold FitsF; decide +kernel), nm_b, fun Hb g_b => ?_⟩
  refine ⟨rfl, _, rfl, iteN (ndF (congrArg V.int ev_b)) ?_⟩
  refine ⟨3, rfl, sz3, fun c0 h_c0 => ?_⟩
  have c_c0 := same_new h_c0 (.tup [.str "plus", .str "x", .int (-3)])
  refine ⟨sz2, fun c1 h_c1 => ?_⟩
  have c_c1 := same_new h_c1 (.tup [.str "x", .int 2])
  refine ⟨sz1, fun c2 h_c2 => ?_⟩
  have c_c2 := same_new h_c2 (.lst [.ref c1])
  have all_c := c_c0.trans (c_c1.trans (c_c2))
  refine ⟨4, .ref c0, c2, [c1], ([("x", 2)] : Fil), (.bin .plus (.nm "x") (.num (-3))), rfl, by decide, ⟨c0, .str "x", .int (-3), rfl, (c_c1.trans (c_c2)) _ _ upd_same, rfl, rfl⟩, ⟨ok_x, ⟨by decide, by decide⟩⟩, (by show _ ≤ 6; simp only [Ex.dep]; decide), ⟨upd_same, .cons ((c_c2) _ _ upd_same) (.nil)⟩, (by unfold FitsF; decide +kernel), nm_c, fun Hc g_c => ?_⟩
  refine ⟨sz2, fun d0 h_d0 => ?_⟩
  have c_d0 := same_new h_d0 (.tup [.str "turned", .str "x"])
  refine ⟨sz3, fun d1 h_d1 => ?_⟩
  have c_d1 := same_new h_d1 (.tup [.str "times", .int (5), .ref d0])
  refine ⟨sz2, fun d2 h_d2 => ?_⟩
  have c_d2 := same_new h_d2 (.tup [.str "x", .int 6])
  refine ⟨sz1, fun d3 h_d3 => ?_⟩
  have c_d3 := same_new h_d3 (.lst [.ref d2])
  have all_d := c_d0.trans (c_d1.trans (c_d2.trans (c_d3)))
  refine ⟨3, .ref d1, d3, [d2], ([("x", 6)] : Fil), (.sc .times 5 (.turned (.nm "x"))), rfl, by decide, ⟨d1, .ref d0, rfl, (c_d2.trans (c_d3)) _ _ upd_same, ⟨d0, .str "x", rfl, (c_d1.trans (c_d2.trans (c_d3))) _ _ upd_same, rfl⟩⟩, ⟨⟨by decide, by decide⟩, ok_x⟩, (by show _ ≤ 6; simp only [Ex.dep]; decide), ⟨upd_same, .cons ((c_d3) _ _ upd_same) (.nil)⟩, (by unfold FitsF; decide +kernel), nm_d, fun Hd g_d => ?_⟩
  refine ⟨sz3, fun e0 h_e0 => ?_⟩
  have c_e0 := same_new h_e0 (.tup [.str "up", .int (2), .str "x"])
  refine ⟨sz3, fun e1 h_e1 => ?_⟩
  have c_e1 := same_new h_e1 (.tup [.str "down", .int (1), .ref e0])
  refine ⟨sz2, fun e2 h_e2 => ?_⟩
  have c_e2 := same_new h_e2 (.tup [.str "x", .int 7])
  refine ⟨sz1, fun e3 h_e3 => ?_⟩
  have c_e3 := same_new h_e3 (.lst [.ref e2])
  have all_e := c_e0.trans (c_e1.trans (c_e2.trans (c_e3)))
  refine ⟨4, .ref e1, e3, [e2], ([("x", 7)] : Fil), (.sc .down 1 (.sc .up 2 (.nm "x"))), rfl, by decide, ⟨e1, .ref e0, rfl, (c_e2.trans (c_e3)) _ _ upd_same, ⟨e0, .str "x", rfl, (c_e1.trans (c_e2.trans (c_e3))) _ _ upd_same, rfl⟩⟩, ⟨⟨by decide, by decide⟩, ⟨⟨by decide, by decide⟩, ok_x⟩⟩, (by show _ ≤ 6; simp only [Ex.dep]; decide), ⟨upd_same, .cons ((c_e3) _ _ upd_same) (.nil)⟩, (by unfold FitsF; decide +kernel), nm_e, fun He g_e => ?_⟩
  refine ⟨sz3, fun l1 h_l1 => ?_⟩
  refine ⟨_, rfl, ?_⟩
  refine ⟨sz0, fun f0 h_f0 => ?_⟩
  have c_f0 := same_new h_f0 (.lst [])
  have all_f := c_f0
  refine ⟨0, .int (5), f0, [], ([] : Fil), (.num (5)), rfl, by decide, rfl, ⟨by decide, by decide⟩, (by show _ ≤ 6; simp only [Ex.dep]; decide), ⟨upd_same, .nil⟩, (fun kv hk => nomatch hk), nm_f, fun Hf g_f => ?_⟩
  refine ⟨sz3, fun g0 h_g0 => ?_⟩
  have c_g0 := same_new h_g0 (.tup [.str "both", .str "y", .int (6)])
  refine ⟨sz3, fun g1 h_g1 => ?_⟩
  have c_g1 := same_new h_g1 (.tup [.str "unlike", .str "x", .ref g0])
  refine ⟨sz2, fun g2 h_g2 => ?_⟩
  have c_g2 := same_new h_g2 (.tup [.str "x", .int 5])
  refine ⟨sz2, fun g3 h_g3 => ?_⟩
  have c_g3 := same_new h_g3 (.tup [.str "y", .int 3])
  refine ⟨sz2, fun g4 h_g4 => ?_⟩
  have c_g4 := same_new h_g4 (.lst [.ref g2, .ref g3])
  have all_g := c_g0.trans (c_g1.trans (c_g2.trans (c_g3.trans (c_g4))))
  refine ⟨4, .ref g1, g4, [g2, g3], ([("x", 5), ("y", 3)] : Fil), (.bin .unlike (.nm "x") (.bin .both (.nm "y") (.num (6)))), rfl, by decide, ⟨g1, .str "x", .ref g0, rfl, (c_g2.trans (c_g3.trans (c_g4))) _ _ upd_same, rfl, ⟨g0, .str "y", .int (6), rfl, (c_g1.trans (c_g2.trans (c_g3.trans (c_g4)))) _ _ upd_same, rfl, rfl⟩⟩, ⟨ok_x, ⟨ok_y, ⟨by decide, by decide⟩⟩⟩, (by show _ ≤ 6; simp only [Ex.dep]; decide), ⟨upd_same, .cons ((c_g3.trans (c_g4)) _ _ upd_same) (.cons ((c_g4) _ _ upd_same) (.nil))⟩, (by unfold FitsF; decide +kernel), nm_g, fun Hg g_g => ?_⟩
  refine ⟨sz3, fun h0 h_h0 => ?_⟩
  have c_h0 := same_new h_h0 (.tup [.str "up", .int (8), .int (3)])
  refine ⟨sz0, fun h1 h_h1 => ?_⟩
  have c_h1 := same_new h_h1 (.lst [])
  have all_h := c_h0.trans (c_h1)
  refine ⟨2, .ref h0, h1, [], ([] : Fil), (.sc .up 8 (.num (3))), rfl, by decide, ⟨h0, .int (3), rfl, (c_h1) _ _ upd_same, rfl⟩, ⟨⟨by decide, by decide⟩, ⟨by decide, by decide⟩⟩, (by show _ ≤ 6; simp only [Ex.dep]; decide), ⟨upd_same, .nil⟩, (fun kv hk => nomatch hk), nm_h, fun Hh g_h => ?_⟩
  refine ⟨1, rfl, sz3, fun i0 h_i0 => ?_⟩
  have c_i0 := same_new h_i0 (.tup [.str "down", .int (8), .int (-1)])
  refine ⟨sz0, fun i1 h_i1 => ?_⟩
  have c_i1 := same_new h_i1 (.lst [])
  have all_i := c_i0.trans (c_i1)
  refine ⟨3, .ref i0, i1, [], ([] : Fil), (.sc .down 8 (.num (-1))), rfl, by decide, ⟨i0, .int (-1), rfl, (c_i1) _ _ upd_same, rfl⟩, ⟨⟨by decide, by decide⟩, ⟨by decide, by decide⟩⟩, (by show _ ≤ 6; simp only [Ex.dep]; decide), ⟨upd_same, .nil⟩, (fun kv hk => nomatch hk), nm_i, fun Hi g_i => ?_⟩
  refine ⟨sz4, fun l2 h_l2 => ?_⟩
  have c_l2 := same_new h_l2 (.lst [.int (ev 0 (rho []) (.num (5))), .int (ev 4 (rho [("x", 5), ("y", 3)]) (.bin .unlike (.nm "x") (.bin .both (.nm "y") (.num (6))))), .int (ev 2 (rho []) (.sc .up 8 (.num (3)))), .int (ev 3 (rho []) (.sc .down 8 (.num (-1))))])
  have kl := (all_f.trans g_f).trans ((all_g.trans g_g).trans ((all_h.trans g_h).trans ((all_i.trans g_i).trans c_l2)))
  refine ⟨l1, l2, _, _, rfl, rfl, kl _ _ upd_same, upd_same, sz7, fun l3 h_l3 => ?_⟩
  refine ⟨_, rfl, l3, .list [.int 15, .int 5, .int 6, .int 0, .int 7, .int 0, .int 0], rfl, .lst (SqL.of upd_same) (.cons (dpi ev_c) (.cons (dpi ev_d) (.cons (dpi ev_e) (.cons (dpi ev_f) (.cons (dpi ev_g) (.cons (dpi ev_h) (.cons (dpi ev_i) .nil))))))), nice7.sh, nice7.hd, Nat.le_trans nice7.dp (by decide), nice7.fits, ?_⟩
  refine ⟨sz7, fun l4 h_l4 => ⟨l4, .list [.int 15, .int 5, .int 6, .int 0, .int 7, .int 0, .int 0], rfl, .lst (SqL.of upd_same) (.cons (.int _) (.cons (.int _) (.cons (.int _) (.cons (.int _) (.cons (.int _) (.cons (.int _) (.cons (.int _) .nil))))))), nice7.sh, nice7.hd, Nat.le_trans nice7.dp (by decide), nice7.fits, rfl, fin (q _) (bT (dT rfl))⟩⟩
end
end Hw
/-! ## KHead -/
namespace Hw
open PySem PySem.Spec PyProof.Rows L2

def d_is_whole : He.DefD := ⟨("is_whole", none), "is_whole", "is_whole", defArgs (top 12), defBody (top 12), defScope (top 12), [], []⟩
def d_is_count : He.DefD := ⟨("is_count", none), "is_count", "is_count", defArgs (top 13), defBody (top 13), defScope (top 13), [], []⟩
def d_is_width : He.DefD := ⟨("is_width", none), "is_width", "is_width", defArgs (top 14), defBody (top 14), defScope (top 14), [], []⟩
def d_check_width : He.DefD := ⟨("check_width", none), "check_width", "check_width", defArgs (top 15), defBody (top 15), defScope (top 15), [], []⟩
def d_power_of_two : He.DefD := ⟨("power_of_two", none), "power_of_two", "power_of_two", defArgs (top 16), defBody (top 16), defScope (top 16), [], []⟩
def d_is_word : He.DefD := ⟨("is_word", none), "is_word", "is_word", defArgs (top 17), defBody (top 17), defScope (top 17), [], []⟩
def d_is_name : He.DefD := ⟨("is_name", none), "is_name", "is_name", defArgs (top 18), defBody (top 18), defScope (top 18), [], []⟩
def d_has_head : He.DefD := ⟨("has_head", none), "has_head", "has_head", defArgs (top 19), defBody (top 19), defScope (top 19), [], []⟩
def d_is_expression : He.DefD := ⟨("is_expression", none), "is_expression", "is_expression", defArgs (top 20), defBody (top 20), defScope (top 20), [], []⟩
def d_check_expression : He.DefD := ⟨("check_expression", none), "check_expression", "check_expression", defArgs (top 21), defBody (top 21), defScope (top 21), [], []⟩
def d_is_filling : He.DefD := ⟨("is_filling", none), "is_filling", "is_filling", defArgs (top 22), defBody (top 22), defScope (top 22), [], []⟩
def d_expressions_of : He.DefD := ⟨("expressions_of", none), "expressions_of", "expressions_of", defArgs (top 23), defBody (top 23), defScope (top 23), [], []⟩
def d_all_names : He.DefD := ⟨("all_names", none), "all_names", "all_names", defArgs (top 24), defBody (top 24), defScope (top 24), [], []⟩
def d_names_of_expression : He.DefD := ⟨("names_of_expression", none), "names_of_expression", "names_of_expression", defArgs (top 25), defBody (top 25), defScope (top 25), [], []⟩
def d_value_of : He.DefD := ⟨("value_of", none), "value_of", "value_of", defArgs (top 27), defBody (top 27), defScope (top 27), [], []⟩
def d_check_filling : He.DefD := ⟨("check_filling", none), "check_filling", "check_filling", defArgs (top 28), defBody (top 28), defScope (top 28), [], []⟩
def d_value : He.DefD := ⟨("value", none), "value", "value", defArgs (top 29), defBody (top 29), defScope (top 29), [], []⟩
def d_law_hash : He.DefD := ⟨("_law_hash", none), "_law_hash", "_law_hash", defArgs (top 31), defBody (top 31), defScope (top 31), [], []⟩
def d_law_random : He.DefD := ⟨("_law_random", none), "_law_random", "_law_random", defArgs (top 32), defBody (top 32), defScope (top 32), [], []⟩
def d_law_cell : He.DefD := ⟨("_law_cell", none), "_law_cell", "_law_cell", defArgs (top 33), defBody (top 33), defScope (top 33), [], []⟩
def d_law_generator : He.DefD := ⟨("_law_generator", none), "_law_generator", "_law_generator", defArgs (top 34), defBody (top 34), defScope (top 34), [], []⟩
def d_law_power : He.DefD := ⟨("_law_power", none), "_law_power", "_law_power", defArgs (top 35), defBody (top 35), defScope (top 35), [], []⟩
def d_law_bit : He.DefD := ⟨("_law_bit", none), "_law_bit", "_law_bit", defArgs (top 36), defBody (top 36), defScope (top 36), [], []⟩
def d_law_value : He.DefD := ⟨("_law_value", none), "_law_value", "_law_value", defArgs (top 37), defBody (top 37), defScope (top 37), [], []⟩
def d_law_expression : He.DefD := ⟨("_law_expression", none), "_law_expression", "_law_expression", defArgs (top 41), defBody (top 41), defScope (top 41), [], []⟩
def d_law_told_names : He.DefD := ⟨("_law_told_names", none), "_law_told_names", "_law_told_names", defArgs (top 44), defBody (top 44), defScope (top 44), [], []⟩
def d_law_words : He.DefD := ⟨("_law_words", none), "_law_words", "_law_words", defArgs (top 47), defBody (top 47), defScope (top 47), [], []⟩
def d_law_right : He.DefD := ⟨("_law_right", none), "_law_right", "_law_right", defArgs (top 48), defBody (top 48), defScope (top 48), [], []⟩
def d_law_wide_right : He.DefD := ⟨("_law_wide_right", none), "_law_wide_right", "_law_wide_right", defArgs (top 49), defBody (top 49), defScope (top 49), [], []⟩
def d_law : He.DefD := ⟨("law", none), "law", "law", defArgs (top 50), defBody (top 50), defScope (top 50), [], []⟩
def fn : List He.DefD := [d_is_whole, d_is_count, d_is_width, d_check_width, d_power_of_two, d_is_word, d_is_name, d_has_head, d_is_expression, d_check_expression, d_is_filling, d_expressions_of, d_all_names, d_names_of_expression, d_value_of, d_check_filling, d_value, d_law_hash, d_law_random, d_law_cell, d_law_generator, d_law_power, d_law_bit, d_law_value, d_law_expression, d_law_told_names, d_law_words, d_law_right, d_law_wide_right, d_law]
def fa : List He.Fa := [.glo "is_whole", .glo "is_count", .glo "is_width", .glo "check_width", .glo "power_of_two", .glo "is_word", .glo "is_name", .glo "has_head", .glo "is_expression", .glo "check_expression", .glo "is_filling", .glo "expressions_of", .glo "all_names", .glo "names_of_expression", .glo "value_of", .glo "check_filling", .glo "value", .glo "_law_hash", .glo "_law_random", .glo "_law_cell", .glo "_law_generator", .glo "_law_power", .glo "_law_bit", .glo "_law_value", .glo "_law_expression", .glo "_law_told_names", .glo "_law_words", .glo "_law_right", .glo "_law_wide_right", .glo "law", .free "isinstance", .free "int", .free "bool", .free "str", .free "tuple", .free "list", .free "len", .free "zip", .free "sorted", .free "set", .free "dict", .free "sum", .free "max", .free "range", .free "repr", .str "LETTERS" "abcdefghijklmnopqrstuvwxyz", .str "FIGURES" "0123456789", .int "MOST_LETTERS" 6, .int "MOST_FIGURES" 4, .int "MOST_WIDTH" 64, .glo "TAKEN"]
def taken : List He.Dv := [.str "all", .str "and", .str "bit", .str "iff", .str "not", .str "or", .str "some", .str "then", .str "told", .str "top", .str "under"]
abbrev R : PySem.W.OpenRow := PySem.W.OpenLaw.row PySem.Challenge.rw_howeverwide_k07_whole_values
abbrev AlK : Type := He.AlD × Bool
def obsK (n : Nat) (g : Addr → Option Obj) : AlK := (He.obsDG n fa fn g, He.lstB (He.frG g (He.asD g n)) "TAKEN" taken)
def hk : PySem.W.Hook where
  α := AlK
  obs := fun s => obsK 4 s.heap.get?
  val := fun _ => (He.valD fn, true)
  says := fun _ h => ∃ K : PySem.W.Frag, K.In h ∧ He.SaysD fa fn K ∧ He.lstB K "TAKEN" taken = true
  of := fun _ _ e => ⟨_, He.frG_in, congrArg Prod.fst e, congrArg Prod.snd e⟩
  keeps := fun _ _ _ ⟨K, hK, c⟩ k => ⟨K, PySem.W.Frag.In.keeps hK k, c⟩
def ob (s : PySem.W.SharedT) : AlK := obsK 4 (HandSHeadRun.getT s)
theorem ob_eq (s : PySem.W.SharedT) : ob s = hk.obs s.abs := by
  have e : HandSHeadRun.getT s = s.abs.heap.get? := funext (HandSHeadRun.getT_eq s)
  unfold ob
  rw [e]
  rfl

def loose1 : List PySem.Str := ["ClaimError", "InvalidWidth", "InvalidExpression", "InvalidFilling", "LETTERS", "FIGURES", "TAKEN", "MOST_LETTERS", "MOST_FIGURES", "MOST_WIDTH", "is_whole", "is_count", "is_width", "check_width", "power_of_two", "is_word", "is_name", "has_head", "is_expression", "check_expression", "is_filling", "expressions_of", "all_names", "names_of_expression"]
def loose2 : List PySem.Str := ["value_of", "check_filling", "value", "_law_hash", "_law_random", "_law_cell", "_law_generator", "_law_power", "_law_bit", "_law_value", "_law_signed", "_law_takes", "_law_holds", "_law_expression", "_law_table", "_law_claim", "_law_told_names", "_law_free", "_law_fillings", "_law_words", "_law_right", "_law_wide_right"]
def loose : List PySem.Str := loose1 ++ loose2
theorem run (w : World) : HandSHeadRun.RunEq R (PySem.W.view R.prog [50]) hk ob 20000 loose w := by
  intro os
  kernel_rfl
end Hw
/-! ## KFinal -/
namespace Hw
open PySem PySem.Spec PyProof.Rows L2
theorem facts {P : Program} {w : World} {K : PySem.W.Frag} {h : Heap} {mg : Str → Option Value} {f : Addr} (X : K.In h) (G : h.Ns mainGlobals mg) (hfa : mg ("law" : Str) = some (.ref f)) (c : He.SaysD fa fn K) (lb : He.lstB K "TAKEN" taken = true) :
    ∃ fd : FuncData, (∀ (s : Shared) (v : Value), BindsTo s fd ⟨[v], []⟩ [("_law_script", v)]) ∧ ∀ base : Heap, K.In base → base.Ns mainGlobals mg → FnG P w K mg base 15 f fd ["_law_script"] (spLaw K) := by
  obtain ⟨fd0, F0⟩ := c.def_ 0 (d := d_is_whole) rfl
  obtain ⟨fd1, F1⟩ := c.def_ 1 (d := d_is_count) rfl
  obtain ⟨fd2, F2⟩ := c.def_ 2 (d := d_is_width) rfl
  obtain ⟨fd3, F3⟩ := c.def_ 3 (d := d_check_width) rfl
  obtain ⟨fd4, F4⟩ := c.def_ 4 (d := d_power_of_two) rfl
  obtain ⟨fd5, F5⟩ := c.def_ 5 (d := d_is_word) rfl
  obtain ⟨fd6, F6⟩ := c.def_ 6 (d := d_is_name) rfl
  obtain ⟨fd7, F7⟩ := c.def_ 7 (d := d_has_head) rfl
  obtain ⟨fd8, F8⟩ := c.def_ 8 (d := d_is_expression) rfl
  obtain ⟨fd9, F9⟩ := c.def_ 9 (d := d_check_expression) rfl
  obtain ⟨fd10, F10⟩ := c.def_ 10 (d := d_is_filling) rfl
  obtain ⟨fd11, F11⟩ := c.def_ 11 (d := d_expressions_of) rfl
  obtain ⟨fd12, F12⟩ := c.def_ 12 (d := d_all_names) rfl
  obtain ⟨fd13, F13⟩ := c.def_ 13 (d := d_names_of_expression) rfl
  obtain ⟨fd14, F14⟩ := c.def_ 14 (d := d_value_of) rfl
  obtain ⟨fd15, F15⟩ := c.def_ 15 (d := d_check_filling) rfl
  obtain ⟨fd16, F16⟩ := c.def_ 16 (d := d_value) rfl
  obtain ⟨fd17, F17⟩ := c.def_ 17 (d := d_law_hash) rfl
  obtain ⟨fd18, F18⟩ := c.def_ 18 (d := d_law_random) rfl
  obtain ⟨fd19, F19⟩ := c.def_ 19 (d := d_law_cell) rfl
  obtain ⟨fd20, F20⟩ := c.def_ 20 (d := d_law_generator) rfl
  obtain ⟨fd21, F21⟩ := c.def_ 21 (d := d_law_power) rfl
  obtain ⟨fd22, F22⟩ := c.def_ 22 (d := d_law_bit) rfl
  obtain ⟨fd23, F23⟩ := c.def_ 23 (d := d_law_value) rfl
  obtain ⟨fd24, F24⟩ := c.def_ 24 (d := d_law_expression) rfl
  obtain ⟨fd25, F25⟩ := c.def_ 25 (d := d_law_told_names) rfl
  obtain ⟨fd26, F26⟩ := c.def_ 26 (d := d_law_words) rfl
  obtain ⟨fd27, F27⟩ := c.def_ 27 (d := d_law_right) rfl
  obtain ⟨fd28, F28⟩ := c.def_ 28 (d := d_law_wide_right) rfl
  obtain ⟨fd29, F29⟩ := c.def_ 29 (d := d_law) rfl
  have m0 := He.glo_ok X G (c.fact 0 (f := .glo "is_whole") rfl)
  have m1 := He.glo_ok X G (c.fact 1 (f := .glo "is_count") rfl)
  have m2 := He.glo_ok X G (c.fact 2 (f := .glo "is_width") rfl)
  have m3 := He.glo_ok X G (c.fact 3 (f := .glo "check_width") rfl)
  have m4 := He.glo_ok X G (c.fact 4 (f := .glo "power_of_two") rfl)
  have m5 := He.glo_ok X G (c.fact 5 (f := .glo "is_word") rfl)
  have m6 := He.glo_ok X G (c.fact 6 (f := .glo "is_name") rfl)
  have m7 := He.glo_ok X G (c.fact 7 (f := .glo "has_head") rfl)
  have m8 := He.glo_ok X G (c.fact 8 (f := .glo "is_expression") rfl)
  have m9 := He.glo_ok X G (c.fact 9 (f := .glo "check_expression") rfl)
  have m10 := He.glo_ok X G (c.fact 10 (f := .glo "is_filling") rfl)
  have m11 := He.glo_ok X G (c.fact 11 (f := .glo "expressions_of") rfl)
  have m12 := He.glo_ok X G (c.fact 12 (f := .glo "all_names") rfl)
  have m13 := He.glo_ok X G (c.fact 13 (f := .glo "names_of_expression") rfl)
  have m14 := He.glo_ok X G (c.fact 14 (f := .glo "value_of") rfl)
  have m15 := He.glo_ok X G (c.fact 15 (f := .glo "check_filling") rfl)
  have m16 := He.glo_ok X G (c.fact 16 (f := .glo "value") rfl)
  have m17 := He.glo_ok X G (c.fact 17 (f := .glo "_law_hash") rfl)
  have m18 := He.glo_ok X G (c.fact 18 (f := .glo "_law_random") rfl)
  have m19 := He.glo_ok X G (c.fact 19 (f := .glo "_law_cell") rfl)
  have m20 := He.glo_ok X G (c.fact 20 (f := .glo "_law_generator") rfl)
  have m21 := He.glo_ok X G (c.fact 21 (f := .glo "_law_power") rfl)
  have m22 := He.glo_ok X G (c.fact 22 (f := .glo "_law_bit") rfl)
  have m23 := He.glo_ok X G (c.fact 23 (f := .glo "_law_value") rfl)
  have m24 := He.glo_ok X G (c.fact 24 (f := .glo "_law_expression") rfl)
  have m25 := He.glo_ok X G (c.fact 25 (f := .glo "_law_told_names") rfl)
  have m26 := He.glo_ok X G (c.fact 26 (f := .glo "_law_words") rfl)
  have m27 := He.glo_ok X G (c.fact 27 (f := .glo "_law_right") rfl)
  have m28 := He.glo_ok X G (c.fact 28 (f := .glo "_law_wide_right") rfl)
  have m29 := He.glo_ok X G (c.fact 29 (f := .glo "law") rfl)
  have e := hfa.symm.trans m29
  cases e
  have T : Txt K mg := {
    isi := He.free_ok X G (c.fact 30 (f := .free "isinstance") rfl)
    int := He.free_ok X G (c.fact 31 (f := .free "int") rfl)
    bool := He.free_ok X G (c.fact 32 (f := .free "bool") rfl)
    str := He.free_ok X G (c.fact 33 (f := .free "str") rfl)
    tuple := He.free_ok X G (c.fact 34 (f := .free "tuple") rfl)
    list := He.free_ok X G (c.fact 35 (f := .free "list") rfl)
    len := He.free_ok X G (c.fact 36 (f := .free "len") rfl)
    zip := He.free_ok X G (c.fact 37 (f := .free "zip") rfl)
    sorted := He.free_ok X G (c.fact 38 (f := .free "sorted") rfl)
    set := He.free_ok X G (c.fact 39 (f := .free "set") rfl)
    dict := He.free_ok X G (c.fact 40 (f := .free "dict") rfl)
    sum := He.free_ok X G (c.fact 41 (f := .free "sum") rfl)
    max := He.free_ok X G (c.fact 42 (f := .free "max") rfl)
    range := He.free_ok X G (c.fact 43 (f := .free "range") rfl)
    repr := He.free_ok X G (c.fact 44 (f := .free "repr") rfl)
    letters := (He.str_ok X G (c.fact 45 (f := .str "LETTERS" "abcdefghijklmnopqrstuvwxyz") rfl)).elim fun t e => ⟨_, e, ⟨t, rfl⟩⟩
    figures := (He.str_ok X G (c.fact 46 (f := .str "FIGURES" "0123456789") rfl)).elim fun t e => ⟨_, e, ⟨t, rfl⟩⟩
    mostL := (He.int_ok X G (c.fact 47 (f := .int "MOST_LETTERS" 6) rfl)).elim fun t e => ⟨_, e, ⟨t, rfl⟩⟩
    mostF := (He.int_ok X G (c.fact 48 (f := .int "MOST_FIGURES" 4) rfl)).elim fun t e => ⟨_, e, ⟨t, rfl⟩⟩
    mostW := (He.int_ok X G (c.fact 49 (f := .int "MOST_WIDTH" 64) rfl)).elim fun t e => ⟨_, e, ⟨t, rfl⟩⟩
    taken := ⟨He.ga K "TAKEN", He.glo_ok X G (c.fact 50 (f := .glo "TAKEN") rfl), fun H => He.lstB_ok lb H⟩ }
  have b := FunD.bindsA (ps := ["_law_script"]) F29 fun _ _ _ _ _ _ us hl => match us, hl with | [_], _ => rfl
  refine ⟨fd29, fun s v => b s [v] rfl, fun base _ _ => ?_⟩
  have whole : Cal P w K mg base 1 "is_whole" spWhole := c_is_whole F0 m0 T
  have count : Cal P w K mg base 2 "is_count" spCount := c_is_count F1 m1 T whole
  have width : Cal P w K mg base 3 "is_width" spWidth := c_is_width F2 m2 T count
  have checkW : Cal P w K mg base 4 "check_width" spCheckW := c_check_width F3 m3 T width
  have power : Cal P w K mg base 1 "power_of_two" spPow := c_power F4 m4 T
  have word : Cal P w K mg base 3 "is_word" spWord := c_is_word F5 m5 T count power
  have name : Cal P w K mg base 1 "is_name" spName := c_is_name F6 m6 T
  have head : Cal P w K mg base 1 "has_head" (spHead K) := c_has_head F7 m7 T
  have expr : Cal P w K mg base 11 "is_expression" (spExpr 9) := c_is_expr F8 m8 T name whole count head 9
  have checkE : Cal P w K mg base 12 "check_expression" spCheckE := c_check_expr F9 m9 T expr
  have fill : Cal P w K mg base 4 "is_filling" spFill := c_is_filling F10 m10 T word
  have parts : Cal P w K mg base 2 "expressions_of" spParts := c_exprs_of F11 m11 T whole
  have all : Cal P w K mg base 8 "all_names" (spAll 6) := c_all_names F12 m12 T parts 6
  have names : Cal P w K mg base 9 "names_of_expression" spNames := c_names_of F13 m13 T all
  have valueOf : Cal P w K mg base 8 "value_of" (spVal 6) := c_value_of F14 m14 T power 6
  have checkF : Cal P w K mg base 5 "check_filling" spCheckF := c_check_filling F15 m15 fill
  have value : CalV P w K mg base := c_value F16 m16 T checkW checkE checkF names valueOf
  have hash : Cal P w K mg base 1 "_law_hash" spHash := c_hash F17 m17 T
  have random : Cal P w K mg base 2 "_law_random" spRand := c_random F18 m18 T hash
  have cell : Cal P w K mg base 1 "_law_cell" (spCell (K := K)) := c_cell F19 m19 T
  have gen : Cal P w K mg base 2 "_law_generator" (spGen K) := c_generator F20 m20 T cell
  have lpow : Cal P w K mg base 1 "_law_power" spLP := c_lpower F21 m21 T
  have lbit : Cal P w K mg base 2 "_law_bit" spLB := c_lbit F22 m22 T lpow
  have lval : Cal P w K mg base 8 "_law_value" (spVal 5) := c_lvalue F23 m23 T lpow lbit 5
  have lexpr : Cal P w K mg base 6 "_law_expression" (spLE 4) := c_lexpr F24 m24 T random 4
  have told : Cal P w K mg base 6 "_law_told_names" (spAll 4) := c_told F25 m25 T 4
  have words : Cal P w K mg base 1 "_law_words" spWords := c_words F26 m26 T
  have C : Tools P w K mg base := ⟨value, random, lpow, lexpr, told, lval, words⟩
  exact c_law F29 T C gen (c_wide F28 m28 T C) (c_right F27 m27 T C)
end Hw
open PySem PySem.W PySem.Calls PyProof.Rows
theorem PySem.Challenge.cw_howeverwide_k07_whole_values_holds : PySem.Challenge.rw_howeverwide_k07_whole_values.Holds := by
  w_on; o_law
  refine HandSHeadRun.head_any (r := OpenLaw.row PySem.Challenge.rw_howeverwide_k07_whole_values) (q := view (OpenLaw.row PySem.Challenge.rw_howeverwide_k07_whole_values).prog [50]) (H := Hw.hk) (ob := Hw.ob) (M := 20000) (loose := Hw.loose) (d := HandSHeadRun.topDef (OpenLaw.row PySem.Challenge.rw_howeverwide_k07_whole_values).prog 50) (kwd := []) Hw.ob_eq
    (by kernel_rfl) (fun s => by kernel_rfl) Hw.run (by kernel_rfl) (by kernel_rfl) (by kernel_rfl) (by rfl) (by first | assumption | decide +kernel) (by decide +kernel) ⟨rfl, rfl, rfl, rfl, rfl, by decide +kernel⟩ ?hw ?hc
  case hw => w_witness2
  case hc =>
    refine Hw.walk_ofG (l := PySem.Challenge.rw_howeverwide_k07_whole_values) (n := 63) (k := 15) (x := "_law_script") rfl (by decide) (by kernel_rfl) ⟨rfl, by decide, by decide⟩ ?F
    intro w mg fa h Y G hmg0
    obtain ⟨K, KX, c, lb⟩ := Y
    have hmg : mg ("law" : PySem.Str) = some (.ref fa) := by
      have e : (HandSHeadRun.topDef (OpenLaw.row PySem.Challenge.rw_howeverwide_k07_whole_values).prog 50).name = ("law" : PySem.Str) := by kernel_rfl
      rw [← e]
      exact hmg0
    obtain ⟨fd, hb, hF⟩ := Hw.facts (P := (PySem.Challenge.rw_howeverwide_k07_whole_values).prog) (w := w) KX G hmg c lb
    exact ⟨K, fd, Hw.spLaw K, KX, hb, fun H a ns hl _ hS => ⟨a, ns, rfl, hS, fun _ => rfl⟩, hF⟩
