import PyProof.Rows.All
import Wide.All
import OpenK.AllK
import Wide.FinOn
import KE.KStateDown
import Lean
import HandS.ForMost
import HandS.Exc
import HandS.TryOnly
import HandS.ExcOwn
import HandS.WordsExc
import HandS.More
import HandS.Wide
import HandS.IsInst
import HandS.NoneIn
import HandS.Defaults
import HandS.Lambda
import HandS.EndTab
import HandS.Head0
import HandS.Head1
import HandS.Head2
import HandS.HeadEnd
import HandS.HeadHook1
import HandS.HeadHook2
import HandS.HeadHook3
import HandS.HeadHook4
import HandS.HeadWalk
import PySem.Challenge.RW_quickturns_k10_whole_fractions
set_option Elab.async false
set_option linter.all false
set_option maxRecDepth 100000
set_option maxHeartbeats 0
namespace Qt
theorem gcd_fmod (a b : Int) : Int.gcd b (a.fmod b) = Int.gcd a b := by
  have h : a.fmod b = a + b * (-(a.fdiv b)) := by
    have := Int.mul_fdiv_add_fmod a b
    grind
  rw [h, Int.gcd_add_mul_left_right, Int.gcd_comm]
theorem fmod_lt (a : Int) {b : Int} (h : b ≠ 0) : (a.fmod b).natAbs < b.natAbs := by
  rcases Int.lt_or_gt_of_ne h with h | h
  · have e : (-a).fmod (-b) = -(a.fmod b) := Int.neg_fmod_neg ..
    have h2 := Int.fmod_nonneg_of_pos (-a) (b := -b) (by omega)
    have h3 := Int.fmod_lt_of_pos (-a) (b := -b) (by omega)
    omega
  · have h2 := Int.fmod_nonneg_of_pos a h
    have h3 := Int.fmod_lt_of_pos a h
    omega
/-- the divisor that least takes -/
def lby (a b : Int) : Int := if b < 0 then 0 - (Int.gcd a b : Int) else (Int.gcd a b : Int)
theorem gcd_pos (a : Int) {b : Int} (h : b ≠ 0) : 0 < Int.gcd a b := Int.gcd_pos_of_ne_zero_right a h
theorem lby_ne (a : Int) {b : Int} (h : b ≠ 0) : lby a b ≠ 0 := by
  have := gcd_pos a h
  unfold lby
  split <;> omega
theorem lby_num (a : Int) {b : Int} (h : b ≠ 0) : a = lby a b * (Rat.divInt a b).num := by
  have hp := gcd_pos a h
  have hd : (Int.gcd a b : Int) ∣ a := Int.gcd_dvd_left ..
  rw [Rat.num_divInt, Int.gcd_comm b a]
  unfold lby
  rcases Int.lt_or_gt_of_ne h with h | h
  · rw [if_pos h, Int.sign_eq_neg_one_of_neg h]
    obtain ⟨c, hc⟩ := hd
    have e : (-1 * a) / (Int.gcd a b : Int) = -c := by
      rw [show -1 * a = (Int.gcd a b : Int) * (-c) by grind]
      exact Int.mul_ediv_cancel_left _ (by omega)
    rw [e]
    grind
  · rw [if_neg (by omega), Int.sign_eq_one_of_pos h, Int.one_mul]
    exact (Int.mul_ediv_cancel' hd).symm
theorem lby_den (a : Int) {b : Int} (h : b ≠ 0) : b = lby a b * ((Rat.divInt a b).den : Int) := by
  have hp := gcd_pos a h
  have hd : (Int.gcd a b : Int) ∣ b := Int.gcd_dvd_right ..
  have hn : Int.gcd a b ∣ b.natAbs := Int.ofNat_dvd_left.mp hd
  rw [Rat.den_divInt, if_neg h, Int.gcd_comm b a]
  obtain ⟨c, hc⟩ := hn
  rw [hc, Nat.mul_div_cancel_left _ hp]
  unfold lby
  split
  · have : b = -(b.natAbs : Int) := by omega
    rw [hc] at this
    grind
  · have : b = (b.natAbs : Int) := by omega
    rw [hc] at this
    grind
theorem fdiv_of_mul {g q : Int} (h : g ≠ 0) : (g * q).fdiv g = q := Int.mul_fdiv_cancel_left q h
theorem least_num (a : Int) {b : Int} (h : b ≠ 0) : a.fdiv (lby a b) = (Rat.divInt a b).num := by
  have e := lby_num a h
  have z := lby_ne a h
  generalize hg : lby a b = g at e z ⊢
  generalize hd : (Rat.divInt a b).num = d at e ⊢
  rw [e]
  exact fdiv_of_mul z
theorem least_den (a : Int) {b : Int} (h : b ≠ 0) : b.fdiv (lby a b) = ((Rat.divInt a b).den : Int) := by
  have e := lby_den a h
  have z := lby_ne a h
  generalize hg : lby a b = g at e z ⊢
  generalize hd : ((Rat.divInt a b).den : Int) = d at e ⊢
  rw [e]
  exact fdiv_of_mul z
/-- numerator and denominator below 2 ^ n -/
structure Bq (n : Nat) (q : Rat) : Prop where
  num : q.num.natAbs < 2 ^ n
  den : q.den < 2 ^ n
theorem Bq.mono {n m : Nat} {q : Rat} (h : Bq n q) (k : n ≤ m) : Bq m q :=
  ⟨Nat.lt_of_lt_of_le h.num (Nat.pow_le_pow_right (by decide) k), Nat.lt_of_lt_of_le h.den (Nat.pow_le_pow_right (by decide) k)⟩
theorem bq_divInt {n : Nat} {a b : Int} (hb : b ≠ 0) (h1 : a.natAbs < 2 ^ n) (h2 : b.natAbs < 2 ^ n) : Bq n (Rat.divInt a b) := by
  have e1 := lby_num a hb
  have e2 := lby_den a hb
  have z := lby_ne a hb
  have k1 : (Rat.divInt a b).num.natAbs ≤ a.natAbs := by
    rw [congrArg Int.natAbs e1, Int.natAbs_mul]
    exact Nat.le_mul_of_pos_left _ (by omega)
  have k2 : (Rat.divInt a b).den ≤ b.natAbs := by
    rw [congrArg Int.natAbs e2, Int.natAbs_mul, Int.natAbs_natCast]
    exact Nat.le_mul_of_pos_left _ (by omega)
  exact ⟨Nat.lt_of_le_of_lt k1 h1, Nat.lt_of_le_of_lt k2 h2⟩
theorem den_ne (q : Rat) : (q.den : Int) ≠ 0 := by have := q.den_nz; omega
theorem den_pos (q : Rat) : 0 < (q.den : Int) := by have := q.den_nz; omega
theorem dd_ne (a b : Rat) : ((a.den : Int) * b.den) ≠ 0 := Int.mul_ne_zero (den_ne a) (den_ne b)
theorem add_eq (a b : Rat) : a + b = Rat.divInt (a.num * b.den + b.num * a.den) (a.den * b.den) := by
  rw [Rat.add_def', ← Int.natCast_mul, Rat.divInt_ofNat]
theorem sub_eq (a b : Rat) : a - b = Rat.divInt (a.num * b.den - b.num * a.den) (a.den * b.den) := by
  rw [Rat.sub_def', ← Int.natCast_mul, Rat.divInt_ofNat]
theorem mul_eq (a b : Rat) : a * b = Rat.divInt (a.num * b.num) (a.den * b.den) := by
  rw [Rat.mul_def', ← Int.natCast_mul, Rat.divInt_ofNat]
theorem num_ne {b : Rat} (h : b ≠ 0) : b.num ≠ 0 := fun z => h (Rat.num_eq_zero.mp z)
theorem div_eq (a b : Rat) : a / b = Rat.divInt (a.num * b.den) (a.den * b.num) := by
  rw [Rat.div_def, Rat.inv_def, ← Rat.num_divInt_den a, Rat.divInt_mul_divInt, Rat.num_divInt_den]
theorem lt_eq (a b : Rat) : decide (a.num * (b.den : Int) < b.num * (a.den : Int)) = decide (a < b) := decide_eq_decide.mpr (Rat.lt_iff a b).symm
theorem pow_mul_lt {x y n m : Nat} (h1 : x < 2 ^ n) (h2 : y < 2 ^ m) : x * y < 2 ^ (n + m) := by
  rw [Nat.pow_add]
  exact Nat.mul_lt_mul'' h1 h2
theorem Bq.add {n m : Nat} {a b : Rat} (ha : Bq n a) (hb : Bq m b) : Bq (n + m + 1) (a + b) := by
  rw [add_eq]
  refine bq_divInt (dd_ne a b) ?_ ?_
  · have h1 : (a.num * (b.den : Int)).natAbs < 2 ^ (n + m) := by
      rw [Int.natAbs_mul, Int.natAbs_natCast]
      exact pow_mul_lt ha.num hb.den
    have h2 : (b.num * (a.den : Int)).natAbs < 2 ^ (n + m) := by
      rw [Int.natAbs_mul, Int.natAbs_natCast, Nat.add_comm]
      exact pow_mul_lt hb.num ha.den
    rw [Nat.pow_succ]
    omega
  · rw [Int.natAbs_mul, Int.natAbs_natCast, Int.natAbs_natCast]
    exact Nat.lt_of_lt_of_le (pow_mul_lt ha.den hb.den) (Nat.pow_le_pow_right (by decide) (by omega))
theorem Bq.neg {n : Nat} {a : Rat} (ha : Bq n a) : Bq n (-a) := ⟨by rw [Rat.neg_num, Int.natAbs_neg]; exact ha.num, ha.den⟩
theorem Bq.sub {n m : Nat} {a b : Rat} (ha : Bq n a) (hb : Bq m b) : Bq (n + m + 1) (a - b) := by
  rw [Rat.sub_eq_add_neg]
  exact ha.add hb.neg
theorem Bq.mul {n m : Nat} {a b : Rat} (ha : Bq n a) (hb : Bq m b) : Bq (n + m) (a * b) := by
  rw [mul_eq]
  refine bq_divInt (dd_ne a b) ?_ ?_
  · rw [Int.natAbs_mul]
    exact pow_mul_lt ha.num hb.num
  · rw [Int.natAbs_mul, Int.natAbs_natCast, Int.natAbs_natCast]
    exact pow_mul_lt ha.den hb.den
theorem Bq.div {n m : Nat} {a b : Rat} (ha : Bq n a) (hb : Bq m b) (h0 : b ≠ 0) : Bq (n + m) (a / b) := by
  rw [div_eq]
  refine bq_divInt (Int.mul_ne_zero (den_ne a) (num_ne h0)) ?_ ?_
  · rw [Int.natAbs_mul, Int.natAbs_natCast]
    exact pow_mul_lt ha.num hb.den
  · rw [Int.natAbs_mul, Int.natAbs_natCast]
    exact pow_mul_lt ha.den hb.num
end Qt

namespace Qt
open PySem PySem.Spec PyProof.Rows L2
/-! ### rules of my own over the layer -/
def CDivZ (i j : Int) : Prop := j ≠ 0 ∧ Builtin.divisionGoesByPylong i j = false
def CMulZ (i j : Int) : Prop := IntMulOk i j
section
variable {X : Cx}
theorem op_fdivZ : OpR X (binaryOp .FloorDiv) (rI CDivZ fun i j => .int (i.fdiv j)) := opI fun _ _ _ _ _ _ _ hc q => floordiv_int hc.1 q (.inl hc.2)
theorem op_mulZ : OpR X (binaryOp .Mult) (rI CMulZ fun i j => .int (i * j)) := opI fun _ _ _ _ _ _ _ hc q => mul_int q hc
end
theorem bits_le {i : Int} {n : Nat} (h : i.natAbs < 2 ^ n) : Builtin.Int.intBits i ≤ n := PyProof.Rows.intBits_le h
theorem mulZ {i j : Int} {a b : Nat} (ha : i.natAbs < 2 ^ a) (hb : j.natAbs < 2 ^ b) (h : a + b ≤ 1000000) : CMulZ i j := by
  have h1 := bits_le ha
  have h2 := bits_le hb
  have e : bitsLine = 134217728 := by decide
  unfold CMulZ IntMulOk
  intro z
  rw [Bool.and_eq_true] at z
  have z2 := z.2
  unfold Builtin.Int.intTooBig at z2
  have z3 := of_decide_eq_true z2
  rw [e] at z3
  omega
/-- a product divided by one factor, the other below 2 ^ 4000: C does it by itself -/
theorem divZ {i j q : Int} (hj : j ≠ 0) (e : i = j * q) (hq : q.natAbs < 2 ^ 4000) : CDivZ i j := by
  refine ⟨hj, ?_⟩
  have lj : (if j == 0 then 0 else j.natAbs.log2 / 30 + 1) = j.natAbs.log2 / 30 + 1 := if_neg (by simpa using hj)
  have k : ¬ ((if i == 0 then 0 else i.natAbs.log2 / 30 + 1) > (if j == 0 then 0 else j.natAbs.log2 / 30 + 1) + 150) := by
    rw [lj]
    split
    · omega
    · rename_i z
      have z' : i ≠ 0 := by simpa using z
      have hi : i.natAbs < 2 ^ (j.natAbs.log2 + 1 + 4000) := by
        rw [e, Int.natAbs_mul]
        exact pow_mul_lt Nat.lt_log2_self hq
      have h1 : i.natAbs.log2 < j.natAbs.log2 + 1 + 4000 := (Nat.log2_lt (by omega)).mpr hi
      omega
  show (decide ((if j == 0 then 0 else j.natAbs.log2 / 30 + 1) > 300) && decide ((if i == 0 then 0 else i.natAbs.log2 / 30 + 1) > (if j == 0 then 0 else j.natAbs.log2 / 30 + 1) + 150)) = false
  rw [decide_eq_false k, Bool.and_false]
theorem divZ_small {i j : Int} (hj : j ≠ 0) (h : j.natAbs < 2 ^ 8000) : CDivZ i j := ⟨hj, PyProof.noPylong_of_log2 (by
  have : j.natAbs.log2 < 8000 := (Nat.log2_lt (by omega)).mpr h
  omega)⟩
section
variable {X : Cx}
theorem pe_gI {x : Str} {i : Int} {pos : Pos} (h : ∃ t, X.mg x = some (.int i t)) (hg : Gl X x := by rfl) (hd : (x == ("__debug__" : Str)) = false := by decide) : PE X (.Name x pos) (tC (.int i)) := by
  obtain ⟨t, h⟩ := h
  exact pe_glob hg h ⟨t, rfl⟩ hd
theorem pe_gS {x z : Str} {pos : Pos} (h : ∃ t, X.mg x = some (.str z t)) (hg : Gl X x := by rfl) (hd : (x == ("__debug__" : Str)) = false := by decide) : PE X (.Name x pos) (tC (.str z)) := by
  obtain ⟨t, h⟩ := h
  exact pe_glob hg h ⟨t, rfl⟩ hd
theorem pe_gR {x : Str} {a : Addr} {pos : Pos} (h : X.mg x = some (.ref a)) (hg : Gl X x := by rfl) (hd : (x == ("__debug__" : Str)) = false := by decide) : PE X (.Name x pos) (tC (.ref a)) := pe_glob hg h rfl hd
end
theorem ifb {b : Bool} {A B : Prop} (h1 : b = true → A) (h2 : b = false → B) : if b = true then A else B := by
  cases b with
  | true => exact iteT (h1 rfl)
  | false => exact iteF (h2 rfl)
/-! ### fractions in the heap -/
def qv (q : Rat) : List V := [.int q.num, .int (q.den : Int)]
/-- v is the fraction q -/
def FrA (K : PySem.W.Frag) (H : Hp) (v : V) (q : Rat) : Prop := ∃ p, v = .ref p ∧ SqT K H p (qv q)
theorem Same.sqT {K : PySem.W.Frag} {H H' : Hp} {a : Addr} {xs : List V} (e : Same H H') (h : SqT K H a xs) : SqT K H' a xs := by
  rcases h with (h | ⟨o, h⟩) | h
  · exact .inl (.inl (e _ _ h))
  · exact .inl (.inr ⟨o, e _ _ h⟩)
  · exact .inr h
theorem FrA.same {K : PySem.W.Frag} {H H' : Hp} {v : V} {q : Rat} (h : FrA K H v q) (e : Same H H') : FrA K H' v q := by
  obtain ⟨p, rfl, h⟩ := h
  exact ⟨p, rfl, Same.sqT e h⟩
theorem same_new {H : Hp} {p : Addr} {o : HO} (h : H p = none) : Same H (upd H p o) := fun b u e => by
  rw [upd_ne (ne_of_none e h)]
  exact e
theorem fra_new {K : PySem.W.Frag} {H : Hp} {p : Addr} {q : Rat} : FrA K (upd H p (.tup (qv q))) (.ref p) q := ⟨p, rfl, SqT.of upd_same⟩
/-- the kinds of things that are asked about -/
inductive Kn : String → Prop where
  | int : Kn "int" | bool : Kn "bool" | none : Kn "NoneType" | str : Kn "str" | tuple : Kn "tuple" | list : Kn "list"
theorem kn_int {K : PySem.W.Frag} {n : String} (h : Kn n) : PySem.W.kitOne K (.type n) (.type "int") = some (decide (n = "int" ∨ n = "bool")) := by
  cases h <;> exact kit_ty (by decide +kernel)
theorem kn_bool {K : PySem.W.Frag} {n : String} (h : Kn n) : PySem.W.kitOne K (.type n) (.type "bool") = some (decide (n = "bool")) := by
  cases h <;> exact kit_ty (by decide +kernel)
theorem kn_tuple {K : PySem.W.Frag} {n : String} (h : Kn n) : PySem.W.kitOne K (.type n) (.type "tuple") = some (decide (n = "tuple")) := by
  cases h <;> exact kit_ty (by decide +kernel)
theorem kn_str {K : PySem.W.Frag} {n : String} (h : Kn n) : PySem.W.kitOne K (.type n) (.type "str") = some (decide (n = "str")) := by
  cases h <;> exact kit_ty (by decide +kernel)
theorem tyx_tup {K : PySem.W.Frag} {H : Hp} {p : Addr} {xs : List V} (h : SqT K H p xs) : TyX K H (.ref p) (.type "tuple") := by
  rcases h with (h | ⟨o, h⟩) | h
  · exact .base (.tup h)
  · exact .fTuple h
  · obtain ⟨o, its, n, h1, h2, _⟩ := h
    exact .kTuple h1 h2
/-! ### promises of defs -/
/-- a def of the top keeps its promise, and may be called -/
def Pm (P : Program) (w : World) (K : PySem.W.Frag) (mg : Str → Option Value) (base : Heap) (C : CXT) (k : Nat) (x : Str) (ps : List Str) (sp : Sp) : Prop :=
  ∃ fd, FnOk P w K mg base C k (He.ga K x) fd ps sp ∧ Binds K fd ps [] ∧ PySem.W.keepIn K (.ref (He.ga K x)) = true
/-- a method, an __init__ -/
def PmM (P : Program) (w : World) (K : PySem.W.Frag) (mg : Str → Option Value) (base : Heap) (C : CXT) (k : Nat) (c m : Str) (ps : List Str) (sp : Sp) : Prop :=
  ∃ fd, FnOk P w K mg base C k (He.ma K (He.ga K c) m) fd ps sp ∧ Binds K fd ps []
/-- a fraction is handed back; all that was tracked is as it was -/
def RetQ (K : PySem.W.Frag) (H : Hp) (Q : VK) (q : Rat) : Prop := ∀ v H', Same H H' → FrA K H' v q → Q v H'
theorem RetQ.new {K : PySem.W.Frag} {H : Hp} {Q : VK} {q : Rat} (h : RetQ K H Q q) {p : Addr} (hp : H p = none) : Q (.ref p) (upd H p (.tup (qv q))) := h _ _ (same_new hp) fra_new
/-- whether a thing is a fraction -/
inductive FrB (K : PySem.W.Frag) (H : Hp) : V → Bool → Prop where
  | no {v : V} {n : String} (ty : TyX K H v (.type n)) (kn : Kn n) (ne : n ≠ "tuple") : FrB K H v false
  | len {p : Addr} {xs : List V} (h : SqT K H p xs) (l : xs.length ≠ 2) : FrB K H (.ref p) false
  | parts {p : Addr} {x y : V} {n m : String} (h : SqT K H p [x, y]) (tx : TyX K H x (.type n)) (kx : Kn n) (ty : TyX K H y (.type m)) (ky : Kn m) (ne : ¬ (n = "int" ∧ m = "int")) : FrB K H (.ref p) false
  | nums {p : Addr} {n d : Int} (h : SqT K H p [.int n, .int d]) : FrB K H (.ref p) (decide (0 < d) && decide (Int.gcd n d = 1))
theorem frb_of {K : PySem.W.Frag} {H : Hp} {v : V} {q : Rat} (h : FrA K H v q) : FrB K H v true := by
  obtain ⟨p, rfl, h⟩ := h
  have e : (decide (0 < (q.den : Int)) && decide (Int.gcd q.num (q.den : Int) = 1)) = true := by
    have h1 := den_pos q
    have h2 : Int.gcd q.num (q.den : Int) = 1 := q.reduced
    rw [decide_eq_true h1, decide_eq_true h2] <;> rfl
  rw [← e]
  exact .nums h
theorem FrB.same {K : PySem.W.Frag} {H H' : Hp} {v : V} {r : Bool} (h : FrB K H v r) (e : Same H H') (hk : ∀ x n, TyX K H x (.type n) → TyX K H' x (.type n)) : FrB K H' v r := by
  cases h with
  | no ty kn ne => exact .no (hk _ _ ty) kn ne
  | len h l => exact .len (Same.sqT e h) l
  | parts h tx kx ty ky ne => exact .parts (Same.sqT e h) (hk _ _ tx) kx (hk _ _ ty) ky ne
  | nums h => exact .nums (Same.sqT e h)
theorem at0 {x y : V} : atI [x, y] 0 = some x := rfl
theorem at1 {x y : V} : atI [x, y] 1 = some y := rfl
def rTCount (K : PySem.W.Frag) : V → List V → Hp → VK → Prop := fun x xs H Q => ∃ (p : Addr) (ys : List V) (y : V), x = .ref p ∧ xs = [y] ∧ SqT K H p ys ∧ flatV y = true ∧ ys.all flatV = true ∧ Q (.int (ys.countP (fun z => eqV z y) : Nat)) H
theorem countU {y : V} : ∀ {ys : List V} {us : List Value}, Vals ys us → ys.all flatV = true → us.countP (eqU y) = ys.countP (fun z => eqV z y)
  | _, _, .nil, _ => rfl
  | z :: ys, u :: us, .cons r t, h => by
    rw [List.all_cons, Bool.and_eq_true] at h
    rw [List.countP_cons, List.countP_cons, countU t h.2, eqU_of r h.1]
theorem mt_tcount {X : Cx} : MtR X "tuple.count" (rTCount X.K) := by
  intro pins s σ H x xs v us Q I rx rxs h
  obtain ⟨a, ys, y, rfl, rfl, hs, fy, fys, q⟩ := h
  cases rx
  cases rxs with
  | cons ry rt =>
    rename_i uy ut
    cases rt
    obtain ⟨its, rv, ⟨⟨cls, dd, data, sl⟩, ho, hc, n, hd⟩, hlen⟩ := I.tuple hs
    simp only at hc hd
    subst hc hd
    refine call_meets PySem.F.slot_tuple_count ⟨_, ho, rfl⟩ PySem.F.entry_tuple_count (PySem.F.args_tuple_count_2 _ _)
      (SeqAt.tuple_countAt a its.toArray n dd sl uy (eqU y)) ⟨ho, fun u' hu' => mem_eqAt ry fy rv fys u' (by simpa using hu'), ?_⟩
    have ec : its.toArray.toList.countP (eqU y) = ys.countP (fun z => eqV z y) := countU rv fys
    rw [ec]
    exact ⟨.int _, H, I.tok _, ⟨_, rfl⟩, q⟩
/-! ### what never changes: tuples, locked things -/
structure Tk (H H' : Hp) : Prop where
  t : ∀ b xs, H b = some (.tup xs) → H' b = some (.tup xs)
  z : ∀ b o u, H b = some (.frz o u) → H' b = some (.frz o u)
theorem Tk.refl (H : Hp) : Tk H H := ⟨fun _ _ h => h, fun _ _ _ h => h⟩
theorem Tk.trans {H H1 H2 : Hp} (a : Tk H H1) (b : Tk H1 H2) : Tk H H2 := ⟨fun c xs h => b.t c xs (a.t c xs h), fun c o u h => b.z c o u (a.z c o u h)⟩
theorem Tk.of {H H' : Hp} (e : Same H H') : Tk H H' := ⟨fun b xs h => e b _ h, fun b o u h => e b _ h⟩
theorem Tk.mut {H : Hp} {a : Addr} {o : HO} (h : Mut (H a)) : Tk H (upd H a o) := by
  refine ⟨fun b xs e => ?_, fun b ob u e => ?_⟩
  · rw [upd_ne (fun z => by rw [← z, e] at h; exact h)]
    exact e
  · rw [upd_ne (fun z => by rw [← z, e] at h; exact h)]
    exact e
theorem Tk.sqT {K : PySem.W.Frag} {H H' : Hp} {a : Addr} {xs : List V} (e : Tk H H') (h : SqT K H a xs) : SqT K H' a xs := by
  rcases h with (h | ⟨o, h⟩) | h
  · exact .inl (.inl (e.t _ _ h))
  · exact .inl (.inr ⟨o, e.z _ _ _ h⟩)
  · exact .inr h
theorem FrA.tk {K : PySem.W.Frag} {H H' : Hp} {v : V} {q : Rat} (h : FrA K H v q) (e : Tk H H') : FrA K H' v q := by
  obtain ⟨p, rfl, h⟩ := h
  exact ⟨p, rfl, e.sqT h⟩
/-- what follows a statement is shown once, for all its ways -/
theorem seq_cut {t rest : TS} {D : Ends} {σ : L2.St} {H : Hp} (J : Hp → Prop) (h2 : ∀ H1, J H1 → rest D σ H1) (h1 : (∀ H1, J H1 → rest D σ H1) → tSeq t rest D σ H) : tSeq t rest D σ H := h1 h2
theorem seq_same {t rest : TS} {D : Ends} {σ : L2.St} {H : Hp} (h2 : ∀ H1, Same H H1 → rest D σ H1) (h1 : (∀ H1, Same H H1 → rest D σ H1) → tSeq t rest D σ H) : tSeq t rest D σ H := h1 h2
/-- a method of a tuple that is written on the spot -/
def tBMT (r : V → List V → Hp → VK → Prop) (t0 t : TA) : TE := fun σ H Q => t0 σ H fun vs H1 => vs.length ≤ sizeLine ∧ ∀ p, H1 p = none → t σ (upd H1 p (.tup vs)) fun us H2 => r (.ref p) us H2 Q
theorem pe_bmT {X : Cx} {name : Str} {id : String} {r : V → List V → Hp → VK → Prop} {xs0 es : List Expr} {e : Expr} {t0 t : TA} {k0 : Nat} {p0 apos cpos : Pos}
    (pa : PlainAttrs "tuple") (slot : Slot "tuple" name id) (hty : typeOf (.builtin id) = pure (.type "method_descriptor")) (hm : MtR X id r) (h0 : PA X xs0 t0) (ha : PA X (e :: es) t)
    (hbase : attributeBase (.Tuple xs0 k0 p0) name X.env (eval (.Tuple xs0 k0 p0) X.env) = eval (.Tuple xs0 k0 p0) X.env := by rfl)
    (hfew : ((backTo cpos (starEach (e :: es) X.env)).all (fun x => !x.1) && (backToKw cpos (keywordEach [] X.env)).all (fun x => x.1.isSome)
      && decide ((e :: es).length + ([] : List Keyword).length + (if ([] : List Keyword).isEmpty then 0 else 1) < 30)) = true := by rfl)
    (hline : (apos.endLine == cpos.line) = true := by rfl) (hs : starEach (e :: es) X.env = (false, eval e X.env) :: starEach es X.env := by rfl) (hplain : (backTo cpos (starEach es X.env)).any (·.1) = false := by rfl) :
    PE X (.Call (.Attribute (.Tuple xs0 k0 p0) name apos) (e :: es) [] cpos) (tBMT r t0 t) := by
  refine ⟨fun pins s σ H Q I h => ?_⟩
  refine wpAny_Call_method_late hbase hfew hline rfl (wpAny_Tuple_spliced (thn (h0.run p0 pins s σ H _ I h) fun us s1 hh => ?_))
  obtain ⟨xs, H1, I1, rr, z, q⟩ := hh
  refine ⟨by rw [← rr.length]; exact z, ?_⟩
  have hf : H1 s1.heap.objs.size = none := I1.hok.fresh (Nat.le_refl _)
  have I2 := I1.laid (a := s1.heap.objs.size) (o := .tup xs) (t' := s1.toks) (fun b u e => Heap.get?_push_of_some { cls := .type "tuple", data := .seq us.toArray } e) (Nat.le_refl _) ⟨z, us, rr, ⟨_, Heap.get?_push_size _ rfl, rfl, _, rfl⟩⟩
  refine ⟨"tuple", id, pa, slot, hty, ⟨_, Heap.get?_push_size _ rfl, rfl⟩, (fun a ea => by cases ea; exact ⟨_, Heap.get?_push_size _ rfl, rfl⟩), ?_⟩
  have hA := ha.run cpos pins _ σ _ _ I2 (q _ hf)
  rw [hs] at hA ⊢
  refine Calls.callWith_builtin (by show (false || (backTo cpos (starEach es X.env)).any (·.1)) = false; rw [hplain] <;> rfl) (Calls.evalArgs_plain ?_)
  exact thn hA fun ws s2 ⟨vs, H2, J2, r2, q2⟩ => hm pins s2 σ H2 (.ref s1.heap.objs.size) vs _ ws Q J2 rfl r2 q2
end Qt

namespace Qt
open PySem PySem.Spec PyProof.Rows L2
/-! ### the text by places -/
def top (i : Nat) : Stmt := PySem.Challenge.pw_quickturns_k10_whole_fractions.main.body.getD i (.Pass ⟨0, 0, 0, 0⟩)
abbrev s_need : Stmt := top 4
abbrev s_is_whole : Stmt := top 5
abbrev s_shared : Stmt := top 6
abbrev s_is_fraction : Stmt := top 7
abbrev s_need_fraction : Stmt := top 8
abbrev s_look : Stmt := top 9
abbrev s_least : Stmt := top 10
abbrev s_fraction : Stmt := top 11
abbrev s_add : Stmt := top 12
abbrev s_take : Stmt := top 13
abbrev s_multiply : Stmt := top 14
abbrev s_part_of : Stmt := top 15
abbrev s_is_less : Stmt := top 16
abbrev s_plus : Stmt := top 17
abbrev s_less : Stmt := top 18
abbrev s_times : Stmt := top 19
abbrev s_by : Stmt := top 20
abbrev s_before : Stmt := top 21
abbrev s_whole : Stmt := top 22
abbrev s__law_cell : Stmt := top 24
abbrev s__law_drawn : Stmt := top 25
abbrev s__law_least : Stmt := top 26
abbrev s__law_sum : Stmt := top 27
abbrev s__law_product : Stmt := top 28
abbrev s__law_under : Stmt := top 29
abbrev s__law_number : Stmt := top 30
abbrev s_law : Stmt := top 31
abbrev N_need : List Str := ["good"]
theorem sc_need : FnScope N_need ["good"] (defScope s_need) := ⟨rfl, rfl, rfl, by decide +kernel, rfl, by decide +kernel, by decide +kernel⟩
abbrev N_is_whole : List Str := ["thing"]
theorem sc_is_whole : FnScope N_is_whole ["thing"] (defScope s_is_whole) := ⟨rfl, rfl, rfl, by decide +kernel, rfl, by decide +kernel, by decide +kernel⟩
abbrev N_shared : List Str := ["one", "other"]
theorem sc_shared : FnScope N_shared ["one", "other"] (defScope s_shared) := ⟨rfl, rfl, rfl, by decide +kernel, rfl, by decide +kernel, by decide +kernel⟩
abbrev N_is_fraction : List Str := ["thing"]
theorem sc_is_fraction : FnScope N_is_fraction ["thing"] (defScope s_is_fraction) := ⟨rfl, rfl, rfl, by decide +kernel, rfl, by decide +kernel, by decide +kernel⟩
abbrev N_need_fraction : List Str := ["thing"]
theorem sc_need_fraction : FnScope N_need_fraction ["thing"] (defScope s_need_fraction) := ⟨rfl, rfl, rfl, by decide +kernel, rfl, by decide +kernel, by decide +kernel⟩
abbrev N_look : List Str := ["one", "other"]
theorem sc_look : FnScope N_look ["one", "other"] (defScope s_look) := ⟨rfl, rfl, rfl, by decide +kernel, rfl, by decide +kernel, by decide +kernel⟩
abbrev N_least : List Str := ["above", "below", "by"]
theorem sc_least : FnScope N_least ["above", "below"] (defScope s_least) := ⟨rfl, rfl, rfl, by decide +kernel, rfl, by decide +kernel, by decide +kernel⟩
abbrev N_fraction : List Str := ["above", "below"]
theorem sc_fraction : FnScope N_fraction ["above", "below"] (defScope s_fraction) := ⟨rfl, rfl, rfl, by decide +kernel, rfl, by decide +kernel, by decide +kernel⟩
abbrev N_add : List Str := ["one", "other"]
theorem sc_add : FnScope N_add ["one", "other"] (defScope s_add) := ⟨rfl, rfl, rfl, by decide +kernel, rfl, by decide +kernel, by decide +kernel⟩
abbrev N_take : List Str := ["one", "other"]
theorem sc_take : FnScope N_take ["one", "other"] (defScope s_take) := ⟨rfl, rfl, rfl, by decide +kernel, rfl, by decide +kernel, by decide +kernel⟩
abbrev N_multiply : List Str := ["one", "other"]
theorem sc_multiply : FnScope N_multiply ["one", "other"] (defScope s_multiply) := ⟨rfl, rfl, rfl, by decide +kernel, rfl, by decide +kernel, by decide +kernel⟩
abbrev N_part_of : List Str := ["one", "other"]
theorem sc_part_of : FnScope N_part_of ["one", "other"] (defScope s_part_of) := ⟨rfl, rfl, rfl, by decide +kernel, rfl, by decide +kernel, by decide +kernel⟩
abbrev N_is_less : List Str := ["one", "other"]
theorem sc_is_less : FnScope N_is_less ["one", "other"] (defScope s_is_less) := ⟨rfl, rfl, rfl, by decide +kernel, rfl, by decide +kernel, by decide +kernel⟩
abbrev N_plus : List Str := ["one", "other"]
theorem sc_plus : FnScope N_plus ["one", "other"] (defScope s_plus) := ⟨rfl, rfl, rfl, by decide +kernel, rfl, by decide +kernel, by decide +kernel⟩
abbrev N_less : List Str := ["one", "other"]
theorem sc_less : FnScope N_less ["one", "other"] (defScope s_less) := ⟨rfl, rfl, rfl, by decide +kernel, rfl, by decide +kernel, by decide +kernel⟩
abbrev N_times : List Str := ["one", "other"]
theorem sc_times : FnScope N_times ["one", "other"] (defScope s_times) := ⟨rfl, rfl, rfl, by decide +kernel, rfl, by decide +kernel, by decide +kernel⟩
abbrev N_by : List Str := ["one", "other"]
theorem sc_by : FnScope N_by ["one", "other"] (defScope s_by) := ⟨rfl, rfl, rfl, by decide +kernel, rfl, by decide +kernel, by decide +kernel⟩
abbrev N_before : List Str := ["one", "other"]
theorem sc_before : FnScope N_before ["one", "other"] (defScope s_before) := ⟨rfl, rfl, rfl, by decide +kernel, rfl, by decide +kernel, by decide +kernel⟩
abbrev N_whole : List Str := ["one"]
theorem sc_whole : FnScope N_whole ["one"] (defScope s_whole) := ⟨rfl, rfl, rfl, by decide +kernel, rfl, by decide +kernel, by decide +kernel⟩
abbrev N__law_cell : List Str := ["script", "k"]
theorem sc__law_cell : FnScope N__law_cell ["script", "k"] (defScope s__law_cell) := ⟨rfl, rfl, rfl, by decide +kernel, rfl, by decide +kernel, by decide +kernel⟩
abbrev N__law_drawn : List Str := ["cell", "k", "more"]
theorem sc__law_drawn : FnScope N__law_drawn ["cell", "k"] (defScope s__law_drawn) := ⟨rfl, rfl, rfl, by decide +kernel, rfl, by decide +kernel, by decide +kernel⟩
abbrev N__law_least : List Str := ["above", "below", "one", "other", "sign"]
theorem sc__law_least : FnScope N__law_least ["above", "below"] (defScope s__law_least) := ⟨rfl, rfl, rfl, by decide +kernel, rfl, by decide +kernel, by decide +kernel⟩
abbrev N__law_sum : List Str := ["one", "other", "sign"]
theorem sc__law_sum : FnScope N__law_sum ["one", "other", "sign"] (defScope s__law_sum) := ⟨rfl, rfl, rfl, by decide +kernel, rfl, by decide +kernel, by decide +kernel⟩
abbrev N__law_product : List Str := ["one", "other"]
theorem sc__law_product : FnScope N__law_product ["one", "other"] (defScope s__law_product) := ⟨rfl, rfl, rfl, by decide +kernel, rfl, by decide +kernel, by decide +kernel⟩
abbrev N__law_under : List Str := ["one", "other"]
theorem sc__law_under : FnScope N__law_under ["one", "other"] (defScope s__law_under) := ⟨rfl, rfl, rfl, by decide +kernel, rfl, by decide +kernel, by decide +kernel⟩
abbrev N__law_number : List Str := ["more"]
theorem sc__law_number : FnScope N__law_number ["more"] (defScope s__law_number) := ⟨rfl, rfl, rfl, by decide +kernel, rfl, by decide +kernel, by decide +kernel⟩
abbrev N_law : List Str := ["script", "k", "more", "some", "j", "here", "above", "below", "one", "a", "b", "c"]
theorem sc_law : FnScope N_law ["script"] (defScope s_law) := ⟨rfl, rfl, rfl, by decide +kernel, rfl, by decide +kernel, by decide +kernel⟩
/-! ### what the head tells -/
def d_need : He.DefD := ⟨("need", none), "need", "need", defArgs s_need, defBody s_need, defScope s_need, [], []⟩
def d_is_whole : He.DefD := ⟨("is_whole", none), "is_whole", "is_whole", defArgs s_is_whole, defBody s_is_whole, defScope s_is_whole, [], []⟩
def d_shared : He.DefD := ⟨("shared", none), "shared", "shared", defArgs s_shared, defBody s_shared, defScope s_shared, [], []⟩
def d_is_fraction : He.DefD := ⟨("is_fraction", none), "is_fraction", "is_fraction", defArgs s_is_fraction, defBody s_is_fraction, defScope s_is_fraction, [], []⟩
def d_need_fraction : He.DefD := ⟨("need_fraction", none), "need_fraction", "need_fraction", defArgs s_need_fraction, defBody s_need_fraction, defScope s_need_fraction, [], []⟩
def d_look : He.DefD := ⟨("look", none), "look", "look", defArgs s_look, defBody s_look, defScope s_look, [], []⟩
def d_least : He.DefD := ⟨("least", none), "least", "least", defArgs s_least, defBody s_least, defScope s_least, [], []⟩
def d_fraction : He.DefD := ⟨("fraction", none), "fraction", "fraction", defArgs s_fraction, defBody s_fraction, defScope s_fraction, [], []⟩
def d_add : He.DefD := ⟨("add", none), "add", "add", defArgs s_add, defBody s_add, defScope s_add, [], []⟩
def d_take : He.DefD := ⟨("take", none), "take", "take", defArgs s_take, defBody s_take, defScope s_take, [], []⟩
def d_multiply : He.DefD := ⟨("multiply", none), "multiply", "multiply", defArgs s_multiply, defBody s_multiply, defScope s_multiply, [], []⟩
def d_part_of : He.DefD := ⟨("part_of", none), "part_of", "part_of", defArgs s_part_of, defBody s_part_of, defScope s_part_of, [], []⟩
def d_is_less : He.DefD := ⟨("is_less", none), "is_less", "is_less", defArgs s_is_less, defBody s_is_less, defScope s_is_less, [], []⟩
def d_plus : He.DefD := ⟨("plus", none), "plus", "plus", defArgs s_plus, defBody s_plus, defScope s_plus, [], []⟩
def d_less : He.DefD := ⟨("less", none), "less", "less", defArgs s_less, defBody s_less, defScope s_less, [], []⟩
def d_times : He.DefD := ⟨("times", none), "times", "times", defArgs s_times, defBody s_times, defScope s_times, [], []⟩
def d_by : He.DefD := ⟨("by", none), "by", "by", defArgs s_by, defBody s_by, defScope s_by, [], []⟩
def d_before : He.DefD := ⟨("before", none), "before", "before", defArgs s_before, defBody s_before, defScope s_before, [], []⟩
def d_whole : He.DefD := ⟨("whole", none), "whole", "whole", defArgs s_whole, defBody s_whole, defScope s_whole, [], []⟩
def d__law_cell : He.DefD := ⟨("_law_cell", none), "_law_cell", "_law_cell", defArgs s__law_cell, defBody s__law_cell, defScope s__law_cell, [], []⟩
def d__law_drawn : He.DefD := ⟨("_law_drawn", none), "_law_drawn", "_law_drawn", defArgs s__law_drawn, defBody s__law_drawn, defScope s__law_drawn, [], []⟩
def d__law_least : He.DefD := ⟨("_law_least", none), "_law_least", "_law_least", defArgs s__law_least, defBody s__law_least, defScope s__law_least, [], []⟩
def d__law_sum : He.DefD := ⟨("_law_sum", none), "_law_sum", "_law_sum", defArgs s__law_sum, defBody s__law_sum, defScope s__law_sum, [], []⟩
def d__law_product : He.DefD := ⟨("_law_product", none), "_law_product", "_law_product", defArgs s__law_product, defBody s__law_product, defScope s__law_product, [], []⟩
def d__law_under : He.DefD := ⟨("_law_under", none), "_law_under", "_law_under", defArgs s__law_under, defBody s__law_under, defScope s__law_under, [], []⟩
def d__law_number : He.DefD := ⟨("_law_number", none), "_law_number", "_law_number", defArgs s__law_number, defBody s__law_number, defScope s__law_number, [], []⟩
def d_law : He.DefD := ⟨("law", none), "law", "law", defArgs s_law, defBody s_law, defScope s_law, [], []⟩
def fn : List He.DefD := [d_need, d_is_whole, d_shared, d_is_fraction, d_need_fraction, d_look, d_least, d_fraction, d_add, d_take, d_multiply, d_part_of, d_is_less, d_plus, d_less, d_times, d_by, d_before, d_whole, d__law_cell, d__law_drawn, d__law_least, d__law_sum, d__law_product, d__law_under, d__law_number, d_law]
def fa : List He.Fa := [.glo "need", .glo "is_whole", .glo "shared", .glo "is_fraction", .glo "need_fraction", .glo "look", .glo "least", .glo "fraction", .glo "add", .glo "take", .glo "multiply", .glo "part_of", .glo "is_less", .glo "plus", .glo "less", .glo "times", .glo "by", .glo "before", .glo "whole", .glo "_law_cell", .glo "_law_drawn", .glo "_law_least", .glo "_law_sum", .glo "_law_product", .glo "_law_under", .glo "_law_number", .glo "law", .glo "TurnError", .exc "TurnError", .glo "BadFraction", .exc "BadFraction", .exm "TurnError" "TurnError" true, .exm "BadFraction" "TurnError" true, .free "ValueError", .free "abs", .free "bool", .free "int", .free "isinstance", .free "len", .free "max", .free "min", .free "range", .free "tuple"]
def exB (K : PySem.W.Frag) : Bool := true
abbrev R : PySem.W.OpenRow := PySem.W.OpenLaw.row PySem.Challenge.rw_quickturns_k10_whole_fractions
def tf : List He.Defn := []
def ts : List He.Tab := []
abbrev hk : PySem.W.Hook := He.hookX 7 fa fn ts tf exB
def ob (s : PySem.W.SharedT) : He.AlX := He.obsX 7 fa fn ts tf exB (HandSHeadRun.getT s)
theorem ob_eq (s : PySem.W.SharedT) : ob s = hk.obs s.abs := He.obsX_eq (HandSHeadRun.getT_eq s)
def loose0 : List PySem.Str := ["TurnError", "BadFraction", "need", "is_whole", "shared", "is_fraction", "need_fraction", "look", "least", "fraction", "add", "take", "multiply", "part_of", "is_less", "plus", "less", "times", "by", "before", "whole", "_law_cell", "_law_drawn", "_law_least", "_law_sum", "_law_product", "_law_under", "_law_number"]
def loose : List PySem.Str := loose0
theorem run (w : World) : HandSHeadRun.RunEq R (PySem.W.view R.prog [31]) hk ob 4000 loose w := by
  intro os
  kernel_rfl
structure Sa (K : PySem.W.Frag) (mg : Str → Option Value) (base : Heap) : Prop where
  X : K.In base
  G : base.Ns mainGlobals mg
  c : He.SaysD fa fn K
  e : exB K = true
section
variable {K : PySem.W.Frag} {mg : Str → Option Value} {base : Heap} (S : Sa K mg base)
include S
theorem g_need : mg "need" = some (.ref (He.ga K "need")) := He.glo_ok S.X S.G (S.c.fact 0 (f := .glo "need") rfl)
theorem g_is_whole : mg "is_whole" = some (.ref (He.ga K "is_whole")) := He.glo_ok S.X S.G (S.c.fact 1 (f := .glo "is_whole") rfl)
theorem g_shared : mg "shared" = some (.ref (He.ga K "shared")) := He.glo_ok S.X S.G (S.c.fact 2 (f := .glo "shared") rfl)
theorem g_is_fraction : mg "is_fraction" = some (.ref (He.ga K "is_fraction")) := He.glo_ok S.X S.G (S.c.fact 3 (f := .glo "is_fraction") rfl)
theorem g_need_fraction : mg "need_fraction" = some (.ref (He.ga K "need_fraction")) := He.glo_ok S.X S.G (S.c.fact 4 (f := .glo "need_fraction") rfl)
theorem g_look : mg "look" = some (.ref (He.ga K "look")) := He.glo_ok S.X S.G (S.c.fact 5 (f := .glo "look") rfl)
theorem g_least : mg "least" = some (.ref (He.ga K "least")) := He.glo_ok S.X S.G (S.c.fact 6 (f := .glo "least") rfl)
theorem g_fraction : mg "fraction" = some (.ref (He.ga K "fraction")) := He.glo_ok S.X S.G (S.c.fact 7 (f := .glo "fraction") rfl)
theorem g_add : mg "add" = some (.ref (He.ga K "add")) := He.glo_ok S.X S.G (S.c.fact 8 (f := .glo "add") rfl)
theorem g_take : mg "take" = some (.ref (He.ga K "take")) := He.glo_ok S.X S.G (S.c.fact 9 (f := .glo "take") rfl)
theorem g_multiply : mg "multiply" = some (.ref (He.ga K "multiply")) := He.glo_ok S.X S.G (S.c.fact 10 (f := .glo "multiply") rfl)
theorem g_part_of : mg "part_of" = some (.ref (He.ga K "part_of")) := He.glo_ok S.X S.G (S.c.fact 11 (f := .glo "part_of") rfl)
theorem g_is_less : mg "is_less" = some (.ref (He.ga K "is_less")) := He.glo_ok S.X S.G (S.c.fact 12 (f := .glo "is_less") rfl)
theorem g_plus : mg "plus" = some (.ref (He.ga K "plus")) := He.glo_ok S.X S.G (S.c.fact 13 (f := .glo "plus") rfl)
theorem g_less : mg "less" = some (.ref (He.ga K "less")) := He.glo_ok S.X S.G (S.c.fact 14 (f := .glo "less") rfl)
theorem g_times : mg "times" = some (.ref (He.ga K "times")) := He.glo_ok S.X S.G (S.c.fact 15 (f := .glo "times") rfl)
theorem g_by : mg "by" = some (.ref (He.ga K "by")) := He.glo_ok S.X S.G (S.c.fact 16 (f := .glo "by") rfl)
theorem g_before : mg "before" = some (.ref (He.ga K "before")) := He.glo_ok S.X S.G (S.c.fact 17 (f := .glo "before") rfl)
theorem g_whole : mg "whole" = some (.ref (He.ga K "whole")) := He.glo_ok S.X S.G (S.c.fact 18 (f := .glo "whole") rfl)
theorem g__law_cell : mg "_law_cell" = some (.ref (He.ga K "_law_cell")) := He.glo_ok S.X S.G (S.c.fact 19 (f := .glo "_law_cell") rfl)
theorem g__law_drawn : mg "_law_drawn" = some (.ref (He.ga K "_law_drawn")) := He.glo_ok S.X S.G (S.c.fact 20 (f := .glo "_law_drawn") rfl)
theorem g__law_least : mg "_law_least" = some (.ref (He.ga K "_law_least")) := He.glo_ok S.X S.G (S.c.fact 21 (f := .glo "_law_least") rfl)
theorem g__law_sum : mg "_law_sum" = some (.ref (He.ga K "_law_sum")) := He.glo_ok S.X S.G (S.c.fact 22 (f := .glo "_law_sum") rfl)
theorem g__law_product : mg "_law_product" = some (.ref (He.ga K "_law_product")) := He.glo_ok S.X S.G (S.c.fact 23 (f := .glo "_law_product") rfl)
theorem g__law_under : mg "_law_under" = some (.ref (He.ga K "_law_under")) := He.glo_ok S.X S.G (S.c.fact 24 (f := .glo "_law_under") rfl)
theorem g__law_number : mg "_law_number" = some (.ref (He.ga K "_law_number")) := He.glo_ok S.X S.G (S.c.fact 25 (f := .glo "_law_number") rfl)
theorem g_law : mg "law" = some (.ref (He.ga K "law")) := He.glo_ok S.X S.G (S.c.fact 26 (f := .glo "law") rfl)
theorem g_TurnError : mg "TurnError" = some (.ref (He.ga K "TurnError")) := He.glo_ok S.X S.G (S.c.fact 27 (f := .glo "TurnError") rfl)
theorem x_TurnError : PySem.W.excIn K (He.ga K "TurnError") He.veBase "ValueError.__new__" = true ∧ PySem.W.keepIn K (.ref (He.ga K "TurnError")) = true ∧ PySem.W.subIn K (.ref (He.ga K "TurnError")) (.type "BaseException") = some true ∧ PySem.W.typeIn K (.ref (He.ga K "TurnError")) = some (.type "type") := He.exc_ok (S.c.fact 28 (f := .exc "TurnError") rfl)
theorem g_BadFraction : mg "BadFraction" = some (.ref (He.ga K "BadFraction")) := He.glo_ok S.X S.G (S.c.fact 29 (f := .glo "BadFraction") rfl)
theorem x_BadFraction : PySem.W.excIn K (He.ga K "BadFraction") He.veBase "ValueError.__new__" = true ∧ PySem.W.keepIn K (.ref (He.ga K "BadFraction")) = true ∧ PySem.W.subIn K (.ref (He.ga K "BadFraction")) (.type "BaseException") = some true ∧ PySem.W.typeIn K (.ref (He.ga K "BadFraction")) = some (.type "type") := He.exc_ok (S.c.fact 30 (f := .exc "BadFraction") rfl)
theorem xm_TurnError_TurnError : PySem.W.exmOne K (.ref (He.ga K "TurnError")) (.ref (He.ga K "TurnError")) = some true := He.exm_ok (S.c.fact 31 (f := .exm "TurnError" "TurnError" true) rfl)
theorem xm_BadFraction_TurnError : PySem.W.exmOne K (.ref (He.ga K "BadFraction")) (.ref (He.ga K "TurnError")) = some true := He.exm_ok (S.c.fact 32 (f := .exm "BadFraction" "TurnError" true) rfl)
theorem z_ValueError : mg "ValueError" = none := He.free_ok S.X S.G (S.c.fact 33 (f := .free "ValueError") rfl)
theorem z_abs : mg "abs" = none := He.free_ok S.X S.G (S.c.fact 34 (f := .free "abs") rfl)
theorem z_bool : mg "bool" = none := He.free_ok S.X S.G (S.c.fact 35 (f := .free "bool") rfl)
theorem z_int : mg "int" = none := He.free_ok S.X S.G (S.c.fact 36 (f := .free "int") rfl)
theorem z_isinstance : mg "isinstance" = none := He.free_ok S.X S.G (S.c.fact 37 (f := .free "isinstance") rfl)
theorem z_len : mg "len" = none := He.free_ok S.X S.G (S.c.fact 38 (f := .free "len") rfl)
theorem z_max : mg "max" = none := He.free_ok S.X S.G (S.c.fact 39 (f := .free "max") rfl)
theorem z_min : mg "min" = none := He.free_ok S.X S.G (S.c.fact 40 (f := .free "min") rfl)
theorem z_range : mg "range" = none := He.free_ok S.X S.G (S.c.fact 41 (f := .free "range") rfl)
theorem z_tuple : mg "tuple" = none := He.free_ok S.X S.G (S.c.fact 42 (f := .free "tuple") rfl)
theorem f_need : ∃ fd, FunD K "need" "need" (defArgs s_need) (defBody s_need) (defScope s_need) [] [] (He.ga K "need") fd := S.c.def_ 0 (d := d_need) rfl
theorem f_is_whole : ∃ fd, FunD K "is_whole" "is_whole" (defArgs s_is_whole) (defBody s_is_whole) (defScope s_is_whole) [] [] (He.ga K "is_whole") fd := S.c.def_ 1 (d := d_is_whole) rfl
theorem f_shared : ∃ fd, FunD K "shared" "shared" (defArgs s_shared) (defBody s_shared) (defScope s_shared) [] [] (He.ga K "shared") fd := S.c.def_ 2 (d := d_shared) rfl
theorem f_is_fraction : ∃ fd, FunD K "is_fraction" "is_fraction" (defArgs s_is_fraction) (defBody s_is_fraction) (defScope s_is_fraction) [] [] (He.ga K "is_fraction") fd := S.c.def_ 3 (d := d_is_fraction) rfl
theorem f_need_fraction : ∃ fd, FunD K "need_fraction" "need_fraction" (defArgs s_need_fraction) (defBody s_need_fraction) (defScope s_need_fraction) [] [] (He.ga K "need_fraction") fd := S.c.def_ 4 (d := d_need_fraction) rfl
theorem f_look : ∃ fd, FunD K "look" "look" (defArgs s_look) (defBody s_look) (defScope s_look) [] [] (He.ga K "look") fd := S.c.def_ 5 (d := d_look) rfl
theorem f_least : ∃ fd, FunD K "least" "least" (defArgs s_least) (defBody s_least) (defScope s_least) [] [] (He.ga K "least") fd := S.c.def_ 6 (d := d_least) rfl
theorem f_fraction : ∃ fd, FunD K "fraction" "fraction" (defArgs s_fraction) (defBody s_fraction) (defScope s_fraction) [] [] (He.ga K "fraction") fd := S.c.def_ 7 (d := d_fraction) rfl
theorem f_add : ∃ fd, FunD K "add" "add" (defArgs s_add) (defBody s_add) (defScope s_add) [] [] (He.ga K "add") fd := S.c.def_ 8 (d := d_add) rfl
theorem f_take : ∃ fd, FunD K "take" "take" (defArgs s_take) (defBody s_take) (defScope s_take) [] [] (He.ga K "take") fd := S.c.def_ 9 (d := d_take) rfl
theorem f_multiply : ∃ fd, FunD K "multiply" "multiply" (defArgs s_multiply) (defBody s_multiply) (defScope s_multiply) [] [] (He.ga K "multiply") fd := S.c.def_ 10 (d := d_multiply) rfl
theorem f_part_of : ∃ fd, FunD K "part_of" "part_of" (defArgs s_part_of) (defBody s_part_of) (defScope s_part_of) [] [] (He.ga K "part_of") fd := S.c.def_ 11 (d := d_part_of) rfl
theorem f_is_less : ∃ fd, FunD K "is_less" "is_less" (defArgs s_is_less) (defBody s_is_less) (defScope s_is_less) [] [] (He.ga K "is_less") fd := S.c.def_ 12 (d := d_is_less) rfl
theorem f_plus : ∃ fd, FunD K "plus" "plus" (defArgs s_plus) (defBody s_plus) (defScope s_plus) [] [] (He.ga K "plus") fd := S.c.def_ 13 (d := d_plus) rfl
theorem f_less : ∃ fd, FunD K "less" "less" (defArgs s_less) (defBody s_less) (defScope s_less) [] [] (He.ga K "less") fd := S.c.def_ 14 (d := d_less) rfl
theorem f_times : ∃ fd, FunD K "times" "times" (defArgs s_times) (defBody s_times) (defScope s_times) [] [] (He.ga K "times") fd := S.c.def_ 15 (d := d_times) rfl
theorem f_by : ∃ fd, FunD K "by" "by" (defArgs s_by) (defBody s_by) (defScope s_by) [] [] (He.ga K "by") fd := S.c.def_ 16 (d := d_by) rfl
theorem f_before : ∃ fd, FunD K "before" "before" (defArgs s_before) (defBody s_before) (defScope s_before) [] [] (He.ga K "before") fd := S.c.def_ 17 (d := d_before) rfl
theorem f_whole : ∃ fd, FunD K "whole" "whole" (defArgs s_whole) (defBody s_whole) (defScope s_whole) [] [] (He.ga K "whole") fd := S.c.def_ 18 (d := d_whole) rfl
theorem f__law_cell : ∃ fd, FunD K "_law_cell" "_law_cell" (defArgs s__law_cell) (defBody s__law_cell) (defScope s__law_cell) [] [] (He.ga K "_law_cell") fd := S.c.def_ 19 (d := d__law_cell) rfl
theorem f__law_drawn : ∃ fd, FunD K "_law_drawn" "_law_drawn" (defArgs s__law_drawn) (defBody s__law_drawn) (defScope s__law_drawn) [] [] (He.ga K "_law_drawn") fd := S.c.def_ 20 (d := d__law_drawn) rfl
theorem f__law_least : ∃ fd, FunD K "_law_least" "_law_least" (defArgs s__law_least) (defBody s__law_least) (defScope s__law_least) [] [] (He.ga K "_law_least") fd := S.c.def_ 21 (d := d__law_least) rfl
theorem f__law_sum : ∃ fd, FunD K "_law_sum" "_law_sum" (defArgs s__law_sum) (defBody s__law_sum) (defScope s__law_sum) [] [] (He.ga K "_law_sum") fd := S.c.def_ 22 (d := d__law_sum) rfl
theorem f__law_product : ∃ fd, FunD K "_law_product" "_law_product" (defArgs s__law_product) (defBody s__law_product) (defScope s__law_product) [] [] (He.ga K "_law_product") fd := S.c.def_ 23 (d := d__law_product) rfl
theorem f__law_under : ∃ fd, FunD K "_law_under" "_law_under" (defArgs s__law_under) (defBody s__law_under) (defScope s__law_under) [] [] (He.ga K "_law_under") fd := S.c.def_ 24 (d := d__law_under) rfl
theorem f__law_number : ∃ fd, FunD K "_law_number" "_law_number" (defArgs s__law_number) (defBody s__law_number) (defScope s__law_number) [] [] (He.ga K "_law_number") fd := S.c.def_ 25 (d := d__law_number) rfl
theorem f_law : ∃ fd, FunD K "law" "law" (defArgs s_law) (defBody s_law) (defScope s_law) [] [] (He.ga K "law") fd := S.c.def_ 26 (d := d_law) rfl
end
end Qt
namespace Qt
open PySem PySem.Spec PyProof.Rows L2
/-! ### the fractions' defs -/
def spNeed (K : PySem.W.Frag) : Sp := fun vs H Q E => ∃ b, vs = [.bl b] ∧ (b = true → Q .non H) ∧ (b = false → E (.ref (He.ga K "BadFraction")) none H)
def spIsWhole (K : PySem.W.Frag) : Sp := fun vs H Q _ => ∃ v n, vs = [v] ∧ TyX K H v (.type n) ∧ Kn n ∧ Q (.bl (decide (n = "int"))) H
def spShared : Sp := fun vs H Q _ => ∃ a b : Int, vs = [.int a, .int b] ∧ Q (.int (Int.gcd a b : Int)) H
def spIsFraction (K : PySem.W.Frag) : Sp := fun vs H Q _ => ∃ v r, vs = [v] ∧ FrB K H v r ∧ Q (.bl r) H
def spNeedFraction (K : PySem.W.Frag) : Sp := fun vs H Q E => ∃ v r, vs = [v] ∧ FrB K H v r ∧ (r = true → Q .non H) ∧ (r = false → E (.ref (He.ga K "BadFraction")) none H)
def spLook (K : PySem.W.Frag) : Sp := fun vs H Q E => ∃ u v r s, vs = [u, v] ∧ FrB K H u r ∧ FrB K H v s ∧ ((r && s) = true → Q .non H) ∧ ((r && s) = false → E (.ref (He.ga K "BadFraction")) none H)
def spLeast (K : PySem.W.Frag) : Sp := fun vs H Q _ => ∃ a b : Int, vs = [.int a, .int b] ∧ b ≠ 0 ∧ Bq 4000 (Rat.divInt a b) ∧ RetQ K H Q (Rat.divInt a b)
def spFraction (K : PySem.W.Frag) : Sp := fun vs H Q E => ∃ u v n m, vs = [u, v] ∧ TyX K H u (.type n) ∧ Kn n ∧ TyX K H v (.type m) ∧ Kn m ∧
  ((∃ a b : Int, n = "int" ∧ m = "int" ∧ u = .int a ∧ v = .int b ∧ b ≠ 0 ∧ Bq 4000 (Rat.divInt a b) ∧ RetQ K H Q (Rat.divInt a b)) ∨ ((n ≠ "int" ∨ m ≠ "int" ∨ (n = "int" ∧ m = "int" ∧ v = .int 0)) ∧ E (.ref (He.ga K "BadFraction")) none H))
/-- two fractions, a third handed back -/
def spF2 (K : PySem.W.Frag) (f : Rat → Rat → Rat) (ask : Rat → Prop) : Sp := fun vs H Q _ => ∃ u v a b, vs = [u, v] ∧ FrA K H u a ∧ FrA K H v b ∧ Bq 4000 a ∧ Bq 4000 b ∧ Bq 4000 (f a b) ∧ ask b ∧ RetQ K H Q (f a b)
def spIsLess (K : PySem.W.Frag) : Sp := fun vs H Q _ => ∃ u v a b, vs = [u, v] ∧ FrA K H u a ∧ FrA K H v b ∧ Bq 4000 a ∧ Bq 4000 b ∧ Q (.bl (decide (a < b))) H
/-- the same with a look ahead -/
def spL2 (K : PySem.W.Frag) (f : Rat → Rat → Rat) : Sp := fun vs H Q E => ∃ u v r s, vs = [u, v] ∧ FrB K H u r ∧ FrB K H v s ∧
  ((r && s) = true → ∃ a b, FrA K H u a ∧ FrA K H v b ∧ Bq 4000 a ∧ Bq 4000 b ∧ Bq 4000 (f a b) ∧ RetQ K H Q (f a b)) ∧ ((r && s) = false → E (.ref (He.ga K "BadFraction")) none H)
def spBy (K : PySem.W.Frag) : Sp := fun vs H Q E => ∃ u v r s, vs = [u, v] ∧ FrB K H u r ∧ FrB K H v s ∧
  ((r && s) = true → ∃ a b, FrA K H u a ∧ FrA K H v b ∧ Bq 4000 a ∧ Bq 4000 b ∧ (b ≠ 0 → Bq 4000 (a / b) ∧ RetQ K H Q (a / b)) ∧ (b = 0 → E (.ref (He.ga K "BadFraction")) none H)) ∧ ((r && s) = false → E (.ref (He.ga K "BadFraction")) none H)
def spBefore (K : PySem.W.Frag) : Sp := fun vs H Q E => ∃ u v r s, vs = [u, v] ∧ FrB K H u r ∧ FrB K H v s ∧
  ((r && s) = true → ∃ a b, FrA K H u a ∧ FrA K H v b ∧ Bq 4000 a ∧ Bq 4000 b ∧ Q (.bl (decide (a < b))) H) ∧ ((r && s) = false → E (.ref (He.ga K "BadFraction")) none H)
def spWhole (K : PySem.W.Frag) : Sp := fun vs H Q E => ∃ v r, vs = [v] ∧ FrB K H v r ∧ (r = true → ∃ a, FrA K H v a ∧ Bq 4000 a ∧ Q (.int a.floor) H) ∧ (r = false → E (.ref (He.ga K "BadFraction")) none H)
theorem bl_num {n : Nat} {a : Rat} (h : Bq n a) : a.num.natAbs < 2 ^ n := h.num
theorem bl_den {n : Nat} {a : Rat} (h : Bq n a) : ((a.den : Int)).natAbs < 2 ^ n := by rw [Int.natAbs_natCast]; exact h.den
section
variable {P : Program} {w : World} {K : PySem.W.Frag} {mg : Str → Option Value} {base : Heap} (S : Sa K mg base)
include S
theorem ok_need : Pm P w K mg base (L2.CX P w) 1 "need" ["good"] (spNeed K) := by
  obtain ⟨fd, F⟩ := f_need S
  refine ⟨fd, F.ok sc_need (fun vs H Q E h => ?_) (fun cdv A outer s H vs Q E hr h => ?_), F.bindsN fun _ _ _ _ _ _ us hl => match us, hl with | [_], _ => rfl, F.kp⟩
  · obtain ⟨b, rfl, k1, k2⟩ := h
    rfl
  · obtain ⟨b, rfl, k1, k2⟩ := h
    have px : Passes (L2.CX P w) (cxOf (L2.CX P w) P w K mg base N_need "need" (defScope s_need) (He.ga K "need") cdv A outer s H E) E := passes_call (takes_of rfl rfl rfl rfl) fun _ _ _ _ z => z
    refine ⟨_, (pss_one (ps_if (pt_not (pt_val (pv 0))) (pss_one (ps_raise rfl (takes_of rfl rfl rfl rfl) (pmk_own PySem.F.excBase_ValueError (x_BadFraction S).1 (g_BadFraction S) (x_BadFraction S).2.1 (raises_own (x_BadFraction S).2.2.1 (x_BadFraction S).2.2.2) rfl))) pss_nil)), ?_⟩
    refine ⟨_, rfl, _, rfl, ?_⟩
    cases b with
    | true => exact iteF (k1 rfl)
    | false => exact iteT (k2 rfl)
theorem ok_is_whole : Pm P w K mg base CX0 1 "is_whole" ["thing"] (spIsWhole K) := by
  obtain ⟨fd, F⟩ := f_is_whole S
  refine ⟨fd, F.ok sc_is_whole (fun vs H Q E h => ?_) (fun cdv A outer s H vs Q E hr h => ?_), F.bindsN fun _ _ _ _ _ _ us hl => match us, hl with | [_], _ => rfl, F.kp⟩
  · obtain ⟨v, n, rfl, ty, kn, k⟩ := h
    rfl
  · obtain ⟨v, n, rfl, ty, kn, k⟩ := h
    refine ⟨_, PSs.nox <| (pss_one (ps_ret (pe_and (pe_callB call_isi (by rfl) (z_isinstance S) (by decide +kernel) (pa_cons (pv 0) (pa_cons (pe_bltn (v := .ty "int") (by rfl) (z_int S) (by decide +kernel) rfl) pa_nil))) (pe_one (pe_not (pe_callB call_isi (by rfl) (z_isinstance S) (by decide +kernel) (pa_cons (pv 0) (pa_cons (pe_bltn (v := .ty "bool") (by rfl) (z_bool S) (by decide +kernel) rfl) pa_nil)))))))), ?_⟩
    refine ⟨v, rfl, v, .ty "int", _, _, _, rfl, .ty "int", ty, kn_int kn, _, rfl, ?_⟩
    cases kn with
    | int => exact iteT ⟨v, rfl, v, .ty "bool", _, _, _, rfl, .ty "bool", ty, kn_bool .int, _, rfl, k⟩
    | bool => exact iteT ⟨v, rfl, v, .ty "bool", _, _, _, rfl, .ty "bool", ty, kn_bool .bool, _, rfl, k⟩
    | none => exact iteF k
    | str => exact iteF k
    | tuple => exact iteF k
    | list => exact iteF k
theorem ok_shared : Pm P w K mg base CX0 1 "shared" ["one", "other"] spShared := by
  obtain ⟨fd, F⟩ := f_shared S
  refine ⟨fd, F.ok sc_shared (fun vs H Q E h => ?_) (fun cdv A outer s H vs Q E hr h => ?_), F.bindsN fun _ _ _ _ _ _ us hl => match us, hl with | [_, _], _ => rfl, F.kp⟩
  · obtain ⟨a, b, rfl, k⟩ := h
    rfl
  · obtain ⟨a, b, rfl, k⟩ := h
    refine ⟨_, PSs.nox <| (pss_cons (ps_while PassesOwn.never (pt_cmp (pc_neI (pv 1) pe_int)) (pss_one (ps_par (i := 0) (j := 1) (by rfl) sc_shared.nd rfl rfl (by decide) rfl rfl (pa_cons (pv 1) (pa_cons (pe_op op_modN (pv 0) (pv 1)) pa_nil)) (by rfl))))
      (pss_one (ps_ret (pe_callB call_abs (by rfl) (z_abs S) (by decide +kernel) (pa_cons (pv 0) pa_nil))))), ?_⟩
    refine ⟨fun m σ H' => ∃ x y : Int, σ = [some (.int x), some (.int y)] ∧ Int.gcd x y = Int.gcd a b ∧ m = y.natAbs ∧ H' = H, ⟨_, a, b, rfl, rfl, rfl, rfl⟩, ?_⟩
    rintro m σ H' ⟨x, y, rfl, hg, rfl, rfl⟩
    refine ⟨_, rfl, _, _, rfl, rfl, _, rfl, ?_⟩
    refine ifb (fun hb => ?_) (fun hb => ?_)
    · have hy : y ≠ 0 := by simpa using hb
      refine ⟨fun σ' H'' => ∃ x' y' : Int, σ' = [some (.int x'), some (.int y')] ∧ Int.gcd x' y' = Int.gcd a b ∧ y'.natAbs < y.natAbs ∧ H'' = H', fun σ' H'' h => ?_, ?_⟩
      · obtain ⟨x', y', e1, e2, e3, e4⟩ := h
        exact ⟨_, e3, x', y', e1, e2, rfl, e4⟩
      · refine ⟨_, rfl, _, rfl, _, rfl, _, _, rfl, rfl, hy, _, _, rfl, ?_⟩
        exact ⟨_, _, rfl, by rw [gcd_fmod, hg], fmod_lt x hy, rfl⟩
    · have hy : y = 0 := by simpa using hb
      subst hy
      refine ⟨_, rfl, _, rfl, ?_⟩
      have e : (if x < 0 then -x else x) = (Int.gcd a b : Int) := by
        rw [← hg, Int.gcd_zero_right]
        split <;> omega
      show Q (.int (if x < 0 then -x else x)) H'
      rw [e]
      exact k
theorem ok_is_fraction : Pm P w K mg base CX0 2 "is_fraction" ["thing"] (spIsFraction K) := by
  obtain ⟨fd, F⟩ := f_is_fraction S
  obtain ⟨fd_is_whole, G_is_whole, b_is_whole, kp_is_whole⟩ := ok_is_whole (P := P) (w := w) S
  obtain ⟨fd_shared, G_shared, b_shared, kp_shared⟩ := ok_shared (P := P) (w := w) S
  refine ⟨fd, F.ok sc_is_fraction (fun vs H Q E h => ?_) (fun cdv A outer s H vs Q E hr h => ?_), F.bindsN fun _ _ _ _ _ _ us hl => match us, hl with | [_], _ => rfl, F.kp⟩
  · obtain ⟨v, r, rfl, fb, k⟩ := h
    rfl
  · obtain ⟨v, r, rfl, fb, k⟩ := h
    have hr_is_whole : Room 1 _ := hr.mono (by decide)
    have hr_shared : Room 1 _ := hr.mono (by decide)
    refine ⟨_, PSs.nox <| (pss_cons (ps_if (PW.pt (pw_or (pt_not (pt_val (pe_callB call_isi (by rfl) (z_isinstance S) (by decide +kernel) (pa_cons (pv 0) (pa_cons (pe_bltn (v := .ty "tuple") (by rfl) (z_tuple S) (by decide +kernel) rfl) pa_nil))))) (pw_or (pt_cmp (pc_neI (pe_callB call_len_seq (by rfl) (z_len S) (by decide +kernel) (pa_cons (pv 0) pa_nil)) pe_int)) (pw_or (pt_not (pt_val (pe_call G_is_whole hr_is_whole rfl (g_is_whole S) kp_is_whole b_is_whole .nil pass0 (pa_cons (pe_ix ix_tup (pv 0) pe_int (fun _ _ => rfl)) pa_nil)))) (pw_or1 (pt_not (pt_val (pe_call G_is_whole hr_is_whole rfl (g_is_whole S) kp_is_whole b_is_whole .nil pass0 (pa_cons (pe_ix ix_tup (pv 0) pe_int (fun _ _ => rfl)) pa_nil))))))))) (pss_one (ps_ret pe_bl)) pss_nil)
      (pss_one (ps_ret (pe_and (pe_cmp (pc_gt (pe_ix ix_tup (pv 0) pe_int (fun _ _ => rfl)) pe_int)) (pe_one (pe_cmp (pc_eqI (pe_call G_shared hr_shared rfl (g_shared S) kp_shared b_shared .nil pass0 (pa_cons (pe_ix ix_tup (pv 0) pe_int (fun _ _ => rfl)) (pa_cons (pe_ix ix_tup (pv 0) pe_int (fun _ _ => rfl)) pa_nil))) pe_int))))))), ?_⟩
    cases fb with
    | no ty kn ne =>
      refine ⟨v, rfl, v, .ty "tuple", _, _, _, rfl, .ty "tuple", ty, kn_tuple kn, _, rfl, ?_⟩
      rw [decide_eq_false ne]
      exact iteT (iteT k)
    | len h l =>
      refine ⟨_, rfl, _, .ty "tuple", _, _, _, rfl, .ty "tuple", tyx_tup h, kn_tuple .tuple, _, rfl, ?_⟩
      refine iteF ⟨_, rfl, _, _, rfl, .inr h, _, _, rfl, rfl, _, rfl, ?_⟩
      refine ifb (fun hb => iteT k) (fun hb => ?_)
      exact absurd (show _ = _ by simpa using hb) (by omega)
    | parts h tx kx ty ky ne =>
      refine ⟨_, rfl, _, .ty "tuple", _, _, _, rfl, .ty "tuple", tyx_tup h, kn_tuple .tuple, _, rfl, ?_⟩
      refine iteF ⟨_, rfl, _, _, rfl, .inr h, _, _, rfl, rfl, _, rfl, ?_⟩
      refine iteF ⟨_, rfl, _, _, _, _, rfl, rfl, h, at0, _, _, rfl, tx, kx, _, rfl, ?_⟩
      refine ifb (fun hb => iteT k) (fun hb => ?_)
      refine ⟨_, rfl, _, _, _, _, rfl, rfl, h, at1, _, _, rfl, ty, ky, _, rfl, ?_⟩
      refine ifb (fun _ => k) (fun hb2 => ?_)
      exact absurd ⟨by simpa using hb, by simpa using hb2⟩ ne
    | nums h =>
      refine ⟨_, rfl, _, .ty "tuple", _, _, _, rfl, .ty "tuple", tyx_tup h, kn_tuple .tuple, _, rfl, ?_⟩
      refine iteF ⟨_, rfl, _, _, rfl, .inr h, _, _, rfl, rfl, _, rfl, ?_⟩
      refine iteF ⟨_, rfl, _, _, _, _, rfl, rfl, h, at0, _, _, rfl, .base (.int _), .int, _, rfl, ?_⟩
      refine iteF ⟨_, rfl, _, _, _, _, rfl, rfl, h, at1, _, _, rfl, .base (.int _), .int, _, rfl, ?_⟩
      refine iteF ⟨_, rfl, _, _, _, _, rfl, rfl, h, at1, _, _, rfl, rfl, _, rfl, ?_⟩
      refine ifb (fun hb => ?_) (fun hb => ?_)
      · refine ⟨_, rfl, _, _, _, _, rfl, rfl, h, at0, _, rfl, _, _, _, _, rfl, rfl, h, at1, _, _, rfl, _, _, rfl, rfl, ?_⟩
        dsimp only at hb
        rw [hb, Bool.true_and] at k
        have e : ∀ n d : Int, decide (((Int.gcd n d : Nat) : Int) = 1) = decide (Int.gcd n d = 1) := fun n d => decide_eq_decide.mpr (by omega)
        rw [← e] at k
        exact k
      · dsimp only at hb
        rw [hb] at k
        exact k
theorem ok_need_fraction : Pm P w K mg base (L2.CX P w) 3 "need_fraction" ["thing"] (spNeedFraction K) := by
  obtain ⟨fd, F⟩ := f_need_fraction S
  obtain ⟨fd_need, G_need, b_need, kp_need⟩ := ok_need (P := P) (w := w) S
  obtain ⟨fd_is_fraction, G_is_fraction, b_is_fraction, kp_is_fraction⟩ := ok_is_fraction (P := P) (w := w) S
  refine ⟨fd, F.ok sc_need_fraction (fun vs H Q E h => ?_) (fun cdv A outer s H vs Q E hr h => ?_), F.bindsN fun _ _ _ _ _ _ us hl => match us, hl with | [_], _ => rfl, F.kp⟩
  · obtain ⟨v, r, rfl, fb, k1, k2⟩ := h
    rfl
  · obtain ⟨v, r, rfl, fb, k1, k2⟩ := h
    have px : Passes (L2.CX P w) (cxOf (L2.CX P w) P w K mg base N_need_fraction "need_fraction" (defScope s_need_fraction) (He.ga K "need_fraction") cdv A outer s H E) E := passes_call (takes_of rfl rfl rfl rfl) fun _ _ _ _ z => z
    have hr_need : Room 1 _ := hr.mono (by decide)
    have hr_is_fraction : Room 2 _ := hr.mono (by decide)
    refine ⟨_, (pss_one (ps_expr (pe_call G_need hr_need rfl (g_need S) kp_need b_need .nil px (pa_cons (pe_call G_is_fraction hr_is_fraction rfl (g_is_fraction S) kp_is_fraction b_is_fraction .nil pass0 (pa_cons (pv 0) pa_nil)) pa_nil)))), ?_⟩
    exact ⟨_, rfl, _, _, rfl, fb, _, rfl, k1, k2⟩
theorem ok_look : Pm P w K mg base (L2.CX P w) 4 "look" ["one", "other"] (spLook K) := by
  obtain ⟨fd, F⟩ := f_look S
  obtain ⟨fd_need_fraction, G_need_fraction, b_need_fraction, kp_need_fraction⟩ := ok_need_fraction (P := P) (w := w) S
  refine ⟨fd, F.ok sc_look (fun vs H Q E h => ?_) (fun cdv A outer s H vs Q E hr h => ?_), F.bindsN fun _ _ _ _ _ _ us hl => match us, hl with | [_, _], _ => rfl, F.kp⟩
  · obtain ⟨u, v, r, q, rfl, f1, f2, k1, k2⟩ := h
    rfl
  · obtain ⟨u, v, r, q, rfl, f1, f2, k1, k2⟩ := h
    have px : Passes (L2.CX P w) (cxOf (L2.CX P w) P w K mg base N_look "look" (defScope s_look) (He.ga K "look") cdv A outer s H E) E := passes_call (takes_of rfl rfl rfl rfl) fun _ _ _ _ z => z
    have hr_need_fraction : Room 3 _ := hr.mono (by decide)
    refine ⟨_, (pss_cons (ps_expr (pe_call G_need_fraction hr_need_fraction rfl (g_need_fraction S) kp_need_fraction b_need_fraction .nil px (pa_cons (pv 0) pa_nil)))
      (pss_one (ps_expr (pe_call G_need_fraction hr_need_fraction rfl (g_need_fraction S) kp_need_fraction b_need_fraction .nil px (pa_cons (pv 1) pa_nil))))), ?_⟩
    refine ⟨_, rfl, _, _, rfl, f1, fun h1 => ?_, fun h1 => k2 (by rw [h1]; rfl)⟩
    exact ⟨_, rfl, _, _, rfl, f2, fun h2 => k1 (by rw [h1, h2]; rfl), fun h2 => k2 (by rw [h1, h2]; rfl)⟩
theorem ok_least : Pm P w K mg base CX0 2 "least" ["above", "below"] (spLeast K) := by
  obtain ⟨fd, F⟩ := f_least S
  obtain ⟨fd_shared, G_shared, b_shared, kp_shared⟩ := ok_shared (P := P) (w := w) S
  refine ⟨fd, F.ok sc_least (fun vs H Q E h => ?_) (fun cdv A outer s H vs Q E hr h => ?_), F.bindsN fun _ _ _ _ _ _ us hl => match us, hl with | [_, _], _ => rfl, F.kp⟩
  · obtain ⟨a, b, rfl, hb, hq, k⟩ := h
    rfl
  · obtain ⟨a, b, rfl, hb, hq, k⟩ := h
    have hr_shared : Room 1 _ := hr.mono (by decide)
    refine ⟨_, PSs.nox <| (pss_cons (ps_set (i := 2) sc_least.nd rfl (Or.inl rfl) (pe_call G_shared hr_shared rfl (g_shared S) kp_shared b_shared .nil pass0 (pa_cons (pv 0) (pa_cons (pv 1) pa_nil))))
      (pss_cons (ps_if (pt_cmp (pc_lt (pv 1) pe_int)) (pss_one (ps_set (i := 2) sc_least.nd rfl (Or.inl rfl) (pe_op op_sub pe_int (pv 2)))) pss_nil)
      (pss_one (ps_ret (pe_tup (pa_cons (pe_op op_fdivZ (pv 0) (pv 2)) (pa_cons (pe_op op_fdivZ (pv 1) (pv 2)) pa_nil))))))), ?_⟩
    refine ⟨_, rfl, _, rfl, _, _, rfl, ?_⟩
    refine ⟨_, rfl, _, _, rfl, rfl, _, rfl, ?_⟩
    have d1 : CDivZ a (lby a b) := divZ (lby_ne a hb) (lby_num a hb) hq.num
    have d2 : CDivZ b (lby a b) := divZ (lby_ne a hb) (lby_den a hb) (bl_den hq)
    have fin : ∀ p, H p = none → Q (.ref p) (upd H p (.tup [.int (a.fdiv (lby a b)), .int (b.fdiv (lby a b))])) := fun p hp => by
      rw [least_num a hb, least_den a hb]
      exact k.new hp
    refine ifb (fun h0 => ?_) (fun h0 => ?_)
    · have h0' : b < 0 := by simpa using h0
      have e : lby a b = 0 - (Int.gcd a b : Int) := if_pos h0'
      rw [e] at d1 d2 fin
      refine ⟨_, rfl, _, _, rfl, rfl, ?_⟩
      exact ⟨_, rfl, _, rfl, _, _, rfl, rfl, d1, _, rfl, _, rfl, _, _, rfl, rfl, d2, (by show 2 ≤ sizeLine; decide), fin⟩
    · have h0' : ¬ b < 0 := by simpa using h0
      have e : lby a b = (Int.gcd a b : Int) := if_neg h0'
      rw [e] at d1 d2 fin
      exact ⟨_, rfl, _, rfl, _, _, rfl, rfl, d1, _, rfl, _, rfl, _, _, rfl, rfl, d2, (by show 2 ≤ sizeLine; decide), fin⟩
theorem ok_fraction : Pm P w K mg base (L2.CX P w) 3 "fraction" ["above", "below"] (spFraction K) := by
  obtain ⟨fd, F⟩ := f_fraction S
  obtain ⟨fd_need, G_need, b_need, kp_need⟩ := ok_need (P := P) (w := w) S
  obtain ⟨fd_is_whole, G_is_whole, b_is_whole, kp_is_whole⟩ := ok_is_whole (P := P) (w := w) S
  obtain ⟨fd_least, G_least, b_least, kp_least⟩ := ok_least (P := P) (w := w) S
  refine ⟨fd, F.ok sc_fraction (fun vs H Q E h => ?_) (fun cdv A outer s H vs Q E hr h => ?_), F.bindsN fun _ _ _ _ _ _ us hl => match us, hl with | [_, _], _ => rfl, F.kp⟩
  · obtain ⟨u, v, n, m, rfl, tu, ku, tv, kv, k⟩ := h
    rfl
  · obtain ⟨u, v, n, m, rfl, tu, ku, tv, kv, k⟩ := h
    have px : Passes (L2.CX P w) (cxOf (L2.CX P w) P w K mg base N_fraction "fraction" (defScope s_fraction) (He.ga K "fraction") cdv A outer s H E) E := passes_call (takes_of rfl rfl rfl rfl) fun _ _ _ _ z => z
    have hr_need : Room 1 _ := hr.mono (by decide)
    have hr_is_whole : Room 1 _ := hr.mono (by decide)
    have hr_least : Room 2 _ := hr.mono (by decide)
    refine ⟨_, (pss_cons (ps_expr (pe_call G_need hr_need rfl (g_need S) kp_need b_need .nil px (pa_cons (pe_and (pe_call G_is_whole hr_is_whole rfl (g_is_whole S) kp_is_whole b_is_whole .nil pass0 (pa_cons (pv 0) pa_nil)) (pe_and (pe_call G_is_whole hr_is_whole rfl (g_is_whole S) kp_is_whole b_is_whole .nil pass0 (pa_cons (pv 1) pa_nil)) (pe_one (pe_cmp (pc_neI (pv 1) pe_int))))) pa_nil)))
      (pss_one (ps_ret (pe_call G_least hr_least rfl (g_least S) kp_least b_least .nil pass0 (pa_cons (pv 0) (pa_cons (pv 1) pa_nil)))))), ?_⟩
    refine ⟨_, rfl, _, _, rfl, tu, ku, _, rfl, ?_⟩
    refine ifb (fun hb => ?_) (fun hb => ?_)
    · refine ⟨_, rfl, _, _, rfl, tv, kv, _, rfl, ?_⟩
      refine ifb (fun hb2 => ?_) (fun hb2 => ?_)
      · have e1 : n = "int" := by simpa using hb
        have e2 : m = "int" := by simpa using hb2
        rcases k with ⟨a, b, _, _, rfl, rfl, h0, hq, k⟩ | ⟨h3, k⟩
        · refine ⟨_, rfl, _, _, rfl, rfl, _, rfl, fun _ => ?_, fun h1 => absurd (show b = 0 by simpa using h1) h0⟩
          exact ⟨_, rfl, _, rfl, _, _, rfl, h0, hq, k⟩
        · rcases h3 with h3 | h3 | ⟨_, _, rfl⟩
          · exact absurd e1 h3
          · exact absurd e2 h3
          · exact ⟨_, rfl, _, _, rfl, rfl, _, rfl, (fun z => by cases z), fun _ => k⟩
      · have e2 : m ≠ "int" := by simpa using hb2
        rcases k with ⟨a, b, _, e, _⟩ | ⟨_, k⟩
        · exact absurd e e2
        · exact ⟨_, rfl, (fun z => by cases z), fun _ => k⟩
    · have e2 : n ≠ "int" := by simpa using hb
      rcases k with ⟨a, b, e, _⟩ | ⟨_, k⟩
      · exact absurd e e2
      · exact ⟨_, rfl, (fun z => by cases z), fun _ => k⟩
theorem ok_add : Pm P w K mg base CX0 3 "add" ["one", "other"] (spF2 K (· + ·) (fun _ => True)) := by
  obtain ⟨fd, F⟩ := f_add S
  obtain ⟨fd_least, G_least, b_least, kp_least⟩ := ok_least (P := P) (w := w) S
  refine ⟨fd, F.ok sc_add (fun vs H Q E h => ?_) (fun cdv A outer s H vs Q E hr h => ?_), F.bindsN fun _ _ _ _ _ _ us hl => match us, hl with | [_, _], _ => rfl, F.kp⟩
  · obtain ⟨u, v, a, b, rfl, ⟨p, rfl, h1⟩, ⟨q, rfl, h2⟩, ba, bb, bc, _, k⟩ := h
    rfl
  · obtain ⟨u, v, a, b, rfl, ⟨p, rfl, h1⟩, ⟨q, rfl, h2⟩, ba, bb, bc, _, k⟩ := h
    have hr_least : Room 2 _ := hr.mono (by decide)
    refine ⟨_, PSs.nox <| (pss_one (ps_ret (pe_call G_least hr_least rfl (g_least S) kp_least b_least .nil pass0 (pa_cons (pe_op op_add (pe_op op_mulZ (pe_ix ix_tup (pv 0) pe_int (fun _ _ => rfl)) (pe_ix ix_tup (pv 1) pe_int (fun _ _ => rfl))) (pe_op op_mulZ (pe_ix ix_tup (pv 1) pe_int (fun _ _ => rfl)) (pe_ix ix_tup (pv 0) pe_int (fun _ _ => rfl)))) (pa_cons (pe_op op_mulZ (pe_ix ix_tup (pv 0) pe_int (fun _ _ => rfl)) (pe_ix ix_tup (pv 1) pe_int (fun _ _ => rfl))) pa_nil))))), ?_⟩
    refine ⟨_, rfl, _, _, _, _, rfl, rfl, h1, at0, _, rfl, _, _, _, _, rfl, rfl, h2, at1, _, _, rfl, rfl, mulZ ba.num (bl_den bb) (by decide), ?_⟩
    refine ⟨_, rfl, _, _, _, _, rfl, rfl, h2, at0, _, rfl, _, _, _, _, rfl, rfl, h1, at1, _, _, rfl, rfl, mulZ bb.num (bl_den ba) (by decide), _, _, rfl, rfl, ?_⟩
    refine ⟨_, rfl, _, _, _, _, rfl, rfl, h1, at1, _, rfl, _, _, _, _, rfl, rfl, h2, at1, _, _, rfl, rfl, mulZ (bl_den ba) (bl_den bb) (by decide), ?_⟩
    exact ⟨_, _, rfl, dd_ne a b, by rw [← add_eq]; exact bc, by rw [← add_eq]; exact k⟩
theorem ok_take : Pm P w K mg base CX0 3 "take" ["one", "other"] (spF2 K (· - ·) (fun _ => True)) := by
  obtain ⟨fd, F⟩ := f_take S
  obtain ⟨fd_least, G_least, b_least, kp_least⟩ := ok_least (P := P) (w := w) S
  refine ⟨fd, F.ok sc_take (fun vs H Q E h => ?_) (fun cdv A outer s H vs Q E hr h => ?_), F.bindsN fun _ _ _ _ _ _ us hl => match us, hl with | [_, _], _ => rfl, F.kp⟩
  · obtain ⟨u, v, a, b, rfl, ⟨p, rfl, h1⟩, ⟨q, rfl, h2⟩, ba, bb, bc, _, k⟩ := h
    rfl
  · obtain ⟨u, v, a, b, rfl, ⟨p, rfl, h1⟩, ⟨q, rfl, h2⟩, ba, bb, bc, _, k⟩ := h
    have hr_least : Room 2 _ := hr.mono (by decide)
    refine ⟨_, PSs.nox <| (pss_one (ps_ret (pe_call G_least hr_least rfl (g_least S) kp_least b_least .nil pass0 (pa_cons (pe_op op_sub (pe_op op_mulZ (pe_ix ix_tup (pv 0) pe_int (fun _ _ => rfl)) (pe_ix ix_tup (pv 1) pe_int (fun _ _ => rfl))) (pe_op op_mulZ (pe_ix ix_tup (pv 1) pe_int (fun _ _ => rfl)) (pe_ix ix_tup (pv 0) pe_int (fun _ _ => rfl)))) (pa_cons (pe_op op_mulZ (pe_ix ix_tup (pv 0) pe_int (fun _ _ => rfl)) (pe_ix ix_tup (pv 1) pe_int (fun _ _ => rfl))) pa_nil))))), ?_⟩
    refine ⟨_, rfl, _, _, _, _, rfl, rfl, h1, at0, _, rfl, _, _, _, _, rfl, rfl, h2, at1, _, _, rfl, rfl, mulZ ba.num (bl_den bb) (by decide), ?_⟩
    refine ⟨_, rfl, _, _, _, _, rfl, rfl, h2, at0, _, rfl, _, _, _, _, rfl, rfl, h1, at1, _, _, rfl, rfl, mulZ bb.num (bl_den ba) (by decide), _, _, rfl, rfl, ?_⟩
    refine ⟨_, rfl, _, _, _, _, rfl, rfl, h1, at1, _, rfl, _, _, _, _, rfl, rfl, h2, at1, _, _, rfl, rfl, mulZ (bl_den ba) (bl_den bb) (by decide), ?_⟩
    exact ⟨_, _, rfl, dd_ne a b, by rw [← sub_eq]; exact bc, by rw [← sub_eq]; exact k⟩
theorem ok_multiply : Pm P w K mg base CX0 3 "multiply" ["one", "other"] (spF2 K (· * ·) (fun _ => True)) := by
  obtain ⟨fd, F⟩ := f_multiply S
  obtain ⟨fd_least, G_least, b_least, kp_least⟩ := ok_least (P := P) (w := w) S
  refine ⟨fd, F.ok sc_multiply (fun vs H Q E h => ?_) (fun cdv A outer s H vs Q E hr h => ?_), F.bindsN fun _ _ _ _ _ _ us hl => match us, hl with | [_, _], _ => rfl, F.kp⟩
  · obtain ⟨u, v, a, b, rfl, ⟨p, rfl, h1⟩, ⟨q, rfl, h2⟩, ba, bb, bc, _, k⟩ := h
    rfl
  · obtain ⟨u, v, a, b, rfl, ⟨p, rfl, h1⟩, ⟨q, rfl, h2⟩, ba, bb, bc, _, k⟩ := h
    have hr_least : Room 2 _ := hr.mono (by decide)
    refine ⟨_, PSs.nox <| (pss_one (ps_ret (pe_call G_least hr_least rfl (g_least S) kp_least b_least .nil pass0 (pa_cons (pe_op op_mulZ (pe_ix ix_tup (pv 0) pe_int (fun _ _ => rfl)) (pe_ix ix_tup (pv 1) pe_int (fun _ _ => rfl))) (pa_cons (pe_op op_mulZ (pe_ix ix_tup (pv 0) pe_int (fun _ _ => rfl)) (pe_ix ix_tup (pv 1) pe_int (fun _ _ => rfl))) pa_nil))))), ?_⟩
    refine ⟨_, rfl, _, _, _, _, rfl, rfl, h1, at0, _, rfl, _, _, _, _, rfl, rfl, h2, at0, _, _, rfl, rfl, mulZ ba.num bb.num (by decide), ?_⟩
    refine ⟨_, rfl, _, _, _, _, rfl, rfl, h1, at1, _, rfl, _, _, _, _, rfl, rfl, h2, at1, _, _, rfl, rfl, mulZ (bl_den ba) (bl_den bb) (by decide), ?_⟩
    exact ⟨_, _, rfl, dd_ne a b, by rw [← mul_eq]; exact bc, by rw [← mul_eq]; exact k⟩
theorem ok_part_of : Pm P w K mg base CX0 3 "part_of" ["one", "other"] (spF2 K (· / ·) (fun b => b ≠ 0)) := by
  obtain ⟨fd, F⟩ := f_part_of S
  obtain ⟨fd_least, G_least, b_least, kp_least⟩ := ok_least (P := P) (w := w) S
  refine ⟨fd, F.ok sc_part_of (fun vs H Q E h => ?_) (fun cdv A outer s H vs Q E hr h => ?_), F.bindsN fun _ _ _ _ _ _ us hl => match us, hl with | [_, _], _ => rfl, F.kp⟩
  · obtain ⟨u, v, a, b, rfl, ⟨p, rfl, h1⟩, ⟨q, rfl, h2⟩, ba, bb, bc, h0, k⟩ := h
    rfl
  · obtain ⟨u, v, a, b, rfl, ⟨p, rfl, h1⟩, ⟨q, rfl, h2⟩, ba, bb, bc, h0, k⟩ := h
    have hr_least : Room 2 _ := hr.mono (by decide)
    refine ⟨_, PSs.nox <| (pss_one (ps_ret (pe_call G_least hr_least rfl (g_least S) kp_least b_least .nil pass0 (pa_cons (pe_op op_mulZ (pe_ix ix_tup (pv 0) pe_int (fun _ _ => rfl)) (pe_ix ix_tup (pv 1) pe_int (fun _ _ => rfl))) (pa_cons (pe_op op_mulZ (pe_ix ix_tup (pv 0) pe_int (fun _ _ => rfl)) (pe_ix ix_tup (pv 1) pe_int (fun _ _ => rfl))) pa_nil))))), ?_⟩
    refine ⟨_, rfl, _, _, _, _, rfl, rfl, h1, at0, _, rfl, _, _, _, _, rfl, rfl, h2, at1, _, _, rfl, rfl, mulZ ba.num (bl_den bb) (by decide), ?_⟩
    refine ⟨_, rfl, _, _, _, _, rfl, rfl, h1, at1, _, rfl, _, _, _, _, rfl, rfl, h2, at0, _, _, rfl, rfl, mulZ (bl_den ba) bb.num (by decide), ?_⟩
    exact ⟨_, _, rfl, Int.mul_ne_zero (den_ne a) (num_ne h0), by rw [← div_eq]; exact bc, by rw [← div_eq]; exact k⟩
theorem ok_is_less : Pm P w K mg base CX0 1 "is_less" ["one", "other"] (spIsLess K) := by
  obtain ⟨fd, F⟩ := f_is_less S
  refine ⟨fd, F.ok sc_is_less (fun vs H Q E h => ?_) (fun cdv A outer s H vs Q E hr h => ?_), F.bindsN fun _ _ _ _ _ _ us hl => match us, hl with | [_, _], _ => rfl, F.kp⟩
  · obtain ⟨u, v, a, b, rfl, ⟨p, rfl, h1⟩, ⟨q, rfl, h2⟩, ba, bb, k⟩ := h
    rfl
  · obtain ⟨u, v, a, b, rfl, ⟨p, rfl, h1⟩, ⟨q, rfl, h2⟩, ba, bb, k⟩ := h
    refine ⟨_, PSs.nox <| (pss_one (ps_ret (pe_cmp (pc_lt (pe_op op_mulZ (pe_ix ix_tup (pv 0) pe_int (fun _ _ => rfl)) (pe_ix ix_tup (pv 1) pe_int (fun _ _ => rfl))) (pe_op op_mulZ (pe_ix ix_tup (pv 1) pe_int (fun _ _ => rfl)) (pe_ix ix_tup (pv 0) pe_int (fun _ _ => rfl))))))), ?_⟩
    refine ⟨_, rfl, _, _, _, _, rfl, rfl, h1, at0, _, rfl, _, _, _, _, rfl, rfl, h2, at1, _, _, rfl, rfl, mulZ ba.num (bl_den bb) (by decide), ?_⟩
    refine ⟨_, rfl, _, _, _, _, rfl, rfl, h2, at0, _, rfl, _, _, _, _, rfl, rfl, h1, at1, _, _, rfl, rfl, mulZ bb.num (bl_den ba) (by decide), _, _, rfl, rfl, ?_⟩
    rw [← lt_eq] at k
    exact k
theorem ok_plus : Pm P w K mg base (L2.CX P w) 5 "plus" ["one", "other"] (spL2 K (· + ·)) := by
  obtain ⟨fd, F⟩ := f_plus S
  obtain ⟨fd_look, G_look, b_look, kp_look⟩ := ok_look (P := P) (w := w) S
  obtain ⟨fd_add, G_add, b_add, kp_add⟩ := ok_add (P := P) (w := w) S
  refine ⟨fd, F.ok sc_plus (fun vs H Q E h => ?_) (fun cdv A outer s H vs Q E hr h => ?_), F.bindsN fun _ _ _ _ _ _ us hl => match us, hl with | [_, _], _ => rfl, F.kp⟩
  · obtain ⟨u, v, r, q, rfl, f1, f2, k1, k2⟩ := h
    rfl
  · obtain ⟨u, v, r, q, rfl, f1, f2, k1, k2⟩ := h
    have px : Passes (L2.CX P w) (cxOf (L2.CX P w) P w K mg base N_plus "plus" (defScope s_plus) (He.ga K "plus") cdv A outer s H E) E := passes_call (takes_of rfl rfl rfl rfl) fun _ _ _ _ z => z
    have hr_look : Room 4 _ := hr.mono (by decide)
    have hr_add : Room 3 _ := hr.mono (by decide)
    refine ⟨_, (pss_cons (ps_expr (pe_call G_look hr_look rfl (g_look S) kp_look b_look .nil px (pa_cons (pv 0) (pa_cons (pv 1) pa_nil))))
      (pss_one (ps_ret (pe_call G_add hr_add rfl (g_add S) kp_add b_add .nil pass0 (pa_cons (pv 0) (pa_cons (pv 1) pa_nil)))))), ?_⟩
    refine ⟨_, rfl, _, rfl, _, _, _, _, rfl, f1, f2, fun h => ?_, k2⟩
    obtain ⟨a, b, h1, h2, ba, bb, bc, k⟩ := k1 h
    exact ⟨_, rfl, _, rfl, _, _, a, b, rfl, h1, h2, ba, bb, bc, trivial, k⟩
theorem ok_less : Pm P w K mg base (L2.CX P w) 5 "less" ["one", "other"] (spL2 K (· - ·)) := by
  obtain ⟨fd, F⟩ := f_less S
  obtain ⟨fd_look, G_look, b_look, kp_look⟩ := ok_look (P := P) (w := w) S
  obtain ⟨fd_take, G_take, b_take, kp_take⟩ := ok_take (P := P) (w := w) S
  refine ⟨fd, F.ok sc_less (fun vs H Q E h => ?_) (fun cdv A outer s H vs Q E hr h => ?_), F.bindsN fun _ _ _ _ _ _ us hl => match us, hl with | [_, _], _ => rfl, F.kp⟩
  · obtain ⟨u, v, r, q, rfl, f1, f2, k1, k2⟩ := h
    rfl
  · obtain ⟨u, v, r, q, rfl, f1, f2, k1, k2⟩ := h
    have px : Passes (L2.CX P w) (cxOf (L2.CX P w) P w K mg base N_less "less" (defScope s_less) (He.ga K "less") cdv A outer s H E) E := passes_call (takes_of rfl rfl rfl rfl) fun _ _ _ _ z => z
    have hr_look : Room 4 _ := hr.mono (by decide)
    have hr_take : Room 3 _ := hr.mono (by decide)
    refine ⟨_, (pss_cons (ps_expr (pe_call G_look hr_look rfl (g_look S) kp_look b_look .nil px (pa_cons (pv 0) (pa_cons (pv 1) pa_nil))))
      (pss_one (ps_ret (pe_call G_take hr_take rfl (g_take S) kp_take b_take .nil pass0 (pa_cons (pv 0) (pa_cons (pv 1) pa_nil)))))), ?_⟩
    refine ⟨_, rfl, _, rfl, _, _, _, _, rfl, f1, f2, fun h => ?_, k2⟩
    obtain ⟨a, b, h1, h2, ba, bb, bc, k⟩ := k1 h
    exact ⟨_, rfl, _, rfl, _, _, a, b, rfl, h1, h2, ba, bb, bc, trivial, k⟩
theorem ok_times : Pm P w K mg base (L2.CX P w) 5 "times" ["one", "other"] (spL2 K (· * ·)) := by
  obtain ⟨fd, F⟩ := f_times S
  obtain ⟨fd_look, G_look, b_look, kp_look⟩ := ok_look (P := P) (w := w) S
  obtain ⟨fd_multiply, G_multiply, b_multiply, kp_multiply⟩ := ok_multiply (P := P) (w := w) S
  refine ⟨fd, F.ok sc_times (fun vs H Q E h => ?_) (fun cdv A outer s H vs Q E hr h => ?_), F.bindsN fun _ _ _ _ _ _ us hl => match us, hl with | [_, _], _ => rfl, F.kp⟩
  · obtain ⟨u, v, r, q, rfl, f1, f2, k1, k2⟩ := h
    rfl
  · obtain ⟨u, v, r, q, rfl, f1, f2, k1, k2⟩ := h
    have px : Passes (L2.CX P w) (cxOf (L2.CX P w) P w K mg base N_times "times" (defScope s_times) (He.ga K "times") cdv A outer s H E) E := passes_call (takes_of rfl rfl rfl rfl) fun _ _ _ _ z => z
    have hr_look : Room 4 _ := hr.mono (by decide)
    have hr_multiply : Room 3 _ := hr.mono (by decide)
    refine ⟨_, (pss_cons (ps_expr (pe_call G_look hr_look rfl (g_look S) kp_look b_look .nil px (pa_cons (pv 0) (pa_cons (pv 1) pa_nil))))
      (pss_one (ps_ret (pe_call G_multiply hr_multiply rfl (g_multiply S) kp_multiply b_multiply .nil pass0 (pa_cons (pv 0) (pa_cons (pv 1) pa_nil)))))), ?_⟩
    refine ⟨_, rfl, _, rfl, _, _, _, _, rfl, f1, f2, fun h => ?_, k2⟩
    obtain ⟨a, b, h1, h2, ba, bb, bc, k⟩ := k1 h
    exact ⟨_, rfl, _, rfl, _, _, a, b, rfl, h1, h2, ba, bb, bc, trivial, k⟩
theorem ok_by : Pm P w K mg base (L2.CX P w) 5 "by" ["one", "other"] (spBy K) := by
  obtain ⟨fd, F⟩ := f_by S
  obtain ⟨fd_look, G_look, b_look, kp_look⟩ := ok_look (P := P) (w := w) S
  obtain ⟨fd_need, G_need, b_need, kp_need⟩ := ok_need (P := P) (w := w) S
  obtain ⟨fd_part_of, G_part_of, b_part_of, kp_part_of⟩ := ok_part_of (P := P) (w := w) S
  refine ⟨fd, F.ok sc_by (fun vs H Q E h => ?_) (fun cdv A outer s H vs Q E hr h => ?_), F.bindsN fun _ _ _ _ _ _ us hl => match us, hl with | [_, _], _ => rfl, F.kp⟩
  · obtain ⟨u, v, r, q, rfl, f1, f2, k1, k2⟩ := h
    rfl
  · obtain ⟨u, v, r, q, rfl, f1, f2, k1, k2⟩ := h
    have px : Passes (L2.CX P w) (cxOf (L2.CX P w) P w K mg base N_by "by" (defScope s_by) (He.ga K "by") cdv A outer s H E) E := passes_call (takes_of rfl rfl rfl rfl) fun _ _ _ _ z => z
    have hr_look : Room 4 _ := hr.mono (by decide)
    have hr_need : Room 1 _ := hr.mono (by decide)
    have hr_part_of : Room 3 _ := hr.mono (by decide)
    refine ⟨_, (pss_cons (ps_expr (pe_call G_look hr_look rfl (g_look S) kp_look b_look .nil px (pa_cons (pv 0) (pa_cons (pv 1) pa_nil))))
      (pss_cons (ps_expr (pe_call G_need hr_need rfl (g_need S) kp_need b_need .nil px (pa_cons (pe_cmp (pc_neI (pe_ix ix_tup (pv 1) pe_int (fun _ _ => rfl)) pe_int)) pa_nil)))
      (pss_one (ps_ret (pe_call G_part_of hr_part_of rfl (g_part_of S) kp_part_of b_part_of .nil pass0 (pa_cons (pv 0) (pa_cons (pv 1) pa_nil))))))), ?_⟩
    refine ⟨_, rfl, _, rfl, _, _, _, _, rfl, f1, f2, fun h => ?_, k2⟩
    obtain ⟨a, b, h1, h2, ba, bb, k3, k4⟩ := k1 h
    obtain ⟨q, rfl, hq⟩ := id h2
    refine ⟨_, rfl, _, _, _, _, rfl, rfl, hq, at0, _, _, rfl, rfl, _, rfl, fun h0 => ?_, fun h0 => ?_⟩
    · have h0' : b ≠ 0 := fun z => by simp [z] at h0
      obtain ⟨bc, k⟩ := k3 h0'
      exact ⟨_, rfl, _, rfl, _, _, a, b, rfl, h1, h2, ba, bb, bc, h0', k⟩
    · exact k4 (Rat.num_eq_zero.mp (by simpa using h0))
theorem ok_before : Pm P w K mg base (L2.CX P w) 5 "before" ["one", "other"] (spBefore K) := by
  obtain ⟨fd, F⟩ := f_before S
  obtain ⟨fd_look, G_look, b_look, kp_look⟩ := ok_look (P := P) (w := w) S
  obtain ⟨fd_is_less, G_is_less, b_is_less, kp_is_less⟩ := ok_is_less (P := P) (w := w) S
  refine ⟨fd, F.ok sc_before (fun vs H Q E h => ?_) (fun cdv A outer s H vs Q E hr h => ?_), F.bindsN fun _ _ _ _ _ _ us hl => match us, hl with | [_, _], _ => rfl, F.kp⟩
  · obtain ⟨u, v, r, q, rfl, f1, f2, k1, k2⟩ := h
    rfl
  · obtain ⟨u, v, r, q, rfl, f1, f2, k1, k2⟩ := h
    have px : Passes (L2.CX P w) (cxOf (L2.CX P w) P w K mg base N_before "before" (defScope s_before) (He.ga K "before") cdv A outer s H E) E := passes_call (takes_of rfl rfl rfl rfl) fun _ _ _ _ z => z
    have hr_look : Room 4 _ := hr.mono (by decide)
    have hr_is_less : Room 1 _ := hr.mono (by decide)
    refine ⟨_, (pss_cons (ps_expr (pe_call G_look hr_look rfl (g_look S) kp_look b_look .nil px (pa_cons (pv 0) (pa_cons (pv 1) pa_nil))))
      (pss_one (ps_ret (pe_call G_is_less hr_is_less rfl (g_is_less S) kp_is_less b_is_less .nil pass0 (pa_cons (pv 0) (pa_cons (pv 1) pa_nil)))))), ?_⟩
    refine ⟨_, rfl, _, rfl, _, _, _, _, rfl, f1, f2, fun h => ?_, k2⟩
    obtain ⟨a, b, h1, h2, ba, bb, k⟩ := k1 h
    exact ⟨_, rfl, _, rfl, _, _, a, b, rfl, h1, h2, ba, bb, k⟩
theorem ok_whole : Pm P w K mg base (L2.CX P w) 4 "whole" ["one"] (spWhole K) := by
  obtain ⟨fd, F⟩ := f_whole S
  obtain ⟨fd_need_fraction, G_need_fraction, b_need_fraction, kp_need_fraction⟩ := ok_need_fraction (P := P) (w := w) S
  refine ⟨fd, F.ok sc_whole (fun vs H Q E h => ?_) (fun cdv A outer s H vs Q E hr h => ?_), F.bindsN fun _ _ _ _ _ _ us hl => match us, hl with | [_], _ => rfl, F.kp⟩
  · obtain ⟨v, r, rfl, f1, k1, k2⟩ := h
    rfl
  · obtain ⟨v, r, rfl, f1, k1, k2⟩ := h
    have px : Passes (L2.CX P w) (cxOf (L2.CX P w) P w K mg base N_whole "whole" (defScope s_whole) (He.ga K "whole") cdv A outer s H E) E := passes_call (takes_of rfl rfl rfl rfl) fun _ _ _ _ z => z
    have hr_need_fraction : Room 3 _ := hr.mono (by decide)
    refine ⟨_, (pss_cons (ps_expr (pe_call G_need_fraction hr_need_fraction rfl (g_need_fraction S) kp_need_fraction b_need_fraction .nil px (pa_cons (pv 0) pa_nil)))
      (pss_one (ps_ret (pe_op op_fdivZ (pe_ix ix_tup (pv 0) pe_int (fun _ _ => rfl)) (pe_ix ix_tup (pv 0) pe_int (fun _ _ => rfl)))))), ?_⟩
    refine ⟨_, rfl, _, _, rfl, f1, fun h => ?_, k2⟩
    obtain ⟨a, ⟨p, rfl, h1⟩, ba, k⟩ := k1 h
    refine ⟨_, rfl, _, _, _, _, rfl, rfl, h1, at0, _, rfl, _, _, _, _, rfl, rfl, h1, at1, _, _, rfl, rfl, divZ_small (den_ne a) (Nat.lt_of_lt_of_le (bl_den ba) (Nat.pow_le_pow_right (by decide) (by decide))), ?_⟩
    rw [Rat.floor_def, ← Int.fdiv_eq_ediv_of_nonneg _ (Int.natCast_nonneg _)] at k
    exact k
end

/-! ### the law's own helpers -/
def bigP : Int := 340282366920938463463374607431768211507
def drawn (c k : Int) : Int :=
  let m := (c * 6364136223846793005 + (k + 1) * 1442695040888963407) % 340282366920938463463374607431768211507
  let n := m * m % 340282366920938463463374607431768211297
  ((n % 18446744073709551557 + 1) * (n / 18446744073709551557 + 1) * n) % 340282366920938463463374607431768211507
theorem drawn_nn (c k : Int) : 0 ≤ drawn c k := Int.emod_nonneg _ (by decide)
theorem drawn_lt (c k : Int) : drawn c k < 340282366920938463463374607431768211507 := Int.emod_lt_of_pos _ (by decide)
theorem div_lt128 {n : Int} (h0 : 0 ≤ n) (h : n < 2 ^ 128) : 0 ≤ n / 18446744073709551557 ∧ n / 18446744073709551557 < 2 ^ 65 := by omega
def spCell (K : PySem.W.Frag) : Sp := fun vs H Q _ => ∃ (a : Addr) (ns : List Int) (k : Int), vs = [.ref a, .int k] ∧ SqL K H a (ns.map V.int) ∧ ns.length ≤ 63 ∧ 0 ≤ k ∧ k < 1000 ∧ ∀ i H', Same H H' → Q (.int i) H'
def spDrawn : Sp := fun vs H Q _ => ∃ c k : Int, vs = [.int c, .int k] ∧ 0 ≤ k ∧ k < 1000 ∧ Q (.int (drawn c k)) H
def spLawSum (K : PySem.W.Frag) : Sp := fun vs H Q _ => ∃ u v a b, ∃ sg : Int, vs = [u, v, .int sg] ∧ FrA K H u a ∧ FrA K H v b ∧ Bq 4000 a ∧ Bq 4000 b ∧ ((sg = 1 ∧ Bq 4000 (a + b) ∧ RetQ K H Q (a + b)) ∨ (sg = -1 ∧ Bq 4000 (a - b) ∧ RetQ K H Q (a - b)))
def spNumber (K : PySem.W.Frag) : Sp := fun vs H Q _ => ∃ m : Int, vs = [.int m] ∧ 0 ≤ m ∧ m < 2 ^ 130 ∧ ∀ (i : Int) H', i.natAbs < 2 ^ 40 → Same H H' → Q (.int i) H'
theorem cdivW {i j : Int} (h : 0 < j) (h2 : j < 2 ^ 2000) : CDivW i j := wide_div (b := 2000) h (by omega) (by decide) (by decide)
theorem cmul_r {i j : Int} (h : j.natAbs < 2 ^ 64) : CMulZ i j := IntMulOk.of_right (bits_le h)
theorem cmul_l {i j : Int} (h : i.natAbs < 2 ^ 64) : CMulZ i j := IntMulOk.of_left (bits_le h)
theorem dp_ints {K : PySem.W.Frag} {H : Hp} : ∀ ns : List Int, DpAll K H (ns.map V.int) (ns.map PyData.int)
  | [] => .nil
  | n :: ns => .cons (.int n) (dp_ints ns)
theorem can_ints : ∀ ns : List Int, PyData.canLayAll0 (ns.map PyData.int) = true
  | [] => rfl
  | n :: ns => by
    show (true && PyData.canLayAll0 (ns.map PyData.int)) = true
    rw [can_ints ns] <;> rfl
theorem depth_ints : ∀ ns : List Int, PyData.depthAll (ns.map PyData.int) ≤ 1
  | [] => by simp [PyData.depthAll]
  | n :: ns => by
    have := depth_ints ns
    simp only [List.map_cons, PyData.depthAll, PyData.depth]
    omega
theorem shaped_ints (ns : List Int) : SeqAt.shaped (.list (ns.map PyData.int)) = true := by
  have h1 : (PyData.list (ns.map PyData.int)).canLay0 = true := can_ints ns
  have h2 : (PyData.list (ns.map PyData.int)).depth ≤ 64 := by
    have := depth_ints ns
    simp only [PyData.depth]
    omega
  unfold SeqAt.shaped
  rw [h1, decide_eq_true h2] <;> rfl
theorem eqv_ints_nil (ns : List Int) : PyData.eqv (.list (ns.map PyData.int)) (.list []) = ns.isEmpty := by
  cases ns with
  | nil => rfl
  | cons n ns => rfl
theorem nb1 (x : Int) : (x % 340282366920938463463374607431768211507).natAbs < 2 ^ 130 := by omega
theorem nb2 (x : Int) : (x % 340282366920938463463374607431768211297).natAbs < 2 ^ 140 := by omega
theorem nb3 (x : Int) : (x % 18446744073709551557 + 1).natAbs < 2 ^ 70 := by omega
theorem nb4 (x : Int) : (x % 340282366920938463463374607431768211297 / 18446744073709551557 + 1).natAbs < 2 ^ 70 := by omega
/-- gcd by the law's own loop -/
theorem gcd_emod (a b : Int) : Int.gcd b (a % b) = Int.gcd a b := by
  have h : a % b = a + b * (-(a / b)) := by
    have := Int.mul_ediv_add_emod a b
    grind
  rw [h, Int.gcd_add_mul_left_right, Int.gcd_comm]
theorem abs_eq (x : Int) : (if x < 0 then -x else x) = (x.natAbs : Int) := by split <;> omega
def sgn (b : Int) : Int := if 0 < b then 1 else -1
theorem lby_sgn (a : Int) {b : Int} (h : b ≠ 0) : sgn b * lby a b = (Int.gcd a b : Int) := by
  unfold sgn lby
  split <;> split <;> omega
theorem sgn_num (a : Int) {b : Int} (h : b ≠ 0) : sgn b * a = (Int.gcd a b : Int) * (Rat.divInt a b).num := by
  rw [← lby_sgn a h, Int.mul_assoc, ← lby_num a h]
theorem sgn_den (a : Int) {b : Int} (h : b ≠ 0) : sgn b * b = (Int.gcd a b : Int) * ((Rat.divInt a b).den : Int) := by
  rw [← lby_sgn a h, Int.mul_assoc, ← lby_den a h]
theorem sgn_b (b : Int) : (sgn b).natAbs < 2 ^ 64 := by
  unfold sgn
  split <;> decide
def pq (q : Rat) : PyData := .tuple [.int q.num, .int (q.den : Int)]
theorem dp_q {K : PySem.W.Frag} {H : Hp} {v : V} {q : Rat} (h : FrA K H v q) : Dp K H v (pq q) := by
  obtain ⟨p, rfl, h⟩ := h
  exact .tup h (.cons (.int _) (.cons (.int _) .nil))
theorem shaped_pq (q : Rat) : SeqAt.shaped (pq q) = true := rfl
theorem eqv_pq (a b : Rat) : PyData.eqv (pq a) (pq b) = decide (a = b) := by
  have e : PyData.eqv (pq a) (pq b) = ((a.num == b.num) && (((a.den : Int) == (b.den : Int)) && true)) := by
    simp [pq, PyData.eqv, PyData.eqvAll]
  rw [e]
  by_cases h : a = b
  · subst h
    simp
  · rw [decide_eq_false h]
    by_cases h1 : a.num = b.num
    · have h2 : (a.den : Int) ≠ b.den := fun z => h (Rat.ext h1 (by omega))
      simp [h1, h2]
    · simp [h1]
theorem ne_q {K : PySem.W.Frag} {H : Hp} {x y : V} {a b : Rat} {Q : VK} (h1 : FrA K H x a) (h2 : FrA K H y b) (h : Q (.bl (!decide (a = b))) H) : rNeD K x y H Q :=
  ⟨_, _, dp_q h1, dp_q h2, shaped_pq a, shaped_pq b, by rw [eqv_pq]; exact h⟩
theorem eq_q {K : PySem.W.Frag} {H : Hp} {x y : V} {a b : Rat} {Q : VK} (h1 : FrA K H x a) (h2 : FrA K H y b) (h : Q (.bl (decide (a = b))) H) : rEqD K x y H Q :=
  ⟨_, _, dp_q h1, dp_q h2, shaped_pq a, shaped_pq b, by rw [eqv_pq]; exact h⟩
theorem ne_qq {K : PySem.W.Frag} {H : Hp} {x y : V} {a : Rat} {Q : VK} (h1 : FrA K H x a) (h2 : FrA K H y a) (h : Q (.bl false) H) : rNeD K x y H Q :=
  ne_q h1 h2 (by rw [decide_eq_true rfl]; exact h)
section
variable {P : Program} {w : World} {K : PySem.W.Frag} {mg : Str → Option Value} {base : Heap} (S : Sa K mg base)
include S
theorem ok__law_cell : Pm P w K mg base CX0 1 "_law_cell" ["script", "k"] (spCell K) := by
  obtain ⟨fd, F⟩ := f__law_cell S
  refine ⟨fd, F.ok sc__law_cell (fun vs H Q E h => ?_) (fun cdv A outer s H vs Q E hr h => ?_), F.bindsN fun _ _ _ _ _ _ us hl => match us, hl with | [_, _], _ => rfl, F.kp⟩
  · obtain ⟨a, ns, k, rfl, hs, hl, h0, h1, kQ⟩ := h
    rfl
  · obtain ⟨a, ns, k, rfl, hs, hl, h0, h1, kQ⟩ := h
    refine ⟨_, PSs.nox <| (pss_cons (ps_if (pt_cmpR (op_eqD hr.units) (pv 0) (pe_lst pa_nil) (nomark _)) (pss_one (ps_ret (pe_op op_mulZ (pv 1) pe_int))) pss_nil)
      (pss_one (ps_ret (pe_op op_add (pe_ix ix_list (pv 0) (pe_op op_mod (pv 1) (pe_callB call_len_seq (by rfl) (z_len S) (by decide +kernel) (pa_cons (pv 0) pa_nil))) (fun _ _ => rfl)) (pe_op op_mulZ (pe_op op_fdivZ (pv 1) (pe_callB call_len_seq (by rfl) (z_len S) (by decide +kernel) (pa_cons (pv 0) pa_nil))) pe_int))))), ?_⟩
    refine ⟨_, rfl, (by show 0 ≤ sizeLine; decide), fun p hp => ?_⟩
    have sm : Same H (upd H p (.lst [])) := same_new hp
    refine ⟨.list (ns.map PyData.int), .list [], .lst (sm.seq hs) (dp_ints ns), .lst (SqL.of upd_same) .nil, shaped_ints ns, rfl, _, rfl, ?_⟩
    rw [eqv_ints_nil]
    refine ifb (fun hb => ?_) (fun hb => ?_)
    · exact ⟨_, rfl, _, _, rfl, rfl, cmul_r (by decide), kQ _ _ sm⟩
    · have hn : 0 < ns.length := by
        cases ns with
        | nil => cases hb
        | cons n ns => exact Nat.succ_pos _
      have el : ((ns.map V.int).length : Int) = (ns.length : Int) := by rw [List.length_map]
      have hm0 := Int.emod_nonneg k (b := (ns.length : Int)) (by omega)
      have hm1 := Int.emod_lt_of_pos k (b := (ns.length : Int)) (by omega)
      obtain ⟨m, hm⟩ := Int.eq_ofNat_of_zero_le hm0
      have hix : m < ns.length := by omega
      refine ⟨_, rfl, _, rfl, _, rfl, _, _, rfl, .inl (sm.seq hs), _, _, rfl, rfl, (by rw [el]; omega), ?_⟩
      refine ⟨a, ns.map V.int, _, .int (ns[m]), rfl, rfl, sm.seq hs, ?_, ?_⟩
      · show atI (ns.map V.int) (k % ((ns.map V.int).length : Int)) = some (V.int ns[m])
        rw [el, hm]
        refine atI_nat ?_
        rw [List.getElem?_map, List.getElem?_eq_getElem hix]
        rfl
      · refine ⟨_, rfl, _, rfl, _, _, rfl, .inl (sm.seq hs), _, _, rfl, rfl, divZ_small (by rw [el]; omega) (Nat.lt_of_lt_of_le (by rw [el]; omega : _ < 2 ^ 10) (Nat.pow_le_pow_right (by decide) (by decide))), ?_⟩
        exact ⟨_, _, rfl, rfl, cmul_r (by decide), _, _, rfl, rfl, kQ _ _ sm⟩
theorem ok__law_drawn : Pm P w K mg base CX0 1 "_law_drawn" ["cell", "k"] spDrawn := by
  obtain ⟨fd, F⟩ := f__law_drawn S
  refine ⟨fd, F.ok sc__law_drawn (fun vs H Q E h => ?_) (fun cdv A outer s H vs Q E hr h => ?_), F.bindsN fun _ _ _ _ _ _ us hl => match us, hl with | [_, _], _ => rfl, F.kp⟩
  · obtain ⟨c, k, rfl, h0, h1, kQ⟩ := h
    rfl
  · obtain ⟨c, k, rfl, h0, h1, kQ⟩ := h
    refine ⟨_, PSs.nox <| (pss_cons (ps_set (i := 2) sc__law_drawn.nd rfl (Or.inl rfl) (pe_op op_mod (pe_op op_add (pe_op op_mulZ (pv 0) pe_int) (pe_op op_mulZ (pe_op op_add (pv 1) pe_int) pe_int)) pe_int))
      (pss_cons (ps_set (i := 2) sc__law_drawn.nd rfl (Or.inl rfl) (pe_op op_mod (pe_op op_mulZ (pv 2) (pv 2)) pe_int))
      (pss_cons (ps_set (i := 2) sc__law_drawn.nd rfl (Or.inl rfl) (pe_op op_mulZ (pe_op op_mulZ (pe_op op_add (pe_op op_mod (pv 2) pe_int) pe_int) (pe_op op_add (pe_op op_fdivW (pv 2) pe_int) pe_int)) (pv 2)))
      (pss_one (ps_ret (pe_op op_mod (pv 2) pe_int)))))), ?_⟩
    refine ⟨_, rfl, _, _, rfl, rfl, cmul_r (by decide), _, rfl, _, _, rfl, rfl, _, _, rfl, rfl, cmul_r (by decide), _, _, rfl, rfl, _, _, rfl, rfl, (by show (0 : Int) < 340282366920938463463374607431768211507; decide), ?_⟩
    refine ⟨_, rfl, _, rfl, _, _, rfl, rfl, mulZ (a := 130) (b := 130) (nb1 _) (nb1 _) (by decide), _, _, rfl, rfl, (by show (0 : Int) < 340282366920938463463374607431768211297; decide), ?_⟩
    refine ⟨_, rfl, _, _, rfl, rfl, (by show (0 : Int) < 18446744073709551557; decide), _, _, rfl, rfl, _, rfl, _, _, rfl, rfl, cdivW (by decide) (by decide +kernel), _, _, rfl, rfl, _, _, rfl, rfl, mulZ (a := 70) (b := 70) (nb3 _) (nb4 _) (by decide), ?_⟩
    refine ⟨_, rfl, _, _, rfl, rfl, mulZ (a := 140) (b := 140) (wide_lt (a := 70) (b := 70) (nb3 _) (nb4 _)) (nb2 _) (by decide), ?_⟩
    exact ⟨_, rfl, _, _, rfl, rfl, (by show (0 : Int) < 340282366920938463463374607431768211507; decide), kQ⟩
theorem ok__law_least : Pm P w K mg base CX0 1 "_law_least" ["above", "below"] (spLeast K) := by
  obtain ⟨fd, F⟩ := f__law_least S
  refine ⟨fd, F.ok sc__law_least (fun vs H Q E h => ?_) (fun cdv A outer s H vs Q E hr h => ?_), F.bindsN fun _ _ _ _ _ _ us hl => match us, hl with | [_, _], _ => rfl, F.kp⟩
  · obtain ⟨a, b, rfl, hb, hq, k⟩ := h
    rfl
  · obtain ⟨a, b, rfl, hb, hq, k⟩ := h
    refine ⟨_, PSs.nox <| (pss_cons (ps_par (i := 2) (j := 3) (by rfl) sc__law_least.nd rfl rfl (by decide) rfl rfl (pa_cons (pe_callB call_abs (by rfl) (z_abs S) (by decide +kernel) (pa_cons (pv 0) pa_nil)) (pa_cons (pe_callB call_abs (by rfl) (z_abs S) (by decide +kernel) (pa_cons (pv 1) pa_nil)) pa_nil)) (by rfl))
      (pss_cons (ps_while PassesOwn.never (pt_cmp (pc_gt (pv 3) pe_int)) (pss_one (ps_par (i := 2) (j := 3) (by rfl) sc__law_least.nd rfl rfl (by decide) rfl rfl (pa_cons (pv 3) (pa_cons (pe_op op_mod (pv 2) (pv 3)) pa_nil)) (by rfl))))
      (pss_cons (ps_set (i := 4) sc__law_least.nd rfl (Or.inl rfl) (pe_ifExp (pt_cmp (pc_gt (pv 1) pe_int)) pe_int (pe_un un_neg pe_int)))
      (pss_one (ps_ret (pe_tup (pa_cons (pe_op op_fdivZ (pe_op op_mulZ (pv 4) (pv 0)) (pv 2)) (pa_cons (pe_op op_fdivZ (pe_op op_mulZ (pv 4) (pv 1)) (pv 2)) pa_nil)))))))), ?_⟩
    refine ⟨_, rfl, _, rfl, _, rfl, _, rfl, _, _, rfl, ?_⟩
    refine ⟨fun m σ H' => ∃ x y : Int, σ = [some (.int a), some (.int b), some (.int x), some (.int y), none] ∧ 0 ≤ x ∧ 0 ≤ y ∧ Int.gcd x y = Int.gcd a b ∧ m = y.natAbs ∧ H' = H, ⟨_, _, _, rfl, ?_, ?_, ?_, rfl, rfl⟩, ?_⟩
    · rw [abs_eq]; omega
    · rw [abs_eq]; omega
    · rw [abs_eq, abs_eq]
      simp [Int.gcd]
    rintro m σ H' ⟨x, y, rfl, hx, hy, hg, rfl, rfl⟩
    refine ⟨_, rfl, _, _, rfl, rfl, _, rfl, ?_⟩
    refine ifb (fun h => ?_) (fun h => ?_)
    · have h' : 0 < y := by simpa using h
      refine ⟨fun σ' H'' => ∃ x' y' : Int, σ' = [some (.int a), some (.int b), some (.int x'), some (.int y'), none] ∧ 0 ≤ x' ∧ 0 ≤ y' ∧ Int.gcd x' y' = Int.gcd a b ∧ y'.natAbs < y.natAbs ∧ H'' = H', fun σ' H'' z => ?_, ?_⟩
      · obtain ⟨x', y', e1, e2, e3, e4, e5, e6⟩ := z
        exact ⟨_, e5, x', y', e1, e2, e3, e4, rfl, e6⟩
      · refine ⟨_, rfl, _, rfl, _, rfl, _, _, rfl, rfl, h', _, _, rfl, ?_⟩
        have z0 := Int.emod_nonneg x (b := y) (by omega)
        have z1 := Int.emod_lt_of_pos x h'
        exact ⟨_, _, rfl, hy, z0, by rw [gcd_emod, hg], by omega, rfl⟩
    · have h' : y = 0 := by
        have : ¬ 0 < y := by simpa using h
        omega
      subst h'
      have ex : x = (Int.gcd a b : Int) := by
        rw [← hg, Int.gcd_zero_right]
        omega
      have hp := gcd_pos a hb
      refine ⟨_, rfl, _, _, rfl, rfl, _, rfl, ?_⟩
      have d1 : CDivZ (sgn b * a) x := divZ (q := (Rat.divInt a b).num) (by omega) (by rw [ex]; exact sgn_num a hb) hq.num
      have d2 : CDivZ (sgn b * b) x := divZ (q := ((Rat.divInt a b).den : Int)) (by omega) (by rw [ex]; exact sgn_den a hb) (bl_den hq)
      have fin : ∀ p, H' p = none → Q (.ref p) (upd H' p (.tup [.int ((sgn b * a).fdiv x), .int ((sgn b * b).fdiv x)])) := fun p hp' => by
        rw [sgn_num a hb, sgn_den a hb, ex, fdiv_of_mul (by omega), fdiv_of_mul (by omega)]
        exact k.new hp'
      have ms := sgn_b b
      refine ifb (fun h0 => ?_) (fun h0 => ?_)
      · have h0' : 0 < b := by simpa using h0
        have e : sgn b = 1 := if_pos h0'
        rw [e] at d1 d2 fin ms
        exact ⟨_, rfl, _, rfl, _, _, rfl, rfl, cmul_l ms, _, rfl, _, _, rfl, rfl, d1, _, rfl, _, rfl, _, _, rfl, rfl, cmul_l ms, _, rfl, _, _, rfl, rfl, d2, (by show 2 ≤ sizeLine; decide), fin⟩
      · have h0' : ¬ 0 < b := by simpa using h0
        have e : sgn b = -1 := if_neg h0'
        rw [e] at d1 d2 fin ms
        exact ⟨_, rfl, _, rfl, _, rfl, _, _, rfl, rfl, cmul_l ms, _, rfl, _, _, rfl, rfl, d1, _, rfl, _, rfl, _, _, rfl, rfl, cmul_l ms, _, rfl, _, _, rfl, rfl, d2, (by show 2 ≤ sizeLine; decide), fin⟩
theorem ok__law_sum : Pm P w K mg base CX0 2 "_law_sum" ["one", "other", "sign"] (spLawSum K) := by
  obtain ⟨fd, F⟩ := f__law_sum S
  obtain ⟨fd__law_least, G__law_least, b__law_least, kp__law_least⟩ := ok__law_least (P := P) (w := w) S
  refine ⟨fd, F.ok sc__law_sum (fun vs H Q E h => ?_) (fun cdv A outer s H vs Q E hr h => ?_), F.bindsN fun _ _ _ _ _ _ us hl => match us, hl with | [_, _, _], _ => rfl, F.kp⟩
  · obtain ⟨u, v, a, b, sg, rfl, ⟨p, rfl, h1⟩, ⟨q, rfl, h2⟩, ba, bb, k⟩ := h
    rfl
  · obtain ⟨u, v, a, b, sg, rfl, ⟨p, rfl, h1⟩, ⟨q, rfl, h2⟩, ba, bb, k⟩ := h
    have hr__law_least : Room 1 _ := hr.mono (by decide)
    refine ⟨_, PSs.nox <| (pss_one (ps_ret (pe_call G__law_least hr__law_least rfl (g__law_least S) kp__law_least b__law_least .nil pass0 (pa_cons (pe_op op_add (pe_op op_mulZ (pe_ix ix_tup (pv 0) pe_int (fun _ _ => rfl)) (pe_ix ix_tup (pv 1) pe_int (fun _ _ => rfl))) (pe_op op_mulZ (pe_op op_mulZ (pv 2) (pe_ix ix_tup (pv 1) pe_int (fun _ _ => rfl))) (pe_ix ix_tup (pv 0) pe_int (fun _ _ => rfl)))) (pa_cons (pe_op op_mulZ (pe_ix ix_tup (pv 0) pe_int (fun _ _ => rfl)) (pe_ix ix_tup (pv 1) pe_int (fun _ _ => rfl))) pa_nil))))), ?_⟩
    have hs : sg.natAbs < 2 ^ 64 := by
      rcases k with ⟨rfl, _⟩ | ⟨rfl, _⟩ <;> decide
    have hm : (sg * b.num).natAbs < 2 ^ 4000 := by
      rcases k with ⟨rfl, _⟩ | ⟨rfl, _⟩
      · rw [Int.one_mul]; exact bb.num
      · rw [Int.neg_one_mul, Int.natAbs_neg]; exact bb.num
    refine ⟨_, rfl, _, _, _, _, rfl, rfl, h1, at0, _, rfl, _, _, _, _, rfl, rfl, h2, at1, _, _, rfl, rfl, mulZ ba.num (bl_den bb) (by decide), ?_⟩
    refine ⟨_, rfl, _, rfl, _, _, _, _, rfl, rfl, h2, at0, _, _, rfl, rfl, cmul_l hs, _, rfl, _, _, _, _, rfl, rfl, h1, at1, _, _, rfl, rfl, mulZ hm (bl_den ba) (by decide), _, _, rfl, rfl, ?_⟩
    refine ⟨_, rfl, _, _, _, _, rfl, rfl, h1, at1, _, rfl, _, _, _, _, rfl, rfl, h2, at1, _, _, rfl, rfl, mulZ (bl_den ba) (bl_den bb) (by decide), ?_⟩
    refine ⟨_, _, rfl, dd_ne a b, ?_⟩
    rcases k with ⟨rfl, bc, k⟩ | ⟨rfl, bc, k⟩
    · rw [Int.one_mul, ← add_eq]
      exact ⟨bc, k⟩
    · rw [Int.neg_one_mul, Int.neg_mul, ← Int.sub_eq_add_neg, ← sub_eq]
      exact ⟨bc, k⟩
theorem ok__law_product : Pm P w K mg base CX0 2 "_law_product" ["one", "other"] (spF2 K (· * ·) (fun _ => True)) := by
  obtain ⟨fd, F⟩ := f__law_product S
  obtain ⟨fd__law_least, G__law_least, b__law_least, kp__law_least⟩ := ok__law_least (P := P) (w := w) S
  refine ⟨fd, F.ok sc__law_product (fun vs H Q E h => ?_) (fun cdv A outer s H vs Q E hr h => ?_), F.bindsN fun _ _ _ _ _ _ us hl => match us, hl with | [_, _], _ => rfl, F.kp⟩
  · obtain ⟨u, v, a, b, rfl, ⟨p, rfl, h1⟩, ⟨q, rfl, h2⟩, ba, bb, bc, _, k⟩ := h
    rfl
  · obtain ⟨u, v, a, b, rfl, ⟨p, rfl, h1⟩, ⟨q, rfl, h2⟩, ba, bb, bc, _, k⟩ := h
    have hr__law_least : Room 1 _ := hr.mono (by decide)
    refine ⟨_, PSs.nox <| (pss_one (ps_ret (pe_call G__law_least hr__law_least rfl (g__law_least S) kp__law_least b__law_least .nil pass0 (pa_cons (pe_op op_mulZ (pe_ix ix_tup (pv 0) pe_int (fun _ _ => rfl)) (pe_ix ix_tup (pv 1) pe_int (fun _ _ => rfl))) (pa_cons (pe_op op_mulZ (pe_ix ix_tup (pv 0) pe_int (fun _ _ => rfl)) (pe_ix ix_tup (pv 1) pe_int (fun _ _ => rfl))) pa_nil))))), ?_⟩
    refine ⟨_, rfl, _, _, _, _, rfl, rfl, h1, at0, _, rfl, _, _, _, _, rfl, rfl, h2, at0, _, _, rfl, rfl, mulZ ba.num bb.num (by decide), ?_⟩
    refine ⟨_, rfl, _, _, _, _, rfl, rfl, h1, at1, _, rfl, _, _, _, _, rfl, rfl, h2, at1, _, _, rfl, rfl, mulZ (bl_den ba) (bl_den bb) (by decide), ?_⟩
    exact ⟨_, _, rfl, dd_ne a b, by rw [← mul_eq]; exact bc, by rw [← mul_eq]; exact k⟩
theorem ok__law_under : Pm P w K mg base CX0 1 "_law_under" ["one", "other"] (spIsLess K) := by
  obtain ⟨fd, F⟩ := f__law_under S
  refine ⟨fd, F.ok sc__law_under (fun vs H Q E h => ?_) (fun cdv A outer s H vs Q E hr h => ?_), F.bindsN fun _ _ _ _ _ _ us hl => match us, hl with | [_, _], _ => rfl, F.kp⟩
  · obtain ⟨u, v, a, b, rfl, ⟨p, rfl, h1⟩, ⟨q, rfl, h2⟩, ba, bb, k⟩ := h
    rfl
  · obtain ⟨u, v, a, b, rfl, ⟨p, rfl, h1⟩, ⟨q, rfl, h2⟩, ba, bb, k⟩ := h
    refine ⟨_, PSs.nox <| (pss_one (ps_ret (pe_cmp (pc_lt (pe_op op_sub (pe_op op_mulZ (pe_ix ix_tup (pv 0) pe_int (fun _ _ => rfl)) (pe_ix ix_tup (pv 1) pe_int (fun _ _ => rfl))) (pe_op op_mulZ (pe_ix ix_tup (pv 1) pe_int (fun _ _ => rfl)) (pe_ix ix_tup (pv 0) pe_int (fun _ _ => rfl)))) pe_int)))), ?_⟩
    refine ⟨_, rfl, _, _, _, _, rfl, rfl, h1, at0, _, rfl, _, _, _, _, rfl, rfl, h2, at1, _, _, rfl, rfl, mulZ ba.num (bl_den bb) (by decide), ?_⟩
    refine ⟨_, rfl, _, _, _, _, rfl, rfl, h2, at0, _, rfl, _, _, _, _, rfl, rfl, h1, at1, _, _, rfl, rfl, mulZ bb.num (bl_den ba) (by decide), _, _, rfl, rfl, _, _, rfl, rfl, ?_⟩
    have e : decide (a.num * (b.den : Int) - b.num * (a.den : Int) < 0) = decide (a < b) := by
      rw [← lt_eq]
      exact decide_eq_decide.mpr (by omega)
    rw [← e] at k
    exact k
theorem ok__law_number : Pm P w K mg base CX0 1 "_law_number" ["more"] (spNumber K) := by
  obtain ⟨fd, F⟩ := f__law_number S
  refine ⟨fd, F.ok sc__law_number (fun vs H Q E h => ?_) (fun cdv A outer s H vs Q E hr h => ?_), F.bindsN fun _ _ _ _ _ _ us hl => match us, hl with | [_], _ => rfl, F.kp⟩
  · obtain ⟨m, rfl, h0, h1, kQ⟩ := h
    rfl
  · obtain ⟨m, rfl, h0, h1, kQ⟩ := h
    refine ⟨_, PSs.nox <| (pss_one (ps_ret (pe_ix ix_list (pe_lst (pa_cons (pe_op op_mod (pe_op op_fdivW (pv 0) pe_int) pe_int) (pa_cons (pe_op op_sub pe_int (pe_op op_mod (pe_op op_fdivW (pv 0) pe_int) pe_int)) (pa_cons (pe_op op_mod (pe_op op_fdivW (pv 0) pe_int) pe_int) (pa_cons (pe_op op_sub pe_int (pe_op op_mod (pe_op op_fdivW (pv 0) pe_int) (pe_op op_pow pe_int pe_int))) pa_nil))))) (pe_op op_mod (pv 0) pe_int) (fun _ _ => rfl)))), ?_⟩
    refine ⟨_, rfl, _, _, rfl, rfl, cdivW (by decide) (by decide +kernel), _, _, rfl, rfl, (by show (0 : Int) < 13; decide), ?_⟩
    refine ⟨_, rfl, _, _, rfl, rfl, cdivW (by decide) (by decide +kernel), _, _, rfl, rfl, (by show (0 : Int) < 9; decide), _, _, rfl, rfl, ?_⟩
    refine ⟨_, rfl, _, _, rfl, rfl, cdivW (by decide) (by decide +kernel), _, _, rfl, rfl, (by show (0 : Int) < 5000; decide), ?_⟩
    refine ⟨_, rfl, _, _, rfl, rfl, cdivW (by decide) (by decide +kernel), _, _, rfl, rfl, ⟨by decide, by decide, by decide⟩, _, _, rfl, rfl, (by show (0 : Int) < 10 ^ 12; decide), _, _, rfl, rfl, ?_⟩
    refine ⟨(by show 4 ≤ sizeLine; decide), fun p hp => ?_⟩
    refine ⟨_, rfl, _, _, rfl, rfl, (by show (0 : Int) < 4; decide), ?_⟩
    have z0 := Int.emod_nonneg m (b := 4) (by decide)
    have z1 := Int.emod_lt_of_pos m (b := 4) (by decide)
    have sm := fun o => same_new (o := o) hp
    have e12 : (10 : Int) ^ (12 : Int).toNat = 1000000000000 := by decide
    have c : m % 4 = 0 ∨ m % 4 = 1 ∨ m % 4 = 2 ∨ m % 4 = 3 := by omega
    dsimp only
    rcases c with c | c | c | c <;> rw [c]
    · exact ⟨_, _, _, _, rfl, rfl, SqL.of upd_same, rfl, kQ _ _ (by omega) (sm _)⟩
    · exact ⟨_, _, _, _, rfl, rfl, SqL.of upd_same, rfl, kQ _ _ (by omega) (sm _)⟩
    · exact ⟨_, _, _, _, rfl, rfl, SqL.of upd_same, rfl, kQ _ _ (by omega) (sm _)⟩
    · refine ⟨_, _, _, _, rfl, rfl, SqL.of upd_same, rfl, kQ _ _ ?_ (sm _)⟩
      rw [e12]
      omega
end

/-! ### the law -/
def spLaw (K : PySem.W.Frag) : Sp := fun vs H Q _ => ∃ (a : Addr) (ns : List Int), vs = [.ref a] ∧ SqL K H a (ns.map V.int) ∧ ns.length ≤ 63 ∧ ∀ H', Q (.bl true) H'
section
variable {K : PySem.W.Frag} {H : Hp} {Q : VK} {E : XK} {u v : V} {a b : Rat}
theorem use_L2 {f : Rat → Rat → Rat} (h1 : FrA K H u a) (h2 : FrA K H v b) (ba : Bq 4000 a) (bb : Bq 4000 b) (bc : Bq 4000 (f a b)) (k : RetQ K H Q (f a b)) : spL2 K f [u, v] H Q E :=
  ⟨u, v, true, true, rfl, frb_of h1, frb_of h2, fun _ => ⟨a, b, h1, h2, ba, bb, bc, k⟩, fun z => by cases z⟩
theorem use_by (h1 : FrA K H u a) (h2 : FrA K H v b) (ba : Bq 4000 a) (bb : Bq 4000 b) (h0 : b ≠ 0) (bc : Bq 4000 (a / b)) (k : RetQ K H Q (a / b)) : spBy K [u, v] H Q E :=
  ⟨u, v, true, true, rfl, frb_of h1, frb_of h2, fun _ => ⟨a, b, h1, h2, ba, bb, fun _ => ⟨bc, k⟩, fun z => absurd z h0⟩, fun z => by cases z⟩
theorem use_before (h1 : FrA K H u a) (h2 : FrA K H v b) (ba : Bq 4000 a) (bb : Bq 4000 b) (k : Q (.bl (decide (a < b))) H) : spBefore K [u, v] H Q E :=
  ⟨u, v, true, true, rfl, frb_of h1, frb_of h2, fun _ => ⟨a, b, h1, h2, ba, bb, k⟩, fun z => by cases z⟩
theorem use_whole (h1 : FrA K H u a) (ba : Bq 4000 a) (k : Q (.int a.floor) H) : spWhole K [u] H Q E :=
  ⟨u, true, rfl, frb_of h1, fun _ => ⟨a, h1, ba, k⟩, fun z => by cases z⟩
theorem use_need (h1 : FrA K H u a) (k : Q .non H) : spNeedFraction K [u] H Q E :=
  ⟨u, true, rfl, frb_of h1, fun _ => k, fun z => by cases z⟩
theorem use_fraction {x y : Int} (h0 : y ≠ 0) (bc : Bq 4000 (Rat.divInt x y)) (k : RetQ K H Q (Rat.divInt x y)) : spFraction K [.int x, .int y] H Q E :=
  ⟨_, _, "int", "int", rfl, .base (.int _), .int, .base (.int _), .int, .inl ⟨x, y, rfl, rfl, rfl, rfl, h0, bc, k⟩⟩
end
theorem paired_snoc {α β : Type} {F : α → β → Prop} {x : α} {y : β} : ∀ {xs : List α} {ys : List β}, Paired F xs ys → F x y → Paired F (xs ++ [x]) (ys ++ [y])
  | _, _, .nil, h => .cons h .nil
  | _, _, .cons r t, h => .cons r (paired_snoc t h)
theorem list_lt {n : Nat} (h : n ≤ 10000) : n < sizeLine := Nat.lt_of_le_of_lt h (by decide)
theorem rng_ok (n m : Int) (h : n ≤ 1000) : (-(2 ^ 62) : Int) ≤ (if (if m < n then m else n) > 1 then (if m < n then m else n) else 1) ∧ (if (if m < n then m else n) > 1 then (if m < n then m else n) else 1) < (2 ^ 62 : Int) ∧ (if (if m < n then m else n) > 1 then (if m < n then m else n) else 1) ≤ (if n < 1 then 1 else n) := by
  split <;> split <;> omega
theorem floor_alt (q : Rat) : (q.num - q.num % (q.den : Int)).fdiv (q.den : Int) = q.floor := by
  have h : q.num - q.num % (q.den : Int) = (q.den : Int) * (q.num / (q.den : Int)) := by
    have := Int.mul_ediv_add_emod q.num (q.den : Int)
    omega
  rw [h, fdiv_of_mul (den_ne q), Rat.floor_def]
theorem zero_q {K : PySem.W.Frag} {H : Hp} {p : Addr} : FrA K (upd H p (.tup [.int 0, .int 1])) (.ref p) 0 := ⟨p, rfl, SqT.of upd_same⟩
theorem cnt_two (a b : Rat) : ((List.countP (fun z => eqV z (.bl true)) [V.bl (decide (a < b)), V.bl (decide (b < a))] : Nat) : Int) = if (!decide (a = b)) = true then 1 else 0 := by
  by_cases h1 : a < b
  · have h2 : ¬ b < a := by grind
    have h3 : ¬ a = b := by grind
    simp [h1, h2, h3, List.countP_cons, eqV]
  · by_cases h2 : b < a
    · have h3 : ¬ a = b := by grind
      simp [h1, h2, h3, List.countP_cons, eqV]
    · have h3 : a = b := by grind
      simp [h1, h2, h3, List.countP_cons, eqV]
section
variable {P : Program} {w : World} {K : PySem.W.Frag} {mg : Str → Option Value} {base : Heap} (S : Sa K mg base)
include S
theorem ok_law {fd : FuncData} (F : FunD K "law" "law" (defArgs s_law) (defBody s_law) (defScope s_law) [] [] (He.ga K "law") fd) : FnOk P w K mg base (L2.CX P w) 6 (He.ga K "law") fd ["script"] (spLaw K) := by
  obtain ⟨fd__law_drawn, G__law_drawn, b__law_drawn, kp__law_drawn⟩ := ok__law_drawn (P := P) (w := w) S
  obtain ⟨fd__law_cell, G__law_cell, b__law_cell, kp__law_cell⟩ := ok__law_cell (P := P) (w := w) S
  obtain ⟨fd__law_number, G__law_number, b__law_number, kp__law_number⟩ := ok__law_number (P := P) (w := w) S
  obtain ⟨fd_fraction, G_fraction, b_fraction, kp_fraction⟩ := ok_fraction (P := P) (w := w) S
  obtain ⟨fd_need_fraction, G_need_fraction, b_need_fraction, kp_need_fraction⟩ := ok_need_fraction (P := P) (w := w) S
  obtain ⟨fd__law_least, G__law_least, b__law_least, kp__law_least⟩ := ok__law_least (P := P) (w := w) S
  obtain ⟨fd_times, G_times, b_times, kp_times⟩ := ok_times (P := P) (w := w) S
  obtain ⟨fd__law_product, G__law_product, b__law_product, kp__law_product⟩ := ok__law_product (P := P) (w := w) S
  obtain ⟨fd_less, G_less, b_less, kp_less⟩ := ok_less (P := P) (w := w) S
  obtain ⟨fd__law_sum, G__law_sum, b__law_sum, kp__law_sum⟩ := ok__law_sum (P := P) (w := w) S
  obtain ⟨fd_plus, G_plus, b_plus, kp_plus⟩ := ok_plus (P := P) (w := w) S
  obtain ⟨fd_whole, G_whole, b_whole, kp_whole⟩ := ok_whole (P := P) (w := w) S
  obtain ⟨fd_before, G_before, b_before, kp_before⟩ := ok_before (P := P) (w := w) S
  obtain ⟨fd__law_under, G__law_under, b__law_under, kp__law_under⟩ := ok__law_under (P := P) (w := w) S
  obtain ⟨fd_by, G_by, b_by, kp_by⟩ := ok_by (P := P) (w := w) S
  refine F.ok sc_law (fun vs H Q E h => ?_) (fun cdv A outer s H vs Q E hr h => ?_)
  · obtain ⟨a, ns, rfl, hs, hl, kQ⟩ := h
    rfl
  · obtain ⟨a, ns, rfl, hs, hl, kQ⟩ := h
    have px : Passes (L2.CX P w) (cxOf (L2.CX P w) P w K mg base N_law "law" (defScope s_law) (He.ga K "law") cdv A outer s H E) E := passes_call (takes_of rfl rfl rfl rfl) fun _ _ _ _ z => z
    have hr__law_drawn : Room 1 _ := hr.mono (by decide)
    have hr__law_cell : Room 1 _ := hr.mono (by decide)
    have hr__law_number : Room 1 _ := hr.mono (by decide)
    have hr_fraction : Room 3 _ := hr.mono (by decide)
    have hr_need_fraction : Room 3 _ := hr.mono (by decide)
    have hr__law_least : Room 1 _ := hr.mono (by decide)
    have hr_times : Room 5 _ := hr.mono (by decide)
    have hr__law_product : Room 2 _ := hr.mono (by decide)
    have hr_less : Room 5 _ := hr.mono (by decide)
    have hr__law_sum : Room 2 _ := hr.mono (by decide)
    have hr_plus : Room 5 _ := hr.mono (by decide)
    have hr_whole : Room 4 _ := hr.mono (by decide)
    have hr_before : Room 5 _ := hr.mono (by decide)
    have hr__law_under : Room 1 _ := hr.mono (by decide)
    have hr_by : Room 5 _ := hr.mono (by decide)
    refine ⟨_, (pss_cons (ps_for (passes_of rfl) rfl (pi_range1 (by rfl) (z_range S) (pa_cons (pe_callB (call_max2 rfl) (by rfl) (z_max S) (by decide +kernel) (pa_cons pe_int (pa_cons (pe_callB (call_min2 rfl) (by rfl) (z_min S) (by decide +kernel) (pa_cons pe_int (pa_cons (pe_callB call_len_seq (by rfl) (z_len S) (by decide +kernel) (pa_cons (pv 0) pa_nil)) pa_nil))) pa_nil))) pa_nil)) (pg_name (i := 1) sc_law.nd rfl (Or.inl rfl)) (pss_cons (ps_set (i := 2) sc_law.nd rfl (Or.inl rfl) (pe_call G__law_drawn hr__law_drawn rfl (g__law_drawn S) kp__law_drawn b__law_drawn .nil pass0 (pa_cons (pe_call G__law_cell hr__law_cell rfl (g__law_cell S) kp__law_cell b__law_cell .nil pass0 (pa_cons (pv 0) (pa_cons (pv 1) pa_nil))) (pa_cons (pv 1) pa_nil))))
      (pss_cons (ps_set (i := 3) sc_law.nd rfl (Or.inl rfl) (pe_lst pa_nil))
      (pss_cons (ps_for (passes_of rfl) rfl (pi_range1 (by rfl) (z_range S) (pa_cons pe_int pa_nil)) (pg_name (i := 4) sc_law.nd rfl (Or.inl rfl)) (pss_cons (ps_set (i := 5) sc_law.nd rfl (Or.inl rfl) (pe_call G__law_drawn hr__law_drawn rfl (g__law_drawn S) kp__law_drawn b__law_drawn .nil pass0 (pa_cons (pv 2) (pa_cons (pv 4) pa_nil))))
      (pss_cons (ps_par (i := 6) (j := 7) (by rfl) sc_law.nd rfl rfl (by decide) rfl rfl (pa_cons (pe_call G__law_number hr__law_number rfl (g__law_number S) kp__law_number b__law_number .nil pass0 (pa_cons (pv 5) pa_nil)) (pa_cons (pe_call G__law_number hr__law_number rfl (g__law_number S) kp__law_number b__law_number .nil pass0 (pa_cons (pe_op op_fdivW (pv 5) (pe_op op_pow pe_int pe_int)) pa_nil)) pa_nil)) (by rfl))
      (pss_cons (ps_set (i := 7) sc_law.nd rfl (Or.inl rfl) (pe_ifExp (pt_cmp (pc_neI (pv 7) pe_int)) (pv 7) pe_int))
      (pss_cons (ps_set (i := 8) sc_law.nd rfl (Or.inl rfl) (pe_call G_fraction hr_fraction rfl (g_fraction S) kp_fraction b_fraction .nil px (pa_cons (pv 6) (pa_cons (pv 7) pa_nil))))
      (pss_cons (ps_if (PW.pt (pw_or (pt_cmpR (op_neD hr.units) (pv 8) (pe_call G__law_least hr__law_least rfl (g__law_least S) kp__law_least b__law_least .nil pass0 (pa_cons (pv 6) (pa_cons (pv 7) pa_nil))) (nomark _)) (pw_or1 (pt_cmp (pc_notN (pe_call G_need_fraction hr_need_fraction rfl (g_need_fraction S) kp_need_fraction b_need_fraction .nil px (pa_cons (pv 8) pa_nil))))))) (pss_one (ps_ret pe_bl)) pss_nil)
      (pss_one (ps_expr (pe_bm PySem.F.plainAttrs_list PySem.F.slot_list_append PySem.F.type_list_append mt_append (pv 3) (pa_cons (pv 8) pa_nil))))))))))
      (pss_cons (ps_asg (pv 3) (pg_unl (by rfl) (pgs_cons (pg_name (i := 9) sc_law.nd rfl (Or.inl rfl)) (pgs_cons (pg_name (i := 10) sc_law.nd rfl (Or.inl rfl)) (pgs_cons (pg_name (i := 11) sc_law.nd rfl (Or.inl rfl)) pgs_nil)))))
      (pss_cons (ps_if (PW.pt (pw_or (pt_cmpR (op_neD hr.units) (pe_call G_plus hr_plus rfl (g_plus S) kp_plus b_plus .nil px (pa_cons (pv 9) (pa_cons (pv 10) pa_nil))) (pe_call G__law_sum hr__law_sum rfl (g__law_sum S) kp__law_sum b__law_sum .nil pass0 (pa_cons (pv 9) (pa_cons (pv 10) (pa_cons pe_int pa_nil)))) (nomark _)) (pw_or (pt_cmpR (op_neD hr.units) (pe_call G_less hr_less rfl (g_less S) kp_less b_less .nil px (pa_cons (pv 9) (pa_cons (pv 10) pa_nil))) (pe_call G__law_sum hr__law_sum rfl (g__law_sum S) kp__law_sum b__law_sum .nil pass0 (pa_cons (pv 9) (pa_cons (pv 10) (pa_cons (pe_un un_neg pe_int) pa_nil)))) (nomark _)) (pw_or1 (pt_cmpR (op_neD hr.units) (pe_call G_times hr_times rfl (g_times S) kp_times b_times .nil px (pa_cons (pv 9) (pa_cons (pv 10) pa_nil))) (pe_call G__law_product hr__law_product rfl (g__law_product S) kp__law_product b__law_product .nil pass0 (pa_cons (pv 9) (pa_cons (pv 10) pa_nil))) (nomark _)))))) (pss_one (ps_ret pe_bl)) pss_nil)
      (pss_cons (ps_if (PW.pt (pw_or (pt_cmpR op_ne (pe_call G_before hr_before rfl (g_before S) kp_before b_before .nil px (pa_cons (pv 9) (pa_cons (pv 10) pa_nil))) (pe_call G__law_under hr__law_under rfl (g__law_under S) kp__law_under b__law_under .nil pass0 (pa_cons (pv 9) (pa_cons (pv 10) pa_nil))) (nomark _)) (pw_or1 (pt_cmp (pc_neI (pe_call G_whole hr_whole rfl (g_whole S) kp_whole b_whole .nil px (pa_cons (pv 9) pa_nil)) (pe_op op_fdivZ (pe_op op_sub (pe_ix ix_tup (pv 9) pe_int (fun _ _ => rfl)) (pe_op op_mod (pe_ix ix_tup (pv 9) pe_int (fun _ _ => rfl)) (pe_ix ix_tup (pv 9) pe_int (fun _ _ => rfl)))) (pe_ix ix_tup (pv 9) pe_int (fun _ _ => rfl)))))))) (pss_one (ps_ret pe_bl)) pss_nil)
      (pss_cons (ps_if (PW.pt (pw_or (pt_cmpR (op_neD hr.units) (pe_call G_plus hr_plus rfl (g_plus S) kp_plus b_plus .nil px (pa_cons (pe_call G_plus hr_plus rfl (g_plus S) kp_plus b_plus .nil px (pa_cons (pv 9) (pa_cons (pv 10) pa_nil))) (pa_cons (pv 11) pa_nil))) (pe_call G_plus hr_plus rfl (g_plus S) kp_plus b_plus .nil px (pa_cons (pv 9) (pa_cons (pe_call G_plus hr_plus rfl (g_plus S) kp_plus b_plus .nil px (pa_cons (pv 11) (pa_cons (pv 10) pa_nil))) pa_nil))) (nomark _)) (pw_or1 (pt_cmpR (op_neD hr.units) (pe_call G_times hr_times rfl (g_times S) kp_times b_times .nil px (pa_cons (pv 9) (pa_cons (pe_call G_plus hr_plus rfl (g_plus S) kp_plus b_plus .nil px (pa_cons (pv 10) (pa_cons (pv 11) pa_nil))) pa_nil))) (pe_call G_plus hr_plus rfl (g_plus S) kp_plus b_plus .nil px (pa_cons (pe_call G_times hr_times rfl (g_times S) kp_times b_times .nil px (pa_cons (pv 9) (pa_cons (pv 10) pa_nil))) (pa_cons (pe_call G_times hr_times rfl (g_times S) kp_times b_times .nil px (pa_cons (pv 11) (pa_cons (pv 9) pa_nil))) pa_nil))) (nomark _))))) (pss_one (ps_ret pe_bl)) pss_nil)
      (pss_cons (ps_if (PW.pt (pw_or (pt_cmpR (op_neD hr.units) (pe_call G_less hr_less rfl (g_less S) kp_less b_less .nil px (pa_cons (pe_call G_plus hr_plus rfl (g_plus S) kp_plus b_plus .nil px (pa_cons (pv 9) (pa_cons (pv 10) pa_nil))) (pa_cons (pv 10) pa_nil))) (pv 9) (nomark _)) (pw_or (pt_cmpR (op_neD hr.units) (pe_call G_less hr_less rfl (g_less S) kp_less b_less .nil px (pa_cons (pv 9) (pa_cons (pv 9) pa_nil))) (pe_tup (pa_cons pe_int (pa_cons pe_int pa_nil))) (nomark _)) (pw_or1 (pt_val (pe_call G_before hr_before rfl (g_before S) kp_before b_before .nil px (pa_cons (pv 9) (pa_cons (pv 9) pa_nil)))))))) (pss_one (ps_ret pe_bl)) pss_nil)
      (pss_cons (ps_if (PW.pt (pw_and (pt_cmp (pc_neI (pe_ix ix_tup (pv 10) pe_int (fun _ _ => rfl)) pe_int)) (pw_and1 (pt_cmpR (op_neD hr.units) (pe_call G_by hr_by rfl (g_by S) kp_by b_by .nil px (pa_cons (pe_call G_times hr_times rfl (g_times S) kp_times b_times .nil px (pa_cons (pv 9) (pa_cons (pv 10) pa_nil))) (pa_cons (pv 10) pa_nil))) (pv 9) (nomark _))))) (pss_one (ps_ret pe_bl)) pss_nil)
      (pss_cons (ps_if (PW.pt (pw_and (pt_cmp (pc_neI (pe_ix ix_tup (pv 10) pe_int (fun _ _ => rfl)) pe_int)) (pw_and1 (pt_cmpR (op_neD hr.units) (pe_call G_by hr_by rfl (g_by S) kp_by b_by .nil px (pa_cons (pv 9) (pa_cons (pv 10) pa_nil))) (pe_call G__law_least hr__law_least rfl (g__law_least S) kp__law_least b__law_least .nil pass0 (pa_cons (pe_op op_mulZ (pe_ix ix_tup (pv 9) pe_int (fun _ _ => rfl)) (pe_ix ix_tup (pv 10) pe_int (fun _ _ => rfl))) (pa_cons (pe_op op_mulZ (pe_ix ix_tup (pv 9) pe_int (fun _ _ => rfl)) (pe_ix ix_tup (pv 10) pe_int (fun _ _ => rfl))) pa_nil))) (nomark _))))) (pss_one (ps_ret pe_bl)) pss_nil)
      (pss_cons (ps_if (PW.pt (pw_and (pt_val (pe_call G_before hr_before rfl (g_before S) kp_before b_before .nil px (pa_cons (pv 9) (pa_cons (pv 10) pa_nil)))) (pw_and1 (pt_not (pt_val (pe_call G_before hr_before rfl (g_before S) kp_before b_before .nil px (pa_cons (pe_call G_plus hr_plus rfl (g_plus S) kp_plus b_plus .nil px (pa_cons (pv 9) (pa_cons (pv 11) pa_nil))) (pa_cons (pe_call G_plus hr_plus rfl (g_plus S) kp_plus b_plus .nil px (pa_cons (pv 10) (pa_cons (pv 11) pa_nil))) pa_nil)))))))) (pss_one (ps_ret pe_bl)) pss_nil)
      (pss_one (ps_if (pt_cmp (pc_neI (pe_bmT PySem.F.plainAttrs_tuple PySem.F.slot_tuple_count PySem.F.type_tuple_count mt_tcount (pa_cons (pe_call G_before hr_before rfl (g_before S) kp_before b_before .nil px (pa_cons (pv 9) (pa_cons (pv 10) pa_nil))) (pa_cons (pe_call G_before hr_before rfl (g_before S) kp_before b_before .nil px (pa_cons (pv 10) (pa_cons (pv 9) pa_nil))) pa_nil)) (pa_cons pe_bl pa_nil)) (pe_callTy call_int1 (by rfl) (z_int S) (by decide +kernel) (pa_cons (pe_cmpR (op_neD hr.units) (pv 9) (pv 10) (nomark _)) pa_nil)))) (pss_one (ps_ret pe_bl)) pss_nil))))))))))))))
      (pss_one (ps_ret pe_bl))), ?_⟩
    refine ⟨_, rfl, _, _, rfl, .inl hs, _, _, rfl, _, _, rfl, ?_⟩
    obtain ⟨r1, r2, r3⟩ := rng_ok 5 ((ns.map V.int).length : Int) (by decide)
    refine ⟨_, rfl, r1, r2, ?_⟩
    refine for_range (lo := 0) (fun i σ H' => Same H H' ∧ ∃ x1 x2 x3 x4 x5 x6 x7 x8 x9 x10 x11 : Option V, σ = [some (.ref a), x1, x2, x3, x4, x5, x6, x7, x8, x9, x10, x11]) ⟨Same.refl H, _, _, _, _, _, _, _, _, _, _, _, rfl⟩ ?_ ?_
    · rintro i σ H1 hi ⟨s1, x1, x2, x3, x4, x5, x6, x7, x8, x9, x10, x11, rfl⟩
      have hi' : (i : Int) < 6 := by
        have : i < 6 := Nat.lt_of_lt_of_le hi (by
          have z : (if (5 : Int) < 1 then 1 else 5) = (5 : Int) := by decide
          rw [z] at r3
          omega)
        omega
      -- more = _law_drawn(_law_cell(script, k), k)
      refine ⟨_, rfl, _, rfl, a, ns, _, rfl, s1.seq hs, hl, (by omega), (by omega), fun cell H2 s2 => ?_⟩
      refine ⟨_, rfl, cell, _, rfl, (by omega), (by omega), ?_⟩
      -- some = []
      refine ⟨(by show 0 ≤ sizeLine; decide), fun L hL => ?_⟩
      have s12 : Same H H2 := s1.trans s2
      have nL : H L = none := s12.free hL
      refine ⟨_, rfl, (by decide), (by decide), for_range (lo := 0) (fun j σ H' => Same H H' ∧ ∃ (vs : List V) (qs : List Rat), H' L = some (.lst vs) ∧ vs.length = j ∧ Paired (fun v q => FrA K H' v q ∧ Bq 40 q) vs qs ∧
        ∃ x4 x5 x6 x7 x8 x9 x10 x11 : Option V, σ = [some (.ref a), some (.int (0 + (i : Int))), some (.int (drawn cell (0 + (i : Int)))), some (.ref L), x4, x5, x6, x7, x8, x9, x10, x11]) ⟨s12.trans (same_new hL), [], [], upd_same, rfl, .nil, _, _, _, _, _, _, _, _, rfl⟩ ?_ ?_⟩
      · rintro j σ H3 hj ⟨s3, vs, qs, hLs, hlen, hp, x4, x5, x6, x7, x8, x9, x10, x11, rfl⟩
        have hj' : j < 3 := hj
        refine ⟨_, rfl, _, rfl, _, _, rfl, (by omega), (by omega), ?_⟩
        have d0 := drawn_nn (drawn cell (0 + (i : Int))) (0 + (j : Int))
        have d1 := drawn_lt (drawn cell (0 + (i : Int))) (0 + (j : Int))
        refine ⟨_, rfl, _, rfl, d0, (by omega), fun ab H4 hab s4 => ?_⟩
        refine ⟨_, rfl, _, _, rfl, rfl, ⟨by decide, by decide, by decide⟩, _, _, rfl, rfl, cdivW (by decide) (by decide +kernel), ?_⟩
        refine ⟨_, rfl, (Int.ediv_nonneg d0 (by decide)), (Int.lt_of_le_of_lt (Int.ediv_le_self _ d0) (by omega)), fun bl H5 hbl s5 => ?_⟩
        refine ⟨_, _, rfl, ?_⟩
        refine ⟨_, rfl, _, _, rfl, rfl, _, rfl, ?_⟩
        have s35 : Same H3 H5 := s4.trans s5
        refine ifb (fun hb => ⟨_, rfl, ?_⟩) (fun hb => ?_)
        · have hb0 : bl ≠ 0 := by simpa using hb
          have bq : Bq 40 (Rat.divInt ab bl) := bq_divInt hb0 hab hbl
          refine ⟨_, rfl, _, rfl, use_fraction hb0 (bq.mono (by decide)) fun v H6 s6 f6 => ?_⟩
          refine ⟨_, rfl, _, rfl, _, rfl, _, _, rfl, hb0, bq.mono (by decide), fun v2 H7 s7 f7 => ?_⟩
          refine ne_qq (f6.same s7) f7 ⟨_, rfl, iteF ?_⟩
          refine ⟨_, rfl, _, _, rfl, frb_of (f6.same s7), fun _ => ⟨_, rfl, iteF ?_⟩, fun z => by cases z⟩
          have s37 : Same H3 H7 := (s35.trans s6).trans s7
          refine ⟨_, rfl, .inl ⟨rfl, _, SqL.of (s37 _ _ hLs)⟩, _, rfl, _, _, _, rfl, rfl, s37 _ _ hLs, list_lt (by omega), ?_⟩
          refine ⟨fun b o e => ?_, vs ++ [v], qs ++ [Rat.divInt ab bl], upd_same, (by rw [List.length_append, hlen]; rfl), ?_, _, _, _, _, _, _, _, _, rfl⟩
          · rw [upd_ne (ne_of_none e nL)]
            exact s37 _ _ (s3 _ _ e)
          · have tk : Tk H3 (upd H7 L (.lst (vs ++ [v]))) := (Tk.of s37).trans (Tk.mut (by rw [s37 _ _ hLs]; trivial))
            exact paired_snoc (Paired.mapP hp fun v q z => ⟨z.1.tk tk, z.2⟩) ⟨(f6.same s7).tk (Tk.mut (by rw [s37 _ _ hLs]; trivial)), bq⟩
        · have hb0 : (7 : Int) ≠ 0 := by decide
          have bq : Bq 40 (Rat.divInt ab 7) := bq_divInt hb0 hab (by decide)
          refine ⟨_, rfl, _, rfl, use_fraction hb0 (bq.mono (by decide)) fun v H6 s6 f6 => ?_⟩
          refine ⟨_, rfl, _, rfl, _, rfl, _, _, rfl, hb0, bq.mono (by decide), fun v2 H7 s7 f7 => ?_⟩
          refine ne_qq (f6.same s7) f7 ⟨_, rfl, iteF ?_⟩
          refine ⟨_, rfl, _, _, rfl, frb_of (f6.same s7), fun _ => ⟨_, rfl, iteF ?_⟩, fun z => by cases z⟩
          have s37 : Same H3 H7 := (s35.trans s6).trans s7
          refine ⟨_, rfl, .inl ⟨rfl, _, SqL.of (s37 _ _ hLs)⟩, _, rfl, _, _, _, rfl, rfl, s37 _ _ hLs, list_lt (by omega), ?_⟩
          refine ⟨fun b o e => ?_, vs ++ [v], qs ++ [Rat.divInt ab 7], upd_same, (by rw [List.length_append, hlen]; rfl), ?_, _, _, _, _, _, _, _, _, rfl⟩
          · rw [upd_ne (ne_of_none e nL)]
            exact s37 _ _ (s3 _ _ e)
          · have tk : Tk H3 (upd H7 L (.lst (vs ++ [v]))) := (Tk.of s37).trans (Tk.mut (by rw [s37 _ _ hLs]; trivial))
            exact paired_snoc (Paired.mapP hp fun v q z => ⟨z.1.tk tk, z.2⟩) ⟨(f6.same s7).tk (Tk.mut (by rw [s37 _ _ hLs]; trivial)), bq⟩
      · rintro σ H3 ⟨s3, vs, qs, hLs, hlen, hp, x4, x5, x6, x7, x8, x9, x10, x11, rfl⟩
        have hlen' : vs.length = 3 := hlen
        match vs, qs, hp, hlen' with
        | [va, vb, vc], [qa, qb, qc], .cons ⟨fa, ba⟩ (.cons ⟨fb, bb⟩ (.cons ⟨fc, bc⟩ .nil)), _ =>
        -- a, b, c = some
        refine ⟨_, rfl, _, _, rfl, SqL.of hLs, rfl, _, _, rfl, _, _, rfl, _, _, rfl, rfl, ?_⟩
        have B : ∀ {n : Nat} {q : Rat}, Bq n q → n ≤ 4000 → Bq 4000 q := fun h k => h.mono k
        -- plus, less, times
        refine ⟨_, rfl, _, rfl, use_L2 fa fb (B ba (by decide)) (B bb (by decide)) (B (ba.add bb) (by decide)) fun v1 G1 t1 g1 => ?_⟩
        refine ⟨_, rfl, _, rfl, _, _, qa, qb, 1, rfl, fa.same t1, fb.same t1, B ba (by decide), B bb (by decide), .inl ⟨rfl, B (ba.add bb) (by decide), fun v2 G2 t2 g2 => ?_⟩⟩
        refine ne_qq (g1.same t2) g2 ⟨_, rfl, iteF ?_⟩
        have u2 := t1.trans t2
        refine ⟨_, rfl, _, rfl, use_L2 (fa.same u2) (fb.same u2) (B ba (by decide)) (B bb (by decide)) (B (ba.sub bb) (by decide)) fun v3 G3 t3 g3 => ?_⟩
        have u3 := u2.trans t3
        refine ⟨_, rfl, _, rfl, _, rfl, _, _, qa, qb, -1, rfl, fa.same u3, fb.same u3, B ba (by decide), B bb (by decide), .inr ⟨rfl, B (ba.sub bb) (by decide), fun v4 G4 t4 g4 => ?_⟩⟩
        refine ne_qq (g3.same t4) g4 ⟨_, rfl, iteF ?_⟩
        have u4 := u3.trans t4
        refine ⟨_, rfl, _, rfl, use_L2 (fa.same u4) (fb.same u4) (B ba (by decide)) (B bb (by decide)) (B (ba.mul bb) (by decide)) fun v5 G5 t5 g5 => ?_⟩
        have u5 := u4.trans t5
        refine ⟨_, rfl, _, rfl, _, _, qa, qb, rfl, fa.same u5, fb.same u5, B ba (by decide), B bb (by decide), B (ba.mul bb) (by decide), trivial, fun v6 G6 t6 g6 => ?_⟩
        refine ne_qq (g5.same t6) g6 ⟨_, rfl, iteF ?_⟩
        have u6 := u5.trans t6
        -- before, whole
        have useB : ∀ {u v : V} {a b : Rat} {H : Hp} {n m : Nat}, FrA K H u a → FrA K H v b → Bq n a → Bq m b → n ≤ 4000 → m ≤ 4000 → FrB K H u true ∧ FrB K H v true ∧ FrA K H u a ∧ FrA K H v b ∧ Bq 4000 a ∧ Bq 4000 b := fun h1 h2 b1 b2 n1 n2 => ⟨frb_of h1, frb_of h2, h1, h2, B b1 n1, B b2 n2⟩
        refine ⟨_, rfl, _, rfl, _, _, true, true, rfl, frb_of (fa.same u6), frb_of (fb.same u6), fun _ => ⟨_, _, fa.same u6, fb.same u6, B ba (by decide), B bb (by decide), ?_⟩, fun z => by cases z⟩
        refine ⟨_, rfl, _, rfl, _, _, qa, qb, rfl, fa.same u6, fb.same u6, B ba (by decide), B bb (by decide), rfl, _, rfl, ?_⟩
        refine iteNS rfl ?_
        refine ⟨_, rfl, _, true, rfl, frb_of (fa.same u6), fun _ => ⟨_, fa.same u6, B ba (by decide), ?_⟩, fun z => by cases z⟩
        obtain ⟨pa, rfl, ta⟩ := id fa
        obtain ⟨pb, rfl, tb⟩ := id fb
        have ta6 := Same.sqT u6 ta
        refine ⟨_, rfl, _, _, _, _, rfl, rfl, ta6, at0, _, rfl, _, _, _, _, rfl, rfl, ta6, at0, _, rfl, _, _, _, _, rfl, rfl, ta6, at1, _, _, rfl, rfl, den_pos qa, _, _, rfl, rfl, ?_⟩
        refine ⟨_, rfl, _, _, _, _, rfl, rfl, ta6, at1, _, _, rfl, rfl, divZ_small (den_ne qa) (Nat.lt_of_lt_of_le (bl_den ba) (Nat.pow_le_pow_right (by decide) (by decide))), _, _, rfl, rfl, _, rfl, ?_⟩
        have ef := floor_alt qa
        dsimp only
        rw [ef]
        refine iteNS rfl ?_
        -- plus(plus(a, b), c) != plus(a, plus(c, b))
        refine ⟨_, rfl, _, rfl, use_L2 (fa.same u6) (fb.same u6) (B ba (by decide)) (B bb (by decide)) (B (ba.add bb) (by decide)) fun v7 G7 t7 g7 => ?_⟩
        have u7 := u6.trans t7
        refine ⟨_, rfl, use_L2 g7 (fc.same u7) (B (ba.add bb) (by decide)) (B bc (by decide)) (B ((ba.add bb).add bc) (by decide)) fun v8 G8 t8 g8 => ?_⟩
        have u8 := u7.trans t8
        refine ⟨_, rfl, _, rfl, _, rfl, use_L2 (fc.same u8) (fb.same u8) (B bc (by decide)) (B bb (by decide)) (B (bc.add bb) (by decide)) fun v9 G9 t9 g9 => ?_⟩
        have u9 := u8.trans t9
        refine use_L2 (fa.same u9) g9 (B ba (by decide)) (B (bc.add bb) (by decide)) (B (ba.add (bc.add bb)) (by decide)) fun v10 G10 t10 g10 => ?_
        have u10 := u9.trans t10
        refine ne_q ((g8.same t9).same t10) g10 ?_
        rw [decide_eq_true (show qa + qb + qc = qa + (qc + qb) by grind)]
        refine ⟨_, rfl, iteF ?_⟩
        -- times(a, plus(b, c)) != plus(times(a, b), times(c, a))
        refine ⟨_, rfl, _, rfl, _, rfl, use_L2 (fb.same u10) (fc.same u10) (B bb (by decide)) (B bc (by decide)) (B (bb.add bc) (by decide)) fun v11 G11 t11 g11 => ?_⟩
        have u11 := u10.trans t11
        refine use_L2 (fa.same u11) g11 (B ba (by decide)) (B (bb.add bc) (by decide)) (B (ba.mul (bb.add bc)) (by decide)) fun v12 G12 t12 g12 => ?_
        have u12 := u11.trans t12
        refine ⟨_, rfl, _, rfl, use_L2 (fa.same u12) (fb.same u12) (B ba (by decide)) (B bb (by decide)) (B (ba.mul bb) (by decide)) fun v13 G13 t13 g13 => ?_⟩
        have u13 := u12.trans t13
        refine ⟨_, rfl, _, rfl, use_L2 (fc.same u13) (fa.same u13) (B bc (by decide)) (B ba (by decide)) (B (bc.mul ba) (by decide)) fun v14 G14 t14 g14 => ?_⟩
        have u14 := u13.trans t14
        refine use_L2 (g13.same t14) g14 (B (ba.mul bb) (by decide)) (B (bc.mul ba) (by decide)) (B ((ba.mul bb).add (bc.mul ba)) (by decide)) fun v15 G15 t15 g15 => ?_
        have u15 := u14.trans t15
        refine ne_q (((g12.same t13).same t14).same t15) g15 ?_
        rw [decide_eq_true (show qa * (qb + qc) = qa * qb + qc * qa by grind)]
        refine ⟨_, rfl, iteF ?_⟩
        -- less(plus(a, b), b) != a, less(a, a) != (0, 1), before(a, a)
        refine ⟨_, rfl, _, rfl, use_L2 (fa.same u15) (fb.same u15) (B ba (by decide)) (B bb (by decide)) (B (ba.add bb) (by decide)) fun v16 G16 t16 g16 => ?_⟩
        have u16 := u15.trans t16
        refine ⟨_, rfl, use_L2 g16 (fb.same u16) (B (ba.add bb) (by decide)) (B bb (by decide)) (B ((ba.add bb).sub bb) (by decide)) fun v17 G17 t17 g17 => ?_⟩
        have u17 := u16.trans t17
        refine ⟨_, rfl, ne_q g17 (fa.same u17) ?_⟩
        rw [decide_eq_true (show qa + qb - qb = qa by grind)]
        refine ⟨_, rfl, iteF ?_⟩
        refine ⟨_, rfl, _, rfl, use_L2 (fa.same u17) (fa.same u17) (B ba (by decide)) (B ba (by decide)) (B (ba.sub ba) (by decide)) fun v18 G18 t18 g18 => ?_⟩
        have u18 := u17.trans t18
        refine ⟨(by show 2 ≤ sizeLine; decide), fun p0 hp0 => ?_⟩
        have t19 := same_new (o := .tup [.int 0, .int 1]) hp0
        refine ne_q (g18.same t19) zero_q ?_
        have u19 := u18.trans t19
        rw [decide_eq_true (show qa - qa = 0 by grind)]
        refine ⟨_, rfl, iteF ?_⟩
        refine ⟨_, rfl, _, rfl, _, _, true, true, rfl, frb_of (fa.same u19), frb_of (fa.same u19), fun _ => ⟨_, _, fa.same u19, fa.same u19, B ba (by decide), B ba (by decide), ?_⟩, fun z => by cases z⟩
        rw [decide_eq_false (show ¬ qa < qa from Rat.lt_irrefl)]
        refine ⟨_, rfl, iteF ?_⟩
        -- by
        have hb0 : (!decide (qb.num = 0)) = true → qb ≠ 0 := fun h z => by
          subst z
          cases h
        refine seq_same (fun H0 w0 => ?_) (fun cont => cont _ (Same.refl _))
        have x0 := u19.trans w0
        have tb0 := Same.sqT x0 tb
        have ta0 := Same.sqT x0 ta
        refine seq_same (fun H1 w1 => ?_) (fun cont => ?_)
        · have x1 := x0.trans w1
          have tb1 := Same.sqT x1 tb
          have ta1 := Same.sqT x1 ta
          refine seq_same (fun H2 w2 => ?_) (fun cont => ?_)
          · have x2 := x1.trans w2
            refine seq_same (fun H3 w3 => ?_) (fun cont => ?_)
            · -- the last one
              have x3 := x2.trans w3
              refine ⟨_, rfl, _, rfl, _, _, true, true, rfl, frb_of (fa.same x3), frb_of (fb.same x3), fun _ => ⟨_, _, fa.same x3, fb.same x3, B ba (by decide), B bb (by decide), ?_⟩, fun z => by cases z⟩
              refine ⟨_, rfl, _, rfl, _, _, true, true, rfl, frb_of (fb.same x3), frb_of (fa.same x3), fun _ => ⟨_, _, fb.same x3, fa.same x3, B bb (by decide), B ba (by decide), ?_⟩, fun z => by cases z⟩
              refine ⟨(by show 2 ≤ sizeLine; decide), fun pc hpc => ?_⟩
              have w4 := same_new (o := .tup [.bl (decide (qa < qb)), .bl (decide (qb < qa))]) hpc
              have x4 := x3.trans w4
              refine ⟨_, _, _, rfl, rfl, SqT.of upd_same, rfl, rfl, ?_⟩
              refine ⟨_, rfl, _, rfl, ne_q (fa.same x4) (fb.same x4) ?_⟩
              refine .inr ⟨_, rfl, _, _, rfl, rfl, _, rfl, ?_⟩
              have ec := cnt_two qa qb
              dsimp only
              rw [ec]
              refine iteNS rfl ?_
              refine ⟨s3.trans x4, _, _, _, _, _, _, _, _, _, _, _, rfl⟩
            · -- before(a, b) and not before(plus(a, c), plus(b, c))
              refine ⟨_, rfl, _, rfl, _, _, true, true, rfl, frb_of (fa.same x2), frb_of (fb.same x2), fun _ => ⟨_, _, fa.same x2, fb.same x2, B ba (by decide), B bb (by decide), ?_⟩, fun z => by cases z⟩
              refine ⟨_, rfl, ifb (fun hlt => ?_) (fun _ => iteF (cont _ (Same.refl _)))⟩
              refine ⟨_, rfl, _, rfl, use_L2 (fa.same x2) (fc.same x2) (B ba (by decide)) (B bc (by decide)) (B (ba.add bc) (by decide)) fun y1 K1 z1 k1 => ?_⟩
              refine ⟨_, rfl, _, rfl, use_L2 (fb.same (x2.trans z1)) (fc.same (x2.trans z1)) (B bb (by decide)) (B bc (by decide)) (B (bb.add bc) (by decide)) fun y2 K2 z2 k2 => ?_⟩
              refine ⟨_, _, true, true, rfl, frb_of (k1.same z2), frb_of k2, fun _ => ⟨_, _, k1.same z2, k2, B (ba.add bc) (by decide), B (bb.add bc) (by decide), ?_⟩, fun z => by cases z⟩
              have hlt' : qa < qb := of_decide_eq_true hlt
              rw [decide_eq_true (show qa + qc < qb + qc from Rat.add_lt_add_right.mpr hlt')]
              exact ⟨_, rfl, iteF (cont _ (z1.trans z2))⟩
          · -- by(a, b) != _law_least(a[0] * b[1], a[1] * b[0])
            refine ⟨_, rfl, _, _, _, _, rfl, rfl, tb1, at0, _, _, rfl, rfl, _, rfl, ?_⟩
            refine ifb (fun hn => ?_) (fun _ => iteF (cont _ (Same.refl _)))
            have hn' : qb ≠ 0 := hb0 hn
            refine ⟨_, rfl, _, rfl, use_by (fa.same x1) (fb.same x1) (B ba (by decide)) (B bb (by decide)) hn' (B (ba.div bb hn') (by decide)) fun y1 K1 z1 k1 => ?_⟩
            have tb2 := Same.sqT z1 tb1
            have ta2 := Same.sqT z1 ta1
            refine ⟨_, rfl, _, _, _, _, rfl, rfl, ta2, at0, _, rfl, _, _, _, _, rfl, rfl, tb2, at1, _, _, rfl, rfl, mulZ ba.num (bl_den bb) (by decide), ?_⟩
            refine ⟨_, rfl, _, _, _, _, rfl, rfl, ta2, at1, _, rfl, _, _, _, _, rfl, rfl, tb2, at0, _, _, rfl, rfl, mulZ (bl_den ba) bb.num (by decide), ?_⟩
            refine ⟨_, _, rfl, Int.mul_ne_zero (den_ne qa) (num_ne hn'), by rw [← div_eq]; exact B (ba.div bb hn') (by decide), fun y2 K2 z2 k2 => ?_⟩
            rw [← div_eq] at k2
            exact ne_qq (k1.same z2) k2 ⟨_, rfl, iteF (cont _ (z1.trans z2))⟩
        · -- by(times(a, b), b) != a
          refine ⟨_, rfl, _, _, _, _, rfl, rfl, tb0, at0, _, _, rfl, rfl, _, rfl, ?_⟩
          refine ifb (fun hn => ?_) (fun _ => iteF (cont _ (Same.refl _)))
          have hn' : qb ≠ 0 := hb0 hn
          refine ⟨_, rfl, _, rfl, use_L2 (fa.same x0) (fb.same x0) (B ba (by decide)) (B bb (by decide)) (B (ba.mul bb) (by decide)) fun y1 K1 z1 k1 => ?_⟩
          refine ⟨_, rfl, use_by k1 (fb.same (x0.trans z1)) (B (ba.mul bb) (by decide)) (B bb (by decide)) hn' (B ((ba.mul bb).div bb hn') (by decide)) fun y2 K2 z2 k2 => ?_⟩
          refine ⟨_, rfl, ne_q k2 (fa.same ((x0.trans z1).trans z2)) ?_⟩
          rw [decide_eq_true (show qa * qb / qb = qa from Rat.mul_div_cancel hn')]
          exact ⟨_, rfl, iteF (cont _ (z1.trans z2))⟩
    · rintro σ H1 ⟨s1, x1, x2, x3, x4, x5, x6, x7, x8, x9, x10, x11, rfl⟩
      exact kQ H1
end

theorem facts {P : Program} {w : World} {K : PySem.W.Frag} {h : Heap} {mg : Str → Option Value} {f : Addr} (X : K.In h) (G : h.Ns mainGlobals mg) (hfa : mg ("law" : Str) = some (.ref f)) (c : He.SaysX fa fn ts tf exB w h K) :
    ∃ fd : FuncData, (∀ (s : Shared) (v : Value), BindsTo s fd ⟨[v], []⟩ [("script", v)]) ∧ ∀ base : Heap, K.In base → base.Ns mainGlobals mg → FnOk P w K mg base (L2.CX P w) 6 f fd ["script"] (spLaw K) := by
  have S0 : Sa K mg h := ⟨X, G, c.t.d, c.more⟩
  obtain ⟨fd, F⟩ := c.t.d.def_ 26 (d := d_law) rfl
  have e := hfa.symm.trans (g_law S0)
  cases e
  have b := FunD.bindsA (ps := ["script"]) F fun _ _ _ _ _ _ us hl => match us, hl with | [_], _ => rfl
  exact ⟨fd, fun s v => b s [v] rfl, fun base X' G' => ok_law ⟨X', G', c.t.d, c.more⟩ F⟩
end Qt
open PySem PySem.W PySem.Calls PyProof.Rows
theorem PySem.Challenge.cw_quickturns_k10_whole_fractions_holds : PySem.Challenge.rw_quickturns_k10_whole_fractions.Holds := by
  w_on; o_law
  refine HandSHeadRun.head_any (r := OpenLaw.row PySem.Challenge.rw_quickturns_k10_whole_fractions) (q := view (OpenLaw.row PySem.Challenge.rw_quickturns_k10_whole_fractions).prog [31]) (H := Qt.hk) (ob := Qt.ob) (M := 4000) (loose := Qt.loose) (d := HandSHeadRun.topDef (OpenLaw.row PySem.Challenge.rw_quickturns_k10_whole_fractions).prog 31) (kwd := []) Qt.ob_eq
    (by kernel_rfl) (fun s => by kernel_rfl) Qt.run (by kernel_rfl) (by kernel_rfl) (by kernel_rfl) (by rfl) (by first | assumption | decide +kernel) (by decide +kernel) ⟨rfl, rfl, rfl, rfl, rfl, by decide +kernel⟩ ?hw ?hc
  case hw => w_witness2
  case hc =>
    refine LamX.walk_ofTsE (l := PySem.Challenge.rw_quickturns_k10_whole_fractions) (n := 63) (k := 6) (x := "script") (CX := fun w => L2.CX PySem.Challenge.rw_quickturns_k10_whole_fractions.prog w) rfl (by decide) (by kernel_rfl) ⟨rfl, by decide, by decide⟩ ?F (fun _ _ _ _ _ z => by
      obtain ⟨_, _, _, _, _, _, _, _, _, _, _, _, z⟩ := z
      exact z)
    intro w mg fa h Y G hmg0
    obtain ⟨K, KX, c⟩ := Y
    have hmg : mg ("law" : PySem.Str) = some (.ref fa) := by
      have e : (HandSHeadRun.topDef (OpenLaw.row PySem.Challenge.rw_quickturns_k10_whole_fractions).prog 31).name = ("law" : PySem.Str) := by kernel_rfl
      rw [← e]
      exact hmg0
    obtain ⟨fd, hb, hF⟩ := Qt.facts (P := PySem.Challenge.rw_quickturns_k10_whole_fractions.prog) (w := w) KX G hmg c
    exact ⟨K, KX, fd, [], Qt.spLaw K, (fun _ z => nomatch z), (fun _ z => nomatch z), (fun _ z => nomatch z), hb, fun H a ns hl _ _ hS => ⟨a, ns, rfl, hS, hl, fun _ => rfl⟩, fun base X G _ => hF base X G⟩
