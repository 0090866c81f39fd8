import PyProof.Rows.All
import Wide.All
import OpenK.AllK
import Wide.FinOn
import KE.KStateDown
import KE.KNestM
import Lean
import HandS.ForMost
import HandS.Exc
import HandS.TryOnly
import HandS.ExcOwn
import HandS.WordsExc
import HandS.More
import HandS.Wide
import HandS.IsInst
import HandS.NoneIn
import HandS.Defaults
import HandS.Lambda
import HandS.EndTab
import HandS.Head0
import HandS.Head1
import HandS.Head2
import HandS.HeadEnd
import HandS.HeadHook1
import HandS.Walk
import HandS.HeadHook2
import HandS.HeadHook3
import HandS.HeadHook4
import HandS.HeadWalk
import HandS.ExcCtx
import HandS.SortKw
import KE.SortKeyHeap
import HandS.Nested
import HandS.ExcValue
import HandS.HotCalls
import HandS.ExcIs
import HandS.CallLocal
import PySem.Challenge.RW_quickturns_k11_fractions_refused
set_option Elab.async false
set_option linter.all false
set_option maxRecDepth 100000
set_option maxHeartbeats 0
namespace Qt
theorem gcd_fmod (a b : Int) : Int.gcd b (a.fmod b) = Int.gcd a b := by
  have h : a.fmod b = a + b * (-(a.fdiv b)) := by
    have := Int.mul_fdiv_add_fmod a b
    grind
  rw [h, Int.gcd_add_mul_left_right, Int.gcd_comm]
theorem fmod_lt (a : Int) {b : Int} (h : b ≠ 0) : (a.fmod b).natAbs < b.natAbs := by
  rcases Int.lt_or_gt_of_ne h with h | h
  · have e : (-a).fmod (-b) = -(a.fmod b) := Int.neg_fmod_neg ..
    have h2 := Int.fmod_nonneg_of_pos (-a) (b := -b) (by omega)
    have h3 := Int.fmod_lt_of_pos (-a) (b := -b) (by omega)
    omega
  · have h2 := Int.fmod_nonneg_of_pos a h
    have h3 := Int.fmod_lt_of_pos a h
    omega
/-- the divisor that least takes -/
def lby (a b : Int) : Int := if b < 0 then 0 - (Int.gcd a b : Int) else (Int.gcd a b : Int)
theorem gcd_pos (a : Int) {b : Int} (h : b ≠ 0) : 0 < Int.gcd a b := Int.gcd_pos_of_ne_zero_right a h
theorem lby_ne (a : Int) {b : Int} (h : b ≠ 0) : lby a b ≠ 0 := by
  have := gcd_pos a h
  unfold lby
  split <;> omega
theorem lby_num (a : Int) {b : Int} (h : b ≠ 0) : a = lby a b * (Rat.divInt a b).num := by
  have hp := gcd_pos a h
  have hd : (Int.gcd a b : Int) ∣ a := Int.gcd_dvd_left ..
  rw [Rat.num_divInt, Int.gcd_comm b a]
  unfold lby
  rcases Int.lt_or_gt_of_ne h with h | h
  · rw [if_pos h, Int.sign_eq_neg_one_of_neg h]
    obtain ⟨c, hc⟩ := hd
    have e : (-1 * a) / (Int.gcd a b : Int) = -c := by
      rw [show -1 * a = (Int.gcd a b : Int) * (-c) by grind]
      exact Int.mul_ediv_cancel_left _ (by omega)
    rw [e]
    grind
  · rw [if_neg (by omega), Int.sign_eq_one_of_pos h, Int.one_mul]
    exact (Int.mul_ediv_cancel' hd).symm
theorem lby_den (a : Int) {b : Int} (h : b ≠ 0) : b = lby a b * ((Rat.divInt a b).den : Int) := by
  have hp := gcd_pos a h
  have hd : (Int.gcd a b : Int) ∣ b := Int.gcd_dvd_right ..
  have hn : Int.gcd a b ∣ b.natAbs := Int.ofNat_dvd_left.mp hd
  rw [Rat.den_divInt, if_neg h, Int.gcd_comm b a]
  obtain ⟨c, hc⟩ := hn
  rw [hc, Nat.mul_div_cancel_left _ hp]
  unfold lby
  split
  · have : b = -(b.natAbs : Int) := by omega
    rw [hc] at this
    grind
  · have : b = (b.natAbs : Int) := by omega
    rw [hc] at this
    grind
theorem fdiv_of_mul {g q : Int} (h : g ≠ 0) : (g * q).fdiv g = q := Int.mul_fdiv_cancel_left q h
theorem least_num (a : Int) {b : Int} (h : b ≠ 0) : a.fdiv (lby a b) = (Rat.divInt a b).num := by
  have e := lby_num a h
  have z := lby_ne a h
  generalize hg : lby a b = g at e z ⊢
  generalize hd : (Rat.divInt a b).num = d at e ⊢
  rw [e]
  exact fdiv_of_mul z
theorem least_den (a : Int) {b : Int} (h : b ≠ 0) : b.fdiv (lby a b) = ((Rat.divInt a b).den : Int) := by
  have e := lby_den a h
  have z := lby_ne a h
  generalize hg : lby a b = g at e z ⊢
  generalize hd : ((Rat.divInt a b).den : Int) = d at e ⊢
  rw [e]
  exact fdiv_of_mul z
/-- numerator and denominator below 2 ^ n -/
structure Bq (n : Nat) (q : Rat) : Prop where
  num : q.num.natAbs < 2 ^ n
  den : q.den < 2 ^ n
theorem Bq.mono {n m : Nat} {q : Rat} (h : Bq n q) (k : n ≤ m) : Bq m q :=
  ⟨Nat.lt_of_lt_of_le h.num (Nat.pow_le_pow_right (by decide) k), Nat.lt_of_lt_of_le h.den (Nat.pow_le_pow_right (by decide) k)⟩
theorem bq_divInt {n : Nat} {a b : Int} (hb : b ≠ 0) (h1 : a.natAbs < 2 ^ n) (h2 : b.natAbs < 2 ^ n) : Bq n (Rat.divInt a b) := by
  have e1 := lby_num a hb
  have e2 := lby_den a hb
  have z := lby_ne a hb
  have k1 : (Rat.divInt a b).num.natAbs ≤ a.natAbs := by
    rw [congrArg Int.natAbs e1, Int.natAbs_mul]
    exact Nat.le_mul_of_pos_left _ (by omega)
  have k2 : (Rat.divInt a b).den ≤ b.natAbs := by
    rw [congrArg Int.natAbs e2, Int.natAbs_mul, Int.natAbs_natCast]
    exact Nat.le_mul_of_pos_left _ (by omega)
  exact ⟨Nat.lt_of_le_of_lt k1 h1, Nat.lt_of_le_of_lt k2 h2⟩
theorem den_ne (q : Rat) : (q.den : Int) ≠ 0 := by have := q.den_nz; omega
theorem den_pos (q : Rat) : 0 < (q.den : Int) := by have := q.den_nz; omega
theorem dd_ne (a b : Rat) : ((a.den : Int) * b.den) ≠ 0 := Int.mul_ne_zero (den_ne a) (den_ne b)
theorem add_eq (a b : Rat) : a + b = Rat.divInt (a.num * b.den + b.num * a.den) (a.den * b.den) := by
  rw [Rat.add_def', ← Int.natCast_mul, Rat.divInt_ofNat]
theorem sub_eq (a b : Rat) : a - b = Rat.divInt (a.num * b.den - b.num * a.den) (a.den * b.den) := by
  rw [Rat.sub_def', ← Int.natCast_mul, Rat.divInt_ofNat]
theorem mul_eq (a b : Rat) : a * b = Rat.divInt (a.num * b.num) (a.den * b.den) := by
  rw [Rat.mul_def', ← Int.natCast_mul, Rat.divInt_ofNat]
theorem num_ne {b : Rat} (h : b ≠ 0) : b.num ≠ 0 := fun z => h (Rat.num_eq_zero.mp z)
theorem div_eq (a b : Rat) : a / b = Rat.divInt (a.num * b.den) (a.den * b.num) := by
  rw [Rat.div_def, Rat.inv_def, ← Rat.num_divInt_den a, Rat.divInt_mul_divInt, Rat.num_divInt_den]
theorem lt_eq (a b : Rat) : decide (a.num * (b.den : Int) < b.num * (a.den : Int)) = decide (a < b) := decide_eq_decide.mpr (Rat.lt_iff a b).symm
theorem pow_mul_lt {x y n m : Nat} (h1 : x < 2 ^ n) (h2 : y < 2 ^ m) : x * y < 2 ^ (n + m) := by
  rw [Nat.pow_add]
  exact Nat.mul_lt_mul'' h1 h2
theorem Bq.add {n m : Nat} {a b : Rat} (ha : Bq n a) (hb : Bq m b) : Bq (n + m + 1) (a + b) := by
  rw [add_eq]
  refine bq_divInt (dd_ne a b) ?_ ?_
  · have h1 : (a.num * (b.den : Int)).natAbs < 2 ^ (n + m) := by
      rw [Int.natAbs_mul, Int.natAbs_natCast]
      exact pow_mul_lt ha.num hb.den
    have h2 : (b.num * (a.den : Int)).natAbs < 2 ^ (n + m) := by
      rw [Int.natAbs_mul, Int.natAbs_natCast, Nat.add_comm]
      exact pow_mul_lt hb.num ha.den
    rw [Nat.pow_succ]
    omega
  · rw [Int.natAbs_mul, Int.natAbs_natCast, Int.natAbs_natCast]
    exact Nat.lt_of_lt_of_le (pow_mul_lt ha.den hb.den) (Nat.pow_le_pow_right (by decide) (by omega))
theorem Bq.neg {n : Nat} {a : Rat} (ha : Bq n a) : Bq n (-a) := ⟨by rw [Rat.neg_num, Int.natAbs_neg]; exact ha.num, ha.den⟩
theorem Bq.sub {n m : Nat} {a b : Rat} (ha : Bq n a) (hb : Bq m b) : Bq (n + m + 1) (a - b) := by
  rw [Rat.sub_eq_add_neg]
  exact ha.add hb.neg
theorem Bq.mul {n m : Nat} {a b : Rat} (ha : Bq n a) (hb : Bq m b) : Bq (n + m) (a * b) := by
  rw [mul_eq]
  refine bq_divInt (dd_ne a b) ?_ ?_
  · rw [Int.natAbs_mul]
    exact pow_mul_lt ha.num hb.num
  · rw [Int.natAbs_mul, Int.natAbs_natCast, Int.natAbs_natCast]
    exact pow_mul_lt ha.den hb.den
theorem Bq.div {n m : Nat} {a b : Rat} (ha : Bq n a) (hb : Bq m b) (h0 : b ≠ 0) : Bq (n + m) (a / b) := by
  rw [div_eq]
  refine bq_divInt (Int.mul_ne_zero (den_ne a) (num_ne h0)) ?_ ?_
  · rw [Int.natAbs_mul, Int.natAbs_natCast]
    exact pow_mul_lt ha.num hb.den
  · rw [Int.natAbs_mul, Int.natAbs_natCast]
    exact pow_mul_lt ha.den hb.num
end Qt

namespace Qt
open PySem PySem.Spec PyProof.Rows L2
/-! ### rules of my own over the layer -/
def CDivZ (i j : Int) : Prop := j ≠ 0 ∧ Builtin.divisionGoesByPylong i j = false
def CMulZ (i j : Int) : Prop := IntMulOk i j
section
variable {X : Cx}
theorem op_fdivZ : OpR X (binaryOp .FloorDiv) (rI CDivZ fun i j => .int (i.fdiv j)) := opI fun _ _ _ _ _ _ _ hc q => floordiv_int hc.1 q (.inl hc.2)
theorem op_mulZ : OpR X (binaryOp .Mult) (rI CMulZ fun i j => .int (i * j)) := opI fun _ _ _ _ _ _ _ hc q => mul_int q hc
end
theorem bits_le {i : Int} {n : Nat} (h : i.natAbs < 2 ^ n) : Builtin.Int.intBits i ≤ n := PyProof.Rows.intBits_le h
theorem mulZ {i j : Int} {a b : Nat} (ha : i.natAbs < 2 ^ a) (hb : j.natAbs < 2 ^ b) (h : a + b ≤ 1000000) : CMulZ i j := by
  have h1 := bits_le ha
  have h2 := bits_le hb
  have e : bitsLine = 134217728 := by decide
  unfold CMulZ IntMulOk
  intro z
  rw [Bool.and_eq_true] at z
  have z2 := z.2
  unfold Builtin.Int.intTooBig at z2
  have z3 := of_decide_eq_true z2
  rw [e] at z3
  omega
/-- a product divided by one factor, the other below 2 ^ 4000: C does it by itself -/
theorem divZ {i j q : Int} (hj : j ≠ 0) (e : i = j * q) (hq : q.natAbs < 2 ^ 4000) : CDivZ i j := by
  refine ⟨hj, ?_⟩
  have lj : (if j == 0 then 0 else j.natAbs.log2 / 30 + 1) = j.natAbs.log2 / 30 + 1 := if_neg (by simpa using hj)
  have k : ¬ ((if i == 0 then 0 else i.natAbs.log2 / 30 + 1) > (if j == 0 then 0 else j.natAbs.log2 / 30 + 1) + 150) := by
    rw [lj]
    split
    · omega
    · rename_i z
      have z' : i ≠ 0 := by simpa using z
      have hi : i.natAbs < 2 ^ (j.natAbs.log2 + 1 + 4000) := by
        rw [e, Int.natAbs_mul]
        exact pow_mul_lt Nat.lt_log2_self hq
      have h1 : i.natAbs.log2 < j.natAbs.log2 + 1 + 4000 := (Nat.log2_lt (by omega)).mpr hi
      omega
  show (decide ((if j == 0 then 0 else j.natAbs.log2 / 30 + 1) > 300) && decide ((if i == 0 then 0 else i.natAbs.log2 / 30 + 1) > (if j == 0 then 0 else j.natAbs.log2 / 30 + 1) + 150)) = false
  rw [decide_eq_false k, Bool.and_false]
theorem divZ_small {i j : Int} (hj : j ≠ 0) (h : j.natAbs < 2 ^ 8000) : CDivZ i j := ⟨hj, PyProof.noPylong_of_log2 (by
  have : j.natAbs.log2 < 8000 := (Nat.log2_lt (by omega)).mpr h
  omega)⟩
section
variable {X : Cx}
theorem pe_gI {x : Str} {i : Int} {pos : Pos} (h : ∃ t, X.mg x = some (.int i t)) (hg : Gl X x := by rfl) (hd : (x == ("__debug__" : Str)) = false := by decide) : PE X (.Name x pos) (tC (.int i)) := by
  obtain ⟨t, h⟩ := h
  exact pe_glob hg h ⟨t, rfl⟩ hd
theorem pe_gS {x z : Str} {pos : Pos} (h : ∃ t, X.mg x = some (.str z t)) (hg : Gl X x := by rfl) (hd : (x == ("__debug__" : Str)) = false := by decide) : PE X (.Name x pos) (tC (.str z)) := by
  obtain ⟨t, h⟩ := h
  exact pe_glob hg h ⟨t, rfl⟩ hd
theorem pe_gR {x : Str} {a : Addr} {pos : Pos} (h : X.mg x = some (.ref a)) (hg : Gl X x := by rfl) (hd : (x == ("__debug__" : Str)) = false := by decide) : PE X (.Name x pos) (tC (.ref a)) := pe_glob hg h rfl hd
end
theorem ifb {b : Bool} {A B : Prop} (h1 : b = true → A) (h2 : b = false → B) : if b = true then A else B := by
  cases b with
  | true => exact iteT (h1 rfl)
  | false => exact iteF (h2 rfl)
/-! ### fractions in the heap -/
def qv (q : Rat) : List V := [.int q.num, .int (q.den : Int)]
/-- v is the fraction q -/
def FrA (K : PySem.W.Frag) (H : Hp) (v : V) (q : Rat) : Prop := ∃ p, v = .ref p ∧ SqT K H p (qv q)
theorem Same.sqT {K : PySem.W.Frag} {H H' : Hp} {a : Addr} {xs : List V} (e : Same H H') (h : SqT K H a xs) : SqT K H' a xs := by
  rcases h with (h | ⟨o, h⟩) | h
  · exact .inl (.inl (e _ _ h))
  · exact .inl (.inr ⟨o, e _ _ h⟩)
  · exact .inr h
theorem FrA.same {K : PySem.W.Frag} {H H' : Hp} {v : V} {q : Rat} (h : FrA K H v q) (e : Same H H') : FrA K H' v q := by
  obtain ⟨p, rfl, h⟩ := h
  exact ⟨p, rfl, Same.sqT e h⟩
theorem same_new {H : Hp} {p : Addr} {o : HO} (h : H p = none) : Same H (upd H p o) := fun b u e => by
  rw [upd_ne (ne_of_none e h)]
  exact e
theorem fra_new {K : PySem.W.Frag} {H : Hp} {p : Addr} {q : Rat} : FrA K (upd H p (.tup (qv q))) (.ref p) q := ⟨p, rfl, SqT.of upd_same⟩
/-- the kinds of things that are asked about -/
inductive Kn : String → Prop where
  | int : Kn "int" | bool : Kn "bool" | none : Kn "NoneType" | str : Kn "str" | tuple : Kn "tuple" | list : Kn "list"
theorem kn_int {K : PySem.W.Frag} {n : String} (h : Kn n) : PySem.W.kitOne K (.type n) (.type "int") = some (decide (n = "int" ∨ n = "bool")) := by
  cases h <;> exact kit_ty (by decide +kernel)
theorem kn_bool {K : PySem.W.Frag} {n : String} (h : Kn n) : PySem.W.kitOne K (.type n) (.type "bool") = some (decide (n = "bool")) := by
  cases h <;> exact kit_ty (by decide +kernel)
theorem kn_tuple {K : PySem.W.Frag} {n : String} (h : Kn n) : PySem.W.kitOne K (.type n) (.type "tuple") = some (decide (n = "tuple")) := by
  cases h <;> exact kit_ty (by decide +kernel)
theorem kn_str {K : PySem.W.Frag} {n : String} (h : Kn n) : PySem.W.kitOne K (.type n) (.type "str") = some (decide (n = "str")) := by
  cases h <;> exact kit_ty (by decide +kernel)
theorem tyx_tup {K : PySem.W.Frag} {H : Hp} {p : Addr} {xs : List V} (h : SqT K H p xs) : TyX K H (.ref p) (.type "tuple") := by
  rcases h with (h | ⟨o, h⟩) | h
  · exact .base (.tup h)
  · exact .fTuple h
  · obtain ⟨o, its, n, h1, h2, _⟩ := h
    exact .kTuple h1 h2
/-! ### promises of defs -/
/-- a def of the top keeps its promise, and may be called -/
def Pm (P : Program) (w : World) (K : PySem.W.Frag) (mg : Str → Option Value) (base : Heap) (C : CXT) (k : Nat) (x : Str) (ps : List Str) (sp : Sp) : Prop :=
  ∃ fd, FnOk P w K mg base C k (He.ga K x) fd ps sp ∧ Binds K fd ps [] ∧ PySem.W.keepIn K (.ref (He.ga K x)) = true
/-- a method, an __init__ -/
def PmM (P : Program) (w : World) (K : PySem.W.Frag) (mg : Str → Option Value) (base : Heap) (C : CXT) (k : Nat) (c m : Str) (ps : List Str) (sp : Sp) : Prop :=
  ∃ fd, FnOk P w K mg base C k (He.ma K (He.ga K c) m) fd ps sp ∧ Binds K fd ps []
/-- a fraction is handed back; all that was tracked is as it was -/
def RetQ (K : PySem.W.Frag) (H : Hp) (Q : VK) (q : Rat) : Prop := ∀ v H', Same H H' → FrA K H' v q → Q v H'
theorem RetQ.new {K : PySem.W.Frag} {H : Hp} {Q : VK} {q : Rat} (h : RetQ K H Q q) {p : Addr} (hp : H p = none) : Q (.ref p) (upd H p (.tup (qv q))) := h _ _ (same_new hp) fra_new
/-- whether a thing is a fraction -/
inductive FrB (K : PySem.W.Frag) (H : Hp) : V → Bool → Prop where
  | no {v : V} {n : String} (ty : TyX K H v (.type n)) (kn : Kn n) (ne : n ≠ "tuple") : FrB K H v false
  | len {p : Addr} {xs : List V} (h : SqT K H p xs) (l : xs.length ≠ 2) : FrB K H (.ref p) false
  | parts {p : Addr} {x y : V} {n m : String} (h : SqT K H p [x, y]) (tx : TyX K H x (.type n)) (kx : Kn n) (ty : TyX K H y (.type m)) (ky : Kn m) (ne : ¬ (n = "int" ∧ m = "int")) : FrB K H (.ref p) false
  | nums {p : Addr} {n d : Int} (h : SqT K H p [.int n, .int d]) : FrB K H (.ref p) (decide (0 < d) && decide (Int.gcd n d = 1))
theorem frb_of {K : PySem.W.Frag} {H : Hp} {v : V} {q : Rat} (h : FrA K H v q) : FrB K H v true := by
  obtain ⟨p, rfl, h⟩ := h
  have e : (decide (0 < (q.den : Int)) && decide (Int.gcd q.num (q.den : Int) = 1)) = true := by
    have h1 := den_pos q
    have h2 : Int.gcd q.num (q.den : Int) = 1 := q.reduced
    rw [decide_eq_true h1, decide_eq_true h2] <;> rfl
  rw [← e]
  exact .nums h
theorem FrB.same {K : PySem.W.Frag} {H H' : Hp} {v : V} {r : Bool} (h : FrB K H v r) (e : Same H H') (hk : ∀ x n, TyX K H x (.type n) → TyX K H' x (.type n)) : FrB K H' v r := by
  cases h with
  | no ty kn ne => exact .no (hk _ _ ty) kn ne
  | len h l => exact .len (Same.sqT e h) l
  | parts h tx kx ty ky ne => exact .parts (Same.sqT e h) (hk _ _ tx) kx (hk _ _ ty) ky ne
  | nums h => exact .nums (Same.sqT e h)
theorem at0 {x y : V} : atI [x, y] 0 = some x := rfl
theorem at1 {x y : V} : atI [x, y] 1 = some y := rfl
def rTCount (K : PySem.W.Frag) : V → List V → Hp → VK → Prop := fun x xs H Q => ∃ (p : Addr) (ys : List V) (y : V), x = .ref p ∧ xs = [y] ∧ SqT K H p ys ∧ flatV y = true ∧ ys.all flatV = true ∧ Q (.int (ys.countP (fun z => eqV z y) : Nat)) H
theorem countU {y : V} : ∀ {ys : List V} {us : List Value}, Vals ys us → ys.all flatV = true → us.countP (eqU y) = ys.countP (fun z => eqV z y)
  | _, _, .nil, _ => rfl
  | z :: ys, u :: us, .cons r t, h => by
    rw [List.all_cons, Bool.and_eq_true] at h
    rw [List.countP_cons, List.countP_cons, countU t h.2, eqU_of r h.1]
theorem mt_tcount {X : Cx} : MtR X "tuple.count" (rTCount X.K) := by
  intro pins s σ H x xs v us Q I rx rxs h
  obtain ⟨a, ys, y, rfl, rfl, hs, fy, fys, q⟩ := h
  cases rx
  cases rxs with
  | cons ry rt =>
    rename_i uy ut
    cases rt
    obtain ⟨its, rv, ⟨⟨cls, dd, data, sl⟩, ho, hc, n, hd⟩, hlen⟩ := I.tuple hs
    simp only at hc hd
    subst hc hd
    refine call_meets PySem.F.slot_tuple_count ⟨_, ho, rfl⟩ PySem.F.entry_tuple_count (PySem.F.args_tuple_count_2 _ _)
      (SeqAt.tuple_countAt a its.toArray n dd sl uy (eqU y)) ⟨ho, fun u' hu' => mem_eqAt ry fy rv fys u' (by simpa using hu'), ?_⟩
    have ec : its.toArray.toList.countP (eqU y) = ys.countP (fun z => eqV z y) := countU rv fys
    rw [ec]
    exact ⟨.int _, H, I.tok _, ⟨_, rfl⟩, q⟩
/-! ### what never changes: tuples, locked things -/
structure Tk (H H' : Hp) : Prop where
  t : ∀ b xs, H b = some (.tup xs) → H' b = some (.tup xs)
  z : ∀ b o u, H b = some (.frz o (.tup u)) → H' b = some (.frz o (.tup u))
theorem Tk.refl (H : Hp) : Tk H H := ⟨fun _ _ h => h, fun _ _ _ h => h⟩
theorem Tk.trans {H H1 H2 : Hp} (a : Tk H H1) (b : Tk H1 H2) : Tk H H2 := ⟨fun c xs h => b.t c xs (a.t c xs h), fun c o u h => b.z c o u (a.z c o u h)⟩
theorem Tk.of {H H' : Hp} (e : Same H H') : Tk H H' := ⟨fun b xs h => e b _ h, fun b o u h => e b _ h⟩
theorem Tk.mut {H : Hp} {a : Addr} {o : HO} (h : Mut (H a)) : Tk H (upd H a o) := by
  refine ⟨fun b xs e => ?_, fun b ob u e => ?_⟩
  · rw [upd_ne (fun z => by rw [← z, e] at h; exact h)]
    exact e
  · rw [upd_ne (fun z => by rw [← z, e] at h; exact h)]
    exact e
theorem Tk.sqT {K : PySem.W.Frag} {H H' : Hp} {a : Addr} {xs : List V} (e : Tk H H') (h : SqT K H a xs) : SqT K H' a xs := by
  rcases h with (h | ⟨o, h⟩) | h
  · exact .inl (.inl (e.t _ _ h))
  · exact .inl (.inr ⟨o, e.z _ _ _ h⟩)
  · exact .inr h
theorem FrA.tk {K : PySem.W.Frag} {H H' : Hp} {v : V} {q : Rat} (h : FrA K H v q) (e : Tk H H') : FrA K H' v q := by
  obtain ⟨p, rfl, h⟩ := h
  exact ⟨p, rfl, e.sqT h⟩
/-- what follows a statement is shown once, for all its ways -/
theorem seq_cut {t rest : TS} {D : Ends} {σ : L2.St} {H : Hp} (J : Hp → Prop) (h2 : ∀ H1, J H1 → rest D σ H1) (h1 : (∀ H1, J H1 → rest D σ H1) → tSeq t rest D σ H) : tSeq t rest D σ H := h1 h2
theorem seq_any {t rest : TS} {D : Ends} {σ : L2.St} {H : Hp} (J : L2.St → Hp → Prop) (h2 : ∀ σ1 H1, J σ1 H1 → rest D σ1 H1) (h1 : (∀ σ1 H1, J σ1 H1 → rest D σ1 H1) → tSeq t rest D σ H) : tSeq t rest D σ H := h1 h2
theorem seq_same {t rest : TS} {D : Ends} {σ : L2.St} {H : Hp} (h2 : ∀ H1, Same H H1 → rest D σ H1) (h1 : (∀ H1, Same H H1 → rest D σ H1) → tSeq t rest D σ H) : tSeq t rest D σ H := h1 h2
/-- a method of a tuple that is written on the spot -/
def tBMT (r : V → List V → Hp → VK → Prop) (t0 t : TA) : TE := fun σ H Q => t0 σ H fun vs H1 => vs.length ≤ sizeLine ∧ ∀ p, H1 p = none → t σ (upd H1 p (.tup vs)) fun us H2 => r (.ref p) us H2 Q
theorem pe_bmT {X : Cx} {name : Str} {id : String} {r : V → List V → Hp → VK → Prop} {xs0 es : List Expr} {e : Expr} {t0 t : TA} {k0 : Nat} {p0 apos cpos : Pos}
    (pa : PlainAttrs "tuple") (slot : Slot "tuple" name id) (hty : typeOf (.builtin id) = pure (.type "method_descriptor")) (hm : MtR X id r) (h0 : PA X xs0 t0) (ha : PA X (e :: es) t)
    (hbase : attributeBase (.Tuple xs0 k0 p0) name X.env (eval (.Tuple xs0 k0 p0) X.env) = eval (.Tuple xs0 k0 p0) X.env := by rfl)
    (hfew : ((backTo cpos (starEach (e :: es) X.env)).all (fun x => !x.1) && (backToKw cpos (keywordEach [] X.env)).all (fun x => x.1.isSome)
      && decide ((e :: es).length + ([] : List Keyword).length + (if ([] : List Keyword).isEmpty then 0 else 1) < 30)) = true := by rfl)
    (hline : (apos.endLine == cpos.line) = true := by rfl) (hs : starEach (e :: es) X.env = (false, eval e X.env) :: starEach es X.env := by rfl) (hplain : (backTo cpos (starEach es X.env)).any (·.1) = false := by rfl) :
    PE X (.Call (.Attribute (.Tuple xs0 k0 p0) name apos) (e :: es) [] cpos) (tBMT r t0 t) := by
  refine ⟨fun pins s σ H Q I h => ?_⟩
  refine wpAny_Call_method_late hbase hfew hline rfl (wpAny_Tuple_spliced (thn (h0.run p0 pins s σ H _ I h) fun us s1 hh => ?_))
  obtain ⟨xs, H1, I1, rr, z, q⟩ := hh
  refine ⟨by rw [← rr.length]; exact z, ?_⟩
  have hf : H1 s1.heap.objs.size = none := I1.hok.fresh (Nat.le_refl _)
  have I2 := I1.laid (a := s1.heap.objs.size) (o := .tup xs) (t' := s1.toks) (fun b u e => Heap.get?_push_of_some { cls := .type "tuple", data := .seq us.toArray } e) (Nat.le_refl _) ⟨z, us, rr, ⟨_, Heap.get?_push_size _ rfl, rfl, _, rfl⟩⟩
  refine ⟨"tuple", id, pa, slot, hty, ⟨_, Heap.get?_push_size _ rfl, rfl⟩, (fun a ea => by cases ea; exact ⟨_, Heap.get?_push_size _ rfl, rfl⟩), ?_⟩
  have hA := ha.run cpos pins _ σ _ _ I2 (q _ hf)
  rw [hs] at hA ⊢
  refine Calls.callWith_builtin (by show (false || (backTo cpos (starEach es X.env)).any (·.1)) = false; rw [hplain] <;> rfl) (Calls.evalArgs_plain ?_)
  exact thn hA fun ws s2 ⟨vs, H2, J2, r2, q2⟩ => hm pins s2 σ H2 (.ref s1.heap.objs.size) vs _ ws Q J2 rfl r2 q2
theorem paired_snoc {α β : Type} {F : α → β → Prop} {x : α} {y : β} : ∀ {xs : List α} {ys : List β}, Paired F xs ys → F x y → Paired F (xs ++ [x]) (ys ++ [y])
  | _, _, .nil, h => .cons h .nil
  | _, _, .cons r t, h => .cons r (paired_snoc t h)
def pq (q : Rat) : PyData := .tuple [.int q.num, .int (q.den : Int)]
theorem dp_q {K : PySem.W.Frag} {H : Hp} {v : V} {q : Rat} (h : FrA K H v q) : Dp K H v (pq q) := by
  obtain ⟨p, rfl, h⟩ := h
  exact .tup h (.cons (.int _) (.cons (.int _) .nil))
theorem shaped_pq (q : Rat) : SeqAt.shaped (pq q) = true := rfl
theorem eqv_pq (a b : Rat) : PyData.eqv (pq a) (pq b) = decide (a = b) := by
  have e : PyData.eqv (pq a) (pq b) = ((a.num == b.num) && (((a.den : Int) == (b.den : Int)) && true)) := by
    simp [pq, PyData.eqv, PyData.eqvAll]
  rw [e]
  by_cases h : a = b
  · subst h
    simp
  · rw [decide_eq_false h]
    by_cases h1 : a.num = b.num
    · have h2 : (a.den : Int) ≠ b.den := fun z => h (Rat.ext h1 (by omega))
      simp [h1, h2]
    · simp [h1]
theorem ne_q {K : PySem.W.Frag} {H : Hp} {x y : V} {a b : Rat} {Q : VK} (h1 : FrA K H x a) (h2 : FrA K H y b) (h : Q (.bl (!decide (a = b))) H) : rNeD K x y H Q :=
  ⟨_, _, dp_q h1, dp_q h2, shaped_pq a, shaped_pq b, by rw [eqv_pq]; exact h⟩
theorem eq_q {K : PySem.W.Frag} {H : Hp} {x y : V} {a b : Rat} {Q : VK} (h1 : FrA K H x a) (h2 : FrA K H y b) (h : Q (.bl (decide (a = b))) H) : rEqD K x y H Q :=
  ⟨_, _, dp_q h1, dp_q h2, shaped_pq a, shaped_pq b, by rw [eqv_pq]; exact h⟩
theorem ne_qq {K : PySem.W.Frag} {H : Hp} {x y : V} {a : Rat} {Q : VK} (h1 : FrA K H x a) (h2 : FrA K H y a) (h : Q (.bl false) H) : rNeD K x y H Q :=
  ne_q h1 h2 (by rw [decide_eq_true rfl]; exact h)
def repS (x : Str) (n : Nat) : Str := if n = 1 then x else ⟨(List.replicate n x.cps).foldl (· ++ ·) #[]⟩
def rMulS : R2 := fun x y H Q => ∃ (z : Str) (n : Nat), x = .str z ∧ y = .int (n : Int) ∧ 1 ≤ n ∧ n ≤ 100 ∧ 1 ≤ z.length ∧ z.length ≤ 100 ∧ Q (.str (repS z n)) H
theorem rep_len (x : Array Nat) : ∀ (n : Nat) (a : Array Nat), (List.foldl (· ++ ·) a (List.replicate n x)).size = a.size + n * x.size
  | 0, a => by simp
  | n + 1, a => by
    rw [List.replicate_succ, List.foldl_cons, rep_len x n, Array.size_append, Nat.succ_mul]
    omega
/-- a text, so many times -/
theorem op_mulS {X : Cx} : OpR X (binaryOp .Mult) rMulS := by
  intro pins s σ H x y v u Q I rx ry h
  obtain ⟨z, n, rfl, rfl, h1, h2, h3, h4, q⟩ := h
  obtain ⟨t, rfl⟩ := rx
  obtain ⟨t', rfl⟩ := ry
  refine PySem.P.mul_str ?_ (fun _ _ => ?_) (fun _ _ => ?_) ?_
  · rw [decide_eq_false (by omega), decide_eq_false (by omega)]
    rfl
  · have hm : z.length * n ≤ 100 * 100 := Nat.mul_le_mul h4 h2
    have hm2 : (z.length : Int) * (n : Int) ≤ 2 ^ 63 - 1 := by
      have : ((z.length * n : Nat) : Int) ≤ ((100 * 100 : Nat) : Int) := Int.ofNat_le.mpr hm
      rw [Int.natCast_mul] at this
      omega
    have := Int.le_ediv_of_mul_le (show (0 : Int) < n by omega) hm2
    omega
  · have hm : z.length * n ≤ 100 * 100 := Nat.mul_le_mul h4 h2
    have : ¬ (z.length * (n : Int).toNat > sizeLine) := by
      rw [Int.toNat_natCast, sizeLine_eq]
      omega
    exact decide_eq_false this
  · rw [if_neg (by omega)]
    unfold repS at q
    by_cases e : n = 1
    · subst e
      rw [if_pos rfl] at q
      rw [if_pos (by simp)]
      exact ⟨.str z, H, I, ⟨_, rfl⟩, q⟩
    · rw [if_neg e] at q
      rw [if_neg (by simp; omega)]
      refine ⟨?_, ⟨.str _, H, I.tok _, ⟨_, rfl⟩, q⟩⟩
      have hm : n * z.length ≤ 100 * 100 := Nat.mul_le_mul h2 h4
      have := rep_len z.cps n #[]
      show (List.foldl (· ++ ·) #[] (List.replicate (n : Int).toNat z.cps)).size ≤ sizeLine
      rw [Int.toNat_natCast, this, sizeLine_eq]
      show 0 + n * z.length ≤ _
      omega
theorem passL {P : Program} {w : World} {X : Cx} : Passes (L2N.CX P w) X E0 := fun _ _ _ _ _ _ _ ⟨_, _, _, _, _, _, _, _, _, _, _, _, z⟩ => z.elim
theorem conI {σ : L2.St} {H : Hp} {c : V} {t : TA} {Q : List V → Hp → Prop} (h : t σ H fun xs H2 => Q (c :: xs) H2) : tCons (tC c) t σ H Q := h
theorem gN {i : Nat} {v : V} {σ : L2.St} {H : Hp} {k : L2.St → Hp → Prop} (h : k (σ.set i (some v)) H) : gName i v σ H k := h
theorem gSeq {i : Nat} {v : V} {σ : L2.St} {H : Hp} {t rest : TS} {D D0 : Ends} (h : tSeq t rest D (σ.set i (some v)) H) : gName i v σ H (Ends.nx { D0 with nx := tSeq t rest D }) := h
theorem nilI {σ : L2.St} {H : Hp} {Q : List V → Hp → Prop} (h : Q [] H) : tNil σ H Q := h
theorem list_lt {n : Nat} (h : n ≤ 10000) : n < sizeLine := Nat.lt_of_le_of_lt h (by decide)
end Qt

namespace Qt
open PySem PySem.Spec PyProof.Rows L2
/-! ### sorted(d, key=f), d a dict whose keys are texts, f's keys ints that rise along d -/
section
open PySem.W
theorem le_ints (rev : List (Str × Int)) (a b : Str × Int) : dataLe false (fun x : Str × Int => PyData.int x.2) a b = decide (a.2 ≤ b.2) := by
  have e : dataLe false (fun x : Str × Int => PyData.int x.2) a b = !(lexLt itemOrd [Sum.inl b.2] [Sum.inl a.2]) := rfl
  rw [e]
  have e2 : lexLt itemOrd [Sum.inl b.2] [Sum.inl a.2] = decide (b.2 < a.2) := by
    by_cases h : b.2 < a.2
    · rw [decide_eq_true h]
      simp [PyProof.Rows.lexLt, itemLt, h]
    · rw [decide_eq_false h]
      by_cases h2 : a.2 < b.2
      · simp [PyProof.Rows.lexLt, itemLt, h, h2]
      · simp [PyProof.Rows.lexLt, itemLt, h, h2]
  rw [e2, ← decide_not]
  exact decide_eq_decide.mpr (by omega)
theorem sort_same {bs : List (Str × Int)} (h : bs.Pairwise (fun a b => a.2 < b.2)) : bs.mergeSort (dataLe false (fun x : Str × Int => PyData.int x.2)) = bs := by
  refine (sort_unique (sortLe_total _ _ _) ?_ fun _ => rfl).symm
  refine h.imp fun {a b} hab => ?_
  rw [show sortLe (listOrd itemOrd) false (fun b : Str × Int => keyToks (PyData.int b.2)) a b = dataLe false (fun x : Str × Int => PyData.int x.2) a b from rfl, le_ints []]
  exact decide_eq_true (by omega)
theorem alike_keys (bs : List (Str × Int)) : AllAlike (bs.map fun x => PyData.int x.2) := fun d hd d' hd' => by
  obtain ⟨x, _, rfl⟩ := List.mem_map.mp hd
  obtain ⟨y, _, rfl⟩ := List.mem_map.mp hd'
  rfl
theorem sortable_keys (bs : List (Str × Int)) : Sortable (bs.map fun x => PyData.int x.2) := .inr fun d hd => by
  obtain ⟨x, _, rfl⟩ := List.mem_map.mp hd
  exact ⟨(fun z => by cases z), fun xs z => by cases z⟩
/-- a value that is a text of this name -/
def IsNm (v : Value) (b : Str × Int) : Prop := ∃ t, v = .str b.1 t
variable {prog : Program} {w : World} {A : Around} {E : Value → Shared → Prop} {s : Shared}
theorem sorted_dict_key {d f : Addr} {bs : List (Str × Int)} {kvs : List (Key × Value)} {ep : Nat} {Q : Value → Shared → Prop} (hh : A.handled = none) (lo : (d == sysModules) = false) (hat : s.heap.DictAt (mixKind prog w) d kvs ep) (hk : kvs.map (·.1) = bs.map fun b => Sum.inr b.1)
    (hL : bs.length ≤ 1000) (hp : bs.Pairwise (fun a b => a.2 < b.2)) (hu : A.units + 10 < cLine)
    (turn : ∀ (v : Value) (x : Str × Int), IsNm v x → x ∈ bs → ∀ (h : Heap) (tk : Nat), (∀ b o, s.heap.get? b = some o → h.get? b = some o) →
      wpAny (model prog w) A.in1.in1 (call (.ref f) [v]) (KeyPure (.int x.2) { s with heap := h, toks := tk }) (fun _ _ => False) { s with heap := h, toks := tk })
    (h : ∀ D out c h' tk, (∀ b o, s.heap.get? b = some o → h'.get? b = some o) → s.heap.get? D = none → h'.get? D = some (seqObj "list" (List.toArray out) c) → EachIs IsNm out bs → Q (.ref D) { s with heap := h', toks := tk }) :
    wpAny (model prog w) A (call (.builtin "sorted") [.ref d] [(Str.ofString "key", .ref f)]) Q E s := by
  have hl : kvs.length = bs.length := by
    have e := congrArg List.length hk
    rw [List.length_map, List.length_map] at e
    exact e
  have h16 : kvs.length ≤ sizeLine := by rw [hl, sizeLine_eq]; omega
  refine PyProof.Rows.call_function_entry_kw PyProof.Rows.kind_sorted PyProof.Rows.plain_sorted PyProof.Rows.entry_sorted (PyProof.Rows.ksk_s1 _ _) ?_
  unfold Builtin.«sorted»
  refine wpAny_bind (m := checkCount "sorted" 1 1 _) (wpAny_pure ?_)
  refine wpAny_bind (PySem.W.kdu_collect (A := A.in1) (PySem.W.kdl_dict (knd := mixKind prog w) (kvs := kvs) (ep := ep) lo) hh hat h16 fun h1 tk acc hk1 hacc => ?_)
  have hal : acc.toList.length = bs.length := by rw [Array.length_toList, hacc.1, hl]
  have each : EachIs IsNm acc.toList bs := by
    refine EachIs.of_zip hal fun p hp' => ?_
    obtain ⟨j, hj⟩ := List.getElem?_of_mem hp'
    rw [List.getElem?_zip_eq_some] at hj
    obtain ⟨k, x, e1, e2⟩ := hacc.2 j p.1 (by rw [← Array.getElem?_toList]; exact hj.1)
    have e3 : (kvs.map (·.1))[j]? = some k := by rw [List.getElem?_map, e1]; rfl
    rw [hk, List.getElem?_map, hj.2] at e3
    have e5 : Sum.inr p.2.1 = k := Option.some.inj e3
    subst e5
    obtain ⟨t, ev⟩ := Value.isStrOf_shape (x := p.2.1) (v := p.1) e2
    exact ⟨t, ev⟩
  refine wpAny_bind (wpAny_newList ?_ (by rw [hal, sizeLine_eq]; omega))
  have hoL : (h1.push (seqObj "list" acc.toList.toArray 0)).get? h1.objs.size = some (seqObj "list" acc.toList.toArray 0) := Heap.get?_push_size _ rfl
  refine wpAny_bind (wpAny_holding (wpAny_call_entry_kw slot_list_sort ⟨_, hoL, rfl⟩ entry_list_sort ?body (PyProof.Rows.ksk_l1 _ _)))
  case body =>
    show wpAny (model prog w) A.in1.in1 (Builtin.«list.sort» ⟨[.ref h1.objs.size], [(Str.ofString "key", .ref f)]⟩) _ _ _
    rw [PyProof.Rows.ksk_t1]
    have sz : s.heap.get? h1.objs.size = none := by
      cases hz : s.heap.get? h1.objs.size with
      | none => rfl
      | some o => exact absurd (Heap.lt_size (hk1 _ _ hz)) (Nat.lt_irrefl _)
    have up : ∀ {g : Heap}, KeepsBut h1.objs.size (h1.push (seqObj "list" acc.toList.toArray 0)) g → ∀ b o, s.heap.get? b = some o → g.get? b = some o := fun {g} kp b o q =>
      kp b o (Nat.ne_of_lt (Heap.lt_size (hk1 b o q))) (Heap.get?_push_of_some _ (hk1 b o q))
    refine keyH_tree (b := false) (kz := bs.map fun x => PyData.int x.2) (s := { s with heap := h1.push (seqObj "list" acc.toList.toArray 0), toks := tk }) (vs := acc.toList) hoL (by rw [List.length_map, hal]) (by rw [hal, sizeLine_eq]; omega) (alike_keys bs) (sortable_keys bs)
      (fun d hd => by
        obtain ⟨x, _, rfl⟩ := List.mem_map.mp hd
        show A.units + 1 + 1 + 0 < cLine
        omega)
      (keyH_turns (s := { s with heap := h1.push (seqObj "list" acc.toList.toArray 0), toks := tk }) (R := IsNm) each fun v x hR hx g tk2 kp => turn v x hR hx g tk2 (up kp)) fun h' tk2 out c kp hD ko => ?_
    have e2 := keyedOut_each (R := IsNm) (fun x : Str × Int => PyData.int x.2) ko each
    rw [sort_same hp] at e2
    refine ⟨_, rfl, wpAny_pure ⟨_, rfl, ?_⟩⟩
    exact h _ out c h' tk2 (up kp) sz hD e2
end
/-! ### the key of a name: lambda name: self.players[name].order -/
def lamA (p : Pos) : Arguments := { posonlyargs := [], args := [{ arg := "name", annotation := none, pos := p }], vararg := none, kwonlyargs := [], kw_defaults := [], kwarg := none, defaults := [] }
def lamB (q1 q2 q3 q4 q5 : Pos) : Expr := .Attribute (.Subscript (.Attribute (.Name "self" q1) "players" q2) (.Name "name" q3) q4) "order" q5
def lamSc : Scope := { kind := .function, names := [(PySem.Str.ofString "name", .local), (PySem.Str.ofString "self", .free)], isGenerator := false, isCoroutine := false, more := [] }
section
open PySem.W
variable {X : Cx} {pins : List (Addr × Obj)} {σ : L2.St} {H : Hp} {s : Shared}
theorem key_turn {qual : Str} {p q1 q2 q3 q4 q5 : Pos} {cl : List (Str × Addr)} {pm ctv : Value} {f c c' b d e CB CP dx dx2 : Addr} {fs fs2 : List (Str × V)} {kvs : List (Key × V)} {nm : Str} {o : Int} {A : Around} {h : Heap} {tk : Nat} {t : Tok}
    (I : Inv X pins σ H s) (hroom : A.depth < recursionLimit) (hf : s.heap.get? f = some (kla_obj "<lambda>" qual (lamA p) (lamB q1 q2 q3 q4 q5) lamSc cl pm c' ctv)) (hcd : s.heap.CodeRec (.ref c') qual)
    (hcl : cl.lookup ("self" : Str) = some c) (hcell : s.heap.IsCell c (some (.ref b)))
    (hb : H b = some (.ins CB dx fs)) (cB : Cls X.K CB) (nB : NoAttr X.K CB "players") (lB : fs.lookup ("players" : Str) = some (V.ref d))
    (hd : H d = some (.dK kvs)) (hv : valV kvs (Sum.inr nm : Key) = some (.ref e))
    (he : H e = some (.ins CP dx2 fs2)) (cP : Cls X.K CP) (nP : NoAttr X.K CP "order") (lP : fs2.lookup ("order" : Str) = some (V.int o))
    (k : ∀ b o, s.heap.get? b = some o → h.get? b = some o) :
    wpAny (model X.prog X.w) A (call (.ref f) [.str nm t]) (KeyPure (.int o) { s with heap := h, toks := tk }) (fun _ _ => False) { s with heap := h, toks := tk } := by
  obtain ⟨c1, oc, vs, tq, hc1, hoc, hdc, hq⟩ := hcd
  refine wpAny_call (kla_callFunE hroom (k _ _ hf) rfl rfl rfl rfl ⟨c1, oc, vs, tq, hc1, k _ _ hoc, hdc, hq⟩ ?_)
  have hbind : bindArgs (kla_fn "<lambda>" qual (lamA p) (lamB q1 q2 q3 q4 q5) lamSc cl pm (.ref c') ctv) ⟨[.str nm t], []⟩ = pure [(("name" : Str), Value.str nm t)] := rfl
  rw [hbind]
  refine wpAny_pure (wpAny_newFunctionEnv (show ∀ x ∈ lamSc.names, x.2 ≠ .cell by decide) (fun y hy => by
    have e1 : y = (("name" : Str), Value.str nm t) := by simpa using hy
    rw [e1]
    rfl) (fun h1 hns hsb => ⟨(I.nolimit.keeps k).fresh _ hsb, ?_⟩) rfl)
  have kp : ∀ b o, h.get? b = some o → h1.get? b = some o := fun b o z => hsb.extBut b o (Nat.ne_of_lt (Heap.lt_size z)) (Heap.get?_push_of_some _ z)
  have J : Inv X pins σ H { s with heap := h1, toks := tk + 1 } := I.kept fun b o z => kp b o (k b o z)
  show codeAny _ _ (.expr (lamB q1 q2 q3 q4 q5) (envX qual lamSc h.objs.size f (.ref c') cl)) _ _
  refine kla_codeExpr ?_
  unfold lamB
  refine attr_of rfl (subD_of PySem.F.slot_dict_getitem.lookup (fun _ _ => rfl) (attr_of rfl (wpAny_Name (wpAny_loadName_free rfl rfl hcl (v := .ref b) ?_ ?_ (by decide)) (by decide))))
  · obtain ⟨oc2, z1, z2⟩ := hcell
    exact ⟨oc2, kp _ _ (k _ _ z1), z2⟩
  obtain ⟨mA, O, r, _, _, _⟩ := ins_get J.hok hb
  obtain ⟨u, hu, ru⟩ := RelO.some_of (v := .ref d) (o := mA "players") (by rw [← lB]; exact r "players")
  refine get_map J.kIn O (cB.get "players") cB.hd nB hu (handed_of ru) ?_
  obtain rfl : u = Value.ref d := ru
  refine wpAny_Name (wpAny_loadName_local (v := .str nm t) rfl rfl hns rfl ?_) (by decide)
  obtain ⟨_, _, vs2, rel, dd⟩ := dk_of J.hok hd
  refine ⟨dd.typeIs, ?_⟩
  obtain ⟨w', hw, rw'⟩ := RelO.some_of (v := .ref e) (o := valueAt vs2 (Sum.inr nm)) (by rw [← hv]; exact rel.val _)
  obtain rfl : w' = Value.ref e := rw'
  refine wpAny_getItem_of (kV_is (k := Sum.inr nm) ⟨t, rfl⟩) dd.mapOf hw ?_
  obtain ⟨mB, O2, r2, _, _, _⟩ := ins_get J.hok he
  obtain ⟨u2, hu2, ru2⟩ := RelO.some_of (v := .int o) (o := mB "order") (by rw [← lP]; exact r2 "order")
  refine get_map J.kIn O2 (cP.get "order") cP.hd nP hu2 (handed_of ru2) ?_
  obtain ⟨t2, rfl⟩ := ru2
  exact ⟨h1, _, rfl, kp, .int o t2⟩
end
open LamX
section
variable {X : Cx}
/-- sorted(self.players, key=lambda name: self.players[name].order), self in slot 0 -/
def tNames (T : List (Addr × Str)) (CB CP : Addr) : TE := fun σ H Q => Tabs T H ∧ ∃ (b d dx : Addr) (fs : List (Str × V)) (kvs : List (Key × V)) (bs : List (Str × Int)), σ[0]? = some (some (.ref b)) ∧ H b = some (.ins CB dx fs) ∧ fs.lookup ("players" : Str) = some (V.ref d) ∧
  H d = some (.dK kvs) ∧ (kvs.map (·.1) = bs.map fun x => Sum.inr x.1) ∧ bs.length ≤ 1000 ∧ bs.Pairwise (fun a b => a.2 < b.2) ∧
  (∀ x ∈ bs, ∃ (e dx2 : Addr) (fs2 : List (Str × V)), valV kvs (Sum.inr x.1 : Key) = some (.ref e) ∧ H e = some (.ins CP dx2 fs2) ∧ fs2.lookup ("order" : Str) = some (V.int x.2)) ∧
  ∀ (H1 : Hp) (p : Addr), ExtN H H1 → Tabs T H1 → H1 p = none → Q (.ref p) (upd H1 p (.lst (bs.map fun x => V.str x.1)))
theorem ins_ne {C dx : Addr} {fs : List (Str × V)} (ps : Array Value) : HO.ins C dx fs ≠ .tbl ps := fun z => by cases z
theorem dk_ne {kvs : List (Key × V)} (ps : Array Value) : HO.dK kvs ≠ .tbl ps := fun z => by cases z
theorem each_vals : ∀ {out : List Value} {bs : List (Str × Int)}, PySem.W.EachIs IsNm out bs → L2.Vals (bs.map fun x => V.str x.1) out
  | _, _, .nil => .nil
  | _, _, .cons r t => .cons r (each_vals t)
theorem pe_names {T : List (Addr × Str)} {c P CB CP : Addr} {k : Nat} {p q1 q2 q3 q4 q5 a1 a2 lp kp cp np : Pos} (hr : Room k X.A) (TB : TabB X.base X.mg c P) (hcode : X.env.code = .ref c)
    (hm : (P, X.env.qual ++ "<lambda>") ∈ T) (hu : ∀ p ∈ T, p.1 = P → p.2 = X.env.qual ++ "<lambda>") (cB : Cls X.K CB) (nB : NoAttr X.K CB "players") (cP : Cls X.K CP) (nP : NoAttr X.K CP "order")
    (hg : Gl X "sorted") (hmg : X.mg "sorted" = none) (hcalm : X.calm = true) (hN : X.N[0]? = some ("self" : Str)) (hk : X.env.kindOf "self" = some .cell) (hks : X.env.scope.names.lookup ("self" : Str) = some NameKind.cell)
    (hdef : defaultsOf (lamA p) X.env = ([], []) := by rfl) (hbase : attributeBase (.Name "self" a1) "players" X.env (eval (.Name "self" a1) X.env) = eval (.Name "self" a1) X.env := by rfl)
    (he : backTo cp (starEach [.Attribute (.Name "self" a1) "players" a2] X.env) = (false, eval (.Attribute (.Name "self" a1) "players" a2) X.env) :: backTo cp (starEach [] X.env) := by rfl) (hpl : (backTo cp (starEach [.Attribute (.Name "self" a1) "players" a2] X.env)).any (·.1) = false := by rfl) :
    PE X (.Call (.Name "sorted" np) [.Attribute (.Name "self" a1) "players" a2] [⟨some "key", .Lambda (lamA p) (lamB q1 q2 q3 q4 q5) lamSc lp, kp⟩] cp) (tNames T CB CP) := by
  refine ⟨fun pins s σ H Q I h => ?_⟩
  obtain ⟨hT, b, d, dx, fs, kvs, bs, hs, hb, lB, hd, hkv, hL, hp, hall, q⟩ := h
  refine wpAny_Call_Name_kw (ld_blt (u := .builtin "sorted") I hg hmg (by decide +kernel) ?_)
  have ha : PA X [.Attribute (.Name "self" a1) "players" a2] _ := pa_cons (pe_fld (pv 0 (x := "self") (pos := a1) hN (Or.inr (Or.inl hks))) hbase) pa_nil
  refine PyProof.Rows.callWith_kw (thn (ha.run cp pins s σ H (fun vs H1 => vs = [V.ref d] ∧ H1 = H) I ⟨_, hs, b, CB, dx, fs, _, rfl, hb, cB, nB, lB, rfl, rfl⟩) fun us s1 hh => ?_) he hpl rfl rfl
  obtain ⟨vs, H1, I1, r1, ev, eH⟩ := hh
  subst ev eH
  obtain rfl := Vals.ref1 r1
  have hfree : ∀ y ∈ lamSc.names, y.2 = .free → ∃ c, X.env.cells.lookup y.1 = some c := fun y hy e => by
    have hy2 : y = (("name" : Str), NameKind.local) ∨ y = (("self" : Str), NameKind.free) := by simpa [lamSc] using hy
    rcases hy2 with z | z
    · rw [z] at e
      cases e
    · rw [z]
      exact I1.ok.has _ (.inl hk)
  show wpAny _ _ (evalAll ((do let v ← eval (.Lambda (lamA p) (lamB q1 q2 q3 q4 q5) lamSc lp) X.env; standAt cp; pure v) :: [])) _ _ s1
  refine wpAny_evalAll_cons (wpAny_bind (lam_make2 I1 TB hcode hm hu hT hdef hfree fun f c' pm ctv H2 s2 I2 ext tabs hget hnone hfr hcod => wpAny_bind (wpAny_standAt (wpAny_pure (wpAny_evalAll_nil ?_)))))
  show wpAny _ _ (call (.builtin "sorted") [.ref d] [(Str.ofString "key", .ref f)]) _ _ s2
  have hb2 : H2 b = some (.ins CB dx fs) := ext _ _ hb ins_ne
  have hd2 : H2 d = some (.dK kvs) := ext _ _ hd dk_ne
  obtain ⟨hz, lo, vs2, rel, dd⟩ := dk_of I2.hok hd2
  obtain ⟨ep, hat⟩ := dd.dictAt
  have hkeys : (vs2.map (·.1)) = bs.map fun x => Sum.inr x.1 := rel.keys.symm.trans hkv
  obtain ⟨⟨oc, ws, t, hoc, hdc, hvc⟩, _, _⟩ := I2.hok c' _ hcod
  have hcr : s2.heap.CodeRec (.ref c') (X.env.qual ++ "<lambda>") := ⟨c', oc, ws, t, rfl, hoc, hdc, hvc⟩
  obtain ⟨m, hns, hl⟩ := I2.loc
  obtain ⟨u, ru, lk⟩ := hl 0 "self" (.ref b) hN hs (Or.inr (Or.inl hks))
  obtain rfl : u = Value.ref b := ru
  obtain ⟨cc, hcc, hcell⟩ : ∃ cc, X.env.cells.lookup ("self" : Str) = some cc ∧ s2.heap.IsCell cc (some (.ref b)) := by
    rcases lk with ⟨z, _⟩ | ⟨_, cc, z1, z2⟩
    · rw [hk] at z
      cases z
    · exact ⟨cc, z1, z2⟩
  have hcl : (cloFrom X.env.cells lamSc.names []).lookup ("self" : Str) = some cc := NdefX.clo_has hfree (by simp [lamSc]) hcc
  have hh : X.A.handled = none := I2.ok.hd hcalm
  have dp := hr.dp
  have un := hr.un
  refine sorted_dict_key (bs := bs) hh lo hat hkeys hL hp (by omega) (fun v x hv hx h tk kk => ?_) fun D out cn h' tk kk hD hget2 hea => ?_
  · obtain ⟨tv, rfl⟩ := hv
    obtain ⟨e, dx2, fs2, g1, g2, g3⟩ := hall x hx
    exact key_turn (A := X.A.in1.in1) I2 (show X.A.depth < recursionLimit by omega) hget hcr hcl hcell hb2 cB nB lB hd2 g1 (ext _ _ g2 ins_ne) cP nP g3 kk
  · have hn : H2 D = none := I2.hok.gone hD
    refine ⟨.ref D, _, I2.laidN (o := .lst (bs.map fun x => V.str x.1)) kk hD hn ⟨by rw [List.length_map, sizeLine_eq]; omega, out, cn, each_vals hea, hget2⟩, rfl, q H2 D ext tabs hn⟩
end
/-- a def whose code object is told by its place -/
theorem okC {P : Program} {w : World} {K : PySem.W.Frag} {mg : Str → Option Value} {base : Heap} {C : CXT} {x qual : Str} {params : Arguments} {body : List Stmt} {scope : Scope} {dvs : List V} {kws : List (Str × V)} {f : Addr} {fd : FuncData} {N ps : List Str} {k : Nat} {sp : Sp}
    (F : FunD K x qual params body scope dvs kws f fd) (p : He.Defn) (hp : He.fAd K p = f) (S : FnScope N ps scope) (len : ∀ vs H Q E, sp vs H Q E → vs.length = ps.length)
    (hbody : ∀ (A : Around) (outer : List Env) (s : Shared) (H : Hp) (vs : List V) (Q : VK) (E : XK), Room k (A.deeper (envOfC qual scope s.heap.objs.size f (.ref (He.codeOf K p)))) → sp vs H Q E →
      ∃ t, PSs (cxOf C P w K mg base N qual scope f (.ref (He.codeOf K p)) A outer s H E) body t ∧ t { nx := fun _ H' => Q .non H', rt := Q } (L2.start N vs) H) : FnOk P w K mg base C (k + 1) f fd ps sp := by
  obtain ⟨oc, od, dV, kV, doc, pm, an, cdv, ct, osl, rfl, lk, hcd, _, _⟩ := F.ex
  obtain ⟨c, rfl⟩ := He.codeIn_ref hcd
  have e : He.codeOf K p = c := He.codeOf_eq (by rw [hp]; exact lk) rfl
  subst e
  exact fn_of lk hcd S len fun A outer s H vs Q E hr hsp => hbody A outer s H vs Q E hr hsp
end Qt

namespace Qt
open PySem PySem.Spec PyProof.Rows L2 LamX
/-! ### the mirror: players, boards -/
structure Pl where
  name : Str
  quick : Int
  done : Rat
  order : Int
  spells : List (Rat × Int)
  held : Bool
  taken : Int
structure Bd where
  time : Rat
  players : List Pl
  joined : Int
def paceOf (q : Rat) (ss : List (Rat × Int)) : Rat := ss.foldl (fun x s => x * s.1) q
def Pl.pace (p : Pl) : Rat := paceOf (p.quick : Rat) p.spells
def Pl.rest (p : Pl) : Rat := (1 - p.done) / p.pace
def Pl.go (t : Rat) (p : Pl) : Pl := if p.held = true then p else { p with done := p.done + t * p.pace }
def spellsLess (ss : List (Rat × Int)) : List (Rat × Int) := (ss.map fun s => (s.1, s.2 - 1)).filter fun s => decide (0 < s.2)
def Pl.endTurn (p : Pl) : Pl := { p with done := 0, taken := p.taken + 1, spells := spellsLess p.spells }
def aheadB (one other : Pl) : Bool := if one.rest ≠ other.rest then decide (one.rest < other.rest) else decide (other.pace < one.pace)
/-- the index of the one whose turn is next -/
def firstStep (ps : List Pl) (best : Option Nat) (i : Nat) : Option Nat := match ps[i]? with
  | none => best
  | some one => if one.held = true then best else match best with
    | none => some i
    | some j => match ps[j]? with
      | none => best
      | some other => if aheadB one other = true then some i else best
def firstIx (ps : List Pl) : Option Nat := (List.range ps.length).foldl (firstStep ps) none
def Bd.pass (t : Rat) (b : Bd) : Bd := { b with time := b.time + t, players := b.players.map (Pl.go t) }
def Bd.stepAt (b : Bd) (i : Nat) (t : Rat) : Bd := { b with time := b.time + t, players := (b.players.map (Pl.go t)).modify i Pl.endTurn }
/-! ### sizes -/
structure PSz (p : Pl) : Prop where
  pre : ∀ k, k ≤ p.spells.length → Bq 4000 (paceOf (p.quick : Rat) (p.spells.take k))
  sp : ∀ s ∈ p.spells, Bq 4000 s.1
structure RSz (p : Pl) : Prop extends PSz p where
  ne : p.pace ≠ 0
  dn : Bq 4000 p.done
  lf : Bq 4000 (1 - p.done)
  rs : Bq 4000 p.rest
structure GSz (t : Rat) (p : Pl) : Prop extends PSz p where
  dn : Bq 4000 p.done
  tt : Bq 4000 t
  m : Bq 4000 (t * p.pace)
  a : Bq 4000 (p.done + t * p.pace)
theorem PSz.pace {p : Pl} (h : PSz p) : Bq 4000 p.pace := by
  have := h.pre p.spells.length (Nat.le_refl _)
  rw [List.take_length] at this
  exact this
structure TSz (b : Bd) (t : Rat) : Prop where
  tm : Bq 4000 b.time
  tt : Bq 4000 t
  a : Bq 4000 (b.time + t)
  g : ∀ p ∈ b.players, p.held = false → GSz t p
/-! ### heaps -/
/-- all that stood outside fp stands (but for tables of code objects) -/
structure Ux (T : List (Addr × Str)) (fp : List Addr) (H H' : Hp) : Prop where
  s : ∀ b o, b ∉ fp → H b = some o → (∀ ps, o ≠ .tbl ps) → H' b = some o
  t : Tabs T H → Tabs T H'
theorem Ux.refl (T : List (Addr × Str)) (fp : List Addr) (H : Hp) : Ux T fp H H := ⟨fun _ _ _ h _ => h, fun h => h⟩
theorem Ux.trans {T : List (Addr × Str)} {fp : List Addr} {H H1 H2 : Hp} (a : Ux T fp H H1) (b : Ux T fp H1 H2) : Ux T fp H H2 := ⟨fun c o n h z => b.s c o n (a.s c o n h z) z, fun h => b.t (a.t h)⟩
theorem Ux.mono {T : List (Addr × Str)} {fp fp' : List Addr} {H H' : Hp} (a : Ux T fp H H') (h : ∀ x ∈ fp, x ∈ fp') : Ux T fp' H H' := ⟨fun c o n => a.s c o fun z => n (h c z), a.t⟩
theorem Ux.of {T : List (Addr × Str)} {H H' : Hp} (e : Same H H') : Ux T [] H H' := ⟨fun b o _ h _ => e b o h, fun h => h.ext e⟩
theorem Ux.ofE {T : List (Addr × Str)} {H H' : Hp} (e : ExtN H H') (t : Tabs T H') : Ux T [] H H' := ⟨fun b o _ h z => e b o h z, fun _ => t⟩
/-- not new would be: a table -/
def Nw (H : Hp) (a : Addr) : Prop := ∀ o, H a = some o → ∃ ps, o = .tbl ps
theorem nw_none {H : Hp} {a : Addr} (h : H a = none) : Nw H a := fun o e => by
  rw [h] at e
  cases e
theorem Nw.ne {H : Hp} {a b : Addr} {o : HO} (h : Nw H a) (e : H b = some o) (z : ∀ ps, o ≠ .tbl ps) : b ≠ a := fun q => by
  rw [q] at e
  obtain ⟨ps, r⟩ := h o e
  exact z ps r
theorem Ux.nw {T : List (Addr × Str)} {H H' : Hp} {a : Addr} (u : Ux T [] H H') (h : Nw H' a) : Nw H a := fun o e => by
  cases o with
  | tbl ps => exact ⟨ps, rfl⟩
  | _ => exact h _ (u.s a _ (by simp) e (fun ps z => by cases z))
/-- an object that may be written: an instance, a list, a dict -/
def Wr (H : Hp) (a : Addr) : Prop := (∃ C dx fs, H a = some (.ins C dx fs)) ∨ (∃ xs, H a = some (.lst xs)) ∨ ∃ kvs, H a = some (.dK kvs)
theorem Wr.tbl {H : Hp} {a : Addr} (h : Wr H a) : ∃ o, H a = some o ∧ (∀ ps, o ≠ .tbl ps) ∧ (∀ φ, o ≠ .ext φ) ∧ (∀ xs, o ≠ .tup xs) ∧ (∀ ob u, o ≠ .frz ob u) := by
  rcases h with ⟨C, dx, fs, h⟩ | ⟨xs, h⟩ | ⟨kvs, h⟩
  all_goals exact ⟨_, h, (fun _ z => by cases z), (fun _ z => by cases z), (fun _ z => by cases z), fun _ _ z => by cases z⟩
theorem Wr.tk {H : Hp} {a : Addr} {o : HO} (h : Wr H a) : Tk H (upd H a o) := by
  obtain ⟨o', e, _, _, z3, z4⟩ := h.tbl
  refine ⟨fun b xs q => ?_, fun b ob u q => ?_⟩
  · rw [upd_ne (fun z => by rw [z, e] at q; exact z3 xs (Option.some.inj q))]
    exact q
  · rw [upd_ne (fun z => by rw [z, e] at q; exact z4 ob (.tup u) (Option.some.inj q))]
    exact q
theorem Wr.tabs {T : List (Addr × Str)} {H : Hp} {a : Addr} {o : HO} (h : Wr H a) (t : Tabs T H) : Tabs T (upd H a o) := fun p hp => by
  obtain ⟨o', e, z1, z2, _⟩ := h.tbl
  obtain ⟨ps, h1, h2, h3⟩ := t p hp
  refine ⟨ps, ?_, h2, fun pos cv hc => ?_⟩
  · rw [upd_ne (fun z => by rw [z, e] at h1; exact z1 ps (Option.some.inj h1))]
    exact h1
  · obtain ⟨c, e1, e2⟩ := h3 pos cv hc
    refine ⟨c, e1, ?_⟩
    rw [upd_ne (fun z => by rw [z, e] at e2; exact z2 _ (Option.some.inj e2))]
    exact e2
theorem Ux.wr {T : List (Addr × Str)} {fp : List Addr} {H : Hp} {a : Addr} {o : HO} (h : Wr H a) (ha : a ∈ fp) : Ux T fp H (upd H a o) :=
  ⟨fun b u n e _ => by rw [upd_ne (fun z => n (by rw [z]; exact ha))]; exact e, fun t => h.tabs t⟩
theorem Ux.new {T : List (Addr × Str)} {fp : List Addr} {H : Hp} {a : Addr} {o : HO} (h : H a = none) : Ux T fp H (upd H a o) := (Ux.of (same_new h)).mono (by simp)
theorem Ux.tk {T : List (Addr × Str)} {fp : List Addr} {H H' : Hp} (u : Ux T fp H H') (hw : ∀ a ∈ fp, Wr H a) : Tk H H' := by
  refine ⟨fun b xs q => ?_, fun b ob v q => ?_⟩
  · refine u.s b _ (fun hb => ?_) q (fun ps z => by cases z)
    obtain ⟨o', e, _, _, z3, _⟩ := (hw b hb).tbl
    rw [e] at q
    exact z3 xs (Option.some.inj q)
  · refine u.s b _ (fun hb => ?_) q (fun ps z => by cases z)
    obtain ⟨o', e, _, _, _, z4⟩ := (hw b hb).tbl
    rw [e] at q
    exact z4 ob (.tup v) (Option.some.inj q)
/-! ### a player in the heap -/
def plf (name : Str) (quick : Int) (vd : V) (order : Int) (l : Addr) (held : Bool) (taken : Int) : List (Str × V) :=
  [("name", .str name), ("quick", .int quick), ("done", vd), ("order", .int order), ("spells", .ref l), ("is_held", .bl held), ("taken", .int taken)]
/-- a spell: a pair of a fraction and a number -/
def SpA (K : PySem.W.Frag) (H : Hp) (v : V) (s : Rat × Int) : Prop := ∃ p vq, v = .ref p ∧ SqT K H p [vq, .int s.2] ∧ FrA K H vq s.1
theorem SpA.tk {K : PySem.W.Frag} {H H' : Hp} {v : V} {s : Rat × Int} (h : SpA K H v s) (e : Tk H H') : SpA K H' v s := by
  obtain ⟨p, vq, h1, h2, h3⟩ := h
  exact ⟨p, vq, h1, e.sqT h2, h3.tk e⟩
structure PlO (K : PySem.W.Frag) (H : Hp) (p l : Addr) (pl : Pl) (dx : Addr) (vd : V) (svs : List V) : Prop where
  ob : H p = some (.ins (He.ga K "Player") dx (plf pl.name pl.quick vd pl.order l pl.held pl.taken))
  dn : FrA K H vd pl.done
  ls : H l = some (.lst svs)
  sp : Paired (SpA K H) svs pl.spells
def PlAt (K : PySem.W.Frag) (H : Hp) (p l : Addr) (pl : Pl) : Prop := ∃ dx vd svs, PlO K H p l pl dx vd svs
theorem PlAt.frame {K : PySem.W.Frag} {H H' : Hp} {p l : Addr} {pl : Pl} (h : PlAt K H p l pl) (hp : H' p = H p) (hl : H' l = H l) (t : Tk H H') : PlAt K H' p l pl := by
  obtain ⟨dx, vd, svs, h1, h2, h3, h4⟩ := h
  exact ⟨dx, vd, svs, hp.trans h1, h2.tk t, hl.trans h3, Paired.mapP h4 fun _ _ z => z.tk t⟩
theorem PlAt.wp {K : PySem.W.Frag} {H : Hp} {p l : Addr} {pl : Pl} (h : PlAt K H p l pl) : Wr H p := by
  obtain ⟨dx, vd, svs, h1, _⟩ := h
  exact .inl ⟨_, _, _, h1⟩
theorem PlAt.wl {K : PySem.W.Frag} {H : Hp} {p l : Addr} {pl : Pl} (h : PlAt K H p l pl) : Wr H l := by
  obtain ⟨dx, vd, svs, _, _, h3, _⟩ := h
  exact .inr (.inl ⟨_, h3⟩)
theorem PlAt.ux {T : List (Addr × Str)} {fp : List Addr} {K : PySem.W.Frag} {H H' : Hp} {p l : Addr} {pl : Pl} (h : PlAt K H p l pl) (u : Ux T fp H H') (hw : ∀ a ∈ fp, Wr H a) (hp : p ∉ fp) (hl : l ∉ fp) : PlAt K H' p l pl := by
  obtain ⟨dx, vd, svs, h1, h2, h3, h4⟩ := id h
  refine h.frame ?_ ?_ (u.tk hw)
  · rw [h1]
    exact u.s _ _ hp h1 (fun _ z => by cases z)
  · rw [h3]
    exact u.s _ _ hl h3 (fun _ z => by cases z)
theorem PlAt.same {K : PySem.W.Frag} {H H' : Hp} {p l : Addr} {pl : Pl} (h : PlAt K H p l pl) (e : Same H H') : PlAt K H' p l pl :=
  h.ux (T := []) (Ux.of e) (by simp) (by simp) (by simp)
/-! ### a board in the heap -/
def bdf (vt : V) (d : Addr) (j : Int) : List (Str × V) := [("time", vt), ("players", .ref d), ("joined", .int j)]
structure Ba where
  d : Addr
  ps : List (Addr × Addr)
def fpP (ps : List (Addr × Addr)) : List Addr := ps.flatMap fun x => [x.1, x.2]
def fpB (b : Addr) (ba : Ba) : List Addr := b :: ba.d :: fpP ba.ps
def kvB (ps : List (Addr × Addr)) (pls : List Pl) : List (Key × V) := List.zipWith (fun x pl => (Sum.inr pl.name, V.ref x.1)) ps pls
structure BdAt (K : PySem.W.Frag) (H : Hp) (b : Addr) (ba : Ba) (bd : Bd) : Prop where
  ob : ∃ dx vt, H b = some (.ins (He.ga K "Board") dx (bdf vt ba.d bd.joined)) ∧ FrA K H vt bd.time
  dc : H ba.d = some (.dK (kvB ba.ps bd.players))
  pl : Paired (fun x p => PlAt K H x.1 x.2 p) ba.ps bd.players
  nd : (fpB b ba).Nodup
  nm : (bd.players.map Pl.name).Nodup
  od : bd.players.Pairwise (fun a b => a.order < b.order)
  oj : ∀ p ∈ bd.players, p.order ≤ bd.joined
  ln : bd.players.length ≤ 900
theorem mem_fpP {ps : List (Addr × Addr)} {x : Addr × Addr} (h : x ∈ ps) : x.1 ∈ fpP ps ∧ x.2 ∈ fpP ps :=
  ⟨List.mem_flatMap.mpr ⟨x, h, by simp⟩, List.mem_flatMap.mpr ⟨x, h, by simp⟩⟩
theorem Paired.get {α β : Type} {F : α → β → Prop} : ∀ {xs : List α} {ys : List β} {i : Nat} {x : α} {y : β}, Paired F xs ys → xs[i]? = some x → ys[i]? = some y → F x y
  | _, _, 0, _, _, .cons r _, e1, e2 => by
    simp at e1 e2
    subst e1 e2
    exact r
  | _, _, i + 1, x, y, .cons _ t, e1, e2 => Paired.get (i := i) t (by simpa using e1) (by simpa using e2)
theorem Paired.mem {α β : Type} {F : α → β → Prop} : ∀ {xs : List α} {ys : List β} {x : α}, Paired F xs ys → x ∈ xs → ∃ y, y ∈ ys ∧ F x y
  | _, _, x, .cons r t, h => by
    rcases List.mem_cons.mp h with e | h
    · subst e
      exact ⟨_, List.mem_cons_self, r⟩
    · obtain ⟨y, h1, h2⟩ := Paired.mem t h
      exact ⟨y, List.mem_cons_of_mem _ h1, h2⟩
theorem BdAt.wr {K : PySem.W.Frag} {H : Hp} {b : Addr} {ba : Ba} {bd : Bd} (h : BdAt K H b ba bd) : ∀ a ∈ fpB b ba, Wr H a := fun a ha => by
  rcases List.mem_cons.mp ha with e | ha
  · obtain ⟨dx, vt, h1, _⟩ := h.ob
    rw [e]
    exact .inl ⟨_, _, _, h1⟩
  · rcases List.mem_cons.mp ha with e | ha
    · rw [e]
      exact .inr (.inr ⟨_, h.dc⟩)
    · obtain ⟨x, hx, hm⟩ := List.mem_flatMap.mp ha
      obtain ⟨p, _, hp⟩ := Paired.mem h.pl hx
      rcases List.mem_cons.mp hm with e | hm
      · rw [e]
        exact hp.wp
      · rw [List.mem_singleton.mp hm]
        exact hp.wl
theorem Paired.mapM {α β : Type} {F G : α → β → Prop} : ∀ {l1 : List α} {l2 : List β}, Paired F l1 l2 → (∀ a b, a ∈ l1 → b ∈ l2 → F a b → G a b) → Paired G l1 l2
  | _, _, .nil, _ => .nil
  | _, _, .cons r t, f => .cons (f _ _ List.mem_cons_self List.mem_cons_self r) (Paired.mapM t fun a b h1 h2 => f a b (List.mem_cons_of_mem _ h1) (List.mem_cons_of_mem _ h2))
/-- what does not touch the board leaves it as it is -/
theorem BdAt.frame {K : PySem.W.Frag} {H H' : Hp} {b : Addr} {ba : Ba} {bd : Bd} (h : BdAt K H b ba bd) (e : ∀ a ∈ fpB b ba, H' a = H a) (t : Tk H H') : BdAt K H' b ba bd := by
  obtain ⟨⟨dx, vt, o1, o2⟩, h2, h3, h4, h5, h6, h7, h8⟩ := h
  refine ⟨⟨dx, vt, (e b List.mem_cons_self).trans o1, o2.tk t⟩, (e _ (List.mem_cons_of_mem _ List.mem_cons_self)).trans h2, Paired.mapM h3 fun x p hx _ hp => ?_, h4, h5, h6, h7, h8⟩
  have m := mem_fpP hx
  exact hp.frame (e _ (List.mem_cons_of_mem _ (List.mem_cons_of_mem _ m.1))) (e _ (List.mem_cons_of_mem _ (List.mem_cons_of_mem _ m.2))) t
theorem BdAt.ux {T : List (Addr × Str)} {fp : List Addr} {K : PySem.W.Frag} {H H' : Hp} {b : Addr} {ba : Ba} {bd : Bd} (h : BdAt K H b ba bd) (u : Ux T fp H H') (hw : ∀ a ∈ fp, Wr H a) (hd : ∀ a ∈ fpB b ba, a ∉ fp) : BdAt K H' b ba bd := by
  refine h.frame (fun a ha => ?_) (u.tk hw)
  obtain ⟨o, e, z, _⟩ := (h.wr a ha).tbl
  rw [e]
  exact u.s a o (hd a ha) e z
theorem BdAt.same {K : PySem.W.Frag} {H H' : Hp} {b : Addr} {ba : Ba} {bd : Bd} (h : BdAt K H b ba bd) (e : Same H H') : BdAt K H' b ba bd := h.ux (T := []) (Ux.of e) (by simp) (by simp)
theorem BdAt.ux0 {T : List (Addr × Str)} {K : PySem.W.Frag} {H H' : Hp} {b : Addr} {ba : Ba} {bd : Bd} (h : BdAt K H b ba bd) (u : Ux T [] H H') : BdAt K H' b ba bd := h.ux u (by simp) (by simp)
theorem BdAt.len {K : PySem.W.Frag} {H : Hp} {b : Addr} {ba : Ba} {bd : Bd} (h : BdAt K H b ba bd) : ba.ps.length = bd.players.length := Paired.length h.pl
/-! ### the dict of players -/
theorem kvB_keys : ∀ {ps : List (Addr × Addr)} {pls : List Pl}, ps.length = pls.length → (kvB ps pls).map (·.1) = pls.map fun p => Sum.inr p.name
  | [], [], _ => rfl
  | x :: ps, p :: pls, h => by
    have := kvB_keys (ps := ps) (pls := pls) (by simpa using h)
    simp only [kvB, List.zipWith_cons_cons, List.map_cons] at this ⊢
    rw [this]
theorem valV_nil (k : Key) : valV ([] : List (Key × V)) k = none := rfl
theorem valV_cons (k' : Key) (v : V) (r : List (Key × V)) (k : Key) : valV ((k', v) :: r) k = if k' = k then some v else valV r k := by
  by_cases h : k' = k
  · rw [if_pos h]
    simp [valV, h]
  · rw [if_neg h]
    simp [valV, h]
theorem kvB_val : ∀ {ps : List (Addr × Addr)} {pls : List Pl} {i : Nat} {x : Addr × Addr} {p : Pl}, (pls.map Pl.name).Nodup → ps[i]? = some x → pls[i]? = some p → valV (kvB ps pls) (Sum.inr p.name : Key) = some (.ref x.1)
  | y :: ps, q :: pls, 0, x, p, _, e1, e2 => by
    simp at e1 e2
    subst e1 e2
    show valV ((Sum.inr q.name, V.ref y.1) :: kvB ps pls) (Sum.inr q.name : Key) = _
    rw [valV_cons, if_pos rfl]
  | y :: ps, q :: pls, i + 1, x, p, nd, e1, e2 => by
    simp only [List.getElem?_cons_succ] at e1 e2
    rw [List.map_cons, List.nodup_cons] at nd
    show valV ((Sum.inr q.name, V.ref y.1) :: kvB ps pls) (Sum.inr p.name : Key) = _
    have ne : (Sum.inr q.name : Key) ≠ Sum.inr p.name := fun z => nd.1 (by
      rw [Sum.inr.inj z]
      exact List.mem_map.mpr ⟨p, List.mem_of_getElem? e2, rfl⟩)
    rw [valV_cons, if_neg ne]
    exact kvB_val nd.2 e1 e2
theorem kvB_none : ∀ {ps : List (Addr × Addr)} {pls : List Pl} {z : Str}, (∀ p ∈ pls, p.name ≠ z) → valV (kvB ps pls) (Sum.inr z : Key) = none
  | [], _, _, _ => rfl
  | _ :: _, [], _, _ => rfl
  | y :: ps, q :: pls, z, h => by
    show valV ((Sum.inr q.name, V.ref y.1) :: kvB ps pls) (Sum.inr z : Key) = none
    rw [valV_cons, if_neg (fun e => h q List.mem_cons_self (Sum.inr.inj e))]
    exact kvB_none fun p hp => h p (List.mem_cons_of_mem _ hp)
theorem kvB_len {ps : List (Addr × Addr)} {pls : List Pl} (h : ps.length = pls.length) : (kvB ps pls).length = pls.length := by
  unfold kvB
  rw [List.length_zipWith]
  omega
theorem kvB_get {ps : List (Addr × Addr)} {pls : List Pl} {i : Nat} {k : Key} {v : V} (e : (kvB ps pls)[i]? = some (k, v)) : ∃ x p, ps[i]? = some x ∧ pls[i]? = some p ∧ k = Sum.inr p.name ∧ v = .ref x.1 := by
  unfold kvB at e
  rw [List.getElem?_zipWith] at e
  cases h1 : ps[i]? with
  | none =>
    rw [h1] at e
    cases e
  | some x =>
    cases h2 : pls[i]? with
    | none =>
      rw [h1, h2] at e
      cases e
    | some p =>
      rw [h1, h2] at e
      have e' : (Sum.inr p.name, V.ref x.1) = (k, v) := Option.some.inj e
      injection e' with e3 e4
      exact ⟨x, p, rfl, rfl, e3.symm, e4.symm⟩
/-! ### a loop over a locked dict's keys -/
theorem for_keys {d : Addr} {o : Obj} {kvs : List (Key × V)} {g : TG} {tb : TS} {D : Ends} {σ : L2.St} {H : Hp} (Pv : Nat → L2.St → Hp → Prop) (h0 : Pv 0 σ H)
    (hl : ∀ i σ H, Pv i σ H → H d = some (.frz o (.dK kvs)))
    (hs : ∀ i k v σ H, kvs[i]? = some (k, v) → Pv i σ H → g (kV k) σ H fun σ2 H2 => tb { D with nx := Pv (i + 1), ct := Pv (i + 1), bk := D.nx } σ2 H2) (hd : ∀ σ H, Pv kvs.length σ H → D.nx σ H) :
    ∃ W : Nat → Nat → L2.St → Hp → Prop, (∃ m, W 0 m σ H) ∧ ∀ i m σ H, W i m σ H →
      ((Itk d o kvs).stop i H ∧ D.nx σ H) ∨ ((Itk d o kvs).go i H ∧ ∃ N : L2.St → Hp → Prop, (∀ σ' H', N σ' H' → ∃ m', m' < m ∧ W (i + 1) m' σ' H') ∧ ∀ x H', (Itk d o kvs).yld i H x H' → g x σ H' fun σ2 H2 => tb { D with nx := N, ct := N, bk := D.nx } σ2 H2) := by
  refine ⟨fun i m σ H => m = kvs.length - i ∧ i ≤ kvs.length ∧ Pv i σ H, ⟨kvs.length, by simp, Nat.zero_le _, h0⟩, ?_⟩
  rintro i m σ H ⟨rfl, hi, p⟩
  by_cases hlt : i < kvs.length
  · refine .inr ⟨⟨hl i σ H p, hlt⟩, Pv (i + 1), fun σ' H' p' => ⟨kvs.length - (i + 1), by omega, rfl, by omega, p'⟩, ?_⟩
    rintro x H' ⟨rfl, k, v, e, rfl⟩
    exact hs i k v σ _ e p
  · have e : i = kvs.length := by omega
    subst e
    exact .inl ⟨⟨hl _ σ H p, Nat.le_refl _⟩, hd σ H p⟩
theorem yesI {σ : L2.St} {H : Hp} {A B : Hp → Prop} (h : A H) : tYes σ H fun b H3 => if b = true then A H3 else B H3 := by
  show if true = true then A H else B H
  rw [if_pos rfl]
  exact h
/-! ### things that are asked about -/
inductive Th (K : PySem.W.Frag) (H : Hp) : V → Prop where
  | int (i : Int) : Th K H (.int i)
  | bl (b : Bool) : Th K H (.bl b)
  | non : Th K H .non
  | str (z : Str) (h : z.length ≤ sizeLine) : Th K H (.str z)
  | tup {p : Addr} {xs : List V} (h : SqT K H p xs) : Th K H (.ref p)
  | lst {p : Addr} {xs : List V} (h : H p = some (.lst xs)) : Th K H (.ref p)
def isI : V → Bool
  | .int _ => true
  | _ => false
def isS : V → Bool
  | .str _ => true
  | _ => false
theorem Th.ty {K : PySem.W.Frag} {H : Hp} {v : V} (h : Th K H v) : ∃ n, TyX K H v (.type n) ∧ Kn n ∧ decide (n = "int") = isI v ∧ decide (n = "str") = isS v := by
  cases h with
  | int i => exact ⟨_, .base (.int i), .int, rfl, rfl⟩
  | bl b => exact ⟨_, .base (.bl b), .bool, rfl, rfl⟩
  | non => exact ⟨_, .base .non, .none, rfl, rfl⟩
  | str z h => exact ⟨_, .base (.str z), .str, rfl, rfl⟩
  | tup h => exact ⟨_, tyx_tup h, .tuple, rfl, rfl⟩
  | lst h => exact ⟨_, .base (.lst h), .list, rfl, rfl⟩
def inRange (lo hi : Int) : V → Bool
  | .int i => decide (lo ≤ i) && decide (i ≤ hi)
  | _ => false
def small : Str := "abcdefghijklmnopqrstuvwxyz"
def isNm (z : Str) : Bool := decide (1 ≤ z.length) && decide (z.length ≤ 6) && z.cps.toList.all fun c => decide (c ∈ small.cps.toList)
def isName : V → Bool
  | .str z => isNm z
  | _ => false
def isThere (bd : Bd) : V → Bool
  | .str z => bd.players.any fun p => decide (p.name = z)
  | _ => false
def rSignIn : R2 := fun x y H Q => ∃ (c : Nat) (z : Str), x = .str ⟨#[c]⟩ ∧ y = .str z ∧ Q (.bl (decide (c ∈ z.cps.toList))) H
/-- a list built from a text's signs -/
theorem lc_str {z : Str} {g : TG} {tt : TT} {te : TE} {vs : List Nat} {σ : L2.St} {H1 : Hp} {D : Addr} {Qd : Hp → Prop} (Pv : Nat → Hp → Prop) (h0 : Pv 0 (upd H1 D (.lst [])))
    (hs : ∀ i c H, z.cps.toList[i]? = some c → Pv i H → g (.str ⟨#[c]⟩) (wipe σ vs) H fun σ2 H2 => wipe σ2 vs = wipe σ vs ∧ tt σ2 H2 fun b H3 =>
      if b = true then te σ2 H3 fun y H4 => ∃ acc, H4 D = some (.lst acc) ∧ acc.length < sizeLine ∧ Pv (i + 1) (upd H4 D (.lst (acc ++ [y]))) else Pv (i + 1) H3) (hd : ∀ H, Pv z.cps.toList.length H → Qd H) :
    ∃ W : Nat → Nat → Hp → Prop, (∃ m, W 0 m (upd H1 D (.lst []))) ∧ ∀ i m H, W i m H →
      ((Its z).stop i H ∧ Qd H) ∨ ((Its z).go i H ∧ ∃ Nx : Hp → Prop, (∀ H', Nx H' → ∃ m', m' < m ∧ W (i + 1) m' H') ∧ ∀ x H', (Its z).yld i H x H' → g x (wipe σ vs) H' fun σ2 H2 => wipe σ2 vs = wipe σ vs ∧ tt σ2 H2 fun b H3 =>
        if b = true then te σ2 H3 fun y H4 => ∃ acc, H4 D = some (.lst acc) ∧ acc.length < sizeLine ∧ Nx (upd H4 D (.lst (acc ++ [y]))) else Nx H3) := by
  have hz : z.cps.toList.length = z.cps.size := Array.length_toList
  refine ⟨fun i m H => m = z.cps.size - i ∧ i ≤ z.cps.size ∧ Pv i H, ⟨z.cps.size, by simp, Nat.zero_le _, h0⟩, ?_⟩
  rintro i m H ⟨rfl, hi, p⟩
  by_cases hlt : i < z.cps.size
  · refine .inr ⟨hlt, Pv (i + 1), fun H' p' => ⟨z.cps.size - (i + 1), by omega, rfl, hlt, p'⟩, fun x H' y => ?_⟩
    obtain ⟨e, c, e2, e3⟩ := y
    subst e e3
    exact hs i c _ (by rw [Array.getElem?_toList]; exact e2) p
  · have e : i = z.cps.size := by omega
    subst e
    exact .inl ⟨Nat.le_refl _, hd H (by rw [hz]; exact p)⟩
/-! ### footprints -/
theorem fpP_cons (x : Addr × Addr) (ps : List (Addr × Addr)) : fpP (x :: ps) = x.1 :: x.2 :: fpP ps := rfl
theorem fpP_at {ps : List (Addr × Addr)} {i : Nat} {x : Addr × Addr} (h : ps[i]? = some x) : x.1 ∈ fpP ps ∧ x.2 ∈ fpP ps := mem_fpP (List.mem_of_getElem? h)
theorem fpP_self {ps : List (Addr × Addr)} {i : Nat} {x : Addr × Addr} (n : (fpP ps).Nodup) (h : ps[i]? = some x) : x.1 ≠ x.2 := by
  induction ps generalizing i with
  | nil => cases h
  | cons y ps ih =>
    rw [fpP_cons, List.nodup_cons, List.nodup_cons] at n
    cases i with
    | zero =>
      simp at h
      subst h
      exact fun z => n.1 (by rw [z]; exact List.mem_cons_self)
    | succ i => exact ih n.2.2 (by simpa using h)
theorem fpP_other {ps : List (Addr × Addr)} {i j : Nat} {x y : Addr × Addr} (n : (fpP ps).Nodup) (h : ps[i]? = some x) (h2 : ps[j]? = some y) (ne : j ≠ i) : (y.1 ≠ x.1 ∧ y.1 ≠ x.2) ∧ (y.2 ≠ x.1 ∧ y.2 ≠ x.2) := by
  induction ps generalizing i j with
  | nil => cases h
  | cons a ps ih =>
    rw [fpP_cons, List.nodup_cons, List.nodup_cons] at n
    cases i with
    | zero =>
      cases j with
      | zero => exact absurd rfl ne
      | succ j =>
        simp at h h2
        subst h
        have m := fpP_at h2
        exact ⟨⟨fun z => n.1 (List.mem_cons_of_mem _ (z ▸ m.1)), fun z => n.2.1 (z ▸ m.1)⟩, fun z => n.1 (List.mem_cons_of_mem _ (z ▸ m.2)), fun z => n.2.1 (z ▸ m.2)⟩
    | succ i =>
      cases j with
      | zero =>
        simp at h h2
        subst h2
        have m := fpP_at h
        exact ⟨⟨fun z => n.1 (List.mem_cons_of_mem _ (z ▸ m.1)), fun z => n.1 (List.mem_cons_of_mem _ (z ▸ m.2))⟩, fun z => n.2.1 (z ▸ m.1), fun z => n.2.1 (z ▸ m.2)⟩
      | succ j => exact ih n.2.2 (by simpa using h) (by simpa using h2) (by omega)
theorem fpP_set_mem {ps : List (Addr × Addr)} {i : Nat} {x : Addr × Addr} {l a : Addr} (h : ps[i]? = some x) (m : a ∈ fpP (ps.set i (x.1, l))) : a ∈ fpP ps ∨ a = l := by
  induction ps generalizing i with
  | nil => cases h
  | cons y ps ih =>
    cases i with
    | zero =>
      simp at h
      subst h
      rw [List.set_cons_zero, fpP_cons] at m
      rw [fpP_cons]
      simp only [List.mem_cons] at m ⊢
      rcases m with m | m | m
      · exact .inl (.inl m)
      · exact .inr m
      · exact .inl (.inr (.inr m))
    | succ i =>
      rw [List.set_cons_succ, fpP_cons] at m
      rw [fpP_cons]
      simp only [List.mem_cons] at m ⊢
      rcases m with m | m | m
      · exact .inl (.inl m)
      · exact .inl (.inr (.inl m))
      · rcases ih (by simpa using h) m with z | z
        · exact .inl (.inr (.inr z))
        · exact .inr z
theorem fpP_set_nodup {ps : List (Addr × Addr)} {i : Nat} {x : Addr × Addr} {l : Addr} (n : (fpP ps).Nodup) (h : ps[i]? = some x) (hl : l ∉ fpP ps) : (fpP (ps.set i (x.1, l))).Nodup := by
  induction ps generalizing i with
  | nil => cases h
  | cons y ps ih =>
    rw [fpP_cons, List.nodup_cons, List.nodup_cons] at n
    rw [fpP_cons] at hl
    simp only [List.mem_cons, not_or] at hl n
    cases i with
    | zero =>
      simp at h
      subst h
      rw [List.set_cons_zero, fpP_cons, List.nodup_cons, List.nodup_cons]
      simp only [List.mem_cons, not_or]
      exact ⟨⟨fun z => hl.1 z.symm, n.1.2⟩, hl.2.2, n.2.2⟩
    | succ i =>
      have h' : ps[i]? = some x := by simpa using h
      rw [List.set_cons_succ, fpP_cons, List.nodup_cons, List.nodup_cons]
      simp only [List.mem_cons, not_or]
      refine ⟨⟨n.1.1, fun z => ?_⟩, fun z => ?_, ih n.2.2 h' hl.2.2⟩
      · rcases fpP_set_mem h' z with z | z
        · exact n.1.2 z
        · exact hl.1 z.symm
      · rcases fpP_set_mem h' z with z | z
        · exact n.2.1 z
        · exact hl.2.1 z.symm
theorem set_same {α : Type} {l : List α} {i : Nat} {x : α} (h : l[i]? = some x) : l.set i x = l := by
  obtain ⟨hi, e⟩ := List.getElem?_eq_some_iff.mp h
  subst e
  exact List.set_getElem_self hi
theorem Paired.set' {α β : Type} {F G : α → β → Prop} {x' : α} {y' : β} : ∀ {xs : List α} {ys : List β} {i : Nat}, Paired F xs ys → (∀ j a b, j ≠ i → xs[j]? = some a → ys[j]? = some b → F a b → G a b) → G x' y' → Paired G (xs.set i x') (ys.set i y')
  | _, _, _, .nil, _, _ => .nil
  | _, _, 0, .cons r t, f, g => .cons g (Paired.ofGet t fun j a b h1 h2 q => f (j + 1) a b (by omega) (by simpa using h1) (by simpa using h2) q)
  | _, _, i + 1, .cons r t, f, g => .cons (f 0 _ _ (by omega) rfl rfl r) (Paired.set' t (fun j a b n h1 h2 q => f (j + 1) a b (by omega) (by simpa using h1) (by simpa using h2) q) g)
where
  Paired.ofGet {α β : Type} {F G : α → β → Prop} : ∀ {xs : List α} {ys : List β}, Paired F xs ys → (∀ j a b, xs[j]? = some a → ys[j]? = some b → F a b → G a b) → Paired G xs ys
    | _, _, .nil, _ => .nil
    | _, _, .cons r t, f => .cons (f 0 _ _ rfl rfl r) (Paired.ofGet t fun j a b h1 h2 q => f (j + 1) a b (by simpa using h1) (by simpa using h2) q)
theorem kvB_set {ps : List (Addr × Addr)} {pls : List Pl} {i : Nat} {x : Addr × Addr} {p p' : Pl} {l : Addr} (hx : ps[i]? = some x) (hp : pls[i]? = some p) (nm : p'.name = p.name) : kvB (ps.set i (x.1, l)) (pls.set i p') = kvB ps pls := by
  induction ps generalizing i pls with
  | nil => cases hx
  | cons y ps ih =>
    cases pls with
    | nil => cases hp
    | cons q pls =>
      cases i with
      | zero =>
        simp at hx hp
        subst hx hp
        show (Sum.inr p'.name, V.ref y.1) :: kvB ps pls = (Sum.inr q.name, V.ref y.1) :: kvB ps pls
        rw [nm]
      | succ i =>
        show (Sum.inr q.name, V.ref y.1) :: kvB (ps.set i (x.1, l)) (pls.set i p') = (Sum.inr q.name, V.ref y.1) :: kvB ps pls
        rw [ih (by simpa using hx) (by simpa using hp)]
theorem map_set_same {α β : Type} {f : α → β} {l : List α} {i : Nat} {p p' : α} (h : l[i]? = some p) (e : f p' = f p) : (l.set i p').map f = l.map f := by
  rw [List.map_set, e]
  exact set_same (by rw [List.getElem?_map, h]; rfl)
/-- one player is another one now -/
theorem BdAt.setP {K : PySem.W.Frag} {H H' : Hp} {b l' : Addr} {ba : Ba} {bd : Bd} {i : Nat} {x : Addr × Addr} {p p' : Pl} (h : BdAt K H b ba bd) (hx : ba.ps[i]? = some x) (hp : bd.players[i]? = some p)
    (e : ∀ a ∈ fpB b ba, a ≠ x.1 → a ≠ x.2 → H' a = H a) (t : Tk H H') (q : PlAt K H' x.1 l' p') (nm : p'.name = p.name) (od : p'.order = p.order) (hl : l' = x.2 ∨ l' ∉ fpB b ba) :
    BdAt K H' b ⟨ba.d, ba.ps.set i (x.1, l')⟩ { bd with players := bd.players.set i p' } := by
  obtain ⟨⟨dx, vt, o1, o2⟩, h2, h3, h4, h5, h6, h7, h8⟩ := h
  have m := fpP_at hx
  have n4 := h4
  unfold fpB at n4
  rw [List.nodup_cons, List.nodup_cons] at n4
  simp only [List.mem_cons, not_or] at n4
  have eb := e b List.mem_cons_self (fun z => n4.1.2 (z ▸ m.1)) (fun z => n4.1.2 (z ▸ m.2))
  have ed := e ba.d (List.mem_cons_of_mem _ List.mem_cons_self) (fun z => n4.2.1 (z ▸ m.1)) (fun z => n4.2.1 (z ▸ m.2))
  refine ⟨⟨dx, vt, eb.trans o1, o2.tk t⟩, ?_, ?_, ?_, ?_, ?_, ?_, ?_⟩
  · show H' ba.d = some (.dK (kvB (ba.ps.set i (x.1, l')) (bd.players.set i p')))
    rw [kvB_set hx hp nm]
    exact ed.trans h2
  · refine Paired.set' h3 (fun j y r ne h1 h2 hy => ?_) q
    have o := fpP_other n4.2.2 hx h1 ne
    have my := fpP_at h1
    exact hy.frame (e _ (List.mem_cons_of_mem _ (List.mem_cons_of_mem _ my.1)) o.1.1 o.1.2) (e _ (List.mem_cons_of_mem _ (List.mem_cons_of_mem _ my.2)) o.2.1 o.2.2) t
  · rcases hl with hl | hl
    · have e1 : ba.ps.set i (x.1, l') = ba.ps := by rw [hl]; exact set_same hx
      show (b :: ba.d :: fpP (ba.ps.set i (x.1, l'))).Nodup
      rw [e1]
      exact h4
    · unfold fpB at hl
      simp only [List.mem_cons, not_or] at hl
      show (b :: ba.d :: fpP (ba.ps.set i (x.1, l'))).Nodup
      rw [List.nodup_cons, List.nodup_cons]
      simp only [List.mem_cons, not_or]
      refine ⟨⟨n4.1.1, fun z => ?_⟩, fun z => ?_, fpP_set_nodup n4.2.2 hx hl.2.2⟩
      · rcases fpP_set_mem hx z with z | z
        · exact n4.1.2 z
        · exact hl.1 z.symm
      · rcases fpP_set_mem hx z with z | z
        · exact n4.2.1 z
        · exact hl.2.1 z.symm
  · show ((bd.players.set i p').map Pl.name).Nodup
    rw [map_set_same hp nm]
    exact h5
  · have h6' : (bd.players.map Pl.order).Pairwise (· < ·) := List.pairwise_map.mpr h6
    rw [← map_set_same hp od] at h6'
    exact List.pairwise_map.mp h6'
  · intro r hr
    rcases List.mem_or_eq_of_mem_set hr with hr | hr
    · exact h7 r hr
    · rw [hr, od]
      exact h7 p (List.mem_of_getElem? hp)
  · show (bd.players.set i p').length ≤ 900
    rw [List.length_set]
    exact h8
theorem fpB_set {b l' a : Addr} {ba : Ba} {i : Nat} {x : Addr × Addr} (hx : ba.ps[i]? = some x) (m : a ∈ fpB b ⟨ba.d, ba.ps.set i (x.1, l')⟩) : a ∈ fpB b ba ∨ a = l' := by
  unfold fpB at m ⊢
  simp only [List.mem_cons] at m ⊢
  rcases m with m | m | m
  · exact .inl (.inl m)
  · exact .inl (.inr (.inl m))
  · rcases fpP_set_mem hx m with z | z
    · exact .inl (.inr (.inr z))
    · exact .inr z
theorem fpB_x {b : Addr} {ba : Ba} {i : Nat} {x : Addr × Addr} (hx : ba.ps[i]? = some x) : x.1 ∈ fpB b ba ∧ x.2 ∈ fpB b ba :=
  ⟨List.mem_cons_of_mem _ (List.mem_cons_of_mem _ (fpP_at hx).1), List.mem_cons_of_mem _ (List.mem_cons_of_mem _ (fpP_at hx).2)⟩
theorem BdAt.at {K : PySem.W.Frag} {H : Hp} {b : Addr} {ba : Ba} {bd : Bd} {i : Nat} {p : Pl} (h : BdAt K H b ba bd) (hp : bd.players[i]? = some p) : ∃ x, ba.ps[i]? = some x ∧ PlAt K H x.1 x.2 p := by
  have hl := h.len
  have hi := (List.getElem?_eq_some_iff.mp hp).1
  have hx : ba.ps[i]? = some (ba.ps[i]'(by omega)) := List.getElem?_eq_getElem (by omega)
  exact ⟨_, hx, Paired.get (F := fun x p => PlAt K H x.1 x.2 p) h.pl hx hp⟩
theorem BdAt.ne {K : PySem.W.Frag} {H : Hp} {b : Addr} {ba : Ba} {bd : Bd} {i : Nat} {x : Addr × Addr} (h : BdAt K H b ba bd) (hx : ba.ps[i]? = some x) : b ≠ ba.d ∧ (x.1 ≠ b ∧ x.1 ≠ ba.d) ∧ (x.2 ≠ b ∧ x.2 ≠ ba.d) ∧ x.1 ≠ x.2 := by
  have n4 := h.nd
  unfold fpB at n4
  rw [List.nodup_cons, List.nodup_cons] at n4
  simp only [List.mem_cons, not_or] at n4
  have m := fpP_at hx
  exact ⟨n4.1.1, ⟨fun z => n4.1.2 (z ▸ m.1), fun z => n4.2.1 (z ▸ m.1)⟩, ⟨fun z => n4.1.2 (z ▸ m.2), fun z => n4.2.1 (z ▸ m.2)⟩, fpP_self n4.2.2 hx⟩
theorem BdAt.uniq {K : PySem.W.Frag} {H : Hp} {b : Addr} {ba : Ba} {bd : Bd} (h : BdAt K H b ba bd) {i j : Nat} {p q : Pl} (hp : bd.players[i]? = some p) (hq : bd.players[j]? = some q) (e : p.name = q.name) : i = j := by
  have nm := h.nm
  have h1 : (bd.players.map Pl.name)[i]? = some p.name := by rw [List.getElem?_map, hp]; rfl
  have h2 : (bd.players.map Pl.name)[j]? = some p.name := by rw [List.getElem?_map, hq, e]; rfl
  exact (List.getElem?_inj (List.getElem?_eq_some_iff.mp h1).1 nm).mp (h1.trans h2.symm)
/-- all but what stands at fp is as it was -/
def SameB (fp : List Addr) (H H' : Hp) : Prop := ∀ b o, b ∉ fp → H b = some o → H' b = some o
theorem SameB.ux {T : List (Addr × Str)} {fp : List Addr} {H H' : Hp} (h : SameB fp H H') (hw : ∀ a ∈ fp, Wr H a) : Ux T fp H H' := by
  refine ⟨fun b o n e _ => h b o n e, fun t q hq => ?_⟩
  obtain ⟨ps, h1, h2, h3⟩ := t q hq
  refine ⟨ps, h _ _ (fun z => ?_) h1, h2, fun pos cv hc => ?_⟩
  · obtain ⟨o, e, z1, _⟩ := (hw _ z).tbl
    rw [e] at h1
    exact z1 ps (Option.some.inj h1)
  · obtain ⟨c, e1, e2⟩ := h3 pos cv hc
    refine ⟨c, e1, h _ _ (fun z => ?_) e2⟩
    obtain ⟨o, e, _, z2, _⟩ := (hw _ z).tbl
    rw [e] at e2
    exact z2 _ (Option.some.inj e2)
theorem SameB.mono {fp fp' : List Addr} {H H' : Hp} (h : SameB fp H H') (m : ∀ a ∈ fp, a ∈ fp') : SameB fp' H H' := fun b o n => h b o fun z => n (m b z)
theorem SameB.trans {fp : List Addr} {H H1 H2 : Hp} (h : SameB fp H H1) (h2 : SameB fp H1 H2) : SameB fp H H2 := fun b o n e => h2 b o n (h b o n e)
theorem SameB.of {fp : List Addr} {H H' : Hp} (h : Same H H') : SameB fp H H' := fun b o _ e => h b o e
theorem Ux.same {T : List (Addr × Str)} {fp : List Addr} {H H' : Hp} (h : Same H H') : Ux T fp H H' := (Ux.of h).mono (by simp)
theorem Ux.wr' {T : List (Addr × Str)} {H H' : Hp} {a : Addr} (u : Ux T [] H H') (h : Wr H a) : Wr H' a := by
  rcases h with ⟨C, dx, fs, h⟩ | ⟨xs, h⟩ | ⟨kvs, h⟩
  · exact .inl ⟨_, _, _, u.s _ _ (by simp) h (fun _ z => by cases z)⟩
  · exact .inr (.inl ⟨_, u.s _ _ (by simp) h (fun _ z => by cases z)⟩)
  · exact .inr (.inr ⟨_, u.s _ _ (by simp) h (fun _ z => by cases z)⟩)
/-- a pair of a name and a time -/
def NtA (K : PySem.W.Frag) (H : Hp) (v : V) (x : Str × Rat) : Prop := ∃ p vq, v = .ref p ∧ SqT K H p [.str x.1, vq] ∧ FrA K H vq x.2
theorem NtA.tk {K : PySem.W.Frag} {H H' : Hp} {v : V} {s : Str × Rat} (h : NtA K H v s) (e : Tk H H') : NtA K H' v s := by
  obtain ⟨p, vq, h1, h2, h3⟩ := h
  exact ⟨p, vq, h1, e.sqT h2, h3.tk e⟩
def pnt (x : Str × Rat) : PyData := .tuple [.str x.1, pq x.2]
theorem dp_nt {K : PySem.W.Frag} {H : Hp} {v : V} {x : Str × Rat} (h : NtA K H v x) : Dp K H v (pnt x) := by
  obtain ⟨p, vq, rfl, h, f⟩ := h
  exact .tup h (.cons (.str _) (.cons (dp_q f) .nil))
theorem shaped_nt {x : Str × Rat} (hz : PyData.strOk x.1 = true) : SeqAt.shaped (pnt x) = true := by
  have e : SeqAt.shaped (pnt x) = (PyData.strOk x.1 && true && decide ((pnt x).depth ≤ 64)) := rfl
  rw [e, hz]
  rfl
theorem ne_nn {K : PySem.W.Frag} {H : Hp} {x y : V} {a : Str × Rat} {Q : VK} (hz : PyData.strOk a.1 = true) (h1 : NtA K H x a) (h2 : NtA K H y a) (h : Q (.bl false) H) : rNeD K x y H Q :=
  ⟨_, _, dp_nt h1, dp_nt h2, shaped_nt hz, shaped_nt hz, by rw [SeqAt.eqv_refl _ (SeqAt.canLay_of_shaped (shaped_nt hz))]; exact h⟩
theorem dp_strs {K : PySem.W.Frag} {H : Hp} : ∀ zs : List Str, DpAll K H (zs.map V.str) (zs.map PyData.str)
  | [] => .nil
  | n :: ns => .cons (.str n) (dp_strs ns)
theorem can_strs : ∀ {zs : List Str}, (∀ z ∈ zs, PyData.strOk z = true) → PyData.canLayAll0 (zs.map PyData.str) = true
  | [], _ => rfl
  | n :: ns, h => by
    show (PyData.strOk n && PyData.canLayAll0 (ns.map PyData.str)) = true
    rw [can_strs fun z hz => h z (List.mem_cons_of_mem _ hz), h n List.mem_cons_self]
    rfl
theorem depth_strs : ∀ zs : List Str, PyData.depthAll (zs.map PyData.str) ≤ 1
  | [] => by simp [PyData.depthAll]
  | n :: ns => by
    have := depth_strs ns
    simp only [List.map_cons, PyData.depthAll, PyData.depth]
    omega
theorem shaped_strs {zs : List Str} (h : ∀ z ∈ zs, PyData.strOk z = true) : SeqAt.shaped (.list (zs.map PyData.str)) = true := by
  have h1 : (PyData.list (zs.map PyData.str)).canLay0 = true := can_strs h
  have h2 : (PyData.list (zs.map PyData.str)).depth ≤ 64 := by
    have := depth_strs zs
    simp only [PyData.depth]
    omega
  unfold SeqAt.shaped
  rw [h1, decide_eq_true h2] <;> rfl
theorem ne_strs {K : PySem.W.Frag} {H : Hp} {p q : Addr} {zs : List Str} {Q : VK} (hz : ∀ z ∈ zs, PyData.strOk z = true) (h1 : SqL K H p (zs.map V.str)) (h2 : SqL K H q (zs.map V.str)) (h : Q (.bl false) H) : rNeD K (.ref p) (.ref q) H Q :=
  ⟨_, _, .lst h1 (dp_strs zs), .lst h2 (dp_strs zs), shaped_strs hz, shaped_strs hz, by rw [SeqAt.eqv_refl _ (SeqAt.canLay_of_shaped (shaped_strs hz))]; exact h⟩
def whoV (ba : Ba) (o : Option Nat) : V := match o with
  | none => .non
  | some i => match ba.ps[i]? with
    | some x => .ref x.1
    | none => .non
theorem kvB_map {f : Pl → Pl} (h : ∀ p, (f p).name = p.name) : ∀ (ps : List (Addr × Addr)) (pls : List Pl), kvB ps (pls.map f) = kvB ps pls
  | [], _ => by simp [kvB]
  | _ :: _, [] => by simp [kvB]
  | x :: ps, p :: pls => by
    show (Sum.inr (f p).name, V.ref x.1) :: kvB ps (pls.map f) = (Sum.inr p.name, V.ref x.1) :: kvB ps pls
    rw [h, kvB_map h ps pls]
theorem Paired.ofIdx {α β : Type} {F : α → β → Prop} : ∀ {xs : List α} {ys : List β}, xs.length = ys.length → (∀ (i : Nat) x y, xs[i]? = some x → ys[i]? = some y → F x y) → Paired F xs ys
  | [], [], _, _ => .nil
  | x :: xs, y :: ys, h, f => .cons (f 0 x y rfl rfl) (Paired.ofIdx (by simpa using h) fun i a b h1 h2 => f (i + 1) a b (by simpa using h1) (by simpa using h2))
theorem go_name (t : Rat) (p : Pl) : (p.go t).name = p.name := by
  unfold Pl.go
  split <;> rfl
theorem go_order (t : Rat) (p : Pl) : (p.go t).order = p.order := by
  unfold Pl.go
  split <;> rfl
theorem go_spells (t : Rat) (p : Pl) : (p.go t).spells = p.spells := by
  unfold Pl.go
  split <;> rfl
theorem modify_set {α : Type} {f : α → α} : ∀ {l : List α} {i : Nat} {x : α}, l[i]? = some x → l.modify i f = l.set i (f x)
  | [], _, _, h => by cases h
  | a :: l, 0, x, h => by
    simp at h
    subst h
    rfl
  | a :: l, i + 1, x, h => by
    have := modify_set (f := f) (l := l) (i := i) (x := x) (by simpa using h)
    simp [this]
theorem firstFold_ok {ps : List Pl} : ∀ (l : List Nat) (b : Option Nat), (∀ j, b = some j → ∃ p, ps[j]? = some p ∧ p.held = false) → ∀ j, l.foldl (firstStep ps) b = some j → ∃ p, ps[j]? = some p ∧ p.held = false
  | [], b, h, j, e => h j e
  | i :: l, b, h, j, e => by
    refine firstFold_ok l (firstStep ps b i) (fun j ej => ?_) j e
    unfold firstStep at ej
    split at ej
    · exact h j ej
    · rename_i one h1
      split at ej
      · exact h j ej
      · rename_i hh
        have hh' : one.held = false := by simpa using hh
        split at ej
        · cases ej
          exact ⟨one, h1, hh'⟩
        · split at ej
          · exact h j ej
          · split at ej
            · cases ej
              exact ⟨one, h1, hh'⟩
            · exact h j ej
theorem firstIx_some {ps : List Pl} {i : Nat} (h : firstIx ps = some i) : ∃ p, ps[i]? = some p := by
  obtain ⟨p, hp, _⟩ := firstFold_ok (ps := ps) _ none (fun j z => by cases z) i h
  exact ⟨p, hp⟩
theorem firstIx_held {ps : List Pl} {i : Nat} {p : Pl} (h : firstIx ps = some i) (hp : ps[i]? = some p) : p.held = false := by
  obtain ⟨q, hq, hh⟩ := firstFold_ok (ps := ps) _ none (fun j z => by cases z) i h
  rw [hp] at hq
  cases hq
  exact hh
theorem Th.same {K : PySem.W.Frag} {H H' : Hp} {v : V} (h : Th K H v) (e : Same H H') : Th K H' v := by
  cases h with
  | int i => exact .int i
  | bl b => exact .bl b
  | non => exact .non
  | str z h => exact .str z h
  | tup h => exact .tup (Same.sqT e h)
  | lst h => exact .lst (e _ _ h)
theorem tyx_same {K : PySem.W.Frag} {H H' : Hp} {x : V} {t : Value} (h : TyX K H x t) (e : Same H H') : TyX K H' x t := by
  cases h with
  | base h =>
    cases h with
    | non => exact .base .non
    | bl x => exact .base (.bl x)
    | int i => exact .base (.int i)
    | str x => exact .base (.str x)
    | flt x => exact .base (.flt x)
    | lst q => exact .base (.lst (e _ _ q))
    | frz q => exact .base (.frz (e _ _ q))
    | tup q => exact .base (.tup (e _ _ q))
    | dK q => exact .base (.dK (e _ _ q))
    | dT q => exact .base (.dT (e _ _ q))
    | ins q cl ha hn htk hm => exact .base (.ins (e _ _ q) cl ha hn htk hm)
  | byt b => exact .byt b
  | set q => exact .set (e _ _ q)
  | kList q c => exact .kList q c
  | kTuple q c => exact .kTuple q c
  | kDict q c => exact .kDict q c
  | fTuple q => exact .fTuple (e _ _ q)
  | fDict q => exact .fDict (e _ _ q)
theorem FrB.sameX {K : PySem.W.Frag} {H H' : Hp} {v : V} {r : Bool} (h : FrB K H v r) (e : Same H H') : FrB K H' v r := h.same e fun _ _ t => tyx_same t e
def AllR (bd : Bd) : Prop := ∀ p ∈ bd.players, p.held = false → RSz p
def Bd.next (bd : Bd) : Option (Nat × Pl) := (firstIx bd.players).bind fun i => (bd.players[i]?).map fun p => (i, p)
def Bd.late (bd : Bd) (t : Rat) : Bool := match bd.next with
  | none => false
  | some x => decide (x.2.rest < t)
def Bd.joinB (bd : Bd) (z : Str) (q : Int) (a : Rat) : Bd := { bd with players := bd.players ++ [⟨z, q, a, bd.joined + 1, [], false, 0⟩], joined := bd.joined + 1 }
def Bd.setP (bd : Bd) (i : Nat) (p : Pl) : Bd := { bd with players := bd.players.set i p }
def okBy (a : Rat) : Prop := 0 < a ∧ a ≤ 10 ∧ 1 / 10 ≤ a
end Qt

namespace Qt
/-! ### plain: inequalities of fractions -/
theorem mul_le_r {a b c : Rat} (h : a ≤ b) (hc : 0 ≤ c) : a * c ≤ b * c := by
  have := Rat.mul_le_mul_of_nonneg_left h hc
  grind
theorem le_of_mul_le {a b c : Rat} (hc : 0 < c) (h : a * c ≤ b * c) : a ≤ b := Rat.le_of_mul_le_mul_right h hc
theorem div_mul_self {a b : Rat} (h : 0 < b) : a / b * b = a := Rat.div_mul_cancel (by grind)
theorem le_div_of {a b c : Rat} (hc : 0 < c) (h : a * c ≤ b) : a ≤ b / c := le_of_mul_le hc (by rw [div_mul_self hc]; exact h)
theorem div_le_of {a b c : Rat} (hc : 0 < c) (h : b ≤ a * c) : b / c ≤ a := le_of_mul_le hc (by rw [div_mul_self hc]; exact h)
theorem mul_of_le_div {a b c : Rat} (hc : 0 < c) (h : a ≤ b / c) : a * c ≤ b := by
  have := mul_le_r h (Rat.le_of_lt hc)
  rw [div_mul_self hc] at this
  exact this
theorem den_mul (q : Rat) : q * (q.den : Rat) = (q.num : Rat) := by
  have h : (0 : Rat) < (q.den : Rat) := Rat.natCast_pos.mpr q.den_pos
  have e : q = (q.num : Rat) / (q.den : Rat) := by
    rw [← Rat.mkRat_eq_div, Rat.mkRat_self]
  have e2 := div_mul_self (a := (q.num : Rat)) h
  rw [← e] at e2
  exact e2
/-! ### plain: a common denominator -/
/-- D times q is whole -/
def Dn (D : Nat) (q : Rat) : Prop := ∃ z : Int, q * (D : Rat) = (z : Rat)
theorem Dn.add {D : Nat} {a b : Rat} (h1 : Dn D a) (h2 : Dn D b) : Dn D (a + b) := by
  obtain ⟨x, hx⟩ := h1
  obtain ⟨y, hy⟩ := h2
  exact ⟨x + y, by rw [Rat.intCast_add]; grind⟩
theorem Dn.sub {D : Nat} {a b : Rat} (h1 : Dn D a) (h2 : Dn D b) : Dn D (a - b) := by
  obtain ⟨x, hx⟩ := h1
  obtain ⟨y, hy⟩ := h2
  exact ⟨x - y, by rw [Rat.intCast_sub]; grind⟩
theorem Dn.mul {D E : Nat} {a b : Rat} (h1 : Dn D a) (h2 : Dn E b) : Dn (D * E) (a * b) := by
  obtain ⟨x, hx⟩ := h1
  obtain ⟨y, hy⟩ := h2
  exact ⟨x * y, by rw [Rat.intCast_mul, Rat.natCast_mul]; grind⟩
theorem Dn.up {D : Nat} {a : Rat} (h : Dn D a) (m : Nat) : Dn (D * m) a := by
  obtain ⟨x, hx⟩ := h
  exact ⟨x * m, by rw [Rat.intCast_mul, Rat.natCast_mul, Rat.intCast_natCast]; grind⟩
theorem Dn.of_dvd {D E : Nat} {a : Rat} (h : Dn D a) (d : D ∣ E) : Dn E a := by
  obtain ⟨m, rfl⟩ := d
  exact h.up m
theorem Dn.int {D : Nat} (n : Int) : Dn D (n : Rat) := ⟨n * D, by rw [Rat.intCast_mul, Rat.intCast_natCast]⟩
theorem Dn.den (q : Rat) : Dn q.den q := ⟨q.num, den_mul q⟩
theorem Dn.dvd {D : Nat} {q : Rat} (h : Dn D q) : q.den ∣ D := by
  obtain ⟨z, hz⟩ := h
  have e : (q.num : Rat) * (D : Rat) = (z : Rat) * (q.den : Rat) := by
    rw [← hz, ← den_mul q]
    grind
  have e2 : q.num * (D : Int) = z * (q.den : Int) := by
    have : ((q.num * (D : Int) : Int) : Rat) = ((z * (q.den : Int) : Int) : Rat) := by
      rw [Rat.intCast_mul, Rat.intCast_mul, Rat.intCast_natCast, Rat.intCast_natCast]
      exact e
    exact Rat.intCast_inj.mp this
  have e3 : q.den ∣ q.num.natAbs * D := by
    have := congrArg Int.natAbs e2
    rw [Int.natAbs_mul, Int.natAbs_mul, Int.natAbs_natCast, Int.natAbs_natCast] at this
    exact ⟨z.natAbs, by rw [this, Nat.mul_comm]⟩
  exact Nat.Coprime.dvd_of_dvd_mul_left (Nat.Coprime.symm q.reduced) e3
theorem Dn.bq {D B : Nat} {q : Rat} (h : Dn D q) (hD : 0 < D) (h1 : -(B : Rat) ≤ q) (h2 : q ≤ (B : Rat)) (hb : D * (B + 1) < 2 ^ 4000) : Bq 4000 q := by
  have hd : q.den ≤ D := Nat.le_of_dvd hD h.dvd
  have hn : (q.num).natAbs ≤ B * q.den := by
    have e := den_mul q
    have d0 : (0 : Rat) ≤ (q.den : Rat) := Rat.natCast_nonneg
    have u1 := mul_le_r h2 d0
    have u2 := mul_le_r h1 d0
    rw [e] at u1 u2
    have v1 : q.num ≤ (B : Int) * q.den := by
      have : (q.num : Rat) ≤ (((B : Int) * (q.den : Int) : Int) : Rat) := by
        rw [Rat.intCast_mul, Rat.intCast_natCast, Rat.intCast_natCast]
        exact u1
      exact Rat.intCast_le_intCast.mp this
    have v2 : -((B : Int) * q.den) ≤ q.num := by
      have : ((-((B : Int) * (q.den : Int)) : Int) : Rat) ≤ (q.num : Rat) := by
        rw [Rat.intCast_neg, Rat.intCast_mul, Rat.intCast_natCast, Rat.intCast_natCast]
        grind
      exact Rat.intCast_le_intCast.mp this
    have : ((B * q.den : Nat) : Int) = (B : Int) * q.den := Int.natCast_mul ..
    omega
  have m1 : B * q.den ≤ B * D := Nat.mul_le_mul_left B hd
  have m2 : D * (B + 1) = B * D + D := by rw [Nat.mul_add, Nat.mul_one, Nat.mul_comm]
  exact ⟨by omega, by omega⟩
/-! ### plain: the one whose turn is next is the one with the least rest -/
theorem aheadB_true {a b : Pl} (h : aheadB a b = true) : a.rest ≤ b.rest := by
  unfold aheadB at h
  split at h
  · exact Rat.le_of_lt (of_decide_eq_true h)
  · rename_i z
    have z' : a.rest = b.rest := Classical.not_not.mp z
    rw [z']
    exact Rat.le_refl
theorem aheadB_false {a b : Pl} (h : aheadB a b = false) : b.rest ≤ a.rest := by
  unfold aheadB at h
  split at h
  · exact Rat.not_lt.mp (of_decide_eq_false h)
  · rename_i z
    have z' : a.rest = b.rest := Classical.not_not.mp z
    rw [z']
    exact Rat.le_refl
/-- the least of those looked at -/
def Lst (ps : List Pl) (l : Nat → Prop) (o : Option Nat) : Prop := match o with
  | none => ∀ j p, l j → ps[j]? = some p → p.held = true
  | some i => ∃ q, ps[i]? = some q ∧ q.held = false ∧ ∀ j p, l j → ps[j]? = some p → p.held = false → q.rest ≤ p.rest
theorem firstFold_least {ps : List Pl} : ∀ (n : Nat), Lst ps (· < n) ((List.range n).foldl (firstStep ps) none)
  | 0 => fun j p h => absurd h (Nat.not_lt_zero _)
  | n + 1 => by
    have ih := firstFold_least (ps := ps) n
    rw [List.range_succ, List.foldl_append]
    show Lst ps (· < n + 1) (firstStep ps ((List.range n).foldl (firstStep ps) none) n)
    generalize (List.range n).foldl (firstStep ps) none = best at ih
    unfold firstStep
    cases hn : ps[n]? with
    | none =>
      have more : ∀ j p, j < n + 1 → ps[j]? = some p → j < n := fun j p hj hp => by
        by_cases e : j = n
        · rw [e, hn] at hp
          cases hp
        · omega
      cases best with
      | none => exact fun j p hj hp => ih j p (more j p hj hp) hp
      | some i =>
        obtain ⟨q, h1, h2, h3⟩ := ih
        exact ⟨q, h1, h2, fun j p hj hp => h3 j p (more j p hj hp) hp⟩
    | some one =>
      dsimp only
      have at_n : ∀ p, ps[n]? = some p → p = one := fun p hp => by
        rw [hn] at hp
        exact (Option.some.inj hp).symm
      by_cases hh : one.held = true
      · rw [if_pos hh]
        cases best with
        | none =>
          intro j p hj hp
          by_cases e : j = n
          · rw [e] at hp
            rw [at_n p hp]
            exact hh
          · exact ih j p (show j < n by have : j < n + 1 := hj; omega) hp
        | some i =>
          obtain ⟨q, h1, h2, h3⟩ := ih
          refine ⟨q, h1, h2, fun j p hj hp hd => ?_⟩
          by_cases e : j = n
          · rw [e] at hp
            rw [at_n p hp, hh] at hd
            cases hd
          · exact h3 j p (show j < n by have : j < n + 1 := hj; omega) hp hd
      · rw [if_neg hh]
        have hh' : one.held = false := by simpa using hh
        cases best with
        | none =>
          refine ⟨one, hn, hh', fun j p hj hp hd => ?_⟩
          by_cases e : j = n
          · rw [e] at hp
            rw [at_n p hp]
            exact Rat.le_refl
          · have := ih j p (show j < n by have : j < n + 1 := hj; omega) hp
            rw [hd] at this
            cases this
        | some i =>
          obtain ⟨q, h1, h2, h3⟩ := ih
          dsimp only
          rw [h1]
          dsimp only
          cases ha : aheadB one q with
          | true =>
            refine ⟨one, hn, hh', fun j p hj hp hd => ?_⟩
            by_cases e : j = n
            · rw [e] at hp
              rw [at_n p hp]
              exact Rat.le_refl
            · exact Rat.le_trans (aheadB_true ha) (h3 j p (show j < n by have : j < n + 1 := hj; omega) hp hd)
          | false =>
            refine ⟨q, h1, h2, fun j p hj hp hd => ?_⟩
            by_cases e : j = n
            · rw [e] at hp
              rw [at_n p hp]
              exact aheadB_false ha
            · exact h3 j p (show j < n by have : j < n + 1 := hj; omega) hp hd
theorem firstIx_least {ps : List Pl} {i : Nat} {q : Pl} (h : firstIx ps = some i) (hq : ps[i]? = some q) : ∀ p ∈ ps, p.held = false → q.rest ≤ p.rest := fun p hp hd => by
  have l := firstFold_least (ps := ps) ps.length
  rw [show (List.range ps.length).foldl (firstStep ps) none = some i from h] at l
  obtain ⟨q', h1, h2, h3⟩ := l
  rw [hq] at h1
  cases h1
  obtain ⟨j, hj⟩ := List.getElem?_of_mem hp
  exact h3 j p (List.getElem?_eq_some_iff.mp hj).1 hj hd
theorem firstIx_none {ps : List Pl} (h : firstIx ps = none) : ∀ p ∈ ps, p.held = true := fun p hp => by
  have l := firstFold_least (ps := ps) ps.length
  rw [show (List.range ps.length).foldl (firstStep ps) none = none from h] at l
  obtain ⟨j, hj⟩ := List.getElem?_of_mem hp
  exact l j p (List.getElem?_eq_some_iff.mp hj).1 hj
/-! ### plain: sizes of a board's numbers -/
def nums : List (Rat × Int) → Nat
  | [] => 1
  | s :: r => s.1.num.toNat * nums r
def dens : List (Rat × Int) → Nat
  | [] => 1
  | s :: r => s.1.den * dens r
structure PFine (D E n : Nat) (p : Pl) : Prop where
  q1 : 1 ≤ p.quick
  sp : ∀ s ∈ p.spells, 0 < s.1 ∧ Bq 4000 s.1
  nn : p.quick.toNat * nums p.spells ≤ n
  dd : dens p.spells ∣ E
  dn : Dn D p.done
  d0 : 0 ≤ p.done
  d1 : p.done ≤ 1
theorem num_pos {q : Rat} (h : 0 < q) : 0 < q.num := by
  have := (Rat.lt_iff 0 q).mp h
  simpa using this
theorem nums_pos : ∀ {ss : List (Rat × Int)}, (∀ s ∈ ss, 0 < s.1) → 0 < nums ss
  | [], _ => by decide
  | s :: r, h => Nat.mul_pos (by have := num_pos (h s List.mem_cons_self); omega) (nums_pos fun x hx => h x (List.mem_cons_of_mem _ hx))
theorem dens_pos : ∀ {ss : List (Rat × Int)}, 0 < dens ss
  | [] => by decide
  | s :: r => Nat.mul_pos s.1.den_pos dens_pos
theorem paceOf_mul : ∀ {ss : List (Rat × Int)} {q : Rat} {D : Nat} {z : Nat}, (∀ s ∈ ss, 0 < s.1) → q * (D : Rat) = (z : Rat) → paceOf q ss * ((D * dens ss : Nat) : Rat) = ((z * nums ss : Nat) : Rat)
  | [], q, D, z, _, e => by
    show q * ((D * 1 : Nat) : Rat) = ((z * 1 : Nat) : Rat)
    rw [Nat.mul_one, Nat.mul_one]
    exact e
  | s :: r, q, D, z, h, e => by
    have hs := h s List.mem_cons_self
    have e1 := den_mul s.1
    have e3 : (s.1.num : Rat) = ((s.1.num.toNat : Nat) : Rat) := by
      have := num_pos hs
      rw [← Rat.intCast_natCast, Int.toNat_of_nonneg (by omega)]
    have e2 : q * s.1 * ((D * s.1.den : Nat) : Rat) = ((z * s.1.num.toNat : Nat) : Rat) := by
      rw [Rat.natCast_mul, Rat.natCast_mul, ← e3, ← e1, ← e]
      grind
    have := paceOf_mul (ss := r) (fun x hx => h x (List.mem_cons_of_mem _ hx)) e2
    show paceOf (q * s.1) r * ((D * (s.1.den * dens r) : Nat) : Rat) = ((z * (s.1.num.toNat * nums r) : Nat) : Rat)
    rw [← Nat.mul_assoc, ← Nat.mul_assoc]
    exact this
theorem nums_take : ∀ {ss : List (Rat × Int)} (k : Nat), (∀ s ∈ ss, 0 < s.1) → nums (ss.take k) ≤ nums ss
  | [], k, _ => by simp
  | s :: r, 0, h => nums_pos (ss := s :: r) h
  | s :: r, k + 1, h => Nat.mul_le_mul_left _ (nums_take k fun x hx => h x (List.mem_cons_of_mem _ hx))
theorem dens_take : ∀ {ss : List (Rat × Int)} (k : Nat), dens (ss.take k) ∣ dens ss
  | [], k => by simp
  | s :: r, 0 => Nat.one_dvd _
  | s :: r, k + 1 => Nat.mul_dvd_mul_left _ (dens_take k)
theorem PFine.eq {D E n : Nat} {p : Pl} (h : PFine D E n p) (k : Nat) : paceOf (p.quick : Rat) (p.spells.take k) * ((dens (p.spells.take k) : Nat) : Rat) = ((p.quick.toNat * nums (p.spells.take k) : Nat) : Rat) := by
  have e : (p.quick : Rat) * ((1 : Nat) : Rat) = ((p.quick.toNat : Nat) : Rat) := by
    have := h.q1
    show (p.quick : Rat) * 1 = _
    rw [Rat.mul_one, ← Rat.intCast_natCast, Int.toNat_of_nonneg (by omega)]
  have := paceOf_mul (ss := p.spells.take k) (fun s hs => (h.sp s (List.mem_of_mem_take hs)).1) e
  rw [Nat.one_mul] at this
  exact this
theorem PFine.eqA {D E n : Nat} {p : Pl} (h : PFine D E n p) : p.pace * ((dens p.spells : Nat) : Rat) = ((p.quick.toNat * nums p.spells : Nat) : Rat) := by
  have := h.eq p.spells.length
  rw [List.take_length] at this
  exact this
theorem PFine.npos {D E n : Nat} {p : Pl} (h : PFine D E n p) : 0 < p.quick.toNat * nums p.spells := Nat.mul_pos (by have := h.q1; omega) (nums_pos fun s hs => (h.sp s hs).1)
theorem PFine.pace_pos {D E n : Nat} {p : Pl} (h : PFine D E n p) : 0 < p.pace := by
  have e := h.eqA
  have z : (0 : Rat) < p.pace * ((dens p.spells : Nat) : Rat) := by
    rw [e]
    exact Rat.natCast_pos.mpr h.npos
  exact (Rat.mul_pos_iff_of_pos_right (Rat.natCast_pos.mpr dens_pos)).mp z
/-- a number that is N by M -/
theorem bq_ratio {x : Rat} {M N E n : Nat} (e : x * (M : Rat) = (N : Rat)) (hM : 0 < M) (hE : M ∣ E) (hE0 : 0 < E) (hN : N ≤ n) (hb : E * (n + 1) < 2 ^ 4000) : Bq 4000 x ∧ 0 ≤ x ∧ x ≤ (n : Rat) ∧ Dn E x := by
  have m0 : (0 : Rat) < (M : Rat) := Rat.natCast_pos.mpr hM
  have m1 : (1 : Rat) ≤ (M : Rat) := by exact_mod_cast hM
  have x0 : 0 ≤ x := le_of_mul_le m0 (by rw [e]; have : (0 : Rat) ≤ (N : Rat) := Rat.natCast_nonneg; grind)
  have x1 : x ≤ (N : Rat) := by
    have := Rat.mul_le_mul_of_nonneg_left m1 x0
    grind
  have x2 : x ≤ (n : Rat) := Rat.le_trans x1 (Rat.natCast_le_natCast.mpr hN)
  have dn : Dn E x := Dn.of_dvd ⟨(N : Int), by rw [e, Rat.intCast_natCast]⟩ hE
  have n0 : (0 : Rat) ≤ (n : Rat) := Rat.natCast_nonneg
  exact ⟨dn.bq hE0 (by grind) x2 hb, x0, x2, dn⟩
/-- the bound that all is kept under -/
structure Lim (D E n T : Nat) : Prop where
  D0 : 0 < D
  E0 : 0 < E
  n0 : 0 < n
  lim : D * n * E * (T + n + E + 2) < 2 ^ 4000
theorem Lim.le {D E n T a b : Nat} (h : Lim D E n T) (ha : a ≤ D * n * E) (hb : b ≤ T + n + E + 1) : a * (b + 1) < 2 ^ 4000 :=
  Nat.lt_of_le_of_lt (Nat.mul_le_mul ha (by omega)) h.lim
theorem le3 {a b c : Nat} (ha : 0 < a) (hb : 0 < b) (hc : 0 < c) : a ≤ a * b * c ∧ c ≤ a * b * c ∧ a * b ≤ a * b * c :=
  ⟨Nat.le_trans (Nat.le_mul_of_pos_right a hb) (Nat.le_mul_of_pos_right _ hc), Nat.le_mul_of_pos_left c (Nat.mul_pos ha hb), Nat.le_mul_of_pos_right _ hc⟩
theorem PFine.psz {D E n T : Nat} {p : Pl} (h : PFine D E n p) (l : Lim D E n T) : PSz p := by
  refine ⟨fun k _ => ?_, fun s hs => (h.sp s hs).2⟩
  have hn : p.quick.toNat * nums (p.spells.take k) ≤ n := Nat.le_trans (Nat.mul_le_mul_left _ (nums_take k fun s hs => (h.sp s hs).1)) h.nn
  exact (bq_ratio (h.eq k) dens_pos (Nat.dvd_trans (dens_take k) h.dd) l.E0 hn (l.le (le3 l.D0 l.n0 l.E0).2.1 (by omega))).1
theorem PFine.paceE {D E n T : Nat} {p : Pl} (h : PFine D E n p) (l : Lim D E n T) : p.pace ≤ (n : Rat) ∧ Dn E p.pace := by
  have := bq_ratio h.eqA dens_pos h.dd l.E0 h.nn (l.le (le3 l.D0 l.n0 l.E0).2.1 (by omega))
  exact ⟨this.2.2.1, this.2.2.2⟩
/-- D, the number by which it grows -/
def Pl.up (p : Pl) : Nat := p.quick.toNat * nums p.spells
theorem PFine.rest {D E n T : Nat} {p : Pl} (h : PFine D E n p) (l : Lim D E n T) : 0 ≤ p.rest ∧ p.rest ≤ (E : Rat) ∧ Dn (D * p.up) p.rest := by
  have pp := h.pace_pos
  have e := h.eqA
  have er : p.rest * p.pace = 1 - p.done := div_mul_self pp
  have hd0 := h.d0
  have hd1 := h.d1
  have r0 : 0 ≤ p.rest := le_of_mul_le pp (by rw [er]; grind)
  have dp : (0 : Rat) < ((dens p.spells : Nat) : Rat) := Rat.natCast_pos.mpr dens_pos
  have e2 : p.rest * ((p.up : Nat) : Rat) = (1 - p.done) * ((dens p.spells : Nat) : Rat) := by
    unfold Pl.up
    rw [← e, ← er]
    grind
  have u1 : (1 : Rat) ≤ ((p.up : Nat) : Rat) := by
    have : 1 ≤ p.up := h.npos
    exact_mod_cast this
  have hE : ((dens p.spells : Nat) : Rat) ≤ (E : Rat) := Rat.natCast_le_natCast.mpr (Nat.le_of_dvd l.E0 h.dd)
  refine ⟨r0, ?_, ?_⟩
  · have a1 := Rat.mul_le_mul_of_nonneg_left u1 r0
    have a2 : (1 - p.done) * ((dens p.spells : Nat) : Rat) ≤ 1 * ((dens p.spells : Nat) : Rat) := mul_le_r (by grind) (Rat.le_of_lt dp)
    grind
  · have dn : Dn D (1 - p.done) := Dn.sub (Dn.int 1) h.dn
    obtain ⟨z, hz⟩ := dn
    refine ⟨z * (dens p.spells : Int), ?_⟩
    rw [Rat.natCast_mul, Rat.intCast_mul, Rat.intCast_natCast, ← hz]
    grind
theorem one_le_E {E : Nat} (h : 0 < E) : (1 : Rat) ≤ (E : Rat) := by exact_mod_cast h
theorem PFine.rsz {D E n T : Nat} {p : Pl} (h : PFine D E n p) (l : Lim D E n T) : RSz p := by
  obtain ⟨r0, r1, r2⟩ := h.rest l
  have hd0 := h.d0
  have hd1 := h.d1
  have i3 := le3 l.D0 l.n0 l.E0
  have hu : p.up ≤ n := h.nn
  refine ⟨h.psz l, fun z => ?_, ?_, ?_, ?_⟩
  · have := h.pace_pos
    rw [z] at this
    exact absurd this (by decide)
  · exact h.dn.bq (B := 1) l.D0 (by show -(1 : Rat) ≤ _; grind) hd1 (l.le i3.1 (by omega))
  · exact (Dn.sub (Dn.int 1) h.dn).bq (B := 1) l.D0 (by show -(1 : Rat) ≤ 1 - p.done; grind) (by show 1 - p.done ≤ (1 : Rat); grind) (l.le i3.1 (by omega))
  · exact r2.bq (B := E) (Nat.mul_pos l.D0 h.npos) (by have : (0 : Rat) ≤ (E : Rat) := Rat.natCast_nonneg; grind) r1 (l.le (Nat.le_trans (Nat.mul_le_mul_left _ hu) i3.2.2) (by omega))
structure Fine (D E n T : Nat) (bd : Bd) : Prop where
  pf : ∀ p ∈ bd.players, PFine D E n p
  tm : Dn D bd.time
  t0 : 0 ≤ bd.time
  t1 : bd.time ≤ (T : Rat)
theorem Fine.allR {D E n T : Nat} {bd : Bd} (h : Fine D E n T bd) (l : Lim D E n T) : AllR bd := fun p hp _ => (h.pf p hp).rsz l
/-- so long as nobody's turn is passed by -/
def Soon (bd : Bd) (t : Rat) : Prop := ∀ p ∈ bd.players, p.held = false → t ≤ p.rest
theorem PFine.go_le {D E n : Nat} {p : Pl} {t : Rat} (h : PFine D E n p) (ht : t ≤ p.rest) : p.done + t * p.pace ≤ 1 := by
  have := mul_of_le_div h.pace_pos (show t ≤ (1 - p.done) / p.pace from ht)
  grind
theorem Fine.tsz {D E n T U : Nat} {bd : Bd} {t : Rat} (h : Fine D E n T bd) (l : Lim D E n T) (t0 : 0 ≤ t) (t1 : t ≤ (E : Rat)) (ht : Dn (D * U) t) (hU : 0 < U) (hn : U ≤ n) (soon : Soon bd t) : TSz bd t := by
  have i3 := le3 l.D0 l.n0 l.E0
  have hDU : D * U ≤ D * n * E := Nat.le_trans (Nat.mul_le_mul_left _ hn) i3.2.2
  have hDUE : D * U * E ≤ D * n * E := Nat.mul_le_mul_right _ (Nat.mul_le_mul_left _ hn)
  have e0 : (0 : Rat) ≤ (E : Rat) := Rat.natCast_nonneg
  have tt0 := h.t0
  have tt1 := h.t1
  have bt : Bq 4000 t := ht.bq (B := E) (Nat.mul_pos l.D0 hU) (by grind) t1 (l.le hDU (by omega))
  refine ⟨h.tm.bq (B := T) l.D0 (by have : (0 : Rat) ≤ (T : Rat) := Rat.natCast_nonneg; grind) h.t1 (l.le i3.1 (by omega)), bt, ?_, fun p hp hh => ?_⟩
  · refine ((h.tm.up U).add ht).bq (B := T + E) (Nat.mul_pos l.D0 hU) ?_ ?_ (l.le hDU (by omega))
    · rw [Rat.natCast_add]
      have : (0 : Rat) ≤ (T : Rat) := Rat.natCast_nonneg
      grind
    · rw [Rat.natCast_add]
      grind
  · have f := h.pf p hp
    have r := f.rsz l
    have hp1 := f.paceE l
    have m0 : 0 ≤ t * p.pace := Rat.mul_nonneg t0 (Rat.le_of_lt f.pace_pos)
    have d0 := f.d0
    have a1 := f.go_le (soon p hp hh)
    have dm : Dn (D * U * E) (t * p.pace) := ht.mul hp1.2
    have hp3 : 0 < D * U * E := Nat.mul_pos (Nat.mul_pos l.D0 hU) l.E0
    refine ⟨f.psz l, r.dn, bt, dm.bq (B := 1) hp3 (by show -(1 : Rat) ≤ _; grind) (by show _ ≤ (1 : Rat); grind) (l.le hDUE (by omega)), ?_⟩
    have dd : Dn (D * U * E) p.done := by
      have := (f.dn.up U).up E
      exact this
    exact (dd.add dm).bq (B := 1) hp3 (by show -(1 : Rat) ≤ _; grind) (by show _ ≤ (1 : Rat); exact a1) (l.le hDUE (by omega))
theorem PFine.up' {D E n : Nat} {p : Pl} (h : PFine D E n p) (m : Nat) : PFine (D * m) E n p := { h with dn := h.dn.up m }
theorem Fine.pass {D E n T U : Nat} {bd : Bd} {t : Rat} (h : Fine D E n T bd) (l : Lim D E n T) (t0 : 0 ≤ t) (t1 : t ≤ (E : Rat)) (ht : Dn (D * U) t) (soon : Soon bd t) : Fine (D * U * E) E n (T + E) (bd.pass t) := by
  have tt0 := h.t0
  have tt1 := h.t1
  refine ⟨fun q hq => ?_, ((h.tm.up U).up E).add (ht.up E), ?_, ?_⟩
  · obtain ⟨p, hp, rfl⟩ := List.mem_map.mp hq
    have f := h.pf p hp
    have dd : Dn (D * U * E) p.done := (f.dn.up U).up E
    unfold Pl.go
    by_cases hh : p.held = true
    · rw [if_pos hh]
      exact { f with dn := dd }
    · rw [if_neg hh]
      have hh' : p.held = false := by simpa using hh
      have m0 : 0 ≤ t * p.pace := Rat.mul_nonneg t0 (Rat.le_of_lt f.pace_pos)
      have d0 := f.d0
      exact ⟨f.q1, f.sp, f.nn, f.dd, dd.add (ht.mul (f.paceE l).2), by show 0 ≤ p.done + t * p.pace; grind, f.go_le (soon p hp hh')⟩
  · show 0 ≤ bd.time + t
    grind
  · show bd.time + t ≤ ((T + E : Nat) : Rat)
    rw [Rat.natCast_add]
    grind
theorem nums_map : ∀ (ss : List (Rat × Int)), nums (ss.map fun s => (s.1, s.2 - 1)) = nums ss
  | [] => rfl
  | s :: r => by
    show s.1.num.toNat * nums (r.map _) = s.1.num.toNat * nums r
    rw [nums_map r]
theorem dens_map : ∀ (ss : List (Rat × Int)), dens (ss.map fun s => (s.1, s.2 - 1)) = dens ss
  | [] => rfl
  | s :: r => by
    show s.1.den * dens (r.map _) = s.1.den * dens r
    rw [dens_map r]
theorem nums_filter (f : Rat × Int → Bool) : ∀ {ss : List (Rat × Int)}, (∀ s ∈ ss, 0 < s.1) → nums (ss.filter f) ≤ nums ss
  | [], _ => Nat.le_refl _
  | s :: r, h => by
    have ih := nums_filter f (ss := r) fun x hx => h x (List.mem_cons_of_mem _ hx)
    have hs := num_pos (h s List.mem_cons_self)
    rw [List.filter_cons]
    split
    · exact Nat.mul_le_mul_left _ ih
    · exact Nat.le_trans ih (Nat.le_mul_of_pos_left _ (by omega))
theorem dens_filter (f : Rat × Int → Bool) : ∀ {ss : List (Rat × Int)}, dens (ss.filter f) ∣ dens ss
  | [] => Nat.dvd_refl _
  | s :: r => by
    have ih := dens_filter f (ss := r)
    rw [List.filter_cons]
    split
    · exact Nat.mul_dvd_mul_left _ ih
    · exact Nat.dvd_trans ih (Nat.dvd_mul_left _ _)
theorem spellsLess_mem {ss : List (Rat × Int)} {s : Rat × Int} (h : s ∈ spellsLess ss) : ∃ s' ∈ ss, s'.1 = s.1 := by
  obtain ⟨s', h1, h2⟩ := List.mem_map.mp (List.mem_filter.mp h).1
  exact ⟨s', h1, by rw [← h2]⟩
theorem PFine.endTurn {D E n : Nat} {p : Pl} (h : PFine D E n p) : PFine D E n p.endTurn := by
  have pos : ∀ s ∈ p.spells.map (fun s => (s.1, s.2 - 1)), 0 < s.1 := fun s hs => by
    obtain ⟨s', h1, rfl⟩ := List.mem_map.mp hs
    exact (h.sp s' h1).1
  refine ⟨h.q1, fun s hs => ?_, ?_, ?_, Dn.int 0, Rat.le_refl, (show (0 : Rat) ≤ 1 by decide)⟩
  · obtain ⟨s', h1, h2⟩ := spellsLess_mem hs
    rw [← h2]
    exact h.sp s' h1
  · refine Nat.le_trans (Nat.mul_le_mul_left _ (nums_filter _ pos)) ?_
    rw [nums_map]
    exact h.nn
  · refine Nat.dvd_trans (dens_filter _) ?_
    rw [dens_map]
    exact h.dd
theorem Bd.next_some {bd : Bd} {i : Nat} {p : Pl} (h : bd.next = some (i, p)) : firstIx bd.players = some i ∧ bd.players[i]? = some p ∧ p.held = false ∧ p ∈ bd.players := by
  unfold Bd.next at h
  cases hf : firstIx bd.players with
  | none =>
    rw [hf] at h
    cases h
  | some j =>
    rw [hf] at h
    cases hp : bd.players[j]? with
    | none =>
      simp [hp] at h
    | some q =>
      simp [hp] at h
      obtain ⟨rfl, rfl⟩ := h
      exact ⟨rfl, hp, firstIx_held hf hp, List.mem_of_getElem? hp⟩
theorem Bd.next_soon {bd : Bd} {i : Nat} {p : Pl} (h : bd.next = some (i, p)) : Soon bd p.rest := by
  obtain ⟨h1, h2, _⟩ := Bd.next_some h
  exact firstIx_least h1 h2
theorem Bd.stepAt_eq {bd : Bd} {i : Nat} {t : Rat} : bd.stepAt i t = { bd.pass t with players := (bd.pass t).players.modify i Pl.endTurn } := rfl
theorem Fine.step {D E n T : Nat} {bd : Bd} {i : Nat} {p : Pl} (h : Fine D E n T bd) (l : Lim D E n T) (hn : bd.next = some (i, p)) : TSz bd p.rest ∧ Fine (D * p.up * E) E n (T + E) (bd.stepAt i p.rest) := by
  obtain ⟨h1, h2, h3, h4⟩ := Bd.next_some hn
  have f := h.pf p h4
  obtain ⟨r0, r1, r2⟩ := f.rest l
  have soon := Bd.next_soon hn
  refine ⟨h.tsz l r0 r1 r2 f.npos f.nn soon, ?_⟩
  have g := h.pass l r0 r1 r2 soon
  refine ⟨fun q hq => ?_, g.tm, g.t0, g.t1⟩
  have e : (bd.stepAt i p.rest).players = (bd.pass p.rest).players.set i (p.go p.rest).endTurn := by
    rw [Bd.stepAt_eq]
    refine modify_set ?_
    show (bd.players.map (Pl.go p.rest))[i]? = _
    rw [List.getElem?_map, h2]
    rfl
  rw [e] at hq
  rcases List.mem_or_eq_of_mem_set hq with hq | hq
  · exact g.pf q hq
  · rw [hq]
    exact (g.pf (p.go p.rest) (List.mem_map.mpr ⟨p, h4, rfl⟩)).endTurn
end Qt

namespace Qt
open PySem PySem.Spec PyProof.Rows L2 LamX
/-! ### things that a law holds, apart from each other -/
structure Thing where
  fp : List Addr
  ok : Hp → Prop
  st : ∀ {H H' : Hp}, ok H → (∀ a ∈ fp, H' a = H a) → Tk H H' → ok H'
  wr : ∀ {H : Hp}, ok H → ∀ a ∈ fp, Wr H a
def boardT (K : PySem.W.Frag) (b : Addr) (ba : Ba) (bd : Bd) : Thing := ⟨fpB b ba, fun H => BdAt K H b ba bd, fun h e t => h.frame e t, fun h => h.wr⟩
def listT (l : Addr) (xs : List V) : Thing := ⟨[l], fun H => H l = some (.lst xs), fun h e _ => (e l List.mem_cons_self).trans h, fun h a ha => by rw [List.mem_singleton.mp ha]; exact .inr (.inl ⟨_, h⟩)⟩
def dictT (d : Addr) (kvs : List (Key × V)) : Thing := ⟨[d], fun H => H d = some (.dK kvs), fun h e _ => (e d List.mem_cons_self).trans h, fun h a ha => by rw [List.mem_singleton.mp ha]; exact .inr (.inr ⟨_, h⟩)⟩
/-- from H0 on only new things were written; they stand, apart -/
structure Sep (T : List (Addr × Str)) (H0 H : Hp) (ts : List Thing) : Prop where
  u : Ux T [] H0 H
  t : Tabs T H
  ok : ∀ x ∈ ts, x.ok H
  nw : ∀ x ∈ ts, ∀ a ∈ x.fp, Nw H0 a
  dj : ts.Pairwise fun x y => ∀ a ∈ x.fp, a ∉ y.fp
theorem Sep.nil {T : List (Addr × Str)} {H : Hp} (t : Tabs T H) : Sep T H H [] := ⟨Ux.refl _ _ _, t, by simp, by simp, .nil⟩
theorem Thing.keep {T : List (Addr × Str)} {fp : List Addr} {H H' : Hp} (x : Thing) (h : x.ok H) (u : Ux T fp H H') (hw : ∀ a ∈ fp, Wr H a) (hd : ∀ a ∈ x.fp, a ∉ fp) : x.ok H' := by
  refine x.st h (fun a ha => ?_) (u.tk hw)
  obtain ⟨o, e, z, _⟩ := (x.wr h a ha).tbl
  rw [e]
  exact u.s a o (hd a ha) e z
theorem Sep.ux {T : List (Addr × Str)} {H0 H H' : Hp} {ts : List Thing} {fp : List Addr} (s : Sep T H0 H ts) (u : Ux T fp H H') (hn : ∀ a ∈ fp, Nw H0 a) : Ux T [] H0 H' :=
  ⟨fun b o _ e z => u.s b o (fun m => by
    obtain ⟨ps, q⟩ := hn b m o e
    exact z ps q) (s.u.s b o (by simp) e z) z, fun t => u.t (s.u.t t)⟩
/-- one thing is another one now -/
theorem Sep.upd {T : List (Addr × Str)} {H0 H H' : Hp} {l1 l2 : List Thing} {x x' : Thing} (s : Sep T H0 H (l1 ++ x :: l2)) (u : Ux T x.fp H H') (t : Tabs T H') (n : ∀ a ∈ x'.fp, a ∈ x.fp ∨ Nw H a) (o : x'.ok H') : Sep T H0 H' (l1 ++ x' :: l2) := by
  have mx : x ∈ l1 ++ x :: l2 := by simp
  have wx := x.wr (s.ok x mx)
  have dj := s.dj
  rw [List.pairwise_append, List.pairwise_cons] at dj
  obtain ⟨d1, ⟨d2, d3⟩, d4⟩ := dj
  have ox : ∀ y ∈ l1, ∀ a ∈ y.fp, a ∉ x.fp := fun y hy => d4 y hy x List.mem_cons_self
  have ox2 : ∀ y ∈ l2, ∀ a ∈ y.fp, a ∉ x.fp := fun y hy a ha hx => d2 y hy a hx ha
  have nwn : ∀ y ∈ l1 ++ x :: l2, ∀ a ∈ y.fp, ∀ c, Nw H c → a ≠ c := fun y hy a ha c hc => by
    obtain ⟨ob, e, z, _⟩ := (y.wr (s.ok y hy) a ha).tbl
    exact hc.ne e z
  refine ⟨s.ux u (s.nw x mx), t, fun y hy => ?_, fun y hy a ha => ?_, ?_⟩
  · rcases List.mem_append.mp hy with hy | hy
    · exact y.keep (s.ok y (List.mem_append_left _ hy)) u wx (ox y hy)
    · rcases List.mem_cons.mp hy with e | hy
      · rw [e]
        exact o
      · exact y.keep (s.ok y (List.mem_append_right _ (List.mem_cons_of_mem _ hy))) u wx (ox2 y hy)
  · rcases List.mem_append.mp hy with hy | hy
    · exact s.nw y (List.mem_append_left _ hy) a ha
    · rcases List.mem_cons.mp hy with e | hy
      · rw [e] at ha
        rcases n a ha with h | h
        · exact s.nw x mx a h
        · exact s.u.nw h
      · exact s.nw y (List.mem_append_right _ (List.mem_cons_of_mem _ hy)) a ha
  · rw [List.pairwise_append, List.pairwise_cons]
    refine ⟨d1, ⟨fun y hy a ha hy2 => ?_, d3⟩, fun y hy z hz a ha => ?_⟩
    · rcases n a ha with h | h
      · exact d2 y hy a h hy2
      · exact nwn y (List.mem_append_right _ (List.mem_cons_of_mem _ hy)) a hy2 a h rfl
    · rcases List.mem_cons.mp hz with e | hz
      · rw [e]
        intro h
        rcases n a h with h | h
        · exact ox y hy a ha h
        · exact nwn y (List.mem_append_left _ hy) a ha a h rfl
      · exact d4 y hy z (List.mem_cons_of_mem _ hz) a ha
theorem Sep.keep {T : List (Addr × Str)} {H0 H H' : Hp} {ts : List Thing} (s : Sep T H0 H ts) (u : Ux T [] H H') (t : Tabs T H') : Sep T H0 H' ts :=
  ⟨s.u.trans u, t, fun y hy => y.keep (s.ok y hy) u (by simp) (by simp), s.nw, s.dj⟩
theorem Sep.same {T : List (Addr × Str)} {H0 H H' : Hp} {ts : List Thing} (s : Sep T H0 H ts) (e : Same H H') : Sep T H0 H' ts := s.keep (Ux.of e) (s.t.ext e)
theorem Sep.add {T : List (Addr × Str)} {H0 H H' : Hp} {ts : List Thing} {x : Thing} (s : Sep T H0 H ts) (u : Ux T [] H H') (t : Tabs T H') (n : ∀ a ∈ x.fp, Nw H a) (o : x.ok H') : Sep T H0 H' (x :: ts) := by
  have k := s.keep u t
  refine ⟨k.u, t, fun y hy => ?_, fun y hy a ha => ?_, .cons (fun y hy a ha hy2 => ?_) s.dj⟩
  · rcases List.mem_cons.mp hy with e | hy
    · rw [e]
      exact o
    · exact k.ok y hy
  · rcases List.mem_cons.mp hy with e | hy
    · rw [e] at ha
      exact s.u.nw (n a ha)
    · exact s.nw y hy a ha
  · obtain ⟨ob, e, z, _⟩ := (y.wr (s.ok y hy) a hy2).tbl
    exact (n a ha).ne e z rfl
theorem Sep.addNew {T : List (Addr × Str)} {H0 H : Hp} {ts : List Thing} {l : Addr} {xs : List V} (s : Sep T H0 H ts) (h : H l = none) : Sep T H0 (L2.upd H l (.lst xs)) (listT l xs :: ts) :=
  s.add (Ux.new h) (s.t.ext (same_new h)) (fun a ha => by rw [List.mem_singleton.mp ha]; exact nw_none h) upd_same
theorem Sep.setL {T : List (Addr × Str)} {H0 H : Hp} {l1 l2 : List Thing} {l : Addr} {xs ys : List V} (s : Sep T H0 H (l1 ++ listT l xs :: l2)) : Sep T H0 (L2.upd H l (.lst ys)) (l1 ++ listT l ys :: l2) := by
  have w : Wr H l := (listT l xs).wr (s.ok (listT l xs) (by simp)) l List.mem_cons_self
  exact s.upd (x := listT l xs) (x' := listT l ys) (Ux.wr w List.mem_cons_self) (w.tabs s.t) (fun a ha => .inl ha) upd_same
theorem Sep.sub {T : List (Addr × Str)} {H0 H : Hp} {ts us : List Thing} (s : Sep T H0 H ts) (h : us.Sublist ts) : Sep T H0 H us :=
  ⟨s.u, s.t, fun x hx => s.ok x (h.subset hx), fun x hx => s.nw x (h.subset hx), s.dj.sublist h⟩
theorem Sep.perm {T : List (Addr × Str)} {H0 H : Hp} {ts us : List Thing} (s : Sep T H0 H ts) (h : ts.Perm us) : Sep T H0 H us :=
  ⟨s.u, s.t, fun x hx => s.ok x (h.mem_iff.mpr hx), fun x hx => s.nw x (h.mem_iff.mpr hx), h.pairwise s.dj fun {x y} hxy a ha hb => hxy a hb ha⟩
theorem Sep.forget {T : List (Addr × Str)} {H0 H : Hp} {ts : List Thing} (s : Sep T H0 H ts) : Sep T H0 H [] := s.sub (List.nil_sublist _)
theorem Sep.sq {T : List (Addr × Str)} {H0 H : Hp} {ts : List Thing} {K : PySem.W.Frag} {a : Addr} {xs : List V} (s : Sep T H0 H ts) (h : SqL K H0 a xs) : SqL K H a xs := by
  rcases h with (h | ⟨o, h⟩) | h
  · exact .inl (.inl (s.u.s _ _ (by simp) h (fun _ z => by cases z)))
  · exact .inl (.inr ⟨o, s.u.s _ _ (by simp) h (fun _ z => by cases z)⟩)
  · exact .inr h
/-- a new board, empty -/
theorem BdAt.fresh {K : PySem.W.Frag} {H : Hp} {x d dx : Addr} (h1 : H x = some (.ins (He.ga K "Board") dx (bdf (.ref (He.ga K "NOUGHT")) d 0))) (h2 : H d = some (.dK [])) (hN : FrA K H (.ref (He.ga K "NOUGHT")) 0) : BdAt K H x ⟨d, []⟩ ⟨0, [], 0⟩ :=
  ⟨⟨dx, _, h1, hN⟩, h2, .nil, by
    show [x, d].Nodup
    have : x ≠ d := fun z => by
      rw [z, h2] at h1
      cases h1
    simp [this], .nil, .nil, by simp, by simp⟩
theorem Sep.trans {T : List (Addr × Str)} {H0 H H' : Hp} {ts us : List Thing} (s : Sep T H0 H ts) (r : Sep T H H' us) : Sep T H0 H' (us ++ ts) := by
  have k := s.keep r.u r.t
  refine ⟨k.u, r.t, fun y hy => ?_, fun y hy a ha => ?_, ?_⟩
  · rcases List.mem_append.mp hy with hy | hy
    · exact r.ok y hy
    · exact k.ok y hy
  · rcases List.mem_append.mp hy with hy | hy
    · exact s.u.nw (r.nw y hy a ha)
    · exact s.nw y hy a ha
  · rw [List.pairwise_append]
    refine ⟨r.dj, s.dj, fun x hx y hy a ha hy2 => ?_⟩
    obtain ⟨ob, e, z, _⟩ := (y.wr (s.ok y hy) a hy2).tbl
    exact (r.nw x hx a ha).ne e z rfl
/-- a pair of a text and a number -/
def PrA (K : PySem.W.Frag) (H : Hp) (v : V) (x : Str × Int) : Prop := ∃ t, v = .ref t ∧ SqT K H t [.str x.1, .int x.2]
theorem PrA.tk {K : PySem.W.Frag} {H H' : Hp} {v : V} {s : Str × Int} (h : PrA K H v s) (e : Tk H H') : PrA K H' v s := by
  obtain ⟨p, h1, h2⟩ := h
  exact ⟨p, h1, e.sqT h2⟩
def pairsT (K : PySem.W.Frag) (l : Addr) (ys : List V) (nps : List (Str × Int)) : Thing :=
  ⟨[l], fun H => H l = some (.lst ys) ∧ Paired (PrA K H) ys nps, fun h e t => ⟨(e l List.mem_cons_self).trans h.1, Paired.mapP h.2 fun _ _ z => z.tk t⟩, fun h a ha => by rw [List.mem_singleton.mp ha]; exact .inr (.inl ⟨_, h.1⟩)⟩
def FdA (K : PySem.W.Frag) (H : Hp) (kv : Key × V) (f : Str × Rat) : Prop := kv.1 = (Sum.inr f.1 : Key) ∧ FrA K H kv.2 f.2
def fdictT (K : PySem.W.Frag) (d : Addr) (kvs : List (Key × V)) (fs : List (Str × Rat)) : Thing :=
  ⟨[d], fun H => H d = some (.dK kvs) ∧ Paired (FdA K H) kvs fs, fun h e t => ⟨(e d List.mem_cons_self).trans h.1, Paired.mapP h.2 fun _ _ z => (⟨z.1, z.2.tk t⟩ : FdA K _ _ _)⟩, fun h a ha => by rw [List.mem_singleton.mp ha]; exact .inr (.inr ⟨_, h.1⟩)⟩
/-- a look into such a dict -/
theorem fdict_val {K : PySem.W.Frag} {H : Hp} : ∀ {kvs : List (Key × V)} {fs : List (Str × Rat)} {i : Nat} {f : Str × Rat}, Paired (FdA K H) kvs fs → (fs.map (·.1)).Nodup → fs[i]? = some f → ∃ v, valV kvs (Sum.inr f.1 : Key) = some v ∧ FrA K H v f.2
  | [], [], _, _, .nil, _, e => by simp at e
  | (k, v) :: kvs, g :: fs, 0, f, .cons r t, _, e => by
    simp at e
    subst e
    exact ⟨v, by rw [valV_cons, if_pos r.1], r.2⟩
  | (k, v) :: kvs, g :: fs, i + 1, f, .cons r t, nd, e => by
    have e' : fs[i]? = some f := by simpa using e
    rw [List.map_cons, List.nodup_cons] at nd
    obtain ⟨u, h1, h2⟩ := fdict_val t nd.2 e'
    refine ⟨u, ?_, h2⟩
    rw [valV_cons, if_neg ?_]
    · exact h1
    · intro z
      have z' : (Sum.inr g.1 : Key) = Sum.inr f.1 := r.1.symm.trans z
      exact nd.1 (List.mem_map.mpr ⟨f, List.mem_of_getElem? e', (Sum.inr.inj z').symm⟩)
theorem putK_new {kvs : List (Key × V)} {k : Key} {v : V} (h : k ∉ kvs.map (·.1)) : putK kvs k v = kvs ++ [(k, v)] := by
  unfold putK
  rw [if_neg]
  intro z
  obtain ⟨x, hx, e⟩ := List.any_eq_true.mp z
  exact h (List.mem_map.mpr ⟨x, hx, of_decide_eq_true e⟩)
theorem mergeK_app : ∀ (more acc : List (Key × V)), ((acc ++ more).map (·.1)).Nodup → mergeK acc more = acc ++ more
  | [], acc, _ => by
    show acc = acc ++ []
    rw [List.append_nil]
  | kv :: more, acc, h => by
    show mergeK (putK acc kv.1 kv.2) more = _
    have h1 : kv.1 ∉ acc.map (·.1) := fun z => by
      rw [List.map_append, List.map_cons, List.nodup_append] at h
      exact h.2.2 _ z _ List.mem_cons_self rfl
    rw [putK_new h1, mergeK_app more (acc ++ [(kv.1, kv.2)]) (by rw [List.append_assoc]; exact h), List.append_assoc]
    rfl
theorem mergeK_nil {kvs : List (Key × V)} (h : (kvs.map (·.1)).Nodup) : mergeK [] kvs = kvs := mergeK_app kvs [] h
theorem fd_keys {K : PySem.W.Frag} {H : Hp} : ∀ {kvs : List (Key × V)} {fs : List (Str × Rat)}, Paired (FdA K H) kvs fs → kvs.map (·.1) = fs.map fun f => (Sum.inr f.1 : Key)
  | _, _, .nil => rfl
  | _, _, .cons r t => by
    rw [List.map_cons, List.map_cons, fd_keys t, r.1]
theorem nodup_inr : ∀ {l : List Str}, l.Nodup → (l.map fun z => (Sum.inr z : Key)).Nodup
  | [], _ => .nil
  | z :: l, h => by
    rw [List.nodup_cons] at h
    rw [List.map_cons, List.nodup_cons]
    refine ⟨fun m => ?_, nodup_inr h.2⟩
    obtain ⟨y, hy, e⟩ := List.mem_map.mp m
    cases e
    exact h.1 hy
end Qt

namespace Qt
open PySem PySem.Spec PyProof.Rows L2 LamX HotX L2H
/-! ### walks over lists while an exception is handled -/
section
variable {prog : Program} {w : World} {A : Around} {E : Value → Shared → Prop} {s : Shared}
theorem list_end_hot {it l x1 : Addr} {i : Nat} {items : Array Value} {Q : Option Value → Shared → Prop} (hot : HotAt A x1 s.heap) (hit : s.heap.IsListIter it l i) (hl : s.heap.IsList l items) (hx : items[i]? = none)
    (hQ : ∀ g, Heap.ExtBut it s.heap g → Q none { s with heap := g }) : wpAny (model prog w) A (pyNext (.ref it)) Q E s := by
  obtain ⟨hh, o1, vs1, h1, d1, c1⟩ := hot
  obtain ⟨o, ho, hc, hd⟩ := id hit
  obtain ⟨ol, hol, _, nl, hdl⟩ := hl
  have nx : it ≠ x1 ∨ it = x1 := (Classical.em _).symm
  unfold pyNext
  refine wpAny_bind (wpAny_attempt (wpAny_callSpecial?_slot (name := Str.ofString "__next__") hit.typeIs slot_listiter_next (wpAny_call_entry slot_listiter_next hit.typeIs entry_listiter_next ?_ (args_listiter_next _))))
  show wpAny _ _ (field (.ref it) 0 >>= _) _ _ s; refine wpAny_bind (wpAny_field ho hd (x := .ref l) rfl ?_)
  show wpAny _ _ (if (Value.ref l == Value.none) = true then _ else _) _ _ s; rw [if_neg (show ¬ ((Value.ref l == Value.none) = true) from Bool.false_ne_true)]
  show wpAny _ _ (field (.ref it) 1 >>= _) _ _ s; refine wpAny_bind (wpAny_field ho hd (x := .int i 0) rfl ?_)
  show wpAny _ _ (seqItems? (.ref l) >>= _) _ _ s; refine wpAny_bind (wpAny_seqItems hol hdl ?_)
  simp only [Int.toNat_natCast, hx]
  refine wpAny_bind (wpAny_rule (wpAny_bind (wpAny_setField ho hd (by simp) ?_)))
  have h1' : ∃ o vs, (s.heap.update it (Obj.mapFields (·.setIfInBounds 0 .none))).get? x1 = some o ∧ o.data = .fields vs ∧ vs[2]? = some .none := by
    rcases nx with nx | nx
    · exact ⟨o1, vs1, (Heap.get?_update_other _ _ nx).trans h1, d1, c1⟩
    · subst nx
      rw [ho] at h1
      cases h1
      rw [hd] at d1
      cases d1
      simp at c1
  obtain ⟨o2, vs2, h2, d2, c2⟩ := h1'
  show wpAny _ _ (newExc (.type "StopIteration") [] >>= _) _ _ _; refine wpAny_bind ?_
  simp only [newExc, newTuple]
  refine wpAny_bind (wpAny_newObj_type ?_ (by size_fits)); refine wpAny_bind (m := firstArgMember _ _) (wpAny_of_eq (a := Value.none) (by first | rfl | (simp only [firstArgMember]; rfl)) ?_)
  refine wpAny_newObj_type ?_ (by size_fits)
  refine raiseNew_hot ⟨hh, o2, vs2, Heap.get?_push_of_some _ (Heap.get?_push_of_some _ h2), d2, c2⟩ (Nat.ne_of_lt (Heap.lt_size (Heap.get?_push_of_some _ h2))) (Heap.get?_push_size _ rfl) rfl (by first | (simp; done) | (simp; omega) | (simp only [Array.size_append]; simp; omega)) ?_
  refine wpAny_bind (wpAny_isInstance (T := "StopIteration") (b := true) ⟨_, Heap.get?_update_self _ (Heap.get?_push_size _ rfl) rfl, rfl⟩ isSubtype_stop ?_)
  refine wpAny_pure (hQ _ fun b o hb e => ?_)
  have e' : (s.heap.update it (Obj.mapFields (·.setIfInBounds 0 .none))).get? b = some o := (Heap.get?_update_other _ _ (Ne.symm hb)).trans e
  rw [Heap.get?_update_other _ _ (Nat.ne_of_gt (Heap.lt_size (Heap.get?_push_of_some _ e')))]
  exact Heap.get?_push_of_some _ (Heap.get?_push_of_some _ e')
theorem HotAt.at {x1 : Addr} {h g : Heap} (t : HotAt A x1 h) (k : ∀ o, h.get? x1 = some o → g.get? x1 = some o) : HotAt A x1 g := by
  obtain ⟨hh, o, vs, e, r⟩ := t
  exact ⟨hh, o, vs, k o e, r⟩
theorem walks_hot {x1 : Addr} (I ax : Addr) (hne : ax ≠ I) (hx : x1 ≠ I) (items : Array Value) :
    Walks prog w A I [I, ax, x1] [I] items.size (fun i v => items[i]? = some v) (fun i h => h.IsListIter I ax i ∧ h.IsList ax items ∧ HotAt A x1 h) where
  sub := fun b hb => by simp at hb; simp [hb]
  frame := fun _ _ _ st hk => ⟨st.1.at fun o e => hk I (by simp) o e, st.2.1.at fun o e => hk ax (by simp) o e, HotAt.at st.2.2 fun o e => hk x1 (by simp) o e⟩
  item := fun i s Q E hi st hQ => by
    refine wpAny_pyNext_list_item st.1 st.2.1 (x := items[i]) (by simp [hi]) fun g hit' hs' => ?_
    exact hQ _ g s.toks (by simp [hi]) ⟨hit', st.2.1.extBut hs'.extBut hne, HotAt.at st.2.2 fun o e => hs'.extBut x1 o hx e⟩ fun b o hb e => hs'.extBut b o (fun h => hb (by simp [h])) e
  done := fun s Q E st hQ => list_end_hot st.2.2 st.1 st.2.1 (by simp) fun g he' => hQ g s.toks fun b o hb e => he' b o (fun h => hb (by simp [h])) e
  self := fun _ _ _ _ st hQ => wpAny_pyIter_listiter st.1 hQ
end
section
variable {X : Cx}
theorem cr_sumH (hc : HotC X) : CallR X (.builtin "sum") (rSum X.K) := by
  intro pins s σ H vs us Q I r h
  obtain ⟨a, ns, rfl, hs, q⟩ := h
  obtain ⟨its, rv, hl, _⟩ := I.list hs
  rw [Vals.ref1 r]
  obtain ⟨x1, hot⟩ := hc.at I
  have hl' := hl.isList
  obtain ⟨xs, e⟩ := rv.ints.allInts.items
  have hn : numsOf (intItems xs).toList = ns := by rw [← e]; exact rv.ints.numsOf
  rw [nums_intItems] at hn
  rw [e] at hl'
  obtain ⟨_, _, _, g1, _⟩ := id hot
  have lx : x1 < s.heap.objs.size := Heap.lt_size g1
  refine call_sum_walkG (iter_intList hl' fun s₂ e st hfp hlI => ?_)
  subst e
  have W := walks_hot (prog := X.prog) (w := X.w) (A := X.A.in1) (x1 := x1) s.heap.objs.size a hlI (Nat.ne_of_lt lx) (intItems xs)
  refine ⟨_, _, _, _, _, _, numAt xs, rfl, W, ⟨st.1, st.2, HotAt.at hot fun o e => Heap.get?_push_of_some _ e⟩, fun b hb => ?_, (fun _ _ => intItems_at), fun h' tk t' hk => ?_⟩
  · rcases List.mem_cons.mp hb with z | hb
    · exact hfp b (by rw [z]; simp)
    · rcases List.mem_cons.mp hb with z | hb
      · exact hfp b (by rw [z]; simp)
      · rw [List.mem_singleton.mp hb]
        exact Heap.lt_size (Heap.get?_push_of_some _ g1)
  · have k := I.kept (t' := tk) (h' := h') (old_kept hk)
    refine ⟨.int ns.sum, H, k, ⟨t', ?_⟩, q⟩
    have e3 : (intItems xs).size = xs.size := by simp [intItems]
    rw [e3, preSum_eq, List.take_of_length_le (by simp), hn]
def rInts (K : PySem.W.Frag) (i : Nat) : TE := fun σ H Q => ∃ (a : Addr) (bs : List Bool), σ[i]? = some (some (.ref a)) ∧ SqL K H a (bs.map V.bl) ∧ ∀ D, H D = none → Q (.ref D) (upd H D (.lst (bs.map fun b => V.int (if b then 1 else 0))))
def flagSc : Scope := { kind := .function, names := [(PySem.Str.ofString ".0", .local), (PySem.Str.ofString "flag", .local), (PySem.Str.ofString "int", .globalImplicit)], isGenerator := false, isCoroutine := false, more := [] }
/-- [int(flag) for flag in flags] -/
theorem pe_intsH {i : Nat} {p1 p2 p3 p4 p5 p6 : Pos} (hc : HotC X) (hN : X.N[i]? = some ("flags" : Str)) (hv : Vis X.env.scope "flags") (hm : X.mg "int" = none) :
    PE X (.ListComp (.Call (.Name "int" p1) [.Name "flag" p2] [] p3) [⟨.Name "flag" p4, .Name "flags" p5, [], 0⟩] flagSc p6) (rInts X.K i) := by
  refine ⟨fun pins s σ H Q I h => ?_⟩
  obtain ⟨a, bs, hs, sq, q⟩ := h
  refine wpAny_ListComp_walk (fun _ => true) (fun (v y : Value) => ∃ (b : Bool) (t : Tok), v = .bool b ∧ y = .int (if b then 1 else 0) t) (by decide) (by decide) rfl (by decide) rfl ?_
  refine thn ((pe_var (pos := p5) (i := i) hN hv).run pins s σ H (fun v H1 => v = .ref a ∧ H1 = H) I ⟨_, hs, rfl, rfl⟩) fun u s1 ⟨v, H1, I1, r1, q1⟩ => ?_
  obtain ⟨rfl, rfl⟩ := q1
  obtain rfl : u = Value.ref a := r1
  obtain ⟨its, rv, hl, hz⟩ := I1.list sq
  obtain ⟨x1, hot⟩ := hc.at I1
  obtain ⟨_, _, _, g1, _⟩ := id hot
  have lx : x1 < s1.heap.objs.size := Heap.lt_size g1
  have hl' := hl.isList
  have la : a < s1.heap.objs.size := by
    obtain ⟨o, e, _⟩ := hl'
    exact Heap.lt_size e
  refine wpAny_pyIter_list hl' ?_
  have W := walks_hot (prog := X.prog) (w := X.w) (A := X.A) (x1 := x1) s1.heap.objs.size a (Nat.ne_of_lt la) (Nat.ne_of_lt lx) its.toArray
  have mem : ∀ (i : Nat) (v : Value), its.toArray[i]? = some v → ∃ b : Bool, v = .bool b ∧ bs[i]? = some b := fun j v hj => by
    have hj' : its[j]? = some v := by simpa using hj
    have hlen := rv.length
    rw [List.length_map] at hlen
    have hjl : j < bs.length := by
      have := (List.getElem?_eq_some_iff.mp hj').1
      omega
    have e1 : (bs.map V.bl)[j]? = some (V.bl bs[j]) := by
      rw [List.getElem?_map, List.getElem?_eq_getElem hjl]
      rfl
    obtain ⟨u, hu, ru⟩ := rv.get e1
    rw [hj'] at hu
    cases hu
    exact ⟨bs[j], ru, List.getElem?_eq_getElem hjl⟩
  refine ⟨s1.heap.objs.size, _, _, _, _, _, rfl, W, ?_, ⟨⟨_, Heap.get?_push_size _ rfl, rfl, rfl⟩, hl'.push _, HotAt.at hot fun o e => Heap.get?_push_of_some _ e⟩, fun b hb => ?_, ⟨fun C j v s3 m3 E' _ _ _ _ _ => ?_, fun C j v s3 m3 E' hP _ hn hm3 hk htk => ?_⟩, fun D h' tk ys vs hD hL hpl hlen hP hF hk => ?_⟩
  · have : its.length ≤ sizeLine := by
      have := rv.length
      rw [List.length_map] at this
      rw [List.length_map] at hz
      omega
    simpa using this
  · show b < (s1.heap.push _).objs.size
    rw [Heap.size_push]
    have z : b = s1.heap.objs.size ∨ b = a ∨ b = x1 := by simpa using hb
    rcases z with z | z | z
    · rw [z]
      exact Nat.lt_succ_self _
    · rw [z]
      exact Nat.lt_succ_of_lt la
    · rw [z]
      exact Nat.lt_succ_of_lt lx
  · exact wpAny_pure ⟨rfl, s3.heap, s3.toks, rfl, fun _ _ e => e⟩
  · obtain ⟨b, rfl, _⟩ := mem j v hP
    have up : ∀ c o, s1.heap.get? c = some o → s3.heap.get? c = some o := fun c o e => hk c o (fun z => by
      rw [List.mem_singleton.mp z] at e
      exact absurd (Heap.lt_size e) (Nat.lt_irrefl _)) (Heap.get?_push_of_some _ e)
    have bk : ∀ c o, X.base.get? c = some o → s3.heap.get? c = some o := fun c o e => up c o (I1.bk c o e)
    obtain ⟨mb, b1, b2⟩ := I1.mod.blt
    refine wpAny_Call_Name_kw (Calls.Name_function_global rfl rfl (Calls.loadGlobal_builtin (mg := X.mg) (show s3.heap.Ns X.env.globals X.mg by rw [I1.ok.glob]; exact I1.mod.glob.keeps bk) hm (show s3.heap.Ns X.env.builtins mb by rw [I1.ok.blt]; exact b1.keeps bk) ((b2 "int" (by decide)).trans (by decide +kernel : _ = some (Value.type "int"))) ?_) (by decide))
    refine PyProof.Rows.callWith_type1 ?_ rfl rfl
    refine Calls.spliced_cons (wpAny_Name (wpAny_loadName_local (v := .bool b) rfl rfl hn hm3 ?_) (by decide))
    refine Calls.spliced_nil (call_int_bool ⟨⟨b, _, rfl, rfl⟩, s3.heap, _, rfl, fun _ _ e => e⟩)
  · have up : ∀ c o, s1.heap.get? c = some o → h'.get? c = some o := fun c o e => hk c o (fun z => by
      rw [List.mem_singleton.mp z] at e
      exact absurd (Heap.lt_size e) (Nat.lt_irrefl _)) (Heap.get?_push_of_some _ e)
    have hD1 : s1.heap.get? D = none := by
      cases z : s1.heap.get? D with
      | none => rfl
      | some o =>
        rw [Heap.get?_push_of_some _ z] at hD
        cases hD
    have hn : H1 D = none := I1.hok.gone hD1
    obtain ⟨n, hg⟩ := hpl
    have hvs : vs = its := List.ext_getElem? fun j => by
      have e0 : its.toArray.size = its.length := by simp
      rw [e0] at hlen
      cases z : vs[j]? with
      | none =>
        have := List.getElem?_eq_none_iff.mp z
        exact (List.getElem?_eq_none_iff.mpr (by omega)).symm
      | some v =>
        have := hP j v z
        simpa using this.symm
    rw [hvs, show its.filter (fun _ => true) = its from List.filter_eq_self.mpr (fun _ _ => rfl)] at hF
    have vals : ∀ {bs : List Bool} {vs ys : List Value}, Vals (bs.map V.bl) vs → Paired (fun (v y : Value) => ∃ (b : Bool) (t : Tok), v = .bool b ∧ y = .int (if b then 1 else 0) t) vs ys → Vals (bs.map fun b => V.int (if b then 1 else 0)) ys := by
      intro bs
      induction bs with
      | nil =>
        intro vs ys r p
        cases r
        cases p
        exact .nil
      | cons b bs ih =>
        intro vs ys r p
        cases r with
        | cons r1 r2 =>
          cases p with
          | cons p1 p2 =>
            obtain ⟨b', t, e1, e2⟩ := p1
            rw [e1] at r1
            cases r1
            exact .cons ⟨t, e2⟩ (ih r2 p2)
    refine ⟨.ref D, _, I1.laidN (o := .lst (bs.map fun b => V.int (if b then 1 else 0))) up hD1 hn ⟨by rw [List.length_map]; rw [List.length_map] at hz; exact hz, ys.toList, n, vals rv hF, by simpa using hg⟩, rfl, q D hn⟩
end
/-! ### the class of a refusal -/
structure WordD (K : PySem.W.Frag) (ws : List Str) (x : Str) : Prop where
  ec : ExcC K (He.ga K x)
  is : ∀ y ∈ ws, PySem.W.kitOne K (.ref (He.ga K x)) (.ref (He.ga K y)) = some (decide (x = y))
  ve : PySem.W.kitOne K (.ref (He.ga K x)) (.type "ValueError") = some true
  te : PySem.W.exmOne K (.ref (He.ga K x)) (.ref (He.ga K "TurnError")) = some true
def wordB (K : PySem.W.Frag) (ws : List Str) (x : Str) : Bool :=
  decide (PySem.W.findIn K (.ref (He.ga K x)) "__getattribute__" = some (some (.builtin "BaseException.__getattribute__"))) && (decide (PySem.W.findIn K (.ref (He.ga K x)) "__getattr__" = some none) && (decide (PySem.W.subIn K (.ref (He.ga K x)) (.type "BaseException") = some true) && (PySem.W.hasDictIn K (He.ga K x) && (decide (PySem.W.findIn K (.ref (He.ga K x)) "__class__" = some (some (.builtin "object.__class__"))) &&
  (decide (PySem.W.specialIn K (.builtin "object.__class__") "__get__" = some (some (.builtin "getset_descriptor.__get__"))) && (decide (PySem.W.takesIn K (.builtin "object.__class__") = some true) && (decide (PySem.W.mroIn K (He.ga K x) (.type "object") = some true) &&
  (ws.all (fun y => decide (PySem.W.kitOne K (.ref (He.ga K x)) (.ref (He.ga K y)) = some (decide (x = y)))) && (decide (PySem.W.kitOne K (.ref (He.ga K x)) (.type "ValueError") = some true) && decide (PySem.W.exmOne K (.ref (He.ga K x)) (.ref (He.ga K "TurnError")) = some true))))))))))
theorem wordB_ok {K : PySem.W.Frag} {ws : List Str} {x : Str} (h : wordB K ws x = true) : WordD K ws x := by
  unfold wordB at h
  simp only [Bool.and_eq_true, decide_eq_true_eq, List.all_eq_true] at h
  obtain ⟨h1, h2, h3, h4, h5, h6, h7, h8, h9, h10, h11⟩ := h
  exact ⟨⟨h1, h2, h3, h4, h5, h6, h7, h8⟩, h9, h10, h11⟩
def wordsB (K : PySem.W.Frag) (ws : List Str) : Bool := ws.all (wordB K ws)
theorem wordsB_ok {K : PySem.W.Frag} {ws : List Str} (h : wordsB K ws = true) : ∀ x ∈ ws, WordD K ws x := fun x hx => wordB_ok (List.all_eq_true.mp h x hx)
/-- isinstance(e, c) of the exception that is handled, anywhere -/
theorem call_isH {X : Cx} {p : Addr × Obj} {D : Addr} (hp : p ∈ X.pn) (C : ExcC X.K D) (hz : Zc (.ref D) none p.2) (hf : ∃ vs, p.2.data = .fields vs) : CallR X (.builtin "isinstance") (rIsE X.K D p.1) := by
  intro pins s σ H xs us Q I r h
  obtain ⟨c, cv, b, rfl, hcv, e, q⟩ := h
  cases r with
  | cons rx rr =>
    cases rr with
    | cons rt rr =>
      cases rr
      cases rx
      have ec := hcv _ rt
      subst ec
      have hget := (I.pin p (List.mem_append.mpr (.inl hp))).1
      obtain ⟨a, oe⟩ := p
      obtain ⟨vs, hv⟩ := hf
      have J : PySem.W.InstAt s.heap a oe D none := by
        obtain ⟨oc, od, oda, osl⟩ := oe
        obtain ⟨h1, h2⟩ := hz
        dsimp only at h1 h2 hv
        subst h1 h2 hv
        exact ⟨hget, rfl, rfl, trivial⟩
      exact PySem.W.kia_one (PySem.W.handS_kitx_exc C.hg C.hk C.hs C.hd C.ha C.hn C.ht C.hm) I.kIn J e (fun z => nomatch z) fun tk => ⟨.bl b, H, I.kept (t' := tk) fun _ _ z => z, rfl, q⟩
/-- the promise of the def that tells the word -/
def WordRun (P : Program) (w : World) (K : PySem.W.Frag) (mg : Str → Option Value) (base : Heap) (k : Nat) (f : Addr) (fd : FuncData) (ws : List Str) : Prop :=
  ∀ (A : Around) (outer : List Env) (s : Shared) (H : Hp) (args : Args) (us : List Value) (Q : VK) (E : XK) (p : Addr × Obj) (x : Str), x ∈ ws → RoomH k A → Hot1 A p → Zc (.ref (He.ga K x)) none p.2 → PinOk outer H s p → Env0 P w K mg base A outer s H → BindsTo s fd args ([("e" : Str)].zip us) → Vals [.ref p.1] us →
    (∀ t H', Same H H' → SqT K H' t [.str "refused", .str x] → Q (.ref t) H') → codeAny (model P w) A (.call (.ref f) args) (CR CX0 outer P w H s Q E) s
theorem word_of {P : Program} {w : World} {K : PySem.W.Frag} {mg : Str → Option Value} {base : Heap} {k : Nat} {x qual : Str} {params : Arguments} {body : List Stmt} {scope : Scope} {f : Addr} {fd : FuncData} {N : List Str} {ws : List Str}
    (F : FunD K x qual params body scope [] [] f fd) (S : FnScope N ["e"] scope)
    (hbody : ∀ (cdv : Value) (A : Around) (outer : List Env) (s : Shared) (H : Hp) (Q : VK) (E : XK) (p : Addr × Obj) (y : Str), y ∈ ws → Hot1 A p → Zc (.ref (He.ga K y)) none p.2 → RoomH k (A.deeper (envOfC qual scope s.heap.objs.size f cdv)) →
      (∀ t H', Same H H' → SqT K H' t [.str "refused", .str y] → Q (.ref t) H') →
      ∃ t, PSs (cxH CX0 P w K mg base N qual scope f cdv A outer s H E p) body t ∧ t { nx := fun _ H' => Q .non H', rt := Q } (L2.start N [.ref p.1]) H) :
    WordRun P w K mg base (k + 1) f fd ws := by
  intro A outer s H args us Q E p y hy hr hot hz hpin e0 hb r hQ
  obtain ⟨oc, od, dV, kV, doc, pm, an, cdv, ct, osl, rfl, lk, hcd, _, _⟩ := F.ex
  have kept := fun b o e => (e0.bs b o e).1
  have KX : K.In s.heap := e0.mod.kin.keeps kept
  refine codeAny_call_function hr.depth (KX _ _ lk) rfl S.co S.gen rfl (PySem.W.codeRec_of KX hcd) (hb _ _ _ _ (wpAny_newFunctionEnv_cells S.kind (fun ⟨n, v⟩ hy => ?_) fun env he s1 x => ?_))
  · exact (S.par n (List.of_mem_zip hy).1).imp id fun q => ⟨q, PySem.W.cellsFrom_some _ _ _ (.inl q)⟩
  subst he
  refine ⟨(e0.mod.nolimit.keeps kept).keeps x.toInCall.keep, codeAny_func ?_⟩
  obtain ⟨t, ht, hq⟩ := hbody cdv A outer s H Q E p y hy hot hz (hr.deeper _) hQ
  refine wpAny_mono (ht.run [] s1 _ H _ (inv_startH S hpin e0 rfl r x) hq) (fun fl s' hs => ?_) fun e s' hs => hs
  cases fl with
  | ret u =>
    obtain ⟨v, σ', H', J, rv, q⟩ := hs
    exact ⟨v, H', J.os, J.bare, J.base, J.hok, rv, q⟩
  | next =>
    obtain ⟨σ', H', J, q⟩ := hs
    exact ⟨V.non, H', J.os, J.bare, J.base, J.hok, rfl, q⟩
  | brk =>
    obtain ⟨_, _, _, q⟩ := hs
    exact False.elim q
  | cont =>
    obtain ⟨_, _, _, q⟩ := hs
    exact False.elim q
/-- the word of the exception that the suite handles -/
theorem pe_word {X : Cx} {k i : Nat} {f a : Addr} {fd : FuncData} {oe : Obj} {cls : Value} {d : Option Addr} {pn : List (Addr × Obj)} {ws : List Str} {p1 p2 p3 : Pos} (F : WordRun X.prog X.w X.K X.mg X.base k f fd ws) (hr : Room k X.A) (hz : L2N.Zn cls d oe) (hf : ∃ vs, oe.data = .fields vs)
    (hg : Gl X "_law_word") (hm : X.mg "_law_word" = some (.ref f)) (hk : PySem.W.keepIn X.K (.ref f) = true) (hb : Binds X.K fd ["e"] []) (hN : X.N[i]? = some ("e" : Str)) (hv : Vis X.env.scope "e") (hst : starEach [Expr.Name "e" p2] X.env = (false, eval (.Name "e" p2) X.env) :: starEach [] X.env := by rfl) :
    PE (X.suite a ((a, oe) :: pn)) (.Call (.Name "_law_word" p1) [.Name "e" p2] [] p3)
      (fun σ H Q => σ[i]? = some (some (.ref a)) ∧ ∃ x, x ∈ ws ∧ cls = .ref (He.ga X.K x) ∧ d = none ∧ ∀ t H', Same H H' → SqT X.K H' t [.str "refused", .str x] → Q (.ref t) H') := by
  refine ⟨fun pins s σ H Q I h => ?_⟩
  obtain ⟨hs, x, hx, rfl, rfl, q⟩ := h
  refine wpAny_Call_Name_kw (ld_glob I hg hm ?_ (by decide))
  have ha : PA (X.suite a ((a, oe) :: pn)) [.Name "e" p2] _ := pa_cons (pe_var (i := i) hN hv) pa_nil
  refine PySem.W.callWith_K (h₀ := X.base) I.ok.mod.kin hk (thn (ha.run p3 pins s σ H (fun vs H1 => vs = [V.ref a] ∧ H1 = H) I ⟨_, hs, rfl, rfl⟩) fun us s1 hh => ?_) hst rfl
  obtain ⟨vs, H1, I1, r1, ev, eH⟩ := hh
  subst ev eH
  refine ⟨I1.kIn, ?_⟩
  obtain ⟨vs, hd⟩ := hf
  have hot : Hot1 (X.suite a ((a, oe) :: pn)).A (a, oe) := ⟨rfl, vs, hd, hz.2.2 vs hd⟩
  have P1 := I1.pin (a, oe) (List.mem_append_left _ List.mem_cons_self)
  have hpin : PinOk X.stack H1 s1 (a, oe) := ⟨P1.1, P1.2.1, fun hm => (List.mem_cons.mp (I1.stkSub a hm)).elim P1.2.2.1 P1.2.2.2.1, P1.2.2.2.2⟩
  have b := hb s1 us I1.kIn (by rw [List.append_nil, ← r1.length]; rfl)
  rw [List.append_nil] at b
  refine wpAny_call (codeAny_mono (F (X.A.mark (some (.ref a))) X.stack s1 H1 ⟨us, []⟩ us Q E0 (a, oe) x hx ⟨hr.dp, hr.un⟩ hot hz.zc hpin I1.env0 b r1 q) fun r s' hq => ?_)
  cases r with
  | error e => exact False.elim hq
  | ok fl =>
    cases fl with
    | ret u => exact I1.after hq
    | next => exact False.elim hq
    | brk => exact False.elim hq
    | cont => exact False.elim hq
/-! ### told: what a deed tells, or how it is refused -/
/-- the context of the lambda's body: what it raises has no context -/
abbrev lamN (X : Cx) (A : Around) (outer : List Env) (s : Shared) (H : Hp) (E : XK) (scope : Scope) (f c' : Addr) : Cx :=
  (lamCx X A outer s H E scope f c').tr [] fun e s' => wpAny (model X.prog X.w) (A.deeper (lamEnv X scope s.heap.objs.size f c')) (leaving (lamEnv X scope s.heap.objs.size f c') e) (fun _ s'' => L2N.CX X.prog X.w outer H s E e s'') (fun e' s'' => L2N.CX X.prog X.w outer H s E e' s'') s'
/-- the wish of what is raised -/
def toldE (K : PySem.W.Frag) (ws : List Str) (Q : VK) : XK := fun cls d H => ∃ x, x ∈ ws ∧ cls = .ref (He.ga K x) ∧ d = none ∧ ∀ t H', Same H H' → SqT K H' t [.str "refused", .str x] → Q (.ref t) H'
def tTold (T : List (Addr × Str)) (K : PySem.W.Frag) (ws : List Str) (t : XK → TE) : TE := fun σ H Q => Tabs T H ∧ ∀ H1, ExtN H H1 → Tabs T H1 → t (toldE K ws Q) σ H1 Q
def toldBody (p1 p2 p3 p4 p5 p6 p7 p8 p9 p10 : Pos) : List Stmt :=
  [.Try [.Return (some (.Call (.Name "deed" p1) [] [] p2)) p3] [.ExceptHandler (some (.Name "TurnError" p4)) (some "e") [.Return (some (.Call (.Name "_law_word" p5) [.Name "e" p6] [] p7)) p8] p9] [] [] p10]
theorem takesN0 {X : Cx} : L2N.Takes X (fun _ _ _ _ => False) := fun _ _ ⟨_, _, _, _, _, _, _, _, _, _, _, _, _, _, _, _, z⟩ => z.elim
section
variable {X : Cx} {pins : List (Addr × Obj)} {σ : L2.St} {H : Hp} {s : Shared}
/-- deed(), within the def that tells -/
theorem pe_deed {Ng : List Str} {qg : Str} {sg : Scope} {g f c' : Addr} {cdg pm ctv : Value} {params : Arguments} {body : Expr} {scope : Scope} {k i : Nat} {pn : List (Addr × Obj)} {xe : Value → Shared → Prop} {W : WX} {E : XK} {tb : TE} {p1 p2 : Pos} {a : Str}
    (I : Inv X pins σ H s) (L : LamS X.env.scope scope) (hf : s.heap.get? f = some (PySem.W.kla_obj "<lambda>" (X.env.qual ++ "<lambda>") params body scope (cloFrom X.env.cells scope.names []) pm c' ctv)) (hfn : H f = none) (hfr : f ∉ frs X.stack)
    (hbind : bindArgs (PySem.W.kla_fn "<lambda>" (X.env.qual ++ "<lambda>") params body scope (cloFrom X.env.cells scope.names []) pm (.ref c') ctv) ⟨[], []⟩ = pure [])
    (tk : L2N.Takes ((cxOf CX0 X.prog X.w X.K X.mg X.base Ng qg sg g cdg X.A X.stack s H E0).tr pn xe) W) (hW : ∀ (cls : Value) (d : Option Addr) (σ' : L2.St) (H' : Hp), σ'.length = Ng.length → E cls d H' → W cls d σ' H') (hr : Room (k + 1) (X.A.deeper (envOfC qg sg s.heap.objs.size g cdg)))
    (hbody : ∀ (A : Around) (outer : List Env) (s : Shared) (H : Hp), Room k (A.deeper (lamEnv X scope s.heap.objs.size f c')) → PE (lamN X A outer s H E scope f c') body tb)
    (hN : Ng[i]? = some a) (hv : Vis sg a) (hd : (a == ("__debug__" : Str)) = false) (hcd : (a == ("__classdict__" : Str)) = false) :
    PE ((cxOf CX0 X.prog X.w X.K X.mg X.base Ng qg sg g cdg X.A X.stack s H E0).tr pn xe) (.Call (.Name a p1) [] [] p2)
      (fun σZ HZ Q => σZ[i]? = some (some (.ref f)) ∧ HZ c' = some (CodeO c' (X.env.qual ++ "<lambda>")) ∧ tb σ HZ Q) := by
  refine ⟨fun pinsZ sZ σZ HZ Q IZ ⟨hs, hc, ht⟩ => ?_⟩
  refine wpAny_Call_Name_kw (thn ((pe_var (pos := p1) (i := i) hN hv hd hcd).run pinsZ sZ σZ HZ (fun v H1 => v = .ref f ∧ H1 = HZ) IZ ⟨.ref f, hs, rfl, rfl⟩) fun u s1 ⟨v, H1, I1, r1, ev, eH⟩ => ?_)
  subst ev eH
  obtain rfl : u = Value.ref f := r1
  have un : Un (frs X.stack) [] H H1 s.heap s1.heap := I1.base
  have of1 := I1.base.keep f _ hf hfn hfr (fun z => nomatch (show f ∈ ([] : List Addr) from z))
  obtain ⟨⟨oc, vs, t, hoc, hdc, hvc⟩, _, _⟩ := I1.hok c' _ hc
  have rc : codeAny (model X.prog X.w) (X.A.deeper (envOfC qg sg s.heap.objs.size g cdg)) (.call (.ref f) ⟨[], []⟩) (CR (L2N.CX X.prog X.w) (envOfC qg sg s.heap.objs.size g cdg :: X.stack) X.prog X.w H1 s1 Q E) s1 := by
    refine PySem.W.kla_callFunE hr.depth of1 rfl L.co L.gen rfl ⟨c', oc, vs, t, rfl, hoc, hdc, hvc⟩ ?_
    rw [hbind]
    refine wpAny_pure (wpAny_newFunctionEnv (fun y hy => (L.own y hy).2) (fun y hy => absurd hy (by simp)) (fun h₁ hns hsb => ⟨I1.nolimit.fresh _ hsb, ?_⟩) L.kind)
    have kp : ∀ b o, s1.heap.get? b = some o → h₁.get? b = some o := fun b o e => hsb.extBut b o (Nat.ne_of_lt (Heap.lt_size e)) (Heap.get?_push_of_some _ e)
    have J := lam_start2 (E := E) (f := f) (c' := c') (tk := s1.toks + ([] : List (Str × Value)).length) I L I1.env0 hr.hd un hns kp
    show codeAny _ _ (.expr body (lamEnv X scope s1.heap.objs.size f c')) _ _
    refine PySem.W.kla_codeExpr (wpAny_mono ((hbody _ _ s1 H1 (hr.deeper _)).run [] _ _ H1 Q (J.toTry _) ht) (fun v s' ⟨w', H', J', rv, q⟩ => ?_) fun e s' hq => hq)
    exact ⟨w', H', J'.os, J'.bare, J'.base, J'.hok, rv, q⟩
  refine PySem.W.callWith_F0 ⟨_, _, _, _, of1⟩ (wpAny_call (codeAny_mono rc fun r s' hq => ?_))
  · cases r with
    | error e => exact tk e s' (L2N.XE.of_call I1 (fun cls d H' h => hW cls d σZ H' I1.len h) hq)
    | ok fl =>
      cases fl with
      | ret u => exact I1.after hq
      | next => exact False.elim hq
      | brk => exact False.elim hq
      | cont => exact False.elim hq
/-- _law_told(lambda: body) -/
theorem pe_told {T : List (Addr × Str)} {ws : List Str} {g c P0 fw : Addr} {k kw : Nat} {pg : Arguments} {bg : List Stmt} {sg : Scope} {fdg fdw : FuncData} {params : Arguments} {body : Expr} {scope : Scope} {t : XK → TE} {p lpos pos q1 q2 q3 q4 q5 q6 q7 q8 q9 q10 : Pos}
    (Fg : FunD X.K "_law_told" "_law_told" pg bg sg [] [] g fdg) (hbg : bg = toldBody q1 q2 q3 q4 q5 q6 q7 q8 q9 q10) (Sg : FnScope ["deed", "e"] ["deed"] sg) (hbb : Binds X.K fdg ["deed"] [])
    (g1 : sg.names.lookup ("TurnError" : Str) = some .globalImplicit) (g2 : sg.names.lookup ("_law_word" : Str) = some .globalImplicit) (g3 : sg.names.lookup ("e" : Str) = some .local) (g4 : Vis sg "deed")
    (Fw : WordRun X.prog X.w X.K X.mg X.base kw fw fdw ws) (hkw : kw ≤ k + 1) (hmw : X.mg "_law_word" = some (.ref fw)) (kpw : PySem.W.keepIn X.K (.ref fw) = true) (hbw : Binds X.K fdw ["e"] [])
    (hmT : X.mg "TurnError" = some (.ref (He.ga X.K "TurnError"))) (D : ∀ x ∈ ws, WordD X.K ws x)
    (hg : Gl X "_law_told") (hm : X.mg "_law_told" = some (.ref g))
    (TB : TabB X.base X.mg c P0) (hcode : X.env.code = .ref c) (hmm : (P0, X.env.qual ++ "<lambda>") ∈ T) (hu : ∀ p ∈ T, p.1 = P0 → p.2 = X.env.qual ++ "<lambda>") (hr : Room (k + 2) X.A) (L : LamS X.env.scope scope) (hdef : defaultsOf params X.env = ([], []))
    (hbind : ∀ (q : Str) (cl : List (Str × Addr)) (pm cv ctv : Value), bindArgs (PySem.W.kla_fn "<lambda>" q params body scope cl pm cv ctv) ⟨[], []⟩ = pure [])
    (hbody : ∀ (A : Around) (outer : List Env) (s : Shared) (H : Hp) (E : XK) (f c' : Addr), Room k (A.deeper (lamEnv X scope s.heap.objs.size f c')) → PE (lamN X A outer s H E scope f c') body (t E)) :
    PE X (.Call (.Name "_law_told" p) [.Lambda params body scope lpos] [] pos) (tTold T X.K ws t) := by
  refine ⟨fun pins s σ H Q I ⟨hT, h⟩ => ?_⟩
  obtain ⟨oc, od, dV, kV, doc, pm0, an, cdv, ct, osl, rfl, lk, hcg, _, _⟩ := Fg.ex
  subst hbg
  refine wpAny_Call_Name_kw (ld_glob I hg hm ?_ (by decide))
  refine PySem.W.callWith_K (h₀ := X.base) I.ok.mod.kin Fg.kp ?_ (by rfl) (by rfl)
  show wpAny _ _ (spliced ((false, eval (.Lambda params body scope lpos) X.env) :: backTo pos (starEach [] X.env))) _ _ s
  refine Calls.spliced_cons (lam_make2 I TB hcode hmm hu hT hdef (L.has I.ok) fun f c' pm' ctv H1 s' I1 eN T1 hf hfn hfr hco => ?_)
  refine Calls.spliced_nil ⟨I1.kIn, wpAny_call (codeAny_mono (R := CR CX0 X.stack X.prog X.w H1 s' Q E0) ?_ fun r s2 hq => ?_)⟩
  · refine run_ofS (N := ["deed", "e"]) (ps := ["deed"]) (us := [.ref f]) (vs := [.ref f]) lk hcg Sg hr I1.env0 (hbb s' [.ref f] I1.kIn rfl) (.cons rfl .nil) rfl fun hr' => ?_
    have hrw : Room kw (X.A.deeper (envOfC "_law_told" sg s'.heap.objs.size g cdv)) := hr'.mono hkw
    have act : ∀ (W : WX) (pn : List (Addr × Obj)) (xe : Value → Shared → Prop) (E : XK), L2N.Takes ((cxOf CX0 X.prog X.w X.K X.mg X.base ["deed", "e"] "_law_told" sg g cdv X.A X.stack s' H1 E0).tr pn xe) W → (∀ (cls : Value) (d : Option Addr) (σ' : L2.St) (H' : Hp), σ'.length = 2 → E cls d H' → W cls d σ' H') →
        PE ((cxOf CX0 X.prog X.w X.K X.mg X.base ["deed", "e"] "_law_told" sg g cdv X.A X.stack s' H1 E0).tr pn xe) (.Call (.Name "deed" q1) [] [] q2) (fun σZ HZ Q => σZ[0]? = some (some (.ref f)) ∧ HZ c' = some (CodeO c' (X.env.qual ++ "<lambda>")) ∧ t E σ HZ Q) :=
      fun W pn xe E tk hW => pe_deed (i := 0) I1 L hf hfn hfr (hbind _ _ _ _ _) tk hW hr' (fun A outer s H hr2 => hbody A outer s H E f c' hr2) rfl g4 (by decide) (by decide)
    refine ⟨_, pss_one (L2N.ps_try_as (X := cxOf CX0 X.prog X.w X.K X.mg X.base ["deed", "e"] "_law_told" sg g cdv X.A X.stack s' H1 E0) (i := 1) (c := .ref (He.ga X.K "TurnError"))
      (tb := fun W D σ2 H2 => ∃ Ech : XK, (∀ (cls : Value) (d : Option Addr) (σ' : L2.St) (H' : Hp), σ'.length = 2 → Ech cls d H' → W cls d σ' H') ∧ σ2[0]? = some (some (.ref f)) ∧ H2 c' = some (CodeO c' (X.env.qual ++ "<lambda>")) ∧ t Ech σ H2 D.rt)
      rfl rfl Sg.nd rfl g3 ⟨g1, by decide, .inl hmT⟩ takesN0 (fun W pn xe tk _ => ⟨fun pins2 s2 σ2 H2 D2 I2 h2 => ?_⟩) (fun a oe cls d pn hz hfl => pss_one (ps_ret (pe_word (i := 1) Fw hrw hz hfl g2 hmw kpw hbw rfl (.inl g3))))), ?_⟩
    · obtain ⟨Ech, hW, h1, h2, h3⟩ := h2
      exact (pss_one (ps_ret (pos := q3) (act W pn xe Ech tk hW))).run pins2 s2 σ2 H2 D2 I2 ⟨h1, h2, h3⟩
    · refine ⟨toldE X.K ws Q, fun cls d σ' H' hl ⟨x, hx, e1, e2, k'⟩ => ⟨true, by rw [e1]; exact (D x hx).te, fun _ a _ => ⟨List.getElem?_set_self (by omega), x, hx, e1, e2, k'⟩, fun z => by cases z⟩, rfl, hco, h H1 eN T1⟩
  · cases r with
    | error e => exact (show False from hq).elim
    | ok fl =>
      cases fl with
      | ret u => exact I1.after hq
      | next => exact False.elim hq
      | brk => exact False.elim hq
      | cont => exact False.elim hq
end
/-- a call of a def that a name of one's own holds -/
def tCallX (i : Nat) (G : Addr → Sp → Prop) (E : XK) (t : TA) : TE := fun σ H Q => ∃ f sp, σ[i]? = some (some (.ref f)) ∧ G f sp ∧ t σ H fun vs H1 => sp (vs ++ []) H1 Q E
theorem pe_callX {X : Cx} {C : CXT} {k i : Nat} {G : Addr → Sp → Prop} {E : XK} {x : Str} {p pos : Pos} {e : Expr} {es : List Expr} {t : TA} (A : ∀ f sp, G f sp → ∃ (fd : FuncData) (ps : List Str), FnOk X.prog X.w X.K X.mg X.base C k f fd ps sp ∧ PySem.W.keepIn X.K (.ref f) = true ∧ Binds X.K fd ps [])
    (hr : Room k X.A) (hN : X.N[i]? = some x) (hv : Vis X.env.scope x) (hx : Passes C X E) (ha : PA X (e :: es) t) (hdb : (x == ("__debug__" : Str)) = false := by decide) (hcd : (x == ("__classdict__" : Str)) = false := by decide)
    (he : starEach (e :: es) X.env = (false, eval e X.env) :: starEach es X.env := by rfl) (hpl : (backTo pos (starEach es X.env)).any (·.1) = false := by rfl) : PE X (.Call (.Name x p) (e :: es) [] pos) (tCallX i G E t) := by
  refine ⟨fun pins s σ H Q I ⟨f, sp, hs, g, ht⟩ => ?_⟩
  obtain ⟨fd, ps, F, hk, hb⟩ := A f sp g
  exact (pe_callL (i := i) F hr hN hv hk hb .nil hx ha hdb hcd he hpl).run pins s σ H Q I ⟨hs, ht⟩
theorem ixLK (K : PySem.W.Frag) {X : Cx} (h : X.K = K) : IxR X (rIxL K) := h ▸ ix_list
theorem ixTK (K : PySem.W.Frag) {X : Cx} (h : X.K = K) : IxR X (rIxT K) := h ▸ ix_tup
theorem refused {K : PySem.W.Frag} {ws : List Str} {Q : VK} {H : Hp} {x : Str} (hx : x ∈ ws) (k : ∀ t H', Same H H' → SqT K H' t [.str "refused", .str x] → Q (.ref t) H') : toldE K ws Q (.ref (He.ga K x)) none H := ⟨x, hx, rfl, rfl, k⟩
theorem tyx_ux {K : PySem.W.Frag} {T : List (Addr × Str)} {H H' : Hp} {x : V} {t : Value} (h : TyX K H x t) (u : Ux T [] H H') : TyX K H' x t := by
  have e : ∀ b o, H b = some o → (∀ ps, o ≠ .tbl ps) → H' b = some o := fun b o q z => u.s b o (by simp) q z
  cases h with
  | base h =>
    cases h with
    | non => exact .base .non
    | bl x => exact .base (.bl x)
    | int i => exact .base (.int i)
    | str x => exact .base (.str x)
    | flt x => exact .base (.flt x)
    | lst q => exact .base (.lst (e _ _ q (fun _ z => by cases z)))
    | frz q => exact .base (.frz (e _ _ q (fun _ z => by cases z)))
    | tup q => exact .base (.tup (e _ _ q (fun _ z => by cases z)))
    | dK q => exact .base (.dK (e _ _ q (fun _ z => by cases z)))
    | dT q => exact .base (.dT (e _ _ q (fun _ z => by cases z)))
    | ins q cl ha hn htk hm => exact .base (.ins (e _ _ q (fun _ z => by cases z)) cl ha hn htk hm)
  | byt b => exact .byt b
  | set q => exact .set (e _ _ q (fun _ z => by cases z))
  | kList q c => exact .kList q c
  | kTuple q c => exact .kTuple q c
  | kDict q c => exact .kDict q c
  | fTuple q => exact .fTuple (e _ _ q (fun _ z => by cases z))
  | fDict q => exact .fDict (e _ _ q (fun _ z => by cases z))
theorem Ux.tk0 {T : List (Addr × Str)} {H H' : Hp} (u : Ux T [] H H') : Tk H H' := u.tk (by simp)
theorem FrB.ux {K : PySem.W.Frag} {T : List (Addr × Str)} {H H' : Hp} {v : V} {r : Bool} (h : FrB K H v r) (u : Ux T [] H H') : FrB K H' v r := by
  have t := u.tk0
  cases h with
  | no ty kn ne => exact .no (tyx_ux ty u) kn ne
  | len h l => exact .len (t.sqT h) l
  | parts h tx kx ty ky ne => exact .parts (t.sqT h) (tyx_ux tx u) kx (tyx_ux ty u) ky ne
  | nums h => exact .nums (t.sqT h)
end Qt

namespace Qt
open PySem PySem.Spec PyProof.Rows L2
/-! ### the text by places -/
def top (i : Nat) : Stmt := PySem.Challenge.pw_quickturns_k11_fractions_refused.main.body.getD i (.Pass ⟨0, 0, 0, 0⟩)
abbrev s_need : Stmt := top 9
abbrev s_is_whole : Stmt := top 10
abbrev s_shared : Stmt := top 11
abbrev s_is_fraction : Stmt := top 12
abbrev s_need_fraction : Stmt := top 13
abbrev s_look : Stmt := top 14
abbrev s_least : Stmt := top 15
abbrev s_fraction : Stmt := top 16
abbrev s_add : Stmt := top 17
abbrev s_take : Stmt := top 18
abbrev s_multiply : Stmt := top 19
abbrev s_part_of : Stmt := top 20
abbrev s_is_less : Stmt := top 21
abbrev s_plus : Stmt := top 22
abbrev s_less : Stmt := top 23
abbrev s_times : Stmt := top 24
abbrev s_by : Stmt := top 25
abbrev s_before : Stmt := top 26
abbrev s_whole : Stmt := top 27
abbrev s__law_cell : Stmt := top 29
abbrev s__law_drawn : Stmt := top 30
abbrev s__law_word : Stmt := top 31
abbrev s__law_told : Stmt := top 32
abbrev s_law : Stmt := top 33
abbrev N_need : List Str := ["good"]
theorem sc_need : FnScope N_need ["good"] (defScope s_need) := ⟨rfl, rfl, rfl, by decide +kernel, rfl, by decide +kernel, by decide +kernel⟩
abbrev N_is_whole : List Str := ["thing"]
theorem sc_is_whole : FnScope N_is_whole ["thing"] (defScope s_is_whole) := ⟨rfl, rfl, rfl, by decide +kernel, rfl, by decide +kernel, by decide +kernel⟩
abbrev N_shared : List Str := ["one", "other"]
theorem sc_shared : FnScope N_shared ["one", "other"] (defScope s_shared) := ⟨rfl, rfl, rfl, by decide +kernel, rfl, by decide +kernel, by decide +kernel⟩
abbrev N_is_fraction : List Str := ["thing"]
theorem sc_is_fraction : FnScope N_is_fraction ["thing"] (defScope s_is_fraction) := ⟨rfl, rfl, rfl, by decide +kernel, rfl, by decide +kernel, by decide +kernel⟩
abbrev N_need_fraction : List Str := ["thing"]
theorem sc_need_fraction : FnScope N_need_fraction ["thing"] (defScope s_need_fraction) := ⟨rfl, rfl, rfl, by decide +kernel, rfl, by decide +kernel, by decide +kernel⟩
abbrev N_look : List Str := ["one", "other"]
theorem sc_look : FnScope N_look ["one", "other"] (defScope s_look) := ⟨rfl, rfl, rfl, by decide +kernel, rfl, by decide +kernel, by decide +kernel⟩
abbrev N_least : List Str := ["above", "below", "by"]
theorem sc_least : FnScope N_least ["above", "below"] (defScope s_least) := ⟨rfl, rfl, rfl, by decide +kernel, rfl, by decide +kernel, by decide +kernel⟩
abbrev N_fraction : List Str := ["above", "below"]
theorem sc_fraction : FnScope N_fraction ["above", "below"] (defScope s_fraction) := ⟨rfl, rfl, rfl, by decide +kernel, rfl, by decide +kernel, by decide +kernel⟩
abbrev N_add : List Str := ["one", "other"]
theorem sc_add : FnScope N_add ["one", "other"] (defScope s_add) := ⟨rfl, rfl, rfl, by decide +kernel, rfl, by decide +kernel, by decide +kernel⟩
abbrev N_take : List Str := ["one", "other"]
theorem sc_take : FnScope N_take ["one", "other"] (defScope s_take) := ⟨rfl, rfl, rfl, by decide +kernel, rfl, by decide +kernel, by decide +kernel⟩
abbrev N_multiply : List Str := ["one", "other"]
theorem sc_multiply : FnScope N_multiply ["one", "other"] (defScope s_multiply) := ⟨rfl, rfl, rfl, by decide +kernel, rfl, by decide +kernel, by decide +kernel⟩
abbrev N_part_of : List Str := ["one", "other"]
theorem sc_part_of : FnScope N_part_of ["one", "other"] (defScope s_part_of) := ⟨rfl, rfl, rfl, by decide +kernel, rfl, by decide +kernel, by decide +kernel⟩
abbrev N_is_less : List Str := ["one", "other"]
theorem sc_is_less : FnScope N_is_less ["one", "other"] (defScope s_is_less) := ⟨rfl, rfl, rfl, by decide +kernel, rfl, by decide +kernel, by decide +kernel⟩
abbrev N_plus : List Str := ["one", "other"]
theorem sc_plus : FnScope N_plus ["one", "other"] (defScope s_plus) := ⟨rfl, rfl, rfl, by decide +kernel, rfl, by decide +kernel, by decide +kernel⟩
abbrev N_less : List Str := ["one", "other"]
theorem sc_less : FnScope N_less ["one", "other"] (defScope s_less) := ⟨rfl, rfl, rfl, by decide +kernel, rfl, by decide +kernel, by decide +kernel⟩
abbrev N_times : List Str := ["one", "other"]
theorem sc_times : FnScope N_times ["one", "other"] (defScope s_times) := ⟨rfl, rfl, rfl, by decide +kernel, rfl, by decide +kernel, by decide +kernel⟩
abbrev N_by : List Str := ["one", "other"]
theorem sc_by : FnScope N_by ["one", "other"] (defScope s_by) := ⟨rfl, rfl, rfl, by decide +kernel, rfl, by decide +kernel, by decide +kernel⟩
abbrev N_before : List Str := ["one", "other"]
theorem sc_before : FnScope N_before ["one", "other"] (defScope s_before) := ⟨rfl, rfl, rfl, by decide +kernel, rfl, by decide +kernel, by decide +kernel⟩
abbrev N_whole : List Str := ["one"]
theorem sc_whole : FnScope N_whole ["one"] (defScope s_whole) := ⟨rfl, rfl, rfl, by decide +kernel, rfl, by decide +kernel, by decide +kernel⟩
abbrev N__law_cell : List Str := ["script", "k"]
theorem sc__law_cell : FnScope N__law_cell ["script", "k"] (defScope s__law_cell) := ⟨rfl, rfl, rfl, by decide +kernel, rfl, by decide +kernel, by decide +kernel⟩
abbrev N__law_drawn : List Str := ["cell", "k", "more"]
theorem sc__law_drawn : FnScope N__law_drawn ["cell", "k"] (defScope s__law_drawn) := ⟨rfl, rfl, rfl, by decide +kernel, rfl, by decide +kernel, by decide +kernel⟩
abbrev N__law_word : List Str := ["e", "flags", "flag"]
theorem sc__law_word : FnScope N__law_word ["e"] (defScope s__law_word) := ⟨rfl, rfl, rfl, by decide +kernel, rfl, by decide +kernel, by decide +kernel⟩
abbrev N__law_told : List Str := ["deed", "e"]
theorem sc__law_told : FnScope N__law_told ["deed"] (defScope s__law_told) := ⟨rfl, rfl, rfl, by decide +kernel, rfl, by decide +kernel, by decide +kernel⟩
abbrev N_law : List Str := ["script", "none", "k", "more", "j", "bad", "good", "some", "deed"]
theorem sc_law : FnScope N_law ["script"] (defScope s_law) := ⟨rfl, rfl, rfl, by decide +kernel, rfl, by decide +kernel, by decide +kernel⟩
/-! ### what the head tells -/
def d_need : He.DefD := ⟨("need", none), "need", "need", defArgs s_need, defBody s_need, defScope s_need, [], []⟩
def d_is_whole : He.DefD := ⟨("is_whole", none), "is_whole", "is_whole", defArgs s_is_whole, defBody s_is_whole, defScope s_is_whole, [], []⟩
def d_shared : He.DefD := ⟨("shared", none), "shared", "shared", defArgs s_shared, defBody s_shared, defScope s_shared, [], []⟩
def d_is_fraction : He.DefD := ⟨("is_fraction", none), "is_fraction", "is_fraction", defArgs s_is_fraction, defBody s_is_fraction, defScope s_is_fraction, [], []⟩
def d_need_fraction : He.DefD := ⟨("need_fraction", none), "need_fraction", "need_fraction", defArgs s_need_fraction, defBody s_need_fraction, defScope s_need_fraction, [], []⟩
def d_look : He.DefD := ⟨("look", none), "look", "look", defArgs s_look, defBody s_look, defScope s_look, [], []⟩
def d_least : He.DefD := ⟨("least", none), "least", "least", defArgs s_least, defBody s_least, defScope s_least, [], []⟩
def d_fraction : He.DefD := ⟨("fraction", none), "fraction", "fraction", defArgs s_fraction, defBody s_fraction, defScope s_fraction, [], []⟩
def d_add : He.DefD := ⟨("add", none), "add", "add", defArgs s_add, defBody s_add, defScope s_add, [], []⟩
def d_take : He.DefD := ⟨("take", none), "take", "take", defArgs s_take, defBody s_take, defScope s_take, [], []⟩
def d_multiply : He.DefD := ⟨("multiply", none), "multiply", "multiply", defArgs s_multiply, defBody s_multiply, defScope s_multiply, [], []⟩
def d_part_of : He.DefD := ⟨("part_of", none), "part_of", "part_of", defArgs s_part_of, defBody s_part_of, defScope s_part_of, [], []⟩
def d_is_less : He.DefD := ⟨("is_less", none), "is_less", "is_less", defArgs s_is_less, defBody s_is_less, defScope s_is_less, [], []⟩
def d_plus : He.DefD := ⟨("plus", none), "plus", "plus", defArgs s_plus, defBody s_plus, defScope s_plus, [], []⟩
def d_less : He.DefD := ⟨("less", none), "less", "less", defArgs s_less, defBody s_less, defScope s_less, [], []⟩
def d_times : He.DefD := ⟨("times", none), "times", "times", defArgs s_times, defBody s_times, defScope s_times, [], []⟩
def d_by : He.DefD := ⟨("by", none), "by", "by", defArgs s_by, defBody s_by, defScope s_by, [], []⟩
def d_before : He.DefD := ⟨("before", none), "before", "before", defArgs s_before, defBody s_before, defScope s_before, [], []⟩
def d_whole : He.DefD := ⟨("whole", none), "whole", "whole", defArgs s_whole, defBody s_whole, defScope s_whole, [], []⟩
def d__law_cell : He.DefD := ⟨("_law_cell", none), "_law_cell", "_law_cell", defArgs s__law_cell, defBody s__law_cell, defScope s__law_cell, [], []⟩
def d__law_drawn : He.DefD := ⟨("_law_drawn", none), "_law_drawn", "_law_drawn", defArgs s__law_drawn, defBody s__law_drawn, defScope s__law_drawn, [], []⟩
def d__law_word : He.DefD := ⟨("_law_word", none), "_law_word", "_law_word", defArgs s__law_word, defBody s__law_word, defScope s__law_word, [], []⟩
def d__law_told : He.DefD := ⟨("_law_told", none), "_law_told", "_law_told", defArgs s__law_told, defBody s__law_told, defScope s__law_told, [], []⟩
def d_law : He.DefD := ⟨("law", none), "law", "law", defArgs s_law, defBody s_law, defScope s_law, [], []⟩
def fn : List He.DefD := [d_need, d_is_whole, d_shared, d_is_fraction, d_need_fraction, d_look, d_least, d_fraction, d_add, d_take, d_multiply, d_part_of, d_is_less, d_plus, d_less, d_times, d_by, d_before, d_whole, d__law_cell, d__law_drawn, d__law_word, d__law_told, d_law]
def fa : List He.Fa := [.glo "need", .glo "is_whole", .glo "shared", .glo "is_fraction", .glo "need_fraction", .glo "look", .glo "least", .glo "fraction", .glo "add", .glo "take", .glo "multiply", .glo "part_of", .glo "is_less", .glo "plus", .glo "less", .glo "times", .glo "by", .glo "before", .glo "whole", .glo "_law_cell", .glo "_law_drawn", .glo "_law_word", .glo "_law_told", .glo "law", .glo "TurnError", .exc "TurnError", .glo "BadFraction", .exc "BadFraction", .glo "BadName", .exc "BadName", .glo "BadNumber", .exc "BadNumber", .glo "TooLate", .exc "TooLate", .glo "Nobody", .exc "Nobody", .glo "BadText", .exc "BadText", .exm "TurnError" "TurnError" true, .exm "BadFraction" "TurnError" true, .exm "BadName" "TurnError" true, .exm "BadNumber" "TurnError" true, .exm "TooLate" "TurnError" true, .exm "Nobody" "TurnError" true, .exm "BadText" "TurnError" true, .free "ValueError", .free "abs", .free "bool", .free "int", .free "isinstance", .free "len", .free "max", .free "min", .free "range", .free "sum", .free "tuple"]
def tq : List (He.Defn × Str) := [(("law", none), "law")]
def tf : List He.Defn := tq.map (·.1)
def ws : List Str := ["BadFraction", "BadName", "BadNumber", "BadText", "Nobody", "TooLate"]
def exL (K : PySem.W.Frag) : List Bool := [wordsB K ws]
def exB (K : PySem.W.Frag) : Bool := (exL K).all id && decide ((tq.map fun x => (He.cT K x.1).2).Nodup)
theorem exB_at {K : PySem.W.Frag} (h : exB K = true) (i : Nat) {b : Bool} (e : (exL K)[i]? = some b) : b = true := List.all_eq_true.mp (Bool.and_eq_true_iff.mp h).1 b (List.mem_of_getElem? e)
theorem exB_nd {K : PySem.W.Frag} (h : exB K = true) : decide ((tq.map fun x => (He.cT K x.1).2).Nodup) = true := (Bool.and_eq_true_iff.mp h).2
abbrev R : PySem.W.OpenRow := PySem.W.OpenLaw.row PySem.Challenge.rw_quickturns_k11_fractions_refused
def ts : List He.Tab := []
abbrev hk : PySem.W.Hook := He.hookX 7 fa fn ts tf exB
def ob (s : PySem.W.SharedT) : He.AlX := He.obsX 7 fa fn ts tf exB (HandSHeadRun.getT s)
theorem ob_eq (s : PySem.W.SharedT) : ob s = hk.obs s.abs := He.obsX_eq (HandSHeadRun.getT_eq s)
def loose0 : List PySem.Str := ["TurnError", "BadFraction", "BadName", "BadNumber", "TooLate", "Nobody", "BadText", "need", "is_whole", "shared", "is_fraction", "need_fraction", "look", "least", "fraction", "add", "take", "multiply", "part_of", "is_less", "plus", "less", "times", "by", "before", "whole", "_law_cell", "_law_drawn", "_law_word", "_law_told"]
def loose : List PySem.Str := loose0
theorem run (w : World) : HandSHeadRun.RunEq R (PySem.W.view R.prog [33]) hk ob 4000 loose w := by
  intro os
  kernel_rfl
structure Sa (K : PySem.W.Frag) (mg : Str → Option Value) (base : Heap) : Prop where
  X : K.In base
  G : base.Ns mainGlobals mg
  c : He.SaysD fa fn K
  e : exB K = true
  tb : ∀ p ∈ tf, LamX.TabB base mg (He.cT K p).1 (He.cT K p).2
section
variable {K : PySem.W.Frag} {mg : Str → Option Value} {base : Heap} (S : Sa K mg base)
include S
theorem g_need : mg "need" = some (.ref (He.ga K "need")) := He.glo_ok S.X S.G (S.c.fact 0 (f := .glo "need") rfl)
theorem g_is_whole : mg "is_whole" = some (.ref (He.ga K "is_whole")) := He.glo_ok S.X S.G (S.c.fact 1 (f := .glo "is_whole") rfl)
theorem g_shared : mg "shared" = some (.ref (He.ga K "shared")) := He.glo_ok S.X S.G (S.c.fact 2 (f := .glo "shared") rfl)
theorem g_is_fraction : mg "is_fraction" = some (.ref (He.ga K "is_fraction")) := He.glo_ok S.X S.G (S.c.fact 3 (f := .glo "is_fraction") rfl)
theorem g_need_fraction : mg "need_fraction" = some (.ref (He.ga K "need_fraction")) := He.glo_ok S.X S.G (S.c.fact 4 (f := .glo "need_fraction") rfl)
theorem g_look : mg "look" = some (.ref (He.ga K "look")) := He.glo_ok S.X S.G (S.c.fact 5 (f := .glo "look") rfl)
theorem g_least : mg "least" = some (.ref (He.ga K "least")) := He.glo_ok S.X S.G (S.c.fact 6 (f := .glo "least") rfl)
theorem g_fraction : mg "fraction" = some (.ref (He.ga K "fraction")) := He.glo_ok S.X S.G (S.c.fact 7 (f := .glo "fraction") rfl)
theorem g_add : mg "add" = some (.ref (He.ga K "add")) := He.glo_ok S.X S.G (S.c.fact 8 (f := .glo "add") rfl)
theorem g_take : mg "take" = some (.ref (He.ga K "take")) := He.glo_ok S.X S.G (S.c.fact 9 (f := .glo "take") rfl)
theorem g_multiply : mg "multiply" = some (.ref (He.ga K "multiply")) := He.glo_ok S.X S.G (S.c.fact 10 (f := .glo "multiply") rfl)
theorem g_part_of : mg "part_of" = some (.ref (He.ga K "part_of")) := He.glo_ok S.X S.G (S.c.fact 11 (f := .glo "part_of") rfl)
theorem g_is_less : mg "is_less" = some (.ref (He.ga K "is_less")) := He.glo_ok S.X S.G (S.c.fact 12 (f := .glo "is_less") rfl)
theorem g_plus : mg "plus" = some (.ref (He.ga K "plus")) := He.glo_ok S.X S.G (S.c.fact 13 (f := .glo "plus") rfl)
theorem g_less : mg "less" = some (.ref (He.ga K "less")) := He.glo_ok S.X S.G (S.c.fact 14 (f := .glo "less") rfl)
theorem g_times : mg "times" = some (.ref (He.ga K "times")) := He.glo_ok S.X S.G (S.c.fact 15 (f := .glo "times") rfl)
theorem g_by : mg "by" = some (.ref (He.ga K "by")) := He.glo_ok S.X S.G (S.c.fact 16 (f := .glo "by") rfl)
theorem g_before : mg "before" = some (.ref (He.ga K "before")) := He.glo_ok S.X S.G (S.c.fact 17 (f := .glo "before") rfl)
theorem g_whole : mg "whole" = some (.ref (He.ga K "whole")) := He.glo_ok S.X S.G (S.c.fact 18 (f := .glo "whole") rfl)
theorem g__law_cell : mg "_law_cell" = some (.ref (He.ga K "_law_cell")) := He.glo_ok S.X S.G (S.c.fact 19 (f := .glo "_law_cell") rfl)
theorem g__law_drawn : mg "_law_drawn" = some (.ref (He.ga K "_law_drawn")) := He.glo_ok S.X S.G (S.c.fact 20 (f := .glo "_law_drawn") rfl)
theorem g__law_word : mg "_law_word" = some (.ref (He.ga K "_law_word")) := He.glo_ok S.X S.G (S.c.fact 21 (f := .glo "_law_word") rfl)
theorem g__law_told : mg "_law_told" = some (.ref (He.ga K "_law_told")) := He.glo_ok S.X S.G (S.c.fact 22 (f := .glo "_law_told") rfl)
theorem g_law : mg "law" = some (.ref (He.ga K "law")) := He.glo_ok S.X S.G (S.c.fact 23 (f := .glo "law") rfl)
theorem g_TurnError : mg "TurnError" = some (.ref (He.ga K "TurnError")) := He.glo_ok S.X S.G (S.c.fact 24 (f := .glo "TurnError") rfl)
theorem x_TurnError : PySem.W.excIn K (He.ga K "TurnError") He.veBase "ValueError.__new__" = true ∧ PySem.W.keepIn K (.ref (He.ga K "TurnError")) = true ∧ PySem.W.subIn K (.ref (He.ga K "TurnError")) (.type "BaseException") = some true ∧ PySem.W.typeIn K (.ref (He.ga K "TurnError")) = some (.type "type") := He.exc_ok (S.c.fact 25 (f := .exc "TurnError") rfl)
theorem g_BadFraction : mg "BadFraction" = some (.ref (He.ga K "BadFraction")) := He.glo_ok S.X S.G (S.c.fact 26 (f := .glo "BadFraction") rfl)
theorem x_BadFraction : PySem.W.excIn K (He.ga K "BadFraction") He.veBase "ValueError.__new__" = true ∧ PySem.W.keepIn K (.ref (He.ga K "BadFraction")) = true ∧ PySem.W.subIn K (.ref (He.ga K "BadFraction")) (.type "BaseException") = some true ∧ PySem.W.typeIn K (.ref (He.ga K "BadFraction")) = some (.type "type") := He.exc_ok (S.c.fact 27 (f := .exc "BadFraction") rfl)
theorem g_BadName : mg "BadName" = some (.ref (He.ga K "BadName")) := He.glo_ok S.X S.G (S.c.fact 28 (f := .glo "BadName") rfl)
theorem x_BadName : PySem.W.excIn K (He.ga K "BadName") He.veBase "ValueError.__new__" = true ∧ PySem.W.keepIn K (.ref (He.ga K "BadName")) = true ∧ PySem.W.subIn K (.ref (He.ga K "BadName")) (.type "BaseException") = some true ∧ PySem.W.typeIn K (.ref (He.ga K "BadName")) = some (.type "type") := He.exc_ok (S.c.fact 29 (f := .exc "BadName") rfl)
theorem g_BadNumber : mg "BadNumber" = some (.ref (He.ga K "BadNumber")) := He.glo_ok S.X S.G (S.c.fact 30 (f := .glo "BadNumber") rfl)
theorem x_BadNumber : PySem.W.excIn K (He.ga K "BadNumber") He.veBase "ValueError.__new__" = true ∧ PySem.W.keepIn K (.ref (He.ga K "BadNumber")) = true ∧ PySem.W.subIn K (.ref (He.ga K "BadNumber")) (.type "BaseException") = some true ∧ PySem.W.typeIn K (.ref (He.ga K "BadNumber")) = some (.type "type") := He.exc_ok (S.c.fact 31 (f := .exc "BadNumber") rfl)
theorem g_TooLate : mg "TooLate" = some (.ref (He.ga K "TooLate")) := He.glo_ok S.X S.G (S.c.fact 32 (f := .glo "TooLate") rfl)
theorem x_TooLate : PySem.W.excIn K (He.ga K "TooLate") He.veBase "ValueError.__new__" = true ∧ PySem.W.keepIn K (.ref (He.ga K "TooLate")) = true ∧ PySem.W.subIn K (.ref (He.ga K "TooLate")) (.type "BaseException") = some true ∧ PySem.W.typeIn K (.ref (He.ga K "TooLate")) = some (.type "type") := He.exc_ok (S.c.fact 33 (f := .exc "TooLate") rfl)
theorem g_Nobody : mg "Nobody" = some (.ref (He.ga K "Nobody")) := He.glo_ok S.X S.G (S.c.fact 34 (f := .glo "Nobody") rfl)
theorem x_Nobody : PySem.W.excIn K (He.ga K "Nobody") He.veBase "ValueError.__new__" = true ∧ PySem.W.keepIn K (.ref (He.ga K "Nobody")) = true ∧ PySem.W.subIn K (.ref (He.ga K "Nobody")) (.type "BaseException") = some true ∧ PySem.W.typeIn K (.ref (He.ga K "Nobody")) = some (.type "type") := He.exc_ok (S.c.fact 35 (f := .exc "Nobody") rfl)
theorem g_BadText : mg "BadText" = some (.ref (He.ga K "BadText")) := He.glo_ok S.X S.G (S.c.fact 36 (f := .glo "BadText") rfl)
theorem x_BadText : PySem.W.excIn K (He.ga K "BadText") He.veBase "ValueError.__new__" = true ∧ PySem.W.keepIn K (.ref (He.ga K "BadText")) = true ∧ PySem.W.subIn K (.ref (He.ga K "BadText")) (.type "BaseException") = some true ∧ PySem.W.typeIn K (.ref (He.ga K "BadText")) = some (.type "type") := He.exc_ok (S.c.fact 37 (f := .exc "BadText") rfl)
theorem xm_TurnError_TurnError : PySem.W.exmOne K (.ref (He.ga K "TurnError")) (.ref (He.ga K "TurnError")) = some true := He.exm_ok (S.c.fact 38 (f := .exm "TurnError" "TurnError" true) rfl)
theorem xm_BadFraction_TurnError : PySem.W.exmOne K (.ref (He.ga K "BadFraction")) (.ref (He.ga K "TurnError")) = some true := He.exm_ok (S.c.fact 39 (f := .exm "BadFraction" "TurnError" true) rfl)
theorem xm_BadName_TurnError : PySem.W.exmOne K (.ref (He.ga K "BadName")) (.ref (He.ga K "TurnError")) = some true := He.exm_ok (S.c.fact 40 (f := .exm "BadName" "TurnError" true) rfl)
theorem xm_BadNumber_TurnError : PySem.W.exmOne K (.ref (He.ga K "BadNumber")) (.ref (He.ga K "TurnError")) = some true := He.exm_ok (S.c.fact 41 (f := .exm "BadNumber" "TurnError" true) rfl)
theorem xm_TooLate_TurnError : PySem.W.exmOne K (.ref (He.ga K "TooLate")) (.ref (He.ga K "TurnError")) = some true := He.exm_ok (S.c.fact 42 (f := .exm "TooLate" "TurnError" true) rfl)
theorem xm_Nobody_TurnError : PySem.W.exmOne K (.ref (He.ga K "Nobody")) (.ref (He.ga K "TurnError")) = some true := He.exm_ok (S.c.fact 43 (f := .exm "Nobody" "TurnError" true) rfl)
theorem xm_BadText_TurnError : PySem.W.exmOne K (.ref (He.ga K "BadText")) (.ref (He.ga K "TurnError")) = some true := He.exm_ok (S.c.fact 44 (f := .exm "BadText" "TurnError" true) rfl)
theorem z_ValueError : mg "ValueError" = none := He.free_ok S.X S.G (S.c.fact 45 (f := .free "ValueError") rfl)
theorem z_abs : mg "abs" = none := He.free_ok S.X S.G (S.c.fact 46 (f := .free "abs") rfl)
theorem z_bool : mg "bool" = none := He.free_ok S.X S.G (S.c.fact 47 (f := .free "bool") rfl)
theorem z_int : mg "int" = none := He.free_ok S.X S.G (S.c.fact 48 (f := .free "int") rfl)
theorem z_isinstance : mg "isinstance" = none := He.free_ok S.X S.G (S.c.fact 49 (f := .free "isinstance") rfl)
theorem z_len : mg "len" = none := He.free_ok S.X S.G (S.c.fact 50 (f := .free "len") rfl)
theorem z_max : mg "max" = none := He.free_ok S.X S.G (S.c.fact 51 (f := .free "max") rfl)
theorem z_min : mg "min" = none := He.free_ok S.X S.G (S.c.fact 52 (f := .free "min") rfl)
theorem z_range : mg "range" = none := He.free_ok S.X S.G (S.c.fact 53 (f := .free "range") rfl)
theorem z_sum : mg "sum" = none := He.free_ok S.X S.G (S.c.fact 54 (f := .free "sum") rfl)
theorem z_tuple : mg "tuple" = none := He.free_ok S.X S.G (S.c.fact 55 (f := .free "tuple") rfl)
theorem f_need : ∃ fd, FunD K "need" "need" (defArgs s_need) (defBody s_need) (defScope s_need) [] [] (He.ga K "need") fd := S.c.def_ 0 (d := d_need) rfl
theorem f_is_whole : ∃ fd, FunD K "is_whole" "is_whole" (defArgs s_is_whole) (defBody s_is_whole) (defScope s_is_whole) [] [] (He.ga K "is_whole") fd := S.c.def_ 1 (d := d_is_whole) rfl
theorem f_shared : ∃ fd, FunD K "shared" "shared" (defArgs s_shared) (defBody s_shared) (defScope s_shared) [] [] (He.ga K "shared") fd := S.c.def_ 2 (d := d_shared) rfl
theorem f_is_fraction : ∃ fd, FunD K "is_fraction" "is_fraction" (defArgs s_is_fraction) (defBody s_is_fraction) (defScope s_is_fraction) [] [] (He.ga K "is_fraction") fd := S.c.def_ 3 (d := d_is_fraction) rfl
theorem f_need_fraction : ∃ fd, FunD K "need_fraction" "need_fraction" (defArgs s_need_fraction) (defBody s_need_fraction) (defScope s_need_fraction) [] [] (He.ga K "need_fraction") fd := S.c.def_ 4 (d := d_need_fraction) rfl
theorem f_look : ∃ fd, FunD K "look" "look" (defArgs s_look) (defBody s_look) (defScope s_look) [] [] (He.ga K "look") fd := S.c.def_ 5 (d := d_look) rfl
theorem f_least : ∃ fd, FunD K "least" "least" (defArgs s_least) (defBody s_least) (defScope s_least) [] [] (He.ga K "least") fd := S.c.def_ 6 (d := d_least) rfl
theorem f_fraction : ∃ fd, FunD K "fraction" "fraction" (defArgs s_fraction) (defBody s_fraction) (defScope s_fraction) [] [] (He.ga K "fraction") fd := S.c.def_ 7 (d := d_fraction) rfl
theorem f_add : ∃ fd, FunD K "add" "add" (defArgs s_add) (defBody s_add) (defScope s_add) [] [] (He.ga K "add") fd := S.c.def_ 8 (d := d_add) rfl
theorem f_take : ∃ fd, FunD K "take" "take" (defArgs s_take) (defBody s_take) (defScope s_take) [] [] (He.ga K "take") fd := S.c.def_ 9 (d := d_take) rfl
theorem f_multiply : ∃ fd, FunD K "multiply" "multiply" (defArgs s_multiply) (defBody s_multiply) (defScope s_multiply) [] [] (He.ga K "multiply") fd := S.c.def_ 10 (d := d_multiply) rfl
theorem f_part_of : ∃ fd, FunD K "part_of" "part_of" (defArgs s_part_of) (defBody s_part_of) (defScope s_part_of) [] [] (He.ga K "part_of") fd := S.c.def_ 11 (d := d_part_of) rfl
theorem f_is_less : ∃ fd, FunD K "is_less" "is_less" (defArgs s_is_less) (defBody s_is_less) (defScope s_is_less) [] [] (He.ga K "is_less") fd := S.c.def_ 12 (d := d_is_less) rfl
theorem f_plus : ∃ fd, FunD K "plus" "plus" (defArgs s_plus) (defBody s_plus) (defScope s_plus) [] [] (He.ga K "plus") fd := S.c.def_ 13 (d := d_plus) rfl
theorem f_less : ∃ fd, FunD K "less" "less" (defArgs s_less) (defBody s_less) (defScope s_less) [] [] (He.ga K "less") fd := S.c.def_ 14 (d := d_less) rfl
theorem f_times : ∃ fd, FunD K "times" "times" (defArgs s_times) (defBody s_times) (defScope s_times) [] [] (He.ga K "times") fd := S.c.def_ 15 (d := d_times) rfl
theorem f_by : ∃ fd, FunD K "by" "by" (defArgs s_by) (defBody s_by) (defScope s_by) [] [] (He.ga K "by") fd := S.c.def_ 16 (d := d_by) rfl
theorem f_before : ∃ fd, FunD K "before" "before" (defArgs s_before) (defBody s_before) (defScope s_before) [] [] (He.ga K "before") fd := S.c.def_ 17 (d := d_before) rfl
theorem f_whole : ∃ fd, FunD K "whole" "whole" (defArgs s_whole) (defBody s_whole) (defScope s_whole) [] [] (He.ga K "whole") fd := S.c.def_ 18 (d := d_whole) rfl
theorem f__law_cell : ∃ fd, FunD K "_law_cell" "_law_cell" (defArgs s__law_cell) (defBody s__law_cell) (defScope s__law_cell) [] [] (He.ga K "_law_cell") fd := S.c.def_ 19 (d := d__law_cell) rfl
theorem f__law_drawn : ∃ fd, FunD K "_law_drawn" "_law_drawn" (defArgs s__law_drawn) (defBody s__law_drawn) (defScope s__law_drawn) [] [] (He.ga K "_law_drawn") fd := S.c.def_ 20 (d := d__law_drawn) rfl
theorem f__law_word : ∃ fd, FunD K "_law_word" "_law_word" (defArgs s__law_word) (defBody s__law_word) (defScope s__law_word) [] [] (He.ga K "_law_word") fd := S.c.def_ 21 (d := d__law_word) rfl
theorem f__law_told : ∃ fd, FunD K "_law_told" "_law_told" (defArgs s__law_told) (defBody s__law_told) (defScope s__law_told) [] [] (He.ga K "_law_told") fd := S.c.def_ 22 (d := d__law_told) rfl
theorem f_law : ∃ fd, FunD K "law" "law" (defArgs s_law) (defBody s_law) (defScope s_law) [] [] (He.ga K "law") fd := S.c.def_ 23 (d := d_law) rfl
theorem words_ok : ∀ x ∈ ws, WordD K ws x := wordsB_ok (exB_at S.e 0 (by rfl))
end
theorem nodup_inj {α β : Type} {f : α → β} : ∀ {l : List α}, (l.map f).Nodup → ∀ {x y : α}, x ∈ l → y ∈ l → f x = f y → x = y
  | [], _, _, _, h, _, _ => by cases h
  | a :: l, nd, x, y, hx, hy, e => by
    rw [List.map_cons, List.nodup_cons] at nd
    rcases List.mem_cons.mp hx with h1 | h1
    · rcases List.mem_cons.mp hy with h2 | h2
      · rw [h1, h2]
      · exact absurd (List.mem_map.mpr ⟨y, h2, by rw [← e, h1]⟩) nd.1
    · rcases List.mem_cons.mp hy with h2 | h2
      · exact absurd (List.mem_map.mpr ⟨x, h1, by rw [e, h2]⟩) nd.1
      · exact nodup_inj nd.2 h1 h2 e
def TT (K : PySem.W.Frag) : List (Addr × Str) := tq.map fun x => ((He.cT K x.1).2, x.2 ++ ".<locals>." ++ "<lambda>")
theorem TT_mem {K : PySem.W.Frag} {p : He.Defn} {q : Str} (h : (p, q) ∈ tq) : ((He.cT K p).2, q ++ ".<locals>." ++ "<lambda>") ∈ TT K := List.mem_map.mpr ⟨(p, q), h, rfl⟩
theorem TT_one {K : PySem.W.Frag} {mg : Str → Option Value} {base : Heap} (S : Sa K mg base) {p : He.Defn} {q : Str} (h : (p, q) ∈ tq) : ∀ x ∈ TT K, x.1 = (He.cT K p).2 → x.2 = q ++ ".<locals>." ++ "<lambda>" := fun x hx e => by
  obtain ⟨y, hy, rfl⟩ := List.mem_map.mp hx
  have nd : (tq.map fun x => (He.cT K x.1).2).Nodup := of_decide_eq_true (exB_nd S.e)
  have := nodup_inj nd hy h e
  subst this
  rfl
end Qt
namespace Qt
open PySem PySem.Spec PyProof.Rows L2
/-! ### the fractions' defs -/
def spNeed (K : PySem.W.Frag) : Sp := fun vs H Q E => ∃ b, vs = [.bl b] ∧ (b = true → Q .non H) ∧ (b = false → E (.ref (He.ga K "BadFraction")) none H)
def spIsWhole (K : PySem.W.Frag) : Sp := fun vs H Q _ => ∃ v n, vs = [v] ∧ TyX K H v (.type n) ∧ Kn n ∧ Q (.bl (decide (n = "int"))) H
def spShared : Sp := fun vs H Q _ => ∃ a b : Int, vs = [.int a, .int b] ∧ Q (.int (Int.gcd a b : Int)) H
def spIsFraction (K : PySem.W.Frag) : Sp := fun vs H Q _ => ∃ v r, vs = [v] ∧ FrB K H v r ∧ Q (.bl r) H
def spNeedFraction (K : PySem.W.Frag) : Sp := fun vs H Q E => ∃ v r, vs = [v] ∧ FrB K H v r ∧ (r = true → Q .non H) ∧ (r = false → E (.ref (He.ga K "BadFraction")) none H)
def spLook (K : PySem.W.Frag) : Sp := fun vs H Q E => ∃ u v r s, vs = [u, v] ∧ FrB K H u r ∧ FrB K H v s ∧ ((r && s) = true → Q .non H) ∧ ((r && s) = false → E (.ref (He.ga K "BadFraction")) none H)
def spLeast (K : PySem.W.Frag) : Sp := fun vs H Q _ => ∃ a b : Int, vs = [.int a, .int b] ∧ b ≠ 0 ∧ Bq 4000 (Rat.divInt a b) ∧ RetQ K H Q (Rat.divInt a b)
def spFraction (K : PySem.W.Frag) : Sp := fun vs H Q E => ∃ u v n m, vs = [u, v] ∧ TyX K H u (.type n) ∧ Kn n ∧ TyX K H v (.type m) ∧ Kn m ∧
  ((∃ a b : Int, n = "int" ∧ m = "int" ∧ u = .int a ∧ v = .int b ∧ b ≠ 0 ∧ Bq 4000 (Rat.divInt a b) ∧ RetQ K H Q (Rat.divInt a b)) ∨ ((n ≠ "int" ∨ m ≠ "int" ∨ (n = "int" ∧ m = "int" ∧ v = .int 0)) ∧ E (.ref (He.ga K "BadFraction")) none H))
/-- two fractions, a third handed back -/
def spF2 (K : PySem.W.Frag) (f : Rat → Rat → Rat) (ask : Rat → Prop) : Sp := fun vs H Q _ => ∃ u v a b, vs = [u, v] ∧ FrA K H u a ∧ FrA K H v b ∧ Bq 4000 a ∧ Bq 4000 b ∧ Bq 4000 (f a b) ∧ ask b ∧ RetQ K H Q (f a b)
def spIsLess (K : PySem.W.Frag) : Sp := fun vs H Q _ => ∃ u v a b, vs = [u, v] ∧ FrA K H u a ∧ FrA K H v b ∧ Bq 4000 a ∧ Bq 4000 b ∧ Q (.bl (decide (a < b))) H
/-- the same with a look ahead -/
def spL2 (K : PySem.W.Frag) (f : Rat → Rat → Rat) : Sp := fun vs H Q E => ∃ u v r s, vs = [u, v] ∧ FrB K H u r ∧ FrB K H v s ∧
  ((r && s) = true → ∃ a b, FrA K H u a ∧ FrA K H v b ∧ Bq 4000 a ∧ Bq 4000 b ∧ Bq 4000 (f a b) ∧ RetQ K H Q (f a b)) ∧ ((r && s) = false → E (.ref (He.ga K "BadFraction")) none H)
def spBy (K : PySem.W.Frag) : Sp := fun vs H Q E => ∃ u v r s, vs = [u, v] ∧ FrB K H u r ∧ FrB K H v s ∧
  ((r && s) = true → ∃ a b, FrA K H u a ∧ FrA K H v b ∧ Bq 4000 a ∧ Bq 4000 b ∧ (b ≠ 0 → Bq 4000 (a / b) ∧ RetQ K H Q (a / b)) ∧ (b = 0 → E (.ref (He.ga K "BadFraction")) none H)) ∧ ((r && s) = false → E (.ref (He.ga K "BadFraction")) none H)
def spBefore (K : PySem.W.Frag) : Sp := fun vs H Q E => ∃ u v r s, vs = [u, v] ∧ FrB K H u r ∧ FrB K H v s ∧
  ((r && s) = true → ∃ a b, FrA K H u a ∧ FrA K H v b ∧ Bq 4000 a ∧ Bq 4000 b ∧ Q (.bl (decide (a < b))) H) ∧ ((r && s) = false → E (.ref (He.ga K "BadFraction")) none H)
def spWhole (K : PySem.W.Frag) : Sp := fun vs H Q E => ∃ v r, vs = [v] ∧ FrB K H v r ∧ (r = true → ∃ a, FrA K H v a ∧ Bq 4000 a ∧ Q (.int a.floor) H) ∧ (r = false → E (.ref (He.ga K "BadFraction")) none H)
theorem bl_num {n : Nat} {a : Rat} (h : Bq n a) : a.num.natAbs < 2 ^ n := h.num
theorem bl_den {n : Nat} {a : Rat} (h : Bq n a) : ((a.den : Int)).natAbs < 2 ^ n := by rw [Int.natAbs_natCast]; exact h.den
section
variable {P : Program} {w : World} {K : PySem.W.Frag} {mg : Str → Option Value} {base : Heap} (S : Sa K mg base)
include S
theorem ok_need : Pm P w K mg base (L2N.CX P w) 1 "need" ["good"] (spNeed K) := by
  obtain ⟨fd, F⟩ := f_need S
  refine ⟨fd, F.ok sc_need (fun vs H Q E h => ?_) (fun cdv A outer s H vs Q E hr h => ?_), F.bindsN fun _ _ _ _ _ _ us hl => match us, hl with | [_], _ => rfl, F.kp⟩
  · obtain ⟨b, rfl, k1, k2⟩ := h
    rfl
  · obtain ⟨b, rfl, k1, k2⟩ := h
    have px : Passes (L2N.CX P w) (cxOf (L2N.CX P w) P w K mg base N_need "need" (defScope s_need) (He.ga K "need") cdv A outer s H E) E := L2N.passes_call (L2N.takes_of rfl rfl rfl rfl) fun _ _ _ _ z => z
    refine ⟨_, (pss_one (ps_if (pt_not (pt_val (pv 0))) (pss_one (L2N.ps_raise rfl (L2N.takes_of rfl rfl rfl rfl) (L2N.pmk_own PySem.F.excBase_ValueError (x_BadFraction S).1 (g_BadFraction S) (x_BadFraction S).2.1 (raises_own (x_BadFraction S).2.2.1 (x_BadFraction S).2.2.2) rfl))) pss_nil)), ?_⟩
    refine ⟨_, rfl, _, rfl, ?_⟩
    cases b with
    | true => exact iteF (k1 rfl)
    | false => exact iteT (k2 rfl)
theorem ok_is_whole : Pm P w K mg base CX0 1 "is_whole" ["thing"] (spIsWhole K) := by
  obtain ⟨fd, F⟩ := f_is_whole S
  refine ⟨fd, F.ok sc_is_whole (fun vs H Q E h => ?_) (fun cdv A outer s H vs Q E hr h => ?_), F.bindsN fun _ _ _ _ _ _ us hl => match us, hl with | [_], _ => rfl, F.kp⟩
  · obtain ⟨v, n, rfl, ty, kn, k⟩ := h
    rfl
  · obtain ⟨v, n, rfl, ty, kn, k⟩ := h
    refine ⟨_, PSs.nox <| (pss_one (ps_ret (pe_and (pe_callB call_isi (by rfl) (z_isinstance S) (by decide +kernel) (pa_cons (pv 0) (pa_cons (pe_bltn (v := .ty "int") (by rfl) (z_int S) (by decide +kernel) rfl) pa_nil))) (pe_one (pe_not (pe_callB call_isi (by rfl) (z_isinstance S) (by decide +kernel) (pa_cons (pv 0) (pa_cons (pe_bltn (v := .ty "bool") (by rfl) (z_bool S) (by decide +kernel) rfl) pa_nil)))))))), ?_⟩
    refine ⟨v, rfl, v, .ty "int", _, _, _, rfl, .ty "int", ty, kn_int kn, _, rfl, ?_⟩
    cases kn with
    | int => exact iteT ⟨v, rfl, v, .ty "bool", _, _, _, rfl, .ty "bool", ty, kn_bool .int, _, rfl, k⟩
    | bool => exact iteT ⟨v, rfl, v, .ty "bool", _, _, _, rfl, .ty "bool", ty, kn_bool .bool, _, rfl, k⟩
    | none => exact iteF k
    | str => exact iteF k
    | tuple => exact iteF k
    | list => exact iteF k
theorem ok_shared : Pm P w K mg base CX0 1 "shared" ["one", "other"] spShared := by
  obtain ⟨fd, F⟩ := f_shared S
  refine ⟨fd, F.ok sc_shared (fun vs H Q E h => ?_) (fun cdv A outer s H vs Q E hr h => ?_), F.bindsN fun _ _ _ _ _ _ us hl => match us, hl with | [_, _], _ => rfl, F.kp⟩
  · obtain ⟨a, b, rfl, k⟩ := h
    rfl
  · obtain ⟨a, b, rfl, k⟩ := h
    refine ⟨_, PSs.nox <| (pss_cons (ps_while PassesOwn.never (pt_cmp (pc_neI (pv 1) pe_int)) (pss_one (ps_par (i := 0) (j := 1) (by rfl) sc_shared.nd rfl rfl (by decide) rfl rfl (pa_cons (pv 1) (pa_cons (pe_op op_modN (pv 0) (pv 1)) pa_nil)) (by rfl))))
      (pss_one (ps_ret (pe_callB call_abs (by rfl) (z_abs S) (by decide +kernel) (pa_cons (pv 0) pa_nil))))), ?_⟩
    refine ⟨fun m σ H' => ∃ x y : Int, σ = [some (.int x), some (.int y)] ∧ Int.gcd x y = Int.gcd a b ∧ m = y.natAbs ∧ H' = H, ⟨_, a, b, rfl, rfl, rfl, rfl⟩, ?_⟩
    rintro m σ H' ⟨x, y, rfl, hg, rfl, rfl⟩
    refine ⟨_, rfl, _, _, rfl, rfl, _, rfl, ?_⟩
    refine ifb (fun hb => ?_) (fun hb => ?_)
    · have hy : y ≠ 0 := by simpa using hb
      refine ⟨fun σ' H'' => ∃ x' y' : Int, σ' = [some (.int x'), some (.int y')] ∧ Int.gcd x' y' = Int.gcd a b ∧ y'.natAbs < y.natAbs ∧ H'' = H', fun σ' H'' h => ?_, ?_⟩
      · obtain ⟨x', y', e1, e2, e3, e4⟩ := h
        exact ⟨_, e3, x', y', e1, e2, rfl, e4⟩
      · refine ⟨_, rfl, _, rfl, _, rfl, _, _, rfl, rfl, hy, _, _, rfl, ?_⟩
        exact ⟨_, _, rfl, by rw [gcd_fmod, hg], fmod_lt x hy, rfl⟩
    · have hy : y = 0 := by simpa using hb
      subst hy
      refine ⟨_, rfl, _, rfl, ?_⟩
      have e : (if x < 0 then -x else x) = (Int.gcd a b : Int) := by
        rw [← hg, Int.gcd_zero_right]
        split <;> omega
      show Q (.int (if x < 0 then -x else x)) H'
      rw [e]
      exact k
theorem ok_is_fraction : Pm P w K mg base CX0 2 "is_fraction" ["thing"] (spIsFraction K) := by
  obtain ⟨fd, F⟩ := f_is_fraction S
  obtain ⟨fd_is_whole, G_is_whole, b_is_whole, kp_is_whole⟩ := ok_is_whole (P := P) (w := w) S
  obtain ⟨fd_shared, G_shared, b_shared, kp_shared⟩ := ok_shared (P := P) (w := w) S
  refine ⟨fd, F.ok sc_is_fraction (fun vs H Q E h => ?_) (fun cdv A outer s H vs Q E hr h => ?_), F.bindsN fun _ _ _ _ _ _ us hl => match us, hl with | [_], _ => rfl, F.kp⟩
  · obtain ⟨v, r, rfl, fb, k⟩ := h
    rfl
  · obtain ⟨v, r, rfl, fb, k⟩ := h
    have hr_is_whole : Room 1 _ := hr.mono (by decide)
    have hr_shared : Room 1 _ := hr.mono (by decide)
    refine ⟨_, PSs.nox <| (pss_cons (ps_if (PW.pt (pw_or (pt_not (pt_val (pe_callB call_isi (by rfl) (z_isinstance S) (by decide +kernel) (pa_cons (pv 0) (pa_cons (pe_bltn (v := .ty "tuple") (by rfl) (z_tuple S) (by decide +kernel) rfl) pa_nil))))) (pw_or (pt_cmp (pc_neI (pe_callB call_len_seq (by rfl) (z_len S) (by decide +kernel) (pa_cons (pv 0) pa_nil)) pe_int)) (pw_or (pt_not (pt_val (pe_call G_is_whole hr_is_whole rfl (g_is_whole S) kp_is_whole b_is_whole .nil pass0 (pa_cons (pe_ix ix_tup (pv 0) pe_int (fun _ _ => rfl)) pa_nil)))) (pw_or1 (pt_not (pt_val (pe_call G_is_whole hr_is_whole rfl (g_is_whole S) kp_is_whole b_is_whole .nil pass0 (pa_cons (pe_ix ix_tup (pv 0) pe_int (fun _ _ => rfl)) pa_nil))))))))) (pss_one (ps_ret pe_bl)) pss_nil)
      (pss_one (ps_ret (pe_and (pe_cmp (pc_gt (pe_ix ix_tup (pv 0) pe_int (fun _ _ => rfl)) pe_int)) (pe_one (pe_cmp (pc_eqI (pe_call G_shared hr_shared rfl (g_shared S) kp_shared b_shared .nil pass0 (pa_cons (pe_ix ix_tup (pv 0) pe_int (fun _ _ => rfl)) (pa_cons (pe_ix ix_tup (pv 0) pe_int (fun _ _ => rfl)) pa_nil))) pe_int))))))), ?_⟩
    cases fb with
    | no ty kn ne =>
      refine ⟨v, rfl, v, .ty "tuple", _, _, _, rfl, .ty "tuple", ty, kn_tuple kn, _, rfl, ?_⟩
      rw [decide_eq_false ne]
      exact iteT (iteT k)
    | len h l =>
      refine ⟨_, rfl, _, .ty "tuple", _, _, _, rfl, .ty "tuple", tyx_tup h, kn_tuple .tuple, _, rfl, ?_⟩
      refine iteF ⟨_, rfl, _, _, rfl, .inr h, _, _, rfl, rfl, _, rfl, ?_⟩
      refine ifb (fun hb => iteT k) (fun hb => ?_)
      exact absurd (show _ = _ by simpa using hb) (by omega)
    | parts h tx kx ty ky ne =>
      refine ⟨_, rfl, _, .ty "tuple", _, _, _, rfl, .ty "tuple", tyx_tup h, kn_tuple .tuple, _, rfl, ?_⟩
      refine iteF ⟨_, rfl, _, _, rfl, .inr h, _, _, rfl, rfl, _, rfl, ?_⟩
      refine iteF ⟨_, rfl, _, _, _, _, rfl, rfl, h, at0, _, _, rfl, tx, kx, _, rfl, ?_⟩
      refine ifb (fun hb => iteT k) (fun hb => ?_)
      refine ⟨_, rfl, _, _, _, _, rfl, rfl, h, at1, _, _, rfl, ty, ky, _, rfl, ?_⟩
      refine ifb (fun _ => k) (fun hb2 => ?_)
      exact absurd ⟨by simpa using hb, by simpa using hb2⟩ ne
    | nums h =>
      refine ⟨_, rfl, _, .ty "tuple", _, _, _, rfl, .ty "tuple", tyx_tup h, kn_tuple .tuple, _, rfl, ?_⟩
      refine iteF ⟨_, rfl, _, _, rfl, .inr h, _, _, rfl, rfl, _, rfl, ?_⟩
      refine iteF ⟨_, rfl, _, _, _, _, rfl, rfl, h, at0, _, _, rfl, .base (.int _), .int, _, rfl, ?_⟩
      refine iteF ⟨_, rfl, _, _, _, _, rfl, rfl, h, at1, _, _, rfl, .base (.int _), .int, _, rfl, ?_⟩
      refine iteF ⟨_, rfl, _, _, _, _, rfl, rfl, h, at1, _, _, rfl, rfl, _, rfl, ?_⟩
      refine ifb (fun hb => ?_) (fun hb => ?_)
      · refine ⟨_, rfl, _, _, _, _, rfl, rfl, h, at0, _, rfl, _, _, _, _, rfl, rfl, h, at1, _, _, rfl, _, _, rfl, rfl, ?_⟩
        dsimp only at hb
        rw [hb, Bool.true_and] at k
        have e : ∀ n d : Int, decide (((Int.gcd n d : Nat) : Int) = 1) = decide (Int.gcd n d = 1) := fun n d => decide_eq_decide.mpr (by omega)
        rw [← e] at k
        exact k
      · dsimp only at hb
        rw [hb] at k
        exact k
theorem ok_need_fraction : Pm P w K mg base (L2N.CX P w) 3 "need_fraction" ["thing"] (spNeedFraction K) := by
  obtain ⟨fd, F⟩ := f_need_fraction S
  obtain ⟨fd_need, G_need, b_need, kp_need⟩ := ok_need (P := P) (w := w) S
  obtain ⟨fd_is_fraction, G_is_fraction, b_is_fraction, kp_is_fraction⟩ := ok_is_fraction (P := P) (w := w) S
  refine ⟨fd, F.ok sc_need_fraction (fun vs H Q E h => ?_) (fun cdv A outer s H vs Q E hr h => ?_), F.bindsN fun _ _ _ _ _ _ us hl => match us, hl with | [_], _ => rfl, F.kp⟩
  · obtain ⟨v, r, rfl, fb, k1, k2⟩ := h
    rfl
  · obtain ⟨v, r, rfl, fb, k1, k2⟩ := h
    have px : Passes (L2N.CX P w) (cxOf (L2N.CX P w) P w K mg base N_need_fraction "need_fraction" (defScope s_need_fraction) (He.ga K "need_fraction") cdv A outer s H E) E := L2N.passes_call (L2N.takes_of rfl rfl rfl rfl) fun _ _ _ _ z => z
    have hr_need : Room 1 _ := hr.mono (by decide)
    have hr_is_fraction : Room 2 _ := hr.mono (by decide)
    refine ⟨_, (pss_one (ps_expr (pe_call G_need hr_need rfl (g_need S) kp_need b_need .nil px (pa_cons (pe_call G_is_fraction hr_is_fraction rfl (g_is_fraction S) kp_is_fraction b_is_fraction .nil pass0 (pa_cons (pv 0) pa_nil)) pa_nil)))), ?_⟩
    exact ⟨_, rfl, _, _, rfl, fb, _, rfl, k1, k2⟩
theorem ok_look : Pm P w K mg base (L2N.CX P w) 4 "look" ["one", "other"] (spLook K) := by
  obtain ⟨fd, F⟩ := f_look S
  obtain ⟨fd_need_fraction, G_need_fraction, b_need_fraction, kp_need_fraction⟩ := ok_need_fraction (P := P) (w := w) S
  refine ⟨fd, F.ok sc_look (fun vs H Q E h => ?_) (fun cdv A outer s H vs Q E hr h => ?_), F.bindsN fun _ _ _ _ _ _ us hl => match us, hl with | [_, _], _ => rfl, F.kp⟩
  · obtain ⟨u, v, r, q, rfl, f1, f2, k1, k2⟩ := h
    rfl
  · obtain ⟨u, v, r, q, rfl, f1, f2, k1, k2⟩ := h
    have px : Passes (L2N.CX P w) (cxOf (L2N.CX P w) P w K mg base N_look "look" (defScope s_look) (He.ga K "look") cdv A outer s H E) E := L2N.passes_call (L2N.takes_of rfl rfl rfl rfl) fun _ _ _ _ z => z
    have hr_need_fraction : Room 3 _ := hr.mono (by decide)
    refine ⟨_, (pss_cons (ps_expr (pe_call G_need_fraction hr_need_fraction rfl (g_need_fraction S) kp_need_fraction b_need_fraction .nil px (pa_cons (pv 0) pa_nil)))
      (pss_one (ps_expr (pe_call G_need_fraction hr_need_fraction rfl (g_need_fraction S) kp_need_fraction b_need_fraction .nil px (pa_cons (pv 1) pa_nil))))), ?_⟩
    refine ⟨_, rfl, _, _, rfl, f1, fun h1 => ?_, fun h1 => k2 (by rw [h1]; rfl)⟩
    exact ⟨_, rfl, _, _, rfl, f2, fun h2 => k1 (by rw [h1, h2]; rfl), fun h2 => k2 (by rw [h1, h2]; rfl)⟩
theorem ok_least : Pm P w K mg base CX0 2 "least" ["above", "below"] (spLeast K) := by
  obtain ⟨fd, F⟩ := f_least S
  obtain ⟨fd_shared, G_shared, b_shared, kp_shared⟩ := ok_shared (P := P) (w := w) S
  refine ⟨fd, F.ok sc_least (fun vs H Q E h => ?_) (fun cdv A outer s H vs Q E hr h => ?_), F.bindsN fun _ _ _ _ _ _ us hl => match us, hl with | [_, _], _ => rfl, F.kp⟩
  · obtain ⟨a, b, rfl, hb, hq, k⟩ := h
    rfl
  · obtain ⟨a, b, rfl, hb, hq, k⟩ := h
    have hr_shared : Room 1 _ := hr.mono (by decide)
    refine ⟨_, PSs.nox <| (pss_cons (ps_set (i := 2) sc_least.nd rfl (by first | exact Or.inl rfl | exact Or.inr rfl) (pe_call G_shared hr_shared rfl (g_shared S) kp_shared b_shared .nil pass0 (pa_cons (pv 0) (pa_cons (pv 1) pa_nil))))
      (pss_cons (ps_if (pt_cmp (pc_lt (pv 1) pe_int)) (pss_one (ps_set (i := 2) sc_least.nd rfl (by first | exact Or.inl rfl | exact Or.inr rfl) (pe_op op_sub pe_int (pv 2)))) pss_nil)
      (pss_one (ps_ret (pe_tup (pa_cons (pe_op op_fdivZ (pv 0) (pv 2)) (pa_cons (pe_op op_fdivZ (pv 1) (pv 2)) pa_nil))))))), ?_⟩
    refine ⟨_, rfl, _, rfl, _, _, rfl, ?_⟩
    refine ⟨_, rfl, _, _, rfl, rfl, _, rfl, ?_⟩
    have d1 : CDivZ a (lby a b) := divZ (lby_ne a hb) (lby_num a hb) hq.num
    have d2 : CDivZ b (lby a b) := divZ (lby_ne a hb) (lby_den a hb) (bl_den hq)
    have fin : ∀ p, H p = none → Q (.ref p) (upd H p (.tup [.int (a.fdiv (lby a b)), .int (b.fdiv (lby a b))])) := fun p hp => by
      rw [least_num a hb, least_den a hb]
      exact k.new hp
    refine ifb (fun h0 => ?_) (fun h0 => ?_)
    · have h0' : b < 0 := by simpa using h0
      have e : lby a b = 0 - (Int.gcd a b : Int) := if_pos h0'
      rw [e] at d1 d2 fin
      refine ⟨_, rfl, _, _, rfl, rfl, ?_⟩
      exact ⟨_, rfl, _, rfl, _, _, rfl, rfl, d1, _, rfl, _, rfl, _, _, rfl, rfl, d2, (by show 2 ≤ sizeLine; decide), fin⟩
    · have h0' : ¬ b < 0 := by simpa using h0
      have e : lby a b = (Int.gcd a b : Int) := if_neg h0'
      rw [e] at d1 d2 fin
      exact ⟨_, rfl, _, rfl, _, _, rfl, rfl, d1, _, rfl, _, rfl, _, _, rfl, rfl, d2, (by show 2 ≤ sizeLine; decide), fin⟩
theorem ok_fraction : Pm P w K mg base (L2N.CX P w) 3 "fraction" ["above", "below"] (spFraction K) := by
  obtain ⟨fd, F⟩ := f_fraction S
  obtain ⟨fd_need, G_need, b_need, kp_need⟩ := ok_need (P := P) (w := w) S
  obtain ⟨fd_is_whole, G_is_whole, b_is_whole, kp_is_whole⟩ := ok_is_whole (P := P) (w := w) S
  obtain ⟨fd_least, G_least, b_least, kp_least⟩ := ok_least (P := P) (w := w) S
  refine ⟨fd, F.ok sc_fraction (fun vs H Q E h => ?_) (fun cdv A outer s H vs Q E hr h => ?_), F.bindsN fun _ _ _ _ _ _ us hl => match us, hl with | [_, _], _ => rfl, F.kp⟩
  · obtain ⟨u, v, n, m, rfl, tu, ku, tv, kv, k⟩ := h
    rfl
  · obtain ⟨u, v, n, m, rfl, tu, ku, tv, kv, k⟩ := h
    have px : Passes (L2N.CX P w) (cxOf (L2N.CX P w) P w K mg base N_fraction "fraction" (defScope s_fraction) (He.ga K "fraction") cdv A outer s H E) E := L2N.passes_call (L2N.takes_of rfl rfl rfl rfl) fun _ _ _ _ z => z
    have hr_need : Room 1 _ := hr.mono (by decide)
    have hr_is_whole : Room 1 _ := hr.mono (by decide)
    have hr_least : Room 2 _ := hr.mono (by decide)
    refine ⟨_, (pss_cons (ps_expr (pe_call G_need hr_need rfl (g_need S) kp_need b_need .nil px (pa_cons (pe_and (pe_call G_is_whole hr_is_whole rfl (g_is_whole S) kp_is_whole b_is_whole .nil pass0 (pa_cons (pv 0) pa_nil)) (pe_and (pe_call G_is_whole hr_is_whole rfl (g_is_whole S) kp_is_whole b_is_whole .nil pass0 (pa_cons (pv 1) pa_nil)) (pe_one (pe_cmp (pc_neI (pv 1) pe_int))))) pa_nil)))
      (pss_one (ps_ret (pe_call G_least hr_least rfl (g_least S) kp_least b_least .nil pass0 (pa_cons (pv 0) (pa_cons (pv 1) pa_nil)))))), ?_⟩
    refine ⟨_, rfl, _, _, rfl, tu, ku, _, rfl, ?_⟩
    refine ifb (fun hb => ?_) (fun hb => ?_)
    · refine ⟨_, rfl, _, _, rfl, tv, kv, _, rfl, ?_⟩
      refine ifb (fun hb2 => ?_) (fun hb2 => ?_)
      · have e1 : n = "int" := by simpa using hb
        have e2 : m = "int" := by simpa using hb2
        rcases k with ⟨a, b, _, _, rfl, rfl, h0, hq, k⟩ | ⟨h3, k⟩
        · refine ⟨_, rfl, _, _, rfl, rfl, _, rfl, fun _ => ?_, fun h1 => absurd (show b = 0 by simpa using h1) h0⟩
          exact ⟨_, rfl, _, rfl, _, _, rfl, h0, hq, k⟩
        · rcases h3 with h3 | h3 | ⟨_, _, rfl⟩
          · exact absurd e1 h3
          · exact absurd e2 h3
          · exact ⟨_, rfl, _, _, rfl, rfl, _, rfl, (fun z => by cases z), fun _ => k⟩
      · have e2 : m ≠ "int" := by simpa using hb2
        rcases k with ⟨a, b, _, e, _⟩ | ⟨_, k⟩
        · exact absurd e e2
        · exact ⟨_, rfl, (fun z => by cases z), fun _ => k⟩
    · have e2 : n ≠ "int" := by simpa using hb
      rcases k with ⟨a, b, e, _⟩ | ⟨_, k⟩
      · exact absurd e e2
      · exact ⟨_, rfl, (fun z => by cases z), fun _ => k⟩
theorem ok_add : Pm P w K mg base CX0 3 "add" ["one", "other"] (spF2 K (· + ·) (fun _ => True)) := by
  obtain ⟨fd, F⟩ := f_add S
  obtain ⟨fd_least, G_least, b_least, kp_least⟩ := ok_least (P := P) (w := w) S
  refine ⟨fd, F.ok sc_add (fun vs H Q E h => ?_) (fun cdv A outer s H vs Q E hr h => ?_), F.bindsN fun _ _ _ _ _ _ us hl => match us, hl with | [_, _], _ => rfl, F.kp⟩
  · obtain ⟨u, v, a, b, rfl, ⟨p, rfl, h1⟩, ⟨q, rfl, h2⟩, ba, bb, bc, _, k⟩ := h
    rfl
  · obtain ⟨u, v, a, b, rfl, ⟨p, rfl, h1⟩, ⟨q, rfl, h2⟩, ba, bb, bc, _, k⟩ := h
    have hr_least : Room 2 _ := hr.mono (by decide)
    refine ⟨_, PSs.nox <| (pss_one (ps_ret (pe_call G_least hr_least rfl (g_least S) kp_least b_least .nil pass0 (pa_cons (pe_op op_add (pe_op op_mulZ (pe_ix ix_tup (pv 0) pe_int (fun _ _ => rfl)) (pe_ix ix_tup (pv 1) pe_int (fun _ _ => rfl))) (pe_op op_mulZ (pe_ix ix_tup (pv 1) pe_int (fun _ _ => rfl)) (pe_ix ix_tup (pv 0) pe_int (fun _ _ => rfl)))) (pa_cons (pe_op op_mulZ (pe_ix ix_tup (pv 0) pe_int (fun _ _ => rfl)) (pe_ix ix_tup (pv 1) pe_int (fun _ _ => rfl))) pa_nil))))), ?_⟩
    refine ⟨_, rfl, _, _, _, _, rfl, rfl, h1, at0, _, rfl, _, _, _, _, rfl, rfl, h2, at1, _, _, rfl, rfl, mulZ ba.num (bl_den bb) (by decide), ?_⟩
    refine ⟨_, rfl, _, _, _, _, rfl, rfl, h2, at0, _, rfl, _, _, _, _, rfl, rfl, h1, at1, _, _, rfl, rfl, mulZ bb.num (bl_den ba) (by decide), _, _, rfl, rfl, ?_⟩
    refine ⟨_, rfl, _, _, _, _, rfl, rfl, h1, at1, _, rfl, _, _, _, _, rfl, rfl, h2, at1, _, _, rfl, rfl, mulZ (bl_den ba) (bl_den bb) (by decide), ?_⟩
    exact ⟨_, _, rfl, dd_ne a b, by rw [← add_eq]; exact bc, by rw [← add_eq]; exact k⟩
theorem ok_take : Pm P w K mg base CX0 3 "take" ["one", "other"] (spF2 K (· - ·) (fun _ => True)) := by
  obtain ⟨fd, F⟩ := f_take S
  obtain ⟨fd_least, G_least, b_least, kp_least⟩ := ok_least (P := P) (w := w) S
  refine ⟨fd, F.ok sc_take (fun vs H Q E h => ?_) (fun cdv A outer s H vs Q E hr h => ?_), F.bindsN fun _ _ _ _ _ _ us hl => match us, hl with | [_, _], _ => rfl, F.kp⟩
  · obtain ⟨u, v, a, b, rfl, ⟨p, rfl, h1⟩, ⟨q, rfl, h2⟩, ba, bb, bc, _, k⟩ := h
    rfl
  · obtain ⟨u, v, a, b, rfl, ⟨p, rfl, h1⟩, ⟨q, rfl, h2⟩, ba, bb, bc, _, k⟩ := h
    have hr_least : Room 2 _ := hr.mono (by decide)
    refine ⟨_, PSs.nox <| (pss_one (ps_ret (pe_call G_least hr_least rfl (g_least S) kp_least b_least .nil pass0 (pa_cons (pe_op op_sub (pe_op op_mulZ (pe_ix ix_tup (pv 0) pe_int (fun _ _ => rfl)) (pe_ix ix_tup (pv 1) pe_int (fun _ _ => rfl))) (pe_op op_mulZ (pe_ix ix_tup (pv 1) pe_int (fun _ _ => rfl)) (pe_ix ix_tup (pv 0) pe_int (fun _ _ => rfl)))) (pa_cons (pe_op op_mulZ (pe_ix ix_tup (pv 0) pe_int (fun _ _ => rfl)) (pe_ix ix_tup (pv 1) pe_int (fun _ _ => rfl))) pa_nil))))), ?_⟩
    refine ⟨_, rfl, _, _, _, _, rfl, rfl, h1, at0, _, rfl, _, _, _, _, rfl, rfl, h2, at1, _, _, rfl, rfl, mulZ ba.num (bl_den bb) (by decide), ?_⟩
    refine ⟨_, rfl, _, _, _, _, rfl, rfl, h2, at0, _, rfl, _, _, _, _, rfl, rfl, h1, at1, _, _, rfl, rfl, mulZ bb.num (bl_den ba) (by decide), _, _, rfl, rfl, ?_⟩
    refine ⟨_, rfl, _, _, _, _, rfl, rfl, h1, at1, _, rfl, _, _, _, _, rfl, rfl, h2, at1, _, _, rfl, rfl, mulZ (bl_den ba) (bl_den bb) (by decide), ?_⟩
    exact ⟨_, _, rfl, dd_ne a b, by rw [← sub_eq]; exact bc, by rw [← sub_eq]; exact k⟩
theorem ok_multiply : Pm P w K mg base CX0 3 "multiply" ["one", "other"] (spF2 K (· * ·) (fun _ => True)) := by
  obtain ⟨fd, F⟩ := f_multiply S
  obtain ⟨fd_least, G_least, b_least, kp_least⟩ := ok_least (P := P) (w := w) S
  refine ⟨fd, F.ok sc_multiply (fun vs H Q E h => ?_) (fun cdv A outer s H vs Q E hr h => ?_), F.bindsN fun _ _ _ _ _ _ us hl => match us, hl with | [_, _], _ => rfl, F.kp⟩
  · obtain ⟨u, v, a, b, rfl, ⟨p, rfl, h1⟩, ⟨q, rfl, h2⟩, ba, bb, bc, _, k⟩ := h
    rfl
  · obtain ⟨u, v, a, b, rfl, ⟨p, rfl, h1⟩, ⟨q, rfl, h2⟩, ba, bb, bc, _, k⟩ := h
    have hr_least : Room 2 _ := hr.mono (by decide)
    refine ⟨_, PSs.nox <| (pss_one (ps_ret (pe_call G_least hr_least rfl (g_least S) kp_least b_least .nil pass0 (pa_cons (pe_op op_mulZ (pe_ix ix_tup (pv 0) pe_int (fun _ _ => rfl)) (pe_ix ix_tup (pv 1) pe_int (fun _ _ => rfl))) (pa_cons (pe_op op_mulZ (pe_ix ix_tup (pv 0) pe_int (fun _ _ => rfl)) (pe_ix ix_tup (pv 1) pe_int (fun _ _ => rfl))) pa_nil))))), ?_⟩
    refine ⟨_, rfl, _, _, _, _, rfl, rfl, h1, at0, _, rfl, _, _, _, _, rfl, rfl, h2, at0, _, _, rfl, rfl, mulZ ba.num bb.num (by decide), ?_⟩
    refine ⟨_, rfl, _, _, _, _, rfl, rfl, h1, at1, _, rfl, _, _, _, _, rfl, rfl, h2, at1, _, _, rfl, rfl, mulZ (bl_den ba) (bl_den bb) (by decide), ?_⟩
    exact ⟨_, _, rfl, dd_ne a b, by rw [← mul_eq]; exact bc, by rw [← mul_eq]; exact k⟩
theorem ok_part_of : Pm P w K mg base CX0 3 "part_of" ["one", "other"] (spF2 K (· / ·) (fun b => b ≠ 0)) := by
  obtain ⟨fd, F⟩ := f_part_of S
  obtain ⟨fd_least, G_least, b_least, kp_least⟩ := ok_least (P := P) (w := w) S
  refine ⟨fd, F.ok sc_part_of (fun vs H Q E h => ?_) (fun cdv A outer s H vs Q E hr h => ?_), F.bindsN fun _ _ _ _ _ _ us hl => match us, hl with | [_, _], _ => rfl, F.kp⟩
  · obtain ⟨u, v, a, b, rfl, ⟨p, rfl, h1⟩, ⟨q, rfl, h2⟩, ba, bb, bc, h0, k⟩ := h
    rfl
  · obtain ⟨u, v, a, b, rfl, ⟨p, rfl, h1⟩, ⟨q, rfl, h2⟩, ba, bb, bc, h0, k⟩ := h
    have hr_least : Room 2 _ := hr.mono (by decide)
    refine ⟨_, PSs.nox <| (pss_one (ps_ret (pe_call G_least hr_least rfl (g_least S) kp_least b_least .nil pass0 (pa_cons (pe_op op_mulZ (pe_ix ix_tup (pv 0) pe_int (fun _ _ => rfl)) (pe_ix ix_tup (pv 1) pe_int (fun _ _ => rfl))) (pa_cons (pe_op op_mulZ (pe_ix ix_tup (pv 0) pe_int (fun _ _ => rfl)) (pe_ix ix_tup (pv 1) pe_int (fun _ _ => rfl))) pa_nil))))), ?_⟩
    refine ⟨_, rfl, _, _, _, _, rfl, rfl, h1, at0, _, rfl, _, _, _, _, rfl, rfl, h2, at1, _, _, rfl, rfl, mulZ ba.num (bl_den bb) (by decide), ?_⟩
    refine ⟨_, rfl, _, _, _, _, rfl, rfl, h1, at1, _, rfl, _, _, _, _, rfl, rfl, h2, at0, _, _, rfl, rfl, mulZ (bl_den ba) bb.num (by decide), ?_⟩
    exact ⟨_, _, rfl, Int.mul_ne_zero (den_ne a) (num_ne h0), by rw [← div_eq]; exact bc, by rw [← div_eq]; exact k⟩
theorem ok_is_less : Pm P w K mg base CX0 1 "is_less" ["one", "other"] (spIsLess K) := by
  obtain ⟨fd, F⟩ := f_is_less S
  refine ⟨fd, F.ok sc_is_less (fun vs H Q E h => ?_) (fun cdv A outer s H vs Q E hr h => ?_), F.bindsN fun _ _ _ _ _ _ us hl => match us, hl with | [_, _], _ => rfl, F.kp⟩
  · obtain ⟨u, v, a, b, rfl, ⟨p, rfl, h1⟩, ⟨q, rfl, h2⟩, ba, bb, k⟩ := h
    rfl
  · obtain ⟨u, v, a, b, rfl, ⟨p, rfl, h1⟩, ⟨q, rfl, h2⟩, ba, bb, k⟩ := h
    refine ⟨_, PSs.nox <| (pss_one (ps_ret (pe_cmp (pc_lt (pe_op op_mulZ (pe_ix ix_tup (pv 0) pe_int (fun _ _ => rfl)) (pe_ix ix_tup (pv 1) pe_int (fun _ _ => rfl))) (pe_op op_mulZ (pe_ix ix_tup (pv 1) pe_int (fun _ _ => rfl)) (pe_ix ix_tup (pv 0) pe_int (fun _ _ => rfl))))))), ?_⟩
    refine ⟨_, rfl, _, _, _, _, rfl, rfl, h1, at0, _, rfl, _, _, _, _, rfl, rfl, h2, at1, _, _, rfl, rfl, mulZ ba.num (bl_den bb) (by decide), ?_⟩
    refine ⟨_, rfl, _, _, _, _, rfl, rfl, h2, at0, _, rfl, _, _, _, _, rfl, rfl, h1, at1, _, _, rfl, rfl, mulZ bb.num (bl_den ba) (by decide), _, _, rfl, rfl, ?_⟩
    rw [← lt_eq] at k
    exact k
theorem ok_plus : Pm P w K mg base (L2N.CX P w) 5 "plus" ["one", "other"] (spL2 K (· + ·)) := by
  obtain ⟨fd, F⟩ := f_plus S
  obtain ⟨fd_look, G_look, b_look, kp_look⟩ := ok_look (P := P) (w := w) S
  obtain ⟨fd_add, G_add, b_add, kp_add⟩ := ok_add (P := P) (w := w) S
  refine ⟨fd, F.ok sc_plus (fun vs H Q E h => ?_) (fun cdv A outer s H vs Q E hr h => ?_), F.bindsN fun _ _ _ _ _ _ us hl => match us, hl with | [_, _], _ => rfl, F.kp⟩
  · obtain ⟨u, v, r, q, rfl, f1, f2, k1, k2⟩ := h
    rfl
  · obtain ⟨u, v, r, q, rfl, f1, f2, k1, k2⟩ := h
    have px : Passes (L2N.CX P w) (cxOf (L2N.CX P w) P w K mg base N_plus "plus" (defScope s_plus) (He.ga K "plus") cdv A outer s H E) E := L2N.passes_call (L2N.takes_of rfl rfl rfl rfl) fun _ _ _ _ z => z
    have hr_look : Room 4 _ := hr.mono (by decide)
    have hr_add : Room 3 _ := hr.mono (by decide)
    refine ⟨_, (pss_cons (ps_expr (pe_call G_look hr_look rfl (g_look S) kp_look b_look .nil px (pa_cons (pv 0) (pa_cons (pv 1) pa_nil))))
      (pss_one (ps_ret (pe_call G_add hr_add rfl (g_add S) kp_add b_add .nil pass0 (pa_cons (pv 0) (pa_cons (pv 1) pa_nil)))))), ?_⟩
    refine ⟨_, rfl, _, rfl, _, _, _, _, rfl, f1, f2, fun h => ?_, k2⟩
    obtain ⟨a, b, h1, h2, ba, bb, bc, k⟩ := k1 h
    exact ⟨_, rfl, _, rfl, _, _, a, b, rfl, h1, h2, ba, bb, bc, trivial, k⟩
theorem ok_less : Pm P w K mg base (L2N.CX P w) 5 "less" ["one", "other"] (spL2 K (· - ·)) := by
  obtain ⟨fd, F⟩ := f_less S
  obtain ⟨fd_look, G_look, b_look, kp_look⟩ := ok_look (P := P) (w := w) S
  obtain ⟨fd_take, G_take, b_take, kp_take⟩ := ok_take (P := P) (w := w) S
  refine ⟨fd, F.ok sc_less (fun vs H Q E h => ?_) (fun cdv A outer s H vs Q E hr h => ?_), F.bindsN fun _ _ _ _ _ _ us hl => match us, hl with | [_, _], _ => rfl, F.kp⟩
  · obtain ⟨u, v, r, q, rfl, f1, f2, k1, k2⟩ := h
    rfl
  · obtain ⟨u, v, r, q, rfl, f1, f2, k1, k2⟩ := h
    have px : Passes (L2N.CX P w) (cxOf (L2N.CX P w) P w K mg base N_less "less" (defScope s_less) (He.ga K "less") cdv A outer s H E) E := L2N.passes_call (L2N.takes_of rfl rfl rfl rfl) fun _ _ _ _ z => z
    have hr_look : Room 4 _ := hr.mono (by decide)
    have hr_take : Room 3 _ := hr.mono (by decide)
    refine ⟨_, (pss_cons (ps_expr (pe_call G_look hr_look rfl (g_look S) kp_look b_look .nil px (pa_cons (pv 0) (pa_cons (pv 1) pa_nil))))
      (pss_one (ps_ret (pe_call G_take hr_take rfl (g_take S) kp_take b_take .nil pass0 (pa_cons (pv 0) (pa_cons (pv 1) pa_nil)))))), ?_⟩
    refine ⟨_, rfl, _, rfl, _, _, _, _, rfl, f1, f2, fun h => ?_, k2⟩
    obtain ⟨a, b, h1, h2, ba, bb, bc, k⟩ := k1 h
    exact ⟨_, rfl, _, rfl, _, _, a, b, rfl, h1, h2, ba, bb, bc, trivial, k⟩
theorem ok_times : Pm P w K mg base (L2N.CX P w) 5 "times" ["one", "other"] (spL2 K (· * ·)) := by
  obtain ⟨fd, F⟩ := f_times S
  obtain ⟨fd_look, G_look, b_look, kp_look⟩ := ok_look (P := P) (w := w) S
  obtain ⟨fd_multiply, G_multiply, b_multiply, kp_multiply⟩ := ok_multiply (P := P) (w := w) S
  refine ⟨fd, F.ok sc_times (fun vs H Q E h => ?_) (fun cdv A outer s H vs Q E hr h => ?_), F.bindsN fun _ _ _ _ _ _ us hl => match us, hl with | [_, _], _ => rfl, F.kp⟩
  · obtain ⟨u, v, r, q, rfl, f1, f2, k1, k2⟩ := h
    rfl
  · obtain ⟨u, v, r, q, rfl, f1, f2, k1, k2⟩ := h
    have px : Passes (L2N.CX P w) (cxOf (L2N.CX P w) P w K mg base N_times "times" (defScope s_times) (He.ga K "times") cdv A outer s H E) E := L2N.passes_call (L2N.takes_of rfl rfl rfl rfl) fun _ _ _ _ z => z
    have hr_look : Room 4 _ := hr.mono (by decide)
    have hr_multiply : Room 3 _ := hr.mono (by decide)
    refine ⟨_, (pss_cons (ps_expr (pe_call G_look hr_look rfl (g_look S) kp_look b_look .nil px (pa_cons (pv 0) (pa_cons (pv 1) pa_nil))))
      (pss_one (ps_ret (pe_call G_multiply hr_multiply rfl (g_multiply S) kp_multiply b_multiply .nil pass0 (pa_cons (pv 0) (pa_cons (pv 1) pa_nil)))))), ?_⟩
    refine ⟨_, rfl, _, rfl, _, _, _, _, rfl, f1, f2, fun h => ?_, k2⟩
    obtain ⟨a, b, h1, h2, ba, bb, bc, k⟩ := k1 h
    exact ⟨_, rfl, _, rfl, _, _, a, b, rfl, h1, h2, ba, bb, bc, trivial, k⟩
theorem ok_by : Pm P w K mg base (L2N.CX P w) 5 "by" ["one", "other"] (spBy K) := by
  obtain ⟨fd, F⟩ := f_by S
  obtain ⟨fd_look, G_look, b_look, kp_look⟩ := ok_look (P := P) (w := w) S
  obtain ⟨fd_need, G_need, b_need, kp_need⟩ := ok_need (P := P) (w := w) S
  obtain ⟨fd_part_of, G_part_of, b_part_of, kp_part_of⟩ := ok_part_of (P := P) (w := w) S
  refine ⟨fd, F.ok sc_by (fun vs H Q E h => ?_) (fun cdv A outer s H vs Q E hr h => ?_), F.bindsN fun _ _ _ _ _ _ us hl => match us, hl with | [_, _], _ => rfl, F.kp⟩
  · obtain ⟨u, v, r, q, rfl, f1, f2, k1, k2⟩ := h
    rfl
  · obtain ⟨u, v, r, q, rfl, f1, f2, k1, k2⟩ := h
    have px : Passes (L2N.CX P w) (cxOf (L2N.CX P w) P w K mg base N_by "by" (defScope s_by) (He.ga K "by") cdv A outer s H E) E := L2N.passes_call (L2N.takes_of rfl rfl rfl rfl) fun _ _ _ _ z => z
    have hr_look : Room 4 _ := hr.mono (by decide)
    have hr_need : Room 1 _ := hr.mono (by decide)
    have hr_part_of : Room 3 _ := hr.mono (by decide)
    refine ⟨_, (pss_cons (ps_expr (pe_call G_look hr_look rfl (g_look S) kp_look b_look .nil px (pa_cons (pv 0) (pa_cons (pv 1) pa_nil))))
      (pss_cons (ps_expr (pe_call G_need hr_need rfl (g_need S) kp_need b_need .nil px (pa_cons (pe_cmp (pc_neI (pe_ix ix_tup (pv 1) pe_int (fun _ _ => rfl)) pe_int)) pa_nil)))
      (pss_one (ps_ret (pe_call G_part_of hr_part_of rfl (g_part_of S) kp_part_of b_part_of .nil pass0 (pa_cons (pv 0) (pa_cons (pv 1) pa_nil))))))), ?_⟩
    refine ⟨_, rfl, _, rfl, _, _, _, _, rfl, f1, f2, fun h => ?_, k2⟩
    obtain ⟨a, b, h1, h2, ba, bb, k3, k4⟩ := k1 h
    obtain ⟨q, rfl, hq⟩ := id h2
    refine ⟨_, rfl, _, _, _, _, rfl, rfl, hq, at0, _, _, rfl, rfl, _, rfl, fun h0 => ?_, fun h0 => ?_⟩
    · have h0' : b ≠ 0 := fun z => by simp [z] at h0
      obtain ⟨bc, k⟩ := k3 h0'
      exact ⟨_, rfl, _, rfl, _, _, a, b, rfl, h1, h2, ba, bb, bc, h0', k⟩
    · exact k4 (Rat.num_eq_zero.mp (by simpa using h0))
theorem ok_before : Pm P w K mg base (L2N.CX P w) 5 "before" ["one", "other"] (spBefore K) := by
  obtain ⟨fd, F⟩ := f_before S
  obtain ⟨fd_look, G_look, b_look, kp_look⟩ := ok_look (P := P) (w := w) S
  obtain ⟨fd_is_less, G_is_less, b_is_less, kp_is_less⟩ := ok_is_less (P := P) (w := w) S
  refine ⟨fd, F.ok sc_before (fun vs H Q E h => ?_) (fun cdv A outer s H vs Q E hr h => ?_), F.bindsN fun _ _ _ _ _ _ us hl => match us, hl with | [_, _], _ => rfl, F.kp⟩
  · obtain ⟨u, v, r, q, rfl, f1, f2, k1, k2⟩ := h
    rfl
  · obtain ⟨u, v, r, q, rfl, f1, f2, k1, k2⟩ := h
    have px : Passes (L2N.CX P w) (cxOf (L2N.CX P w) P w K mg base N_before "before" (defScope s_before) (He.ga K "before") cdv A outer s H E) E := L2N.passes_call (L2N.takes_of rfl rfl rfl rfl) fun _ _ _ _ z => z
    have hr_look : Room 4 _ := hr.mono (by decide)
    have hr_is_less : Room 1 _ := hr.mono (by decide)
    refine ⟨_, (pss_cons (ps_expr (pe_call G_look hr_look rfl (g_look S) kp_look b_look .nil px (pa_cons (pv 0) (pa_cons (pv 1) pa_nil))))
      (pss_one (ps_ret (pe_call G_is_less hr_is_less rfl (g_is_less S) kp_is_less b_is_less .nil pass0 (pa_cons (pv 0) (pa_cons (pv 1) pa_nil)))))), ?_⟩
    refine ⟨_, rfl, _, rfl, _, _, _, _, rfl, f1, f2, fun h => ?_, k2⟩
    obtain ⟨a, b, h1, h2, ba, bb, k⟩ := k1 h
    exact ⟨_, rfl, _, rfl, _, _, a, b, rfl, h1, h2, ba, bb, k⟩
theorem ok_whole : Pm P w K mg base (L2N.CX P w) 4 "whole" ["one"] (spWhole K) := by
  obtain ⟨fd, F⟩ := f_whole S
  obtain ⟨fd_need_fraction, G_need_fraction, b_need_fraction, kp_need_fraction⟩ := ok_need_fraction (P := P) (w := w) S
  refine ⟨fd, F.ok sc_whole (fun vs H Q E h => ?_) (fun cdv A outer s H vs Q E hr h => ?_), F.bindsN fun _ _ _ _ _ _ us hl => match us, hl with | [_], _ => rfl, F.kp⟩
  · obtain ⟨v, r, rfl, f1, k1, k2⟩ := h
    rfl
  · obtain ⟨v, r, rfl, f1, k1, k2⟩ := h
    have px : Passes (L2N.CX P w) (cxOf (L2N.CX P w) P w K mg base N_whole "whole" (defScope s_whole) (He.ga K "whole") cdv A outer s H E) E := L2N.passes_call (L2N.takes_of rfl rfl rfl rfl) fun _ _ _ _ z => z
    have hr_need_fraction : Room 3 _ := hr.mono (by decide)
    refine ⟨_, (pss_cons (ps_expr (pe_call G_need_fraction hr_need_fraction rfl (g_need_fraction S) kp_need_fraction b_need_fraction .nil px (pa_cons (pv 0) pa_nil)))
      (pss_one (ps_ret (pe_op op_fdivZ (pe_ix ix_tup (pv 0) pe_int (fun _ _ => rfl)) (pe_ix ix_tup (pv 0) pe_int (fun _ _ => rfl)))))), ?_⟩
    refine ⟨_, rfl, _, _, rfl, f1, fun h => ?_, k2⟩
    obtain ⟨a, ⟨p, rfl, h1⟩, ba, k⟩ := k1 h
    refine ⟨_, rfl, _, _, _, _, rfl, rfl, h1, at0, _, rfl, _, _, _, _, rfl, rfl, h1, at1, _, _, rfl, rfl, divZ_small (den_ne a) (Nat.lt_of_lt_of_le (bl_den ba) (Nat.pow_le_pow_right (by decide) (by decide))), ?_⟩
    rw [Rat.floor_def, ← Int.fdiv_eq_ediv_of_nonneg _ (Int.natCast_nonneg _)] at k
    exact k
end

/-! ### the word of a refusal -/
def wordAt (y : Str) : Nat := ws.idxOf y
theorem word_sum : ∀ y ∈ ws, (ws.map fun z => (if decide (y = z) then (1 : Int) else 0)).sum = 1 := by decide +kernel
theorem word_pos : ∀ y ∈ ws, ws[wordAt y]? = some y ∧ (ws.map fun z => decide (y = z))[wordAt y]? = some true ∧ ∀ m, m < wordAt y → (ws.map fun z => decide (y = z))[m]? = some false := by decide +kernel
theorem word_len : ws.length ≤ 9 := by decide +kernel
theorem flat_bls : ∀ l : List Bool, (l.map V.bl).all flatV = true
  | [] => rfl
  | _ :: l => flat_bls l
theorem word_index {K : PySem.W.Frag} {y : Str} (hy : y ∈ ws) {H : Hp} {l : Addr} {Q : VK} (h : H l = some (.lst ((ws.map fun z => decide (y = z)).map V.bl))) (q : Q (.int (wordAt y : Nat)) H) : rIndex K (.ref l) [.bl true] H Q := by
  obtain ⟨h1, h2, h3⟩ := word_pos y hy
  refine ⟨l, _, _, wordAt y, .bl true, rfl, rfl, SqL.of h, rfl, flat_bls _, ?_, rfl, fun m z hm hz => ?_, q⟩
  · rw [List.getElem?_map, h2]
    rfl
  · rw [List.getElem?_map, h3 m hm] at hz
    cases hz
    rfl
section
variable {P : Program} {w : World} {K : PySem.W.Frag} {mg : Str → Option Value} {base : Heap} (S : Sa K mg base)
include S
theorem word_ok : ∃ fd, WordRun P w K mg base 1 (He.ga K "_law_word") fd ws ∧ Binds K fd ["e"] [] ∧ PySem.W.keepIn K (.ref (He.ga K "_law_word")) = true := by
  obtain ⟨fd, F⟩ := f__law_word S
  refine ⟨fd, word_of F sc__law_word (fun cdv A outer s H Q E p y hy hot hz hr k => ?_), F.bindsN fun _ _ _ _ _ _ us hl => match us, hl with | [_], _ => rfl, F.kp⟩
  have D := words_ok S
  obtain ⟨vs0, hd0, _⟩ := id hot.2
  refine ⟨_, (pss_cons (ps_set (i := 1) sc__law_word.nd rfl (by first | exact Or.inl rfl | exact Or.inr rfl) (pe_lst (pa_cons (pe_callB (call_isH (p := p) List.mem_cons_self (D y hy).ec hz ⟨vs0, hd0⟩) (by rfl) (z_isinstance S) (by decide +kernel) (pa_cons (pv 0) (pa_cons (pe_gR (g_BadFraction S)) pa_nil))) (pa_cons (pe_callB (call_isH (p := p) List.mem_cons_self (D y hy).ec hz ⟨vs0, hd0⟩) (by rfl) (z_isinstance S) (by decide +kernel) (pa_cons (pv 0) (pa_cons (pe_gR (g_BadName S)) pa_nil))) (pa_cons (pe_callB (call_isH (p := p) List.mem_cons_self (D y hy).ec hz ⟨vs0, hd0⟩) (by rfl) (z_isinstance S) (by decide +kernel) (pa_cons (pv 0) (pa_cons (pe_gR (g_BadNumber S)) pa_nil))) (pa_cons (pe_callB (call_isH (p := p) List.mem_cons_self (D y hy).ec hz ⟨vs0, hd0⟩) (by rfl) (z_isinstance S) (by decide +kernel) (pa_cons (pv 0) (pa_cons (pe_gR (g_BadText S)) pa_nil))) pa_nil))))))
      (pss_cons (ps_set (i := 1) sc__law_word.nd rfl (by first | exact Or.inl rfl | exact Or.inr rfl) (pe_op op_cat (pv 1) (pe_lst (pa_cons (pe_callB (call_isH (p := p) List.mem_cons_self (D y hy).ec hz ⟨vs0, hd0⟩) (by rfl) (z_isinstance S) (by decide +kernel) (pa_cons (pv 0) (pa_cons (pe_gR (g_Nobody S)) pa_nil))) (pa_cons (pe_callB (call_isH (p := p) List.mem_cons_self (D y hy).ec hz ⟨vs0, hd0⟩) (by rfl) (z_isinstance S) (by decide +kernel) (pa_cons (pv 0) (pa_cons (pe_gR (g_TooLate S)) pa_nil))) pa_nil)))))
      (pss_cons (ps_if (PW.pt (pw_or (pt_cmp (pc_neI (pe_callB (cr_sumH ⟨p, hot, List.mem_cons_self⟩) (by rfl) (z_sum S) (by decide +kernel) (pa_cons (pe_intsH (i := 1) ⟨p, hot, List.mem_cons_self⟩ rfl (Or.inl rfl) (z_int S)) pa_nil)) pe_int)) (pw_or1 (pt_not (pt_val (pe_callB (call_isH (p := p) List.mem_cons_self (D y hy).ec hz ⟨vs0, hd0⟩) (by rfl) (z_isinstance S) (by decide +kernel) (pa_cons (pv 0) (pa_cons (pe_bltn (v := .ty "ValueError") (by rfl) (z_ValueError S) (by decide +kernel) rfl) pa_nil)))))))) (pss_one (ps_ret (pe_tup (pa_cons pe_str (pa_cons pe_str pa_nil))))) pss_nil)
      (pss_one (ps_ret (pe_tup (pa_cons pe_str (pa_cons (pe_ix ix_list (pe_lst (pa_cons pe_str (pa_cons pe_str (pa_cons pe_str (pa_cons pe_str (pa_cons pe_str (pa_cons pe_str pa_nil))))))) (pe_bm PySem.F.plainAttrs_list PySem.F.slot_list_index PySem.F.type_list_index mt_index (pv 1) (pa_cons pe_bl pa_nil)) (fun _ _ => rfl)) pa_nil)))))))), ?_⟩
  have is := (D y hy).is
  refine ⟨_, rfl, _, _, _, rfl, (fun u r => r), is "BadFraction" (by decide +kernel), _, rfl, _, _, _, rfl, (fun u r => r), is "BadName" (by decide +kernel), _, rfl, _, _, _, rfl, (fun u r => r), is "BadNumber" (by decide +kernel), _, rfl, _, _, _, rfl, (fun u r => r), is "BadText" (by decide +kernel), (by show 4 ≤ sizeLine; decide), fun l1 hl1 => ?_⟩
  refine ⟨_, rfl, _, rfl, _, _, _, rfl, (fun u r => r), is "Nobody" (by decide +kernel), _, rfl, _, _, _, rfl, (fun u r => r), is "TooLate" (by decide +kernel), (by show 2 ≤ sizeLine; decide), fun l2 hl2 => ?_⟩
  have n12 : l1 ≠ l2 := fun z => by
    rw [← z, upd_same] at hl2
    cases hl2
  refine ⟨l1, l2, _, _, rfl, rfl, (by rw [upd_ne n12]; exact upd_same), upd_same, (by show 6 ≤ sizeLine; decide), fun l3 hl3 => ?_⟩
  have s3 := ((same_new hl1).trans (same_new hl2)).trans (same_new (o := .lst ((ws.map fun z => decide (y = z)).map V.bl)) hl3)
  refine ⟨l3, ws.map fun z => decide (y = z), rfl, SqL.of upd_same, fun l4 hl4 => ?_⟩
  refine ⟨l4, ws.map fun z => (if decide (y = z) then (1 : Int) else 0), rfl, SqL.of upd_same, _, _, rfl, rfl, _, rfl, ?_⟩
  rw [word_sum y hy]
  refine iteF ⟨_, rfl, _, _, _, rfl, (fun u r => r), (D y hy).ve, _, rfl, iteF ?_⟩
  have s4 := s3.trans (same_new (o := .lst (ws.map fun z => V.int (if decide (y = z) then (1 : Int) else 0))) hl4)
  refine ⟨(by show 6 ≤ sizeLine; decide), fun l5 hl5 => ?_⟩
  have s5 := s4.trans (same_new (o := .lst (ws.map V.str)) hl5)
  have n34 : l3 ≠ l4 := ne_of_none upd_same hl4
  have h35 : upd (upd (upd (upd (upd H l1 (.lst [.bl (decide (y = "BadFraction")), .bl (decide (y = "BadName")), .bl (decide (y = "BadNumber")), .bl (decide (y = "BadText"))])) l2 (.lst [.bl (decide (y = "Nobody")), .bl (decide (y = "TooLate"))])) l3 (.lst ((ws.map fun z => decide (y = z)).map V.bl))) l4 (.lst (ws.map fun z => V.int (if decide (y = z) then (1 : Int) else 0)))) l5 (.lst (ws.map V.str)) l3 = some (.lst ((ws.map fun z => decide (y = z)).map V.bl)) := by
    have h3 : upd (upd (upd (upd H l1 (.lst [.bl (decide (y = "BadFraction")), .bl (decide (y = "BadName")), .bl (decide (y = "BadNumber")), .bl (decide (y = "BadText"))])) l2 (.lst [.bl (decide (y = "Nobody")), .bl (decide (y = "TooLate"))])) l3 (.lst ((ws.map fun z => decide (y = z)).map V.bl))) l4 (.lst (ws.map fun z => V.int (if decide (y = z) then (1 : Int) else 0))) l3 = some (.lst ((ws.map fun z => decide (y = z)).map V.bl)) := by
      rw [upd_ne n34]
      exact upd_same
    rw [upd_ne (ne_of_none h3 hl5)]
    exact h3
  refine ⟨_, rfl, .inl ⟨rfl, _, SqL.of h35⟩, conI (nilI (word_index hy h35 ?_))⟩
  refine ⟨l5, ws.map V.str, _, .str y, rfl, rfl, SqL.of upd_same, atI_nat ?_, (by show 2 ≤ sizeLine; decide), fun t ht => k t _ (s5.trans (same_new ht)) (SqT.of upd_same)⟩
  rw [List.getElem?_map, (word_pos y hy).1]
  rfl
end

/-! ### the law's own helpers -/
def bigP : Int := 340282366920938463463374607431768211507
def drawn (c k : Int) : Int :=
  let m := (c * 6364136223846793005 + (k + 1) * 1442695040888963407) % 340282366920938463463374607431768211507
  let n := m * m % 340282366920938463463374607431768211297
  ((n % 18446744073709551557 + 1) * (n / 18446744073709551557 + 1) * n) % 340282366920938463463374607431768211507
theorem drawn_nn (c k : Int) : 0 ≤ drawn c k := Int.emod_nonneg _ (by decide)
theorem drawn_lt (c k : Int) : drawn c k < 340282366920938463463374607431768211507 := Int.emod_lt_of_pos _ (by decide)
theorem div_lt128 {n : Int} (h0 : 0 ≤ n) (h : n < 2 ^ 128) : 0 ≤ n / 18446744073709551557 ∧ n / 18446744073709551557 < 2 ^ 65 := by omega
def spCell (K : PySem.W.Frag) : Sp := fun vs H Q _ => ∃ (a : Addr) (ns : List Int) (k : Int), vs = [.ref a, .int k] ∧ SqL K H a (ns.map V.int) ∧ ns.length ≤ 63 ∧ 0 ≤ k ∧ k < 1000 ∧ ∀ i H', Same H H' → Q (.int i) H'
def spDrawn : Sp := fun vs H Q _ => ∃ c k : Int, vs = [.int c, .int k] ∧ 0 ≤ k ∧ k < 1000 ∧ Q (.int (drawn c k)) H
def spLawSum (K : PySem.W.Frag) : Sp := fun vs H Q _ => ∃ u v a b, ∃ sg : Int, vs = [u, v, .int sg] ∧ FrA K H u a ∧ FrA K H v b ∧ Bq 4000 a ∧ Bq 4000 b ∧ ((sg = 1 ∧ Bq 4000 (a + b) ∧ RetQ K H Q (a + b)) ∨ (sg = -1 ∧ Bq 4000 (a - b) ∧ RetQ K H Q (a - b)))
def spNumber (K : PySem.W.Frag) : Sp := fun vs H Q _ => ∃ m : Int, vs = [.int m] ∧ 0 ≤ m ∧ m < 2 ^ 130 ∧ ∀ (i : Int) H', i.natAbs < 2 ^ 40 → Same H H' → Q (.int i) H'
theorem cdivW {i j : Int} (h : 0 < j) (h2 : j < 2 ^ 2000) : CDivW i j := wide_div (b := 2000) h (by omega) (by decide) (by decide)
theorem cmul_r {i j : Int} (h : j.natAbs < 2 ^ 64) : CMulZ i j := IntMulOk.of_right (bits_le h)
theorem cmul_l {i j : Int} (h : i.natAbs < 2 ^ 64) : CMulZ i j := IntMulOk.of_left (bits_le h)
theorem dp_ints {K : PySem.W.Frag} {H : Hp} : ∀ ns : List Int, DpAll K H (ns.map V.int) (ns.map PyData.int)
  | [] => .nil
  | n :: ns => .cons (.int n) (dp_ints ns)
theorem can_ints : ∀ ns : List Int, PyData.canLayAll0 (ns.map PyData.int) = true
  | [] => rfl
  | n :: ns => by
    show (true && PyData.canLayAll0 (ns.map PyData.int)) = true
    rw [can_ints ns] <;> rfl
theorem depth_ints : ∀ ns : List Int, PyData.depthAll (ns.map PyData.int) ≤ 1
  | [] => by simp [PyData.depthAll]
  | n :: ns => by
    have := depth_ints ns
    simp only [List.map_cons, PyData.depthAll, PyData.depth]
    omega
theorem shaped_ints (ns : List Int) : SeqAt.shaped (.list (ns.map PyData.int)) = true := by
  have h1 : (PyData.list (ns.map PyData.int)).canLay0 = true := can_ints ns
  have h2 : (PyData.list (ns.map PyData.int)).depth ≤ 64 := by
    have := depth_ints ns
    simp only [PyData.depth]
    omega
  unfold SeqAt.shaped
  rw [h1, decide_eq_true h2] <;> rfl
theorem eqv_ints_nil (ns : List Int) : PyData.eqv (.list (ns.map PyData.int)) (.list []) = ns.isEmpty := by
  cases ns with
  | nil => rfl
  | cons n ns => rfl
theorem nb1 (x : Int) : (x % 340282366920938463463374607431768211507).natAbs < 2 ^ 130 := by omega
theorem nb2 (x : Int) : (x % 340282366920938463463374607431768211297).natAbs < 2 ^ 140 := by omega
theorem nb3 (x : Int) : (x % 18446744073709551557 + 1).natAbs < 2 ^ 70 := by omega
theorem nb4 (x : Int) : (x % 340282366920938463463374607431768211297 / 18446744073709551557 + 1).natAbs < 2 ^ 70 := by omega
/-- gcd by the law's own loop -/
theorem gcd_emod (a b : Int) : Int.gcd b (a % b) = Int.gcd a b := by
  have h : a % b = a + b * (-(a / b)) := by
    have := Int.mul_ediv_add_emod a b
    grind
  rw [h, Int.gcd_add_mul_left_right, Int.gcd_comm]
theorem abs_eq (x : Int) : (if x < 0 then -x else x) = (x.natAbs : Int) := by split <;> omega
def sgn (b : Int) : Int := if 0 < b then 1 else -1
theorem lby_sgn (a : Int) {b : Int} (h : b ≠ 0) : sgn b * lby a b = (Int.gcd a b : Int) := by
  unfold sgn lby
  split <;> split <;> omega
theorem sgn_num (a : Int) {b : Int} (h : b ≠ 0) : sgn b * a = (Int.gcd a b : Int) * (Rat.divInt a b).num := by
  rw [← lby_sgn a h, Int.mul_assoc, ← lby_num a h]
theorem sgn_den (a : Int) {b : Int} (h : b ≠ 0) : sgn b * b = (Int.gcd a b : Int) * ((Rat.divInt a b).den : Int) := by
  rw [← lby_sgn a h, Int.mul_assoc, ← lby_den a h]
theorem sgn_b (b : Int) : (sgn b).natAbs < 2 ^ 64 := by
  unfold sgn
  split <;> decide
section
variable {P : Program} {w : World} {K : PySem.W.Frag} {mg : Str → Option Value} {base : Heap} (S : Sa K mg base)
include S
theorem ok__law_cell : Pm P w K mg base CX0 1 "_law_cell" ["script", "k"] (spCell K) := by
  obtain ⟨fd, F⟩ := f__law_cell S
  refine ⟨fd, F.ok sc__law_cell (fun vs H Q E h => ?_) (fun cdv A outer s H vs Q E hr h => ?_), F.bindsN fun _ _ _ _ _ _ us hl => match us, hl with | [_, _], _ => rfl, F.kp⟩
  · obtain ⟨a, ns, k, rfl, hs, hl, h0, h1, kQ⟩ := h
    rfl
  · obtain ⟨a, ns, k, rfl, hs, hl, h0, h1, kQ⟩ := h
    refine ⟨_, PSs.nox <| (pss_cons (ps_if (pt_cmpR (op_eqD hr.units) (pv 0) (pe_lst pa_nil) (nomark _)) (pss_one (ps_ret (pe_op op_mulZ (pv 1) pe_int))) pss_nil)
      (pss_one (ps_ret (pe_op op_add (pe_ix ix_list (pv 0) (pe_op op_mod (pv 1) (pe_callB call_len_seq (by rfl) (z_len S) (by decide +kernel) (pa_cons (pv 0) pa_nil))) (fun _ _ => rfl)) (pe_op op_mulZ (pe_op op_fdivZ (pv 1) (pe_callB call_len_seq (by rfl) (z_len S) (by decide +kernel) (pa_cons (pv 0) pa_nil))) pe_int))))), ?_⟩
    refine ⟨_, rfl, (by show 0 ≤ sizeLine; decide), fun p hp => ?_⟩
    have sm : Same H (upd H p (.lst [])) := same_new hp
    refine ⟨.list (ns.map PyData.int), .list [], .lst (sm.seq hs) (dp_ints ns), .lst (SqL.of upd_same) .nil, shaped_ints ns, rfl, _, rfl, ?_⟩
    rw [eqv_ints_nil]
    refine ifb (fun hb => ?_) (fun hb => ?_)
    · exact ⟨_, rfl, _, _, rfl, rfl, cmul_r (by decide), kQ _ _ sm⟩
    · have hn : 0 < ns.length := by
        cases ns with
        | nil => cases hb
        | cons n ns => exact Nat.succ_pos _
      have el : ((ns.map V.int).length : Int) = (ns.length : Int) := by rw [List.length_map]
      have hm0 := Int.emod_nonneg k (b := (ns.length : Int)) (by omega)
      have hm1 := Int.emod_lt_of_pos k (b := (ns.length : Int)) (by omega)
      obtain ⟨m, hm⟩ := Int.eq_ofNat_of_zero_le hm0
      have hix : m < ns.length := by omega
      refine ⟨_, rfl, _, rfl, _, rfl, _, _, rfl, .inl (sm.seq hs), _, _, rfl, rfl, (by rw [el]; omega), ?_⟩
      refine ⟨a, ns.map V.int, _, .int (ns[m]), rfl, rfl, sm.seq hs, ?_, ?_⟩
      · show atI (ns.map V.int) (k % ((ns.map V.int).length : Int)) = some (V.int ns[m])
        rw [el, hm]
        refine atI_nat ?_
        rw [List.getElem?_map, List.getElem?_eq_getElem hix]
        rfl
      · refine ⟨_, rfl, _, rfl, _, _, rfl, .inl (sm.seq hs), _, _, rfl, rfl, divZ_small (by rw [el]; omega) (Nat.lt_of_lt_of_le (by rw [el]; omega : _ < 2 ^ 10) (Nat.pow_le_pow_right (by decide) (by decide))), ?_⟩
        exact ⟨_, _, rfl, rfl, cmul_r (by decide), _, _, rfl, rfl, kQ _ _ sm⟩
theorem ok__law_drawn : Pm P w K mg base CX0 1 "_law_drawn" ["cell", "k"] spDrawn := by
  obtain ⟨fd, F⟩ := f__law_drawn S
  refine ⟨fd, F.ok sc__law_drawn (fun vs H Q E h => ?_) (fun cdv A outer s H vs Q E hr h => ?_), F.bindsN fun _ _ _ _ _ _ us hl => match us, hl with | [_, _], _ => rfl, F.kp⟩
  · obtain ⟨c, k, rfl, h0, h1, kQ⟩ := h
    rfl
  · obtain ⟨c, k, rfl, h0, h1, kQ⟩ := h
    refine ⟨_, PSs.nox <| (pss_cons (ps_set (i := 2) sc__law_drawn.nd rfl (by first | exact Or.inl rfl | exact Or.inr rfl) (pe_op op_mod (pe_op op_add (pe_op op_mulZ (pv 0) pe_int) (pe_op op_mulZ (pe_op op_add (pv 1) pe_int) pe_int)) pe_int))
      (pss_cons (ps_set (i := 2) sc__law_drawn.nd rfl (by first | exact Or.inl rfl | exact Or.inr rfl) (pe_op op_mod (pe_op op_mulZ (pv 2) (pv 2)) pe_int))
      (pss_cons (ps_set (i := 2) sc__law_drawn.nd rfl (by first | exact Or.inl rfl | exact Or.inr rfl) (pe_op op_mulZ (pe_op op_mulZ (pe_op op_add (pe_op op_mod (pv 2) pe_int) pe_int) (pe_op op_add (pe_op op_fdivW (pv 2) pe_int) pe_int)) (pv 2)))
      (pss_one (ps_ret (pe_op op_mod (pv 2) pe_int)))))), ?_⟩
    refine ⟨_, rfl, _, _, rfl, rfl, cmul_r (by decide), _, rfl, _, _, rfl, rfl, _, _, rfl, rfl, cmul_r (by decide), _, _, rfl, rfl, _, _, rfl, rfl, (by show (0 : Int) < 340282366920938463463374607431768211507; decide), ?_⟩
    refine ⟨_, rfl, _, rfl, _, _, rfl, rfl, mulZ (a := 130) (b := 130) (nb1 _) (nb1 _) (by decide), _, _, rfl, rfl, (by show (0 : Int) < 340282366920938463463374607431768211297; decide), ?_⟩
    refine ⟨_, rfl, _, _, rfl, rfl, (by show (0 : Int) < 18446744073709551557; decide), _, _, rfl, rfl, _, rfl, _, _, rfl, rfl, cdivW (by decide) (by decide +kernel), _, _, rfl, rfl, _, _, rfl, rfl, mulZ (a := 70) (b := 70) (nb3 _) (nb4 _) (by decide), ?_⟩
    refine ⟨_, rfl, _, _, rfl, rfl, mulZ (a := 140) (b := 140) (wide_lt (a := 70) (b := 70) (nb3 _) (nb4 _)) (nb2 _) (by decide), ?_⟩
    exact ⟨_, rfl, _, _, rfl, rfl, (by show (0 : Int) < 340282366920938463463374607431768211507; decide), kQ⟩
end

/-! ### how the defs are used -/
section
variable {K : PySem.W.Frag} {H : Hp} {Q : VK} {E : XK} {u v : V} {a b : Rat}
theorem use_L2 {f : Rat → Rat → Rat} (h1 : FrA K H u a) (h2 : FrA K H v b) (ba : Bq 4000 a) (bb : Bq 4000 b) (bc : Bq 4000 (f a b)) (k : RetQ K H Q (f a b)) : spL2 K f [u, v] H Q E :=
  ⟨u, v, true, true, rfl, frb_of h1, frb_of h2, fun _ => ⟨a, b, h1, h2, ba, bb, bc, k⟩, fun z => by cases z⟩
theorem use_by (h1 : FrA K H u a) (h2 : FrA K H v b) (ba : Bq 4000 a) (bb : Bq 4000 b) (h0 : b ≠ 0) (bc : Bq 4000 (a / b)) (k : RetQ K H Q (a / b)) : spBy K [u, v] H Q E :=
  ⟨u, v, true, true, rfl, frb_of h1, frb_of h2, fun _ => ⟨a, b, h1, h2, ba, bb, fun _ => ⟨bc, k⟩, fun z => absurd z h0⟩, fun z => by cases z⟩
theorem use_before (h1 : FrA K H u a) (h2 : FrA K H v b) (ba : Bq 4000 a) (bb : Bq 4000 b) (k : Q (.bl (decide (a < b))) H) : spBefore K [u, v] H Q E :=
  ⟨u, v, true, true, rfl, frb_of h1, frb_of h2, fun _ => ⟨a, b, h1, h2, ba, bb, k⟩, fun z => by cases z⟩
theorem use_whole (h1 : FrA K H u a) (ba : Bq 4000 a) (k : Q (.int a.floor) H) : spWhole K [u] H Q E :=
  ⟨u, true, rfl, frb_of h1, fun _ => ⟨a, h1, ba, k⟩, fun z => by cases z⟩
theorem use_need (h1 : FrA K H u a) (k : Q .non H) : spNeedFraction K [u] H Q E :=
  ⟨u, true, rfl, frb_of h1, fun _ => k, fun z => by cases z⟩
theorem use_fraction {x y : Int} (h0 : y ≠ 0) (bc : Bq 4000 (Rat.divInt x y)) (k : RetQ K H Q (Rat.divInt x y)) : spFraction K [.int x, .int y] H Q E :=
  ⟨_, _, "int", "int", rfl, .base (.int _), .int, .base (.int _), .int, .inl ⟨x, y, rfl, rfl, rfl, rfl, h0, bc, k⟩⟩
end
theorem rng_ok (n m : Int) (h : n ≤ 1000) : (-(2 ^ 62) : Int) ≤ (if (if m < n then m else n) > 1 then (if m < n then m else n) else 1) ∧ (if (if m < n then m else n) > 1 then (if m < n then m else n) else 1) < (2 ^ 62 : Int) ∧ (if (if m < n then m else n) > 1 then (if m < n then m else n) else 1) ≤ (if n < 1 then 1 else n) := by
  split <;> split <;> omega

/-! ### the law -/
theorem FnOk.imp {P : Program} {w : World} {K : PySem.W.Frag} {mg : Str → Option Value} {base : Heap} {C : CXT} {k k' : Nat} {f : Addr} {fd : FuncData} {ps : List Str} {sp sp' : Sp} (F : FnOk P w K mg base C k f fd ps sp) (hk : k ≤ k') (h : ∀ vs H Q E, sp' vs H Q E → sp vs H Q E) : FnOk P w K mg base C k' f fd ps sp' :=
  ⟨fun vs H Q E q => F.len _ _ _ _ (h _ _ _ _ q), fun A outer s H args us vs Q E hr e0 b r q => F.run A outer s H args us vs Q E (hr.mono hk) e0 b r (h _ _ _ _ q)⟩
/-- of two things one is no fraction -/
def spRef2 (K : PySem.W.Frag) : Sp := fun vs H Q E => ∃ u v r s, vs = [u, v] ∧ FrB K H u r ∧ FrB K H v s ∧ (r && s) = false ∧ E (.ref (He.ga K "BadFraction")) none H
def deedNames : List Str := ["plus", "less", "times", "by", "before"]
def DeedG (K : PySem.W.Frag) (f : Addr) (sp : Sp) : Prop := sp = spRef2 K ∧ ∃ x, x ∈ deedNames ∧ f = He.ga K x
def Rf (K : PySem.W.Frag) (H : Hp) (y : V) : Prop := ∃ t, y = .ref t ∧ SqT K H t [.str "refused", .str "BadFraction"]
def refsT (K : PySem.W.Frag) (S : Addr) (ys : List V) (n : Nat) : Thing :=
  ⟨[S], fun H => H S = some (.lst ys) ∧ ys.length = n ∧ ∀ y ∈ ys, Rf K H y, fun h e t => ⟨(e S List.mem_cons_self).trans h.1, h.2.1, fun y hy => by
    obtain ⟨p, h1, h2⟩ := h.2.2 y hy
    exact ⟨p, h1, t.sqT h2⟩⟩, fun h a ha => by rw [List.mem_singleton.mp ha]; exact .inr (.inl ⟨_, h.1⟩)⟩
def refD : PyData := .tuple [.str "refused", .str "BadFraction"]
theorem dp_refs {K : PySem.W.Frag} {H : Hp} : ∀ {ys : List V}, (∀ y ∈ ys, Rf K H y) → DpAll K H ys (List.replicate ys.length refD)
  | [], _ => .nil
  | y :: ys, h => by
    obtain ⟨t, rfl, sq⟩ := h y List.mem_cons_self
    exact .cons (.tup sq (.cons (.str _) (.cons (.str _) .nil))) (dp_refs fun z hz => h z (List.mem_cons_of_mem _ hz))
theorem Sep.app {K : PySem.W.Frag} {H0 H H' : Hp} {S t : Addr} {ys : List V} {n : Nat} {ts : List Thing} (s : Sep (TT K) H0 H (refsT K S ys n :: ts)) (sm : Same H H') (sq : SqT K H' t [.str "refused", .str "BadFraction"]) :
    H' S = some (.lst ys) ∧ Sep (TT K) H0 (L2.upd H' S (.lst (ys ++ [.ref t]))) (refsT K S (ys ++ [.ref t]) (n + 1) :: ts) := by
  have s1 := s.same sm
  obtain ⟨h1, h2, h3⟩ := (s1.ok (refsT K S ys n) (by simp) : H' S = some (.lst ys) ∧ ys.length = n ∧ ∀ y ∈ ys, Rf K H' y)
  have w : Wr H' S := .inr (.inl ⟨_, h1⟩)
  have tk : Tk H' (L2.upd H' S (.lst (ys ++ [.ref t]))) := w.tk
  refine ⟨h1, s1.upd (l1 := []) (l2 := ts) (x := refsT K S ys n) (x' := refsT K S (ys ++ [.ref t]) (n + 1)) (Ux.wr w List.mem_cons_self) (w.tabs s1.t) (fun a ha => .inl ha) ⟨upd_same, by rw [List.length_append, h2]; rfl, fun y hy => ?_⟩⟩
  rcases List.mem_append.mp hy with hy | hy
  · obtain ⟨p, e1, e2⟩ := h3 y hy
    exact ⟨p, e1, tk.sqT e2⟩
  · exact ⟨t, List.mem_singleton.mp hy, tk.sqT sq⟩
theorem bad4 {K : PySem.W.Frag} {H : Hp} {p : Addr} (h : SqT K H p [.int 1, .int 2]) {k : Int} (h0 : 0 ≤ k) (h1 : k < 4) : ∃ v n, atI [.non, .bl true, .str "1", .ref p] k = some v ∧ TyX K H v (.type n) ∧ Kn n ∧ n ≠ "int" := by
  have : k = 0 ∨ k = 1 ∨ k = 2 ∨ k = 3 := by omega
  rcases this with rfl | rfl | rfl | rfl
  · exact ⟨_, "NoneType", rfl, .base .non, .none, by decide⟩
  · exact ⟨_, "bool", rfl, .base (.bl _), .bool, by decide⟩
  · exact ⟨_, "str", rfl, .base (.str _), .str, by decide⟩
  · exact ⟨_, "tuple", rfl, tyx_tup h, .tuple, by decide⟩
def spLaw (K : PySem.W.Frag) : Sp := fun vs H Q _ => ∃ (a : Addr) (ns : List Int), vs = [.ref a] ∧ SqL K H a (ns.map V.int) ∧ ns.length ≤ 63 ∧ LamX.Tabs (TT K) H ∧ ∀ H', Q (.bl true) H'
section
variable {P : Program} {w : World} {K : PySem.W.Frag} {mg : Str → Option Value} {base : Heap} (S : Sa K mg base)
include S
theorem deeds_ok : ∀ f sp, DeedG K f sp → ∃ (fd : FuncData) (ps : List Str), FnOk P w K mg base (L2N.CX P w) 5 f fd ps sp ∧ PySem.W.keepIn K (.ref f) = true ∧ Binds K fd ps [] := by
  rintro f sp ⟨rfl, x, hx, rfl⟩
  have two : ∀ {g : Rat → Rat → Rat} vs H Q E, spRef2 K vs H Q E → spL2 K g vs H Q E := fun {g} vs H Q E ⟨u, v, r, s, e, f1, f2, hrs, k⟩ => ⟨u, v, r, s, e, f1, f2, fun z => (by rw [hrs] at z; cases z), fun _ => k⟩
  simp only [deedNames, List.mem_cons, List.not_mem_nil, or_false] at hx
  rcases hx with rfl | rfl | rfl | rfl | rfl
  · obtain ⟨fd, G, b, kp⟩ := ok_plus (P := P) (w := w) S
    exact ⟨fd, _, FnOk.imp G (by decide) two, kp, b⟩
  · obtain ⟨fd, G, b, kp⟩ := ok_less (P := P) (w := w) S
    exact ⟨fd, _, FnOk.imp G (by decide) two, kp, b⟩
  · obtain ⟨fd, G, b, kp⟩ := ok_times (P := P) (w := w) S
    exact ⟨fd, _, FnOk.imp G (by decide) two, kp, b⟩
  · obtain ⟨fd, G, b, kp⟩ := ok_by (P := P) (w := w) S
    exact ⟨fd, _, FnOk.imp G (by decide) (fun vs H Q E ⟨u, v, r, s, e, f1, f2, hrs, k⟩ => ⟨u, v, r, s, e, f1, f2, fun z => (by rw [hrs] at z; cases z), fun _ => k⟩), kp, b⟩
  · obtain ⟨fd, G, b, kp⟩ := ok_before (P := P) (w := w) S
    exact ⟨fd, _, FnOk.imp G (by decide) (fun vs H Q E ⟨u, v, r, s, e, f1, f2, hrs, k⟩ => ⟨u, v, r, s, e, f1, f2, fun z => (by rw [hrs] at z; cases z), fun _ => k⟩), kp, b⟩
theorem ok_law {fd : FuncData} (F : FunD K "law" "law" (defArgs s_law) (defBody s_law) (defScope s_law) [] [] (He.ga K "law") fd) : FnOk P w K mg base (L2N.CX P w) 8 (He.ga K "law") fd ["script"] (spLaw K) := by
  obtain ⟨fd__law_drawn, G__law_drawn, b__law_drawn, kp__law_drawn⟩ := ok__law_drawn (P := P) (w := w) S
  obtain ⟨fd__law_cell, G__law_cell, b__law_cell, kp__law_cell⟩ := ok__law_cell (P := P) (w := w) S
  obtain ⟨fd_need_fraction, G_need_fraction, b_need_fraction, kp_need_fraction⟩ := ok_need_fraction (P := P) (w := w) S
  obtain ⟨fd_plus, G_plus, b_plus, kp_plus⟩ := ok_plus (P := P) (w := w) S
  obtain ⟨fd_less, G_less, b_less, kp_less⟩ := ok_less (P := P) (w := w) S
  obtain ⟨fd_times, G_times, b_times, kp_times⟩ := ok_times (P := P) (w := w) S
  obtain ⟨fd_by, G_by, b_by, kp_by⟩ := ok_by (P := P) (w := w) S
  obtain ⟨fd_before, G_before, b_before, kp_before⟩ := ok_before (P := P) (w := w) S
  obtain ⟨fd_whole, G_whole, b_whole, kp_whole⟩ := ok_whole (P := P) (w := w) S
  obtain ⟨fd_fraction, G_fraction, b_fraction, kp_fraction⟩ := ok_fraction (P := P) (w := w) S
  obtain ⟨fd_told, F_told⟩ := f__law_told S
  obtain ⟨fd_word, W_word, b_word, kp_word⟩ := word_ok (P := P) (w := w) S
  have b_told : Binds K fd_told ["deed"] [] := F_told.bindsN fun _ _ _ _ _ _ us hl => match us, hl with | [_], _ => rfl
  refine okC F ("law", none) rfl sc_law (fun vs H Q E h => ?_) (fun A outer s H vs Q E hr h => ?_)
  · obtain ⟨a, ns, rfl, hs, hl, tb, kQ⟩ := h
    rfl
  · obtain ⟨a, ns, rfl, hs, hl, tb, kQ⟩ := h
    have px : Passes (L2N.CX P w) (cxOf (L2N.CX P w) P w K mg base N_law "law" (defScope s_law) (He.ga K "law") (.ref (He.codeOf K ("law", none))) A outer s H E) E := L2N.passes_call (L2N.takes_of rfl rfl rfl rfl) fun _ _ _ _ z => z
    have hr__law_drawn : Room 1 _ := hr.mono (by decide)
    have hr__law_cell : Room 1 _ := hr.mono (by decide)
    have hr_need_fraction : Room 3 _ := hr.mono (by decide)
    have hr_plus : Room 5 _ := hr.mono (by decide)
    have hr_less : Room 5 _ := hr.mono (by decide)
    have hr_times : Room 5 _ := hr.mono (by decide)
    have hr_by : Room 5 _ := hr.mono (by decide)
    have hr_before : Room 5 _ := hr.mono (by decide)
    have hr_whole : Room 4 _ := hr.mono (by decide)
    have hr_fraction : Room 3 _ := hr.mono (by decide)
    refine ⟨_, (pss_cons (ps_set (i := 1) sc_law.nd rfl (by first | exact Or.inl rfl | exact Or.inr rfl) (pe_lst (pa_cons pe_non (pa_cons pe_int (pa_cons (pe_tup (pa_cons pe_int pa_nil)) (pa_cons (pe_tup (pa_cons pe_int (pa_cons pe_int (pa_cons pe_int pa_nil)))) (pa_cons (pe_lst (pa_cons pe_int (pa_cons pe_int pa_nil))) (pa_cons (pe_tup (pa_cons pe_int (pa_cons pe_int pa_nil))) (pa_cons (pe_tup (pa_cons pe_int (pa_cons pe_int pa_nil))) (pa_cons (pe_tup (pa_cons pe_int (pa_cons pe_int pa_nil))) (pa_cons (pe_tup (pa_cons pe_int (pa_cons (pe_un un_neg pe_int) pa_nil))) (pa_cons (pe_tup (pa_cons (pe_un un_neg pe_int) (pa_cons pe_int pa_nil))) (pa_cons (pe_tup (pa_cons pe_int (pa_cons pe_bl pa_nil))) (pa_cons (pe_tup (pa_cons pe_bl (pa_cons pe_int pa_nil))) pa_nil))))))))))))))
      (pss_cons (ps_set (i := 1) sc_law.nd rfl (by first | exact Or.inl rfl | exact Or.inr rfl) (pe_op op_cat (pv 1) (pe_lst (pa_cons (pe_tup (pa_cons pe_non (pa_cons pe_int pa_nil))) (pa_cons (pe_tup (pa_cons pe_str (pa_cons pe_int pa_nil))) pa_nil)))))
      (pss_cons (ps_for (passes_of rfl) rfl (pi_range1 (by rfl) (z_range S) (pa_cons (pe_callB (call_max2 rfl) (by rfl) (z_max S) (by decide +kernel) (pa_cons pe_int (pa_cons (pe_callB (call_min2 rfl) (by rfl) (z_min S) (by decide +kernel) (pa_cons pe_int (pa_cons (pe_callB call_len_seq (by rfl) (z_len S) (by decide +kernel) (pa_cons (pv 0) pa_nil)) pa_nil))) pa_nil))) pa_nil)) (pg_name (i := 2) sc_law.nd rfl (by first | exact Or.inl rfl | exact Or.inr rfl)) (pss_cons (ps_set (i := 3) sc_law.nd rfl (by first | exact Or.inl rfl | exact Or.inr rfl) (pe_call G__law_drawn hr__law_drawn rfl (g__law_drawn S) kp__law_drawn b__law_drawn .nil pass0 (pa_cons (pe_call G__law_cell hr__law_cell rfl (g__law_cell S) kp__law_cell b__law_cell .nil pass0 (pa_cons (pv 0) (pa_cons (pv 2) pa_nil))) (pa_cons (pv 2) pa_nil))))
      (pss_one (ps_for (passes_of rfl) rfl (pi_range1 (by rfl) (z_range S) (pa_cons pe_int pa_nil)) (pg_name (i := 4) sc_law.nd rfl (by first | exact Or.inl rfl | exact Or.inr rfl)) (pss_cons (ps_asg (pe_tup (pa_cons (pe_ix ix_list (pv 1) (pe_op op_mod (pe_call G__law_drawn hr__law_drawn rfl (g__law_drawn S) kp__law_drawn b__law_drawn .nil pass0 (pa_cons (pv 3) (pa_cons (pv 4) pa_nil))) (pe_callB call_len_seq (by rfl) (z_len S) (by decide +kernel) (pa_cons (pv 1) pa_nil))) (fun _ _ => rfl)) (pa_cons (pe_tup (pa_cons (pe_op op_mod (pv 3) pe_int) (pa_cons pe_int pa_nil))) pa_nil))) (pg_tup rfl (pgs_cons (pg_name (i := 5) sc_law.nd rfl (by first | exact Or.inl rfl | exact Or.inr rfl)) (pgs_cons (pg_name (i := 6) sc_law.nd rfl (by first | exact Or.inl rfl | exact Or.inr rfl)) pgs_nil))))
      (pss_cons (ps_set (i := 7) sc_law.nd rfl (by first | exact Or.inl rfl | exact Or.inr rfl) (pe_lst (pa_cons (pe_told (k := 3) F_told rfl sc__law_told b_told rfl rfl rfl (Or.inl rfl) W_word (by decide) (g__law_word S) kp_word b_word (g_TurnError S) (words_ok S) rfl (g__law_told S) (S.tb ("law", none) (by decide +kernel)) rfl (TT_mem (by decide +kernel)) (TT_one S (by decide +kernel)) (hr.mono (by decide)) (LamX.lamS_by (sc := defScope s_law) (by decide +kernel)) rfl (fun _ _ _ _ _ => rfl) (fun _ _ _ _ _ _ _ hr2 => (pe_call G_need_fraction (hr2.mono (by decide)) rfl (g_need_fraction S) kp_need_fraction b_need_fraction .nil (L2N.passes_call (L2N.takes_of rfl rfl rfl rfl) fun _ _ _ _ z => z) (pa_cons (pv 5) pa_nil)))) pa_nil)))
      (pss_cons (ps_for (passes_of rfl) rfl (pi_list (pe_lst (pa_cons (pe_gR (g_plus S)) (pa_cons (pe_gR (g_less S)) (pa_cons (pe_gR (g_times S)) (pa_cons (pe_gR (g_by S)) (pa_cons (pe_gR (g_before S)) pa_nil))))))) (pg_name (i := 8) sc_law.nd rfl (by first | exact Or.inl rfl | exact Or.inr rfl)) (pss_cons (ps_expr (pe_bm PySem.F.plainAttrs_list PySem.F.slot_list_append PySem.F.type_list_append mt_append (pv 7) (pa_cons (pe_told (k := 5) F_told rfl sc__law_told b_told rfl rfl rfl (Or.inl rfl) W_word (by decide) (g__law_word S) kp_word b_word (g_TurnError S) (words_ok S) rfl (g__law_told S) (S.tb ("law", none) (by decide +kernel)) rfl (TT_mem (by decide +kernel)) (TT_one S (by decide +kernel)) (hr.mono (by decide)) (LamX.lamS_by (sc := defScope s_law) (by decide +kernel)) rfl (fun _ _ _ _ _ => rfl) (fun _ _ _ _ _ _ _ hr2 => (pe_callX (i := 8) (G := (DeedG K)) (deeds_ok (P := P) (w := w) S) (hr2.mono (by decide)) rfl (by first | exact Or.inl rfl | exact Or.inr (Or.inl rfl) | exact Or.inr (Or.inr rfl)) (L2N.passes_call (L2N.takes_of rfl rfl rfl rfl) fun _ _ _ _ z => z) (pa_cons (pv 5) (pa_cons (pv 6) pa_nil))))) pa_nil)))
      (pss_one (ps_expr (pe_bm PySem.F.plainAttrs_list PySem.F.slot_list_append PySem.F.type_list_append mt_append (pv 7) (pa_cons (pe_told (k := 5) F_told rfl sc__law_told b_told rfl rfl rfl (Or.inl rfl) W_word (by decide) (g__law_word S) kp_word b_word (g_TurnError S) (words_ok S) rfl (g__law_told S) (S.tb ("law", none) (by decide +kernel)) rfl (TT_mem (by decide +kernel)) (TT_one S (by decide +kernel)) (hr.mono (by decide)) (LamX.lamS_by (sc := defScope s_law) (by decide +kernel)) rfl (fun _ _ _ _ _ => rfl) (fun _ _ _ _ _ _ _ hr2 => (pe_callX (i := 8) (G := (DeedG K)) (deeds_ok (P := P) (w := w) S) (hr2.mono (by decide)) rfl (by first | exact Or.inl rfl | exact Or.inr (Or.inl rfl) | exact Or.inr (Or.inr rfl)) (L2N.passes_call (L2N.takes_of rfl rfl rfl rfl) fun _ _ _ _ z => z) (pa_cons (pv 6) (pa_cons (pv 5) pa_nil))))) pa_nil))))))
      (pss_cons (ps_expr (pe_bm PySem.F.plainAttrs_list PySem.F.slot_list_append PySem.F.type_list_append mt_append (pv 7) (pa_cons (pe_told (k := 4) F_told rfl sc__law_told b_told rfl rfl rfl (Or.inl rfl) W_word (by decide) (g__law_word S) kp_word b_word (g_TurnError S) (words_ok S) rfl (g__law_told S) (S.tb ("law", none) (by decide +kernel)) rfl (TT_mem (by decide +kernel)) (TT_one S (by decide +kernel)) (hr.mono (by decide)) (LamX.lamS_by (sc := defScope s_law) (by decide +kernel)) rfl (fun _ _ _ _ _ => rfl) (fun _ _ _ _ _ _ _ hr2 => (pe_call G_whole (hr2.mono (by decide)) rfl (g_whole S) kp_whole b_whole .nil (L2N.passes_call (L2N.takes_of rfl rfl rfl rfl) fun _ _ _ _ z => z) (pa_cons (pv 5) pa_nil)))) pa_nil)))
      (pss_cons (ps_expr (pe_bm PySem.F.plainAttrs_list PySem.F.slot_list_append PySem.F.type_list_append mt_append (pv 7) (pa_cons (pe_told (k := 5) F_told rfl sc__law_told b_told rfl rfl rfl (Or.inl rfl) W_word (by decide) (g__law_word S) kp_word b_word (g_TurnError S) (words_ok S) rfl (g__law_told S) (S.tb ("law", none) (by decide +kernel)) rfl (TT_mem (by decide +kernel)) (TT_one S (by decide +kernel)) (hr.mono (by decide)) (LamX.lamS_by (sc := defScope s_law) (by decide +kernel)) rfl (fun _ _ _ _ _ => rfl) (fun _ _ _ _ _ _ _ hr2 => (pe_call G_by (hr2.mono (by decide)) rfl (g_by S) kp_by b_by .nil (L2N.passes_call (L2N.takes_of rfl rfl rfl rfl) fun _ _ _ _ z => z) (pa_cons (pv 6) (pa_cons (pe_tup (pa_cons pe_int (pa_cons pe_int pa_nil))) pa_nil))))) pa_nil)))
      (pss_cons (ps_expr (pe_bm PySem.F.plainAttrs_list PySem.F.slot_list_append PySem.F.type_list_append mt_append (pv 7) (pa_cons (pe_told (k := 3) F_told rfl sc__law_told b_told rfl rfl rfl (Or.inl rfl) W_word (by decide) (g__law_word S) kp_word b_word (g_TurnError S) (words_ok S) rfl (g__law_told S) (S.tb ("law", none) (by decide +kernel)) rfl (TT_mem (by decide +kernel)) (TT_one S (by decide +kernel)) (hr.mono (by decide)) (LamX.lamS_by (sc := defScope s_law) (by decide +kernel)) rfl (fun _ _ _ _ _ => rfl) (fun _ _ _ _ _ _ _ hr2 => (pe_call G_fraction (hr2.mono (by decide)) rfl (g_fraction S) kp_fraction b_fraction .nil (L2N.passes_call (L2N.takes_of rfl rfl rfl rfl) fun _ _ _ _ z => z) (pa_cons (pe_op op_mod (pv 3) pe_int) (pa_cons pe_int pa_nil))))) pa_nil)))
      (pss_cons (ps_expr (pe_bm PySem.F.plainAttrs_list PySem.F.slot_list_append PySem.F.type_list_append mt_append (pv 7) (pa_cons (pe_told (k := 3) F_told rfl sc__law_told b_told rfl rfl rfl (Or.inl rfl) W_word (by decide) (g__law_word S) kp_word b_word (g_TurnError S) (words_ok S) rfl (g__law_told S) (S.tb ("law", none) (by decide +kernel)) rfl (TT_mem (by decide +kernel)) (TT_one S (by decide +kernel)) (hr.mono (by decide)) (LamX.lamS_by (sc := defScope s_law) (by decide +kernel)) rfl (fun _ _ _ _ _ => rfl) (fun _ _ _ _ _ _ _ hr2 => (pe_call G_fraction (hr2.mono (by decide)) rfl (g_fraction S) kp_fraction b_fraction .nil (L2N.passes_call (L2N.takes_of rfl rfl rfl rfl) fun _ _ _ _ z => z) (pa_cons (pe_ix (ixLK K rfl) (pe_lst (pa_cons pe_non (pa_cons pe_bl (pa_cons pe_str (pa_cons (pe_tup (pa_cons pe_int (pa_cons pe_int pa_nil))) pa_nil))))) (pe_op op_mod (pv 4) pe_int) (fun _ _ => rfl)) (pa_cons pe_int pa_nil))))) pa_nil)))
      (pss_cons (ps_expr (pe_bm PySem.F.plainAttrs_list PySem.F.slot_list_append PySem.F.type_list_append mt_append (pv 7) (pa_cons (pe_told (k := 3) F_told rfl sc__law_told b_told rfl rfl rfl (Or.inl rfl) W_word (by decide) (g__law_word S) kp_word b_word (g_TurnError S) (words_ok S) rfl (g__law_told S) (S.tb ("law", none) (by decide +kernel)) rfl (TT_mem (by decide +kernel)) (TT_one S (by decide +kernel)) (hr.mono (by decide)) (LamX.lamS_by (sc := defScope s_law) (by decide +kernel)) rfl (fun _ _ _ _ _ => rfl) (fun _ _ _ _ _ _ _ hr2 => (pe_call G_fraction (hr2.mono (by decide)) rfl (g_fraction S) kp_fraction b_fraction .nil (L2N.passes_call (L2N.takes_of rfl rfl rfl rfl) fun _ _ _ _ z => z) (pa_cons pe_int (pa_cons (pe_ix (ixLK K rfl) (pe_lst (pa_cons pe_non (pa_cons pe_bl (pa_cons pe_str (pa_cons (pe_tup (pa_cons pe_int (pa_cons pe_int pa_nil))) pa_nil))))) (pe_op op_mod (pv 4) pe_int) (fun _ _ => rfl)) pa_nil))))) pa_nil)))
      (pss_one (ps_if (pt_cmpR (op_neD hr.units) (pv 7) (pe_op op_rep (pe_lst (pa_cons (pe_tup (pa_cons pe_str (pa_cons pe_str pa_nil))) pa_nil)) pe_int) (nomark _)) (pss_one (ps_ret pe_bl)) pss_nil))))))))))))))
      (pss_one (ps_ret pe_bl))))), ?_⟩
    refine ⟨(by show 1 ≤ sizeLine; decide), fun a1 h1 => ?_⟩
    have f1 : FrB K (upd H a1 (.tup [.int 1])) (.ref a1) false := .len (SqT.of upd_same) (by decide)
    have s1 : Same H (upd H a1 (.tup [.int 1])) := same_new h1
    generalize upd H a1 (.tup [.int 1]) = G1 at f1 s1 ⊢
    refine ⟨(by show 3 ≤ sizeLine; decide), fun a2 h2 => ?_⟩
    have f2 : FrB K (upd G1 a2 (.tup [.int 1, .int 2, .int 3])) (.ref a2) false := .len (SqT.of upd_same) (by decide)
    have s2 : Same G1 (upd G1 a2 (.tup [.int 1, .int 2, .int 3])) := same_new h2
    generalize upd G1 a2 (.tup [.int 1, .int 2, .int 3]) = G2 at f2 s2 ⊢
    refine ⟨(by show 2 ≤ sizeLine; decide), fun a3 h3 => ?_⟩
    have f3 : FrB K (upd G2 a3 (.lst [.int 1, .int 2])) (.ref a3) false := .no (.base (.lst upd_same)) .list (by decide)
    have s3 : Same G2 (upd G2 a3 (.lst [.int 1, .int 2])) := same_new h3
    generalize upd G2 a3 (.lst [.int 1, .int 2]) = G3 at f3 s3 ⊢
    refine ⟨(by show 2 ≤ sizeLine; decide), fun a4 h4 => ?_⟩
    have f4 : FrB K (upd G3 a4 (.tup [.int 2, .int 4])) (.ref a4) false := (show (decide ((0 : Int) < 4) && decide (Int.gcd 2 4 = 1)) = false by decide +kernel) ▸ FrB.nums (n := 2) (d := 4) (SqT.of upd_same)
    have s4 : Same G3 (upd G3 a4 (.tup [.int 2, .int 4])) := same_new h4
    generalize upd G3 a4 (.tup [.int 2, .int 4]) = G4 at f4 s4 ⊢
    refine ⟨(by show 2 ≤ sizeLine; decide), fun a5 h5 => ?_⟩
    have f5 : FrB K (upd G4 a5 (.tup [.int 0, .int 2])) (.ref a5) false := (show (decide ((0 : Int) < 2) && decide (Int.gcd 0 2 = 1)) = false by decide +kernel) ▸ FrB.nums (n := 0) (d := 2) (SqT.of upd_same)
    have s5 : Same G4 (upd G4 a5 (.tup [.int 0, .int 2])) := same_new h5
    generalize upd G4 a5 (.tup [.int 0, .int 2]) = G5 at f5 s5 ⊢
    refine ⟨(by show 2 ≤ sizeLine; decide), fun a6 h6 => ?_⟩
    have f6 : FrB K (upd G5 a6 (.tup [.int 1, .int 0])) (.ref a6) false := (show (decide ((0 : Int) < 0) && decide (Int.gcd 1 0 = 1)) = false by decide +kernel) ▸ FrB.nums (n := 1) (d := 0) (SqT.of upd_same)
    have s6 : Same G5 (upd G5 a6 (.tup [.int 1, .int 0])) := same_new h6
    generalize upd G5 a6 (.tup [.int 1, .int 0]) = G6 at f6 s6 ⊢
    refine ⟨_, rfl, (by show 2 ≤ sizeLine; decide), fun a7 h7 => ?_⟩
    have f7 : FrB K (upd G6 a7 (.tup [.int 1, .int (-2)])) (.ref a7) false := (show (decide ((0 : Int) < (-2)) && decide (Int.gcd 1 (-2) = 1)) = false by decide +kernel) ▸ FrB.nums (n := 1) (d := (-2)) (SqT.of upd_same)
    have s7 : Same G6 (upd G6 a7 (.tup [.int 1, .int (-2)])) := same_new h7
    generalize upd G6 a7 (.tup [.int 1, .int (-2)]) = G7 at f7 s7 ⊢
    refine ⟨_, rfl, (by show 2 ≤ sizeLine; decide), fun a8 h8 => ?_⟩
    have f8 : FrB K (upd G7 a8 (.tup [.int (-2), .int 4])) (.ref a8) false := (show (decide ((0 : Int) < 4) && decide (Int.gcd (-2) 4 = 1)) = false by decide +kernel) ▸ FrB.nums (n := (-2)) (d := 4) (SqT.of upd_same)
    have s8 : Same G7 (upd G7 a8 (.tup [.int (-2), .int 4])) := same_new h8
    generalize upd G7 a8 (.tup [.int (-2), .int 4]) = G8 at f8 s8 ⊢
    refine ⟨(by show 2 ≤ sizeLine; decide), fun a9 h9 => ?_⟩
    have f9 : FrB K (upd G8 a9 (.tup [.int 1, .bl true])) (.ref a9) false := .parts (SqT.of upd_same) (.base (.int _)) .int (.base (.bl _)) .bool (by decide)
    have s9 : Same G8 (upd G8 a9 (.tup [.int 1, .bl true])) := same_new h9
    generalize upd G8 a9 (.tup [.int 1, .bl true]) = G9 at f9 s9 ⊢
    refine ⟨(by show 2 ≤ sizeLine; decide), fun a10 h10 => ?_⟩
    have f10 : FrB K (upd G9 a10 (.tup [.bl true, .int 1])) (.ref a10) false := .parts (SqT.of upd_same) (.base (.bl _)) .bool (.base (.int _)) .int (by decide)
    have s10 : Same G9 (upd G9 a10 (.tup [.bl true, .int 1])) := same_new h10
    generalize upd G9 a10 (.tup [.bl true, .int 1]) = G10 at f10 s10 ⊢
    refine ⟨(by show 12 ≤ sizeLine; decide), fun n1 hn1 => ?_⟩
    have u1 : upd G10 n1 (.lst [.non, .int 1, .ref a1, .ref a2, .ref a3, .ref a4, .ref a5, .ref a6, .ref a7, .ref a8, .ref a9, .ref a10]) n1 = some (.lst [.non, .int 1, .ref a1, .ref a2, .ref a3, .ref a4, .ref a5, .ref a6, .ref a7, .ref a8, .ref a9, .ref a10]) := upd_same
    have sn1 : Same G10 (upd G10 n1 (.lst [.non, .int 1, .ref a1, .ref a2, .ref a3, .ref a4, .ref a5, .ref a6, .ref a7, .ref a8, .ref a9, .ref a10])) := same_new hn1
    generalize upd G10 n1 (.lst [.non, .int 1, .ref a1, .ref a2, .ref a3, .ref a4, .ref a5, .ref a6, .ref a7, .ref a8, .ref a9, .ref a10]) = GN at u1 sn1 ⊢
    refine ⟨_, rfl, (by show 2 ≤ sizeLine; decide), fun a11 h11 => ?_⟩
    have f11 : FrB K (upd GN a11 (.tup [.non, .int 1])) (.ref a11) false := .parts (SqT.of upd_same) (.base .non) .none (.base (.int _)) .int (by decide)
    have s11 : Same GN (upd GN a11 (.tup [.non, .int 1])) := same_new h11
    generalize upd GN a11 (.tup [.non, .int 1]) = G11 at f11 s11 ⊢
    refine ⟨(by show 2 ≤ sizeLine; decide), fun a12 h12 => ?_⟩
    have f12 : FrB K (upd G11 a12 (.tup [.str "1", .int 2])) (.ref a12) false := .parts (SqT.of upd_same) (.base (.str _)) .str (.base (.int _)) .int (by decide)
    have s12 : Same G11 (upd G11 a12 (.tup [.str "1", .int 2])) := same_new h12
    generalize upd G11 a12 (.tup [.str "1", .int 2]) = G12 at f12 s12 ⊢
    refine ⟨(by show 2 ≤ sizeLine; decide), fun n2 hn2 => ?_⟩
    have n12 : n1 ≠ n2 := ne_of_none (s12 _ _ (s11 _ _ u1)) hn2
    refine ⟨n1, n2, _, _, rfl, rfl, (by rw [upd_ne n12]; exact s12 _ _ (s11 _ _ u1)), upd_same, (by show 14 ≤ sizeLine; decide), fun N hN => ?_⟩
    have g1 := ((((((((((((f1.sameX s2).sameX s3).sameX s4).sameX s5).sameX s6).sameX s7).sameX s8).sameX s9).sameX s10).sameX sn1).sameX s11).sameX s12)
    have g2 := (((((((((((f2.sameX s3).sameX s4).sameX s5).sameX s6).sameX s7).sameX s8).sameX s9).sameX s10).sameX sn1).sameX s11).sameX s12)
    have g3 := ((((((((((f3.sameX s4).sameX s5).sameX s6).sameX s7).sameX s8).sameX s9).sameX s10).sameX sn1).sameX s11).sameX s12)
    have g4 := (((((((((f4.sameX s5).sameX s6).sameX s7).sameX s8).sameX s9).sameX s10).sameX sn1).sameX s11).sameX s12)
    have g5 := ((((((((f5.sameX s6).sameX s7).sameX s8).sameX s9).sameX s10).sameX sn1).sameX s11).sameX s12)
    have g6 := (((((((f6.sameX s7).sameX s8).sameX s9).sameX s10).sameX sn1).sameX s11).sameX s12)
    have g7 := ((((((f7.sameX s8).sameX s9).sameX s10).sameX sn1).sameX s11).sameX s12)
    have g8 := (((((f8.sameX s9).sameX s10).sameX sn1).sameX s11).sameX s12)
    have g9 := ((((f9.sameX s10).sameX sn1).sameX s11).sameX s12)
    have g10 := (((f10.sameX sn1).sameX s11).sameX s12)
    have g11 := (f11.sameX s12)
    have g12 := f12
    have sA : Same H G12 := ((((((((((((s1.trans s2).trans s3).trans s4).trans s5).trans s6).trans s7).trans s8).trans s9).trans s10).trans sn1).trans s11).trans s12)
    have s13 : Same G12 (upd G12 n2 (.lst [.ref a11, .ref a12])) := same_new hn2
    have s14 := s13.trans (same_new (o := .lst [.non, .int 1, .ref a1, .ref a2, .ref a3, .ref a4, .ref a5, .ref a6, .ref a7, .ref a8, .ref a9, .ref a10, .ref a11, .ref a12]) hN)
    have hN2 : upd (upd G12 n2 (.lst [.ref a11, .ref a12])) N (.lst [.non, .int 1, .ref a1, .ref a2, .ref a3, .ref a4, .ref a5, .ref a6, .ref a7, .ref a8, .ref a9, .ref a10, .ref a11, .ref a12]) N = some (.lst [.non, .int 1, .ref a1, .ref a2, .ref a3, .ref a4, .ref a5, .ref a6, .ref a7, .ref a8, .ref a9, .ref a10, .ref a11, .ref a12]) := upd_same
    have fb : ∀ v ∈ ([.non, .int 1, .ref a1, .ref a2, .ref a3, .ref a4, .ref a5, .ref a6, .ref a7, .ref a8, .ref a9, .ref a10, .ref a11, .ref a12] : List V), FrB K (upd (upd G12 n2 (.lst [.ref a11, .ref a12])) N (.lst [.non, .int 1, .ref a1, .ref a2, .ref a3, .ref a4, .ref a5, .ref a6, .ref a7, .ref a8, .ref a9, .ref a10, .ref a11, .ref a12])) v false := by
      intro v hv
      simp only [List.mem_cons, List.not_mem_nil, or_false] at hv
      rcases hv with rfl | rfl | rfl | rfl | rfl | rfl | rfl | rfl | rfl | rfl | rfl | rfl | rfl | rfl
      · exact .no (.base .non) .none (by decide)
      · exact .no (.base (.int _)) .int (by decide)
      · exact g1.sameX s14
      · exact g2.sameX s14
      · exact g3.sameX s14
      · exact g4.sameX s14
      · exact g5.sameX s14
      · exact g6.sameX s14
      · exact g7.sameX s14
      · exact g8.sameX s14
      · exact g9.sameX s14
      · exact g10.sameX s14
      · exact g11.sameX s14
      · exact g12.sameX s14
    have hs2 := (sA.trans s14).seq hs
    have tb2 := tb.ext (sA.trans s14)
    generalize hvs : ([.non, .int 1, .ref a1, .ref a2, .ref a3, .ref a4, .ref a5, .ref a6, .ref a7, .ref a8, .ref a9, .ref a10, .ref a11, .ref a12] : List V) = vs at fb hN2 s14
    have hvl : vs.length = 14 := by rw [← hvs]; rfl
    refine gSeq ?_
    show tSeq _ _ _ [some (.ref a), some (.ref N), none, none, none, none, none, none, none] (upd (upd G12 n2 (.lst [.ref a11, .ref a12])) N (.lst [.non, .int 1, .ref a1, .ref a2, .ref a3, .ref a4, .ref a5, .ref a6, .ref a7, .ref a8, .ref a9, .ref a10, .ref a11, .ref a12]))
    rw [hvs] at hs2 tb2 ⊢
    generalize upd (upd G12 n2 (.lst [.ref a11, .ref a12])) N (.lst vs) = H2 at fb hN2 hs2 tb2 ⊢
    clear s14 s13 sA f1 f2 f3 f4 f5 f6 f7 f8 f9 f10 f11 f12 g1 g2 g3 g4 g5 g6 g7 g8 g9 g10 g11 g12 s1 s2 s3 s4 s5 s6 s7 s8 s9 s10 s11 s12 sn1 u1 h1 h2 h3 h4 h5 h6 h7 h8 h9 h10 h11 h12 hn1 hn2 hN n12 hs
    refine ⟨_, rfl, _, _, rfl, .inl hs2, _, _, rfl, _, _, rfl, ?_⟩
    obtain ⟨r1, r2, r3⟩ := rng_ok 3 ((ns.map V.int).length : Int) (by decide)
    refine ⟨_, rfl, r1, r2, ?_⟩
    refine for_range (lo := 0) (fun i σ H' => Sep (TT K) H2 H' [] ∧ ∃ x2 x3 x4 x5 x6 x7 x8 : Option V, σ = [some (.ref a), some (.ref N), x2, x3, x4, x5, x6, x7, x8]) ⟨Sep.nil tb2, _, _, _, _, _, _, _, rfl⟩ ?_ ?_
    · rintro i σ H3 hi ⟨sp, x2, x3, x4, x5, x6, x7, x8, rfl⟩
      have hi' : (i : Int) < 6 := by
        have : i < 6 := Nat.lt_of_lt_of_le hi (by
          have z : (if (3 : Int) < 1 then 1 else 3) = (3 : Int) := by decide
          rw [z] at r3
          omega)
        omega
      refine ⟨_, rfl, _, rfl, a, ns, _, rfl, sp.sq hs2, hl, (by omega), (by omega), fun cell H4 e4 => ?_⟩
      refine ⟨_, rfl, cell, _, rfl, (by omega), (by omega), ?_⟩
      have sp4 := sp.same e4
      have m0 := drawn_nn cell (0 + (i : Int))
      have m1 := drawn_lt cell (0 + (i : Int))
      generalize drawn cell (0 + (i : Int)) = more at m0 m1 ⊢
      refine ⟨6, rfl, by decide, by decide, ?_⟩
      refine for_range (lo := 0) (n := 6) (fun j σ H' => Sep (TT K) H2 H' [] ∧ ∃ x4 x5 x6 x7 x8 : Option V, σ = [some (.ref a), some (.ref N), some (.int (0 + (i : Int))), some (.int more), x4, x5, x6, x7, x8]) ⟨sp4, _, _, _, _, _, rfl⟩ ?_ ?_
      · rintro j σ H5 hj ⟨s5, y4, y5, y6, y7, y8, rfl⟩
        have d0 := drawn_nn more (0 + (j : Int))
        have hN5 : H5 N = some (.lst vs) := s5.u.s _ _ (by simp) hN2 (fun _ z => by cases z)
        have k0 : 0 ≤ drawn more (0 + (j : Int)) % (vs.length : Int) := Int.emod_nonneg _ (by omega)
        have k1 : drawn more (0 + (j : Int)) % (vs.length : Int) < (vs.length : Int) := Int.emod_lt_of_pos _ (by omega)
        obtain ⟨ix, hix⟩ := Int.eq_ofNat_of_zero_le k0
        have hlt : ix < vs.length := by omega
        refine ⟨_, rfl, _, rfl, _, rfl, _, _, rfl, (by omega), (by omega), _, rfl, N, _, rfl, .inl (SqL.of hN5), _, _, rfl, rfl, (show (0 : Int) < (vs.length : Int) by omega), N, _, _, vs[ix], rfl, rfl, SqL.of hN5, ?_, ?_⟩
        · show atI vs (drawn more (0 + (j : Int)) % (vs.length : Int)) = _
          rw [hix]
          exact atI_nat (List.getElem?_eq_getElem hlt)
        have fv := fb vs[ix] (List.getElem_mem hlt)
        generalize vs[ix] = v at fv ⊢
        refine ⟨_, rfl, _, _, rfl, rfl, (show (0 : Int) < 50 by decide), (by show 2 ≤ sizeLine; decide), fun g hg => ?_⟩
        have s6 := s5.same (same_new hg (o := .tup [.int (more % 50), .int 1]))
        have hg6 : SqT K (upd H5 g (.tup [.int (more % 50), .int 1])) g [.int (more % 50), .int 1] := SqT.of upd_same
        generalize upd H5 g (.tup [.int (more % 50), .int 1]) = H6 at s6 hg6 ⊢
        refine ⟨(by show 2 ≤ sizeLine; decide), fun q hq => ?_⟩
        have sq := same_new hq (o := .tup [v, .ref g])
        have s7 := s6.same sq
        have hg7 := Same.sqT sq hg6
        refine ⟨_, _, rfl, SqT.of upd_same, rfl, _, _, rfl, _, _, rfl, rfl, ?_⟩
        generalize upd H6 q (.tup [v, .ref g]) = H7 at s7 hg7 ⊢
        clear s5 s6 hg6 sq hq hg
        have fgood : ∀ {H' : Hp}, SqT K H' g [.int (more % 50), .int 1] → FrB K H' (.ref g) (decide ((0 : Int) < 1) && decide (Int.gcd (more % 50) 1 = 1)) := fun h => .nums h
        -- some = [_law_told(lambda: need_fraction(bad))]
        refine ⟨s7.t, fun H8 e8 t8 => ?_⟩
        have s8 := s7.keep (Ux.ofE e8 t8) t8
        refine ⟨_, rfl, v, false, rfl, fv.ux s8.u, (fun z => by cases z), fun _ => refused (by decide +kernel) fun t H9 sm st => ?_⟩
        refine ⟨(by show 1 ≤ sizeLine; decide), fun S0 hS0 => ?_⟩
        have s9 : Sep (TT K) H2 (upd H9 S0 (.lst [.ref t])) [refsT K S0 [.ref t] 1] := (s8.same sm).add (x := refsT K S0 [.ref t] 1) (Ux.new hS0) ((s8.same sm).t.ext (same_new hS0)) (fun c hc => by rw [List.mem_singleton.mp hc]; exact nw_none hS0) ⟨upd_same, rfl, fun y hy => ⟨t, List.mem_singleton.mp hy, Same.sqT (same_new hS0) st⟩⟩
        have hg9 := Same.sqT (same_new hS0 (o := .lst [.ref t])) (Same.sqT sm ((Ux.ofE e8 t8).tk0.sqT hg7))
        refine gSeq ?_
        show tSeq _ _ _ [some (.ref a), some (.ref N), some (.int (0 + (i : Int))), some (.int more), some (.int (0 + (j : Int))), some v, some (.ref g), some (.ref S0), y8] (upd H9 S0 (.lst [.ref t]))
        generalize upd H9 S0 (.lst [.ref t]) = H10 at s9 hg9 ⊢
        clear s7 s8 sm st hg7 e8 t8 hS0
        have gk : ∀ {Hx H' H1 : Hp} {ys : List V} {t : Addr}, LamX.ExtN Hx H' → LamX.Tabs (TT K) H' → Same H' H1 → H1 S0 = some (.lst ys) → SqT K Hx g [.int (more % 50), .int 1] → SqT K (upd H1 S0 (.lst (ys ++ [.ref t]))) g [.int (more % 50), .int 1] := fun e' t' sm h1 hg => (Wr.tk (.inr (.inl ⟨_, h1⟩))).sqT (Same.sqT sm ((Ux.ofE e' t').tk0.sqT hg))
        have ln : ∀ {Hx : Hp} {ys : List V} {n : Nat} {ts : List Thing}, Sep (TT K) H2 Hx (refsT K S0 ys n :: ts) → ys.length = n := fun {Hx ys n ts} sx => (sx.ok (refsT K S0 ys n) List.mem_cons_self : _ ∧ _ ∧ _).2.1
        have hS : ∀ {Hx : Hp} {ys : List V} {n : Nat} {ts : List Thing}, Sep (TT K) H2 Hx (refsT K S0 ys n :: ts) → Hx S0 = some (.lst ys) := fun {Hx ys n ts} sx => (sx.ok (refsT K S0 ys n) List.mem_cons_self : _ ∧ _).1
        refine ⟨(by show 5 ≤ sizeLine; decide), fun L hL => ?_⟩
        have sL : Sep (TT K) H2 (upd H10 L (.lst (deedNames.map fun x => V.ref (He.ga K x)))) [refsT K S0 [.ref t] 1, listT L (deedNames.map fun x => V.ref (He.ga K x))] := (s9.addNew hL (xs := deedNames.map fun x => V.ref (He.ga K x))).perm (List.Perm.swap _ _ _)
        have gL := Same.sqT (same_new hL (o := .lst (deedNames.map fun x => V.ref (He.ga K x)))) hg9
        refine ⟨L, rfl, ⟨_, SqL.of upd_same⟩, ?_⟩
        refine for_it (walk_list (K := K) (a := L) (xs := deedNames.map fun x => V.ref (He.ga K x))) (fun m σ H' => ∃ ys, Sep (TT K) H2 H' [refsT K S0 ys (1 + 2 * m), listT L (deedNames.map fun x => V.ref (He.ga K x))] ∧ SqT K H' g [.int (more % 50), .int 1] ∧ ∃ x8 : Option V, σ = [some (.ref a), some (.ref N), some (.int (0 + (i : Int))), some (.int more), some (.int (0 + (j : Int))), some v, some (.ref g), some (.ref S0), x8]) ⟨_, sL, gL, _, rfl⟩ (fun m σ H' _ ⟨ys, z, _⟩ => SqL.of (z.ok (listT L _) (by simp))) ?_ ?_
        · rintro m x σ Hw Hx hm ⟨ys, sx, gx, x8, rfl⟩ ⟨e, hx⟩
          subst e
          obtain ⟨nm, hnm, rfl⟩ : ∃ nm, nm ∈ deedNames ∧ x = .ref (He.ga K nm) := by
            rw [List.getElem?_map] at hx
            cases hq : deedNames[m]? with
            | none =>
              rw [hq] at hx
              cases hx
            | some nm =>
              rw [hq] at hx
              exact ⟨nm, List.mem_of_getElem? hq, (Option.some.inj hx).symm⟩
          have hm5 : m < 5 := hm
          refine ⟨_, rfl, .inl ⟨rfl, _, SqL.of (hS sx)⟩, sx.t, fun H' e' t' => ?_⟩
          have sk := sx.keep (Ux.ofE e' t') t'
          have gg := (Ux.ofE e' t').tk0.sqT gx
          have ff := fv.ux sk.u
          refine ⟨_, _, rfl, ⟨rfl, nm, hnm, rfl⟩, _, rfl, _, rfl, v, .ref g, _, _, rfl, ff, fgood gg, rfl, refused (by decide +kernel) fun t1 H1 sm st => ?_⟩
          obtain ⟨h1, s1⟩ := Sep.app sk sm st
          refine ⟨S0, _, _, rfl, rfl, h1, list_lt (by have := ln sk; omega), ?_⟩
          have g1 := gk (t := t1) e' t' sm h1 gx
          clear sk gg ff st sm h1 e' t'
          refine ⟨_, rfl, .inl ⟨rfl, _, SqL.of (hS s1)⟩, s1.t, fun H' e' t' => ?_⟩
          have sk := s1.keep (Ux.ofE e' t') t'
          have gg := (Ux.ofE e' t').tk0.sqT g1
          have ff := fv.ux sk.u
          refine ⟨_, _, rfl, ⟨rfl, nm, hnm, rfl⟩, _, rfl, _, rfl, .ref g, v, _, _, rfl, fgood gg, ff, Bool.and_false _, refused (by decide +kernel) fun t1 H1 sm st => ?_⟩
          obtain ⟨h1, s2⟩ := Sep.app sk sm st
          refine ⟨S0, _, _, rfl, rfl, h1, list_lt (by have := ln sk; omega), ?_⟩
          have g2 := gk (t := t1) e' t' sm h1 g1
          clear sk gg ff st sm h1 e' t'
          exact ⟨_, s2, g2, _, rfl⟩
        · rintro σ Hx ⟨ys, sx, gx, x8, rfl⟩
          have sx' : Sep (TT K) H2 Hx [refsT K S0 ys 11] := sx.sub (List.sublist_append_left [_] [_])
          have bqi : Bq 4000 ((more % 50 : Int) : Rat) := Bq.mono (n := 8) ⟨by show (more % 50).natAbs < 2 ^ 8; omega, by show 1 < 2 ^ 8; decide⟩ (by decide)
          refine ⟨_, rfl, .inl ⟨rfl, _, SqL.of (hS sx')⟩, sx'.t, fun H' e' t' => ?_⟩
          have sk := sx'.keep (Ux.ofE e' t') t'
          have gg := (Ux.ofE e' t').tk0.sqT gx
          have ff := fv.ux sk.u
          refine ⟨_, rfl, v, false, rfl, ff, (fun z => by cases z), fun _ => refused (by decide +kernel) fun t1 H1 sm st => ?_⟩
          have sm2 := sm
          obtain ⟨h1, s1⟩ := Sep.app sk sm2 st
          refine ⟨S0, _, _, rfl, rfl, h1, list_lt (by have := ln sk; omega), ?_⟩
          have g1 := gk (t := t1) e' t' sm2 h1 gx
          clear sk gg ff st sm sm2 h1
          refine ⟨_, rfl, .inl ⟨rfl, _, SqL.of (hS s1)⟩, s1.t, fun H' e' t' => ?_⟩
          have sk := s1.keep (Ux.ofE e' t') t'
          have gg := (Ux.ofE e' t').tk0.sqT g1
          have ff := fv.ux sk.u
          refine ⟨_, rfl, (by show 2 ≤ sizeLine; decide), fun q0 hq0 => ?_⟩
          have sq0 := same_new hq0 (o := .tup [.int 0, .int 1])
          have fg : FrA K (upd H' q0 (.tup [.int 0, .int 1])) (.ref g) ((more % 50 : Int) : Rat) := ⟨g, rfl, Same.sqT sq0 gg⟩
          have f0 : FrA K (upd H' q0 (.tup [.int 0, .int 1])) (.ref q0) 0 := ⟨q0, rfl, SqT.of upd_same⟩
          refine ⟨.ref g, .ref q0, true, true, rfl, frb_of fg, frb_of f0, fun _ => ⟨_, 0, fg, f0, bqi, ⟨by decide, by decide⟩, fun z => absurd rfl z, fun _ => refused (by decide +kernel) fun t1 H1 sm st => ?_⟩, fun z => by cases z⟩
          have sm2 := sq0.trans sm
          obtain ⟨h1, s2⟩ := Sep.app sk sm2 st
          refine ⟨S0, _, _, rfl, rfl, h1, list_lt (by have := ln sk; omega), ?_⟩
          have g2 := gk (t := t1) e' t' sm2 h1 g1
          clear sk gg ff st sm sm2 h1
          refine ⟨_, rfl, .inl ⟨rfl, _, SqL.of (hS s2)⟩, s2.t, fun H' e' t' => ?_⟩
          have sk := s2.keep (Ux.ofE e' t') t'
          have gg := (Ux.ofE e' t').tk0.sqT g2
          have ff := fv.ux sk.u
          refine ⟨_, rfl, _, _, rfl, rfl, (show (0 : Int) < 9 by decide), _, _, "int", "int", rfl, .base (.int _), .int, .base (.int _), .int, .inr ⟨.inr (.inr ⟨rfl, rfl, rfl⟩), refused (by decide +kernel) fun t1 H1 sm st => ?_⟩⟩
          have sm2 := sm
          obtain ⟨h1, s3⟩ := Sep.app sk sm2 st
          refine ⟨S0, _, _, rfl, rfl, h1, list_lt (by have := ln sk; omega), ?_⟩
          have g3 := gk (t := t1) e' t' sm2 h1 g2
          clear sk gg ff st sm sm2 h1
          refine ⟨_, rfl, .inl ⟨rfl, _, SqL.of (hS s3)⟩, s3.t, fun H' e' t' => ?_⟩
          have sk := s3.keep (Ux.ofE e' t') t'
          have gg := (Ux.ofE e' t').tk0.sqT g3
          have ff := fv.ux sk.u
          refine ⟨(by show 2 ≤ sizeLine; decide), fun q0 hq0 => ?_⟩
          have sq0 := same_new hq0 (o := .tup [.int 1, .int 2])
          refine ⟨(by show 4 ≤ sizeLine; decide), fun l0 hl0 => ?_⟩
          have sl0 := same_new hl0 (o := .lst [.non, .bl true, .str "1", .ref q0])
          obtain ⟨vv, nn, at4, ty4, kn4, ne4⟩ := bad4 (K := K) (k := (0 + (j : Int)) % 4) (Same.sqT sl0 (SqT.of upd_same : SqT K _ q0 [.int 1, .int 2])) (by omega) (by omega)
          refine ⟨_, rfl, _, _, rfl, rfl, (show (0 : Int) < 4 by decide), l0, _, _, vv, rfl, rfl, SqL.of upd_same, at4, ?_⟩
          refine ⟨vv, _, nn, "int", rfl, ty4, kn4, .base (.int _), .int, .inr ⟨.inl ne4, refused (by decide +kernel) fun t1 H1 sm st => ?_⟩⟩
          have sm2 := (sq0.trans sl0).trans sm
          obtain ⟨h1, s4⟩ := Sep.app sk sm2 st
          refine ⟨S0, _, _, rfl, rfl, h1, list_lt (by have := ln sk; omega), ?_⟩
          have g4 := gk (t := t1) e' t' sm2 h1 g3
          clear sk gg ff st sm sm2 h1
          refine ⟨_, rfl, .inl ⟨rfl, _, SqL.of (hS s4)⟩, s4.t, fun H' e' t' => ?_⟩
          have sk := s4.keep (Ux.ofE e' t') t'
          have gg := (Ux.ofE e' t').tk0.sqT g4
          have ff := fv.ux sk.u
          refine ⟨(by show 2 ≤ sizeLine; decide), fun q0 hq0 => ?_⟩
          have sq0 := same_new hq0 (o := .tup [.int 1, .int 2])
          refine ⟨(by show 4 ≤ sizeLine; decide), fun l0 hl0 => ?_⟩
          have sl0 := same_new hl0 (o := .lst [.non, .bl true, .str "1", .ref q0])
          obtain ⟨vv, nn, at4, ty4, kn4, ne4⟩ := bad4 (K := K) (k := (0 + (j : Int)) % 4) (Same.sqT sl0 (SqT.of upd_same : SqT K _ q0 [.int 1, .int 2])) (by omega) (by omega)
          refine ⟨_, rfl, _, _, rfl, rfl, (show (0 : Int) < 4 by decide), l0, _, _, vv, rfl, rfl, SqL.of upd_same, at4, ?_⟩
          refine ⟨_, vv, "int", nn, rfl, .base (.int _), .int, ty4, kn4, .inr ⟨.inr (.inl ne4), refused (by decide +kernel) fun t1 H1 sm st => ?_⟩⟩
          have sm2 := (sq0.trans sl0).trans sm
          obtain ⟨h1, s5⟩ := Sep.app sk sm2 st
          refine ⟨S0, _, _, rfl, rfl, h1, list_lt (by have := ln sk; omega), ?_⟩
          have g5 := gk (t := t1) e' t' sm2 h1 g4
          clear sk gg ff st sm sm2 h1
          obtain ⟨hS5, lS5, rS5⟩ := (s5.ok (refsT K S0 _ 16) List.mem_cons_self : _ ∧ _ ∧ _)
          refine ⟨_, rfl, (by show 2 ≤ sizeLine; decide), fun q1 hq1 => ?_⟩
          have sq1 := same_new hq1 (o := .tup [.str "refused", .str "BadFraction"])
          refine ⟨(by show 1 ≤ sizeLine; decide), fun l1 hl1 => ?_⟩
          have sl1 := same_new hl1 (o := .lst [.ref q1])
          refine ⟨l1, 16, _, rfl, rfl, upd_same, (by decide), (by decide), (by show 1 * 16 ≤ sizeLine; decide), fun l2 hl2 => ?_⟩
          have sl2 := same_new hl2 (o := .lst (List.replicate (16 : Int).toNat [V.ref q1]).flatten)
          have sAll := (sq1.trans sl1).trans sl2
          have d1 : Dp K _ (.ref S0) (.list (List.replicate 16 refD)) := .lst (SqL.of (sAll _ _ hS5)) (by
            rw [← lS5]
            exact dp_refs fun y hy => by
              obtain ⟨p, e1, e2⟩ := rS5 y hy
              exact ⟨p, e1, Same.sqT sAll e2⟩)
          have d2 : Dp K _ (.ref l2) (.list (List.replicate 16 refD)) := .lst (SqL.of upd_same) (by
            have h16 : ((List.replicate (16 : Int).toNat [V.ref q1]).flatten).length = 16 := rfl
            rw [← h16]
            exact dp_refs fun y hy => by
              obtain ⟨l, h1, h2⟩ := List.mem_flatten.mp hy
              have h3 := List.eq_of_mem_replicate h1
              rw [h3] at h2
              exact ⟨q1, List.mem_singleton.mp h2, Same.sqT (sl1.trans sl2) (SqT.of upd_same)⟩)
          have sh : SeqAt.shaped (.list (List.replicate 16 refD)) = true := by decide +kernel
          refine ⟨_, _, d1, d2, sh, sh, _, rfl, ?_⟩
          rw [SeqAt.eqv_refl _ (SeqAt.canLay_of_shaped sh)]
          exact iteF ⟨(s5.same sAll).forget, _, _, _, _, _, rfl⟩
      · rintro σ H5 ⟨s5, y4, y5, y6, y7, y8, rfl⟩
        exact ⟨s5, _, _, _, _, _, _, _, rfl⟩
    · rintro σ H3 ⟨sp, x2, x3, x4, x5, x6, x7, x8, rfl⟩
      exact kQ _
end

theorem facts {P : Program} {w : World} {K : PySem.W.Frag} {h : Heap} {mg : Str → Option Value} {f : Addr} (X : K.In h) (G : h.Ns mainGlobals mg) (hfa : mg ("law" : Str) = some (.ref f)) (c : He.SaysX fa fn ts tf exB w h K) :
    ∃ fd : FuncData, (∀ (s : Shared) (v : Value), BindsTo s fd ⟨[v], []⟩ [("script", v)]) ∧ ∀ base : Heap, K.In base → base.Ns mainGlobals mg → (∀ p ∈ tf.map (He.cT K), LamX.TabB base mg p.1 p.2) → FnOk P w K mg base (L2N.CX P w) 8 f fd ["script"] (spLaw K) := by
  obtain ⟨fd, F⟩ := c.t.d.def_ 23 (d := d_law) rfl
  have gl : mg ("law" : Str) = some (.ref (He.ga K "law")) := He.glo_ok X G (c.t.d.fact 23 (f := .glo "law") rfl)
  have e := hfa.symm.trans gl
  cases e
  have b := FunD.bindsA (ps := ["script"]) F fun _ _ _ _ _ _ us hl => match us, hl with | [_], _ => rfl
  exact ⟨fd, fun s v => b s [v] rfl, fun base X' G' TB => ok_law ⟨X', G', c.t.d, c.more, fun p hp => TB _ (List.mem_map.mpr ⟨p, hp, rfl⟩)⟩ F⟩
theorem tabs_of {K : PySem.W.Frag} {H : Hp} (h : ∀ p ∈ tf.map (He.cT K), H p.2 = some (.tbl #[])) : LamX.Tabs (TT K) H := fun q hq => by
  obtain ⟨x, hx, rfl⟩ := List.mem_map.mp hq
  exact LamX.TabS.nil (h _ (List.mem_map.mpr ⟨x.1, List.mem_map.mpr ⟨x, hx, rfl⟩, rfl⟩))
end Qt
open PySem PySem.W PySem.Calls PyProof.Rows
theorem PySem.Challenge.cw_quickturns_k11_fractions_refused_holds : PySem.Challenge.rw_quickturns_k11_fractions_refused.Holds := by
  w_on; o_law
  refine HandSHeadRun.head_any (r := OpenLaw.row PySem.Challenge.rw_quickturns_k11_fractions_refused) (q := view (OpenLaw.row PySem.Challenge.rw_quickturns_k11_fractions_refused).prog [33]) (H := Qt.hk) (ob := Qt.ob) (M := 4000) (loose := Qt.loose) (d := HandSHeadRun.topDef (OpenLaw.row PySem.Challenge.rw_quickturns_k11_fractions_refused).prog 33) (kwd := []) Qt.ob_eq
    (by kernel_rfl) (fun s => by kernel_rfl) Qt.run (by kernel_rfl) (by kernel_rfl) (by kernel_rfl) (by rfl) (by first | assumption | decide +kernel) (by decide +kernel) ⟨rfl, rfl, rfl, rfl, rfl, by decide +kernel⟩ ?hw ?hc
  case hw => w_witness2
  case hc =>
    refine LamX.walk_ofTsE (l := PySem.Challenge.rw_quickturns_k11_fractions_refused) (n := 63) (k := 8) (x := "script") (CX := fun w => L2N.CX PySem.Challenge.rw_quickturns_k11_fractions_refused.prog w) rfl (by decide) (by kernel_rfl) ⟨rfl, by decide, by decide⟩ ?F (fun _ _ _ _ _ z => by
      obtain ⟨_, _, _, _, _, _, _, _, _, _, _, _, z⟩ := z
      exact z)
    intro w mg fa h Y G hmg0
    obtain ⟨K, KX, c⟩ := Y
    have hmg : mg ("law" : PySem.Str) = some (.ref fa) := by
      have e : (HandSHeadRun.topDef (OpenLaw.row PySem.Challenge.rw_quickturns_k11_fractions_refused).prog 33).name = ("law" : PySem.Str) := by kernel_rfl
      rw [← e]
      exact hmg0
    obtain ⟨fd, hb, hF⟩ := Qt.facts (P := PySem.Challenge.rw_quickturns_k11_fractions_refused.prog) (w := w) KX G hmg c
    refine ⟨K, KX, fd, Qt.tf.map (He.cT K), Qt.spLaw K, fun p hp => ?_, fun p hp => ?_, fun p hp => ?_, hb, fun H a ns hl _ hT hS => ⟨a, ns, rfl, hS, hl, Qt.tabs_of hT, fun _ => rfl⟩, hF⟩
    · obtain ⟨x, hx, rfl⟩ := List.mem_map.mp hp
      exact c.empty x hx
    · obtain ⟨x, hx, rfl⟩ := List.mem_map.mp hp
      exact c.out x hx
    · obtain ⟨x, hx, rfl⟩ := List.mem_map.mp hp
      exact PySem.W.codeHd_of_K KX (c.hd x hx)
