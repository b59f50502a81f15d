import PyProof.Rows.All
import Wide.All
import OpenK.AllK
import Wide.FinOn
import PySem.Challenge.RW_sj0079_01
set_option Elab.async false


section
set_option Elab.async false
set_option autoImplicit false
set_option linter.all false
namespace Mine
/-! numbers: small facts, each proved once -/
theorem half_two {e a : Nat} : (e % 2 + 2 * a) / 2 = a := by
  rw [Nat.add_mul_div_left _ _ (by decide), Nat.div_eq_of_lt (Nat.mod_lt _ (by decide)), Nat.zero_add]
theorem mod_two {e a : Nat} : (e % 2 + 2 * a) % 2 = e % 2 := by rw [Nat.add_mul_mod_self_left, Nat.mod_mod]
theorem i_pred {l : Nat} (h : 0 < l) : (l : Int) - 1 = ((l - 1 : Nat) : Int) := (Int.natCast_sub h).symm
theorem i_sub {a b : Nat} (h : b ≤ a) : (a : Int) - (b : Int) = ((a - b : Nat) : Int) := (Int.natCast_sub h).symm
theorem i_ne {f : Nat} (h : 0 < f) : (f : Int) ≠ 0 := fun e => Nat.ne_of_gt h (Int.ofNat.inj e)
theorem i_lt {a b : Nat} (h : a < b) : (a : Int) < (b : Int) := Int.ofNat_lt.mpr h
theorem i_sub_neg {u t : Nat} (h : u < t) : (u : Int) - (t : Int) < 0 := Int.sub_neg_of_lt (Int.ofNat_lt.mpr h)
theorem i_sub_nn {u t : Nat} (h : ¬ u < t) : ¬ (u : Int) - (t : Int) < 0 := Int.not_lt.mpr (Int.sub_nonneg_of_le (Int.ofNat_le.mpr (Nat.le_of_not_lt h)))
theorem i_wrap {u t B : Nat} (h : t ≤ B) : (u : Int) - (t : Int) + (B : Int) = ((u + B - t : Nat) : Int) := by
  rw [Int.natCast_sub (Nat.le_trans h (Nat.le_add_left _ _)), Int.natCast_add, Int.sub_eq_add_neg, Int.sub_eq_add_neg, Int.add_right_comm]
theorem i_back {H a b f : Nat} (e : b + f = a) (h : a ≤ H) : ((H - a : Nat) : Int) + (f : Int) = ((H - b : Nat) : Int) := by
  subst e
  rw [← Int.natCast_add, Nat.sub_add_eq, Nat.sub_add_cancel (Nat.le_sub_of_add_le (by rw [Nat.add_comm]; exact h))]
theorem n_succ_pred {l : Nat} (h : 0 < l) : (l - 1).succ = l := Nat.sub_add_cancel h
theorem n_past {i a : Nat} (h : i < a) : a = i.succ + (a - i - 1) := by rw [Nat.sub_sub]; exact (Nat.add_sub_of_le h).symm
theorem n_add_lt {p M x y : Nat} (h1 : p < M) (h2 : x + M * 1 ≤ y) : p + x < y := by
  rw [Nat.mul_one] at h2
  exact Nat.lt_of_lt_of_le (by rw [Nat.add_comm]; exact Nat.add_lt_add_left h1 x) h2
theorem n_ta {p c q d x y z t t1 r v : Nat} (hc : p + c = q + d) (th : x + y = z + (t + t1)) (h1 : r = y) (h2 : v = d + t) (h3 : t1 = c) : p + x + r = q + z + v := by
  subst h1 h2 h3
  rw [Nat.add_assoc, th, ← Nat.add_assoc z, Nat.add_comm (z + t), ← Nat.add_assoc, hc, Nat.add_add_add_comm]
theorem n_ta2 {U U' kD m c z kd kq x : Nat} (hU : U = U' + kD) (e1 : m + c = z + kd) (hUd : m + x = U) (hDd : kD = kd + kq) : z + x = U' + (c + kq) := by
  refine Nat.add_right_cancel (m := kd) ?_
  rw [Nat.add_right_comm, ← e1, Nat.add_right_comm, hUd, hU, hDd, Nat.add_assoc, Nat.add_assoc, Nat.add_assoc, Nat.add_assoc, Nat.add_comm kd, Nat.add_comm c, Nat.add_assoc, Nat.add_assoc, Nat.add_comm c]
theorem n_gl {a b c d e t : Nat} (key : e = b + c) (h : d = a + b) : a + t < c ↔ d + t < e := by
  subst key h
  rw [Nat.add_right_comm, Nat.add_comm (a + t) b]
  exact Nat.add_lt_add_iff_left.symm
theorem n_w1 {u x B r t : Nat} (hr : r < B) (h : r + x = t) : u + (x + 1 * B) = u + B - r + t := by
  subst h
  rw [← Nat.add_assoc (u + B - r), Nat.sub_add_cancel (Nat.le_trans (Nat.le_of_lt hr) (Nat.le_add_left _ _)), Nat.one_mul, Nat.add_comm x, Nat.add_assoc]
theorem n_w2 {u B r : Nat} (h : u < r) (hr : r < B) : u + B - r < B :=
  Nat.sub_lt_left_of_lt_add (Nat.le_trans (Nat.le_of_lt hr) (Nat.le_add_left _ _)) (Nat.add_lt_add_right h B)
theorem n_w3 {u x r t : Nat} (h : ¬ u < r) (e : r + x = t) : u + x = u - r + t := by
  subst e; rw [← Nat.add_assoc, Nat.sub_add_cancel (Nat.le_of_not_lt h)]
theorem n_w4 {U U' kD m1 c m2 x y : Nat} (hU : U = U' + kD) (hc : m1 + c = m2 + kD) (h1 : m1 + x = U) (h2 : m2 + y = U') : x = c + y := by
  refine Nat.add_left_cancel (n := m1) ?_
  rw [h1, hU, ← h2, Nat.add_right_comm, ← hc, Nat.add_assoc]
theorem big64 {x B : Nat} (h : x < B) (hB : B ≤ 2 ^ 20) : x < 2 ^ 64 := Nat.lt_of_lt_of_le h (Nat.le_trans hB (by decide))
theorem n_down {b i : Nat} (h : i < b) : b - 1 - i + 1 = b - i := by rw [Nat.sub_right_comm, Nat.sub_add_cancel (Nat.sub_pos_of_lt h)]
theorem n_down2 {b i : Nat} : b - (i + 1) = b - 1 - i := by rw [Nat.add_comm, Nat.sub_sub]
theorem i_down {b i : Nat} (h : i < b) : (b : Int) - 1 - (i : Int) = ((b - 1 - i : Nat) : Int) := by
  rw [Int.sub_sub, Nat.sub_sub, Nat.add_comm, Int.add_comm]
  exact i_sub h
theorem n_left {l i : Nat} (h : i < l) : l - (i + 1) < l - i := Nat.sub_lt_sub_left h (Nat.lt_succ_self i)
theorem half_lt {m p : Nat} (h : m < p * 2) : m / 2 < p := Nat.div_lt_of_lt_mul (by rw [Nat.mul_comm]; exact h)
theorem n_trans3 {a b c : Nat} (h : a < b) (h2 : b ≤ c) : a < c := Nat.lt_of_lt_of_le h h2
theorem min_small {a b c : Nat} (h : b ≤ c) : min a b ≤ c := Nat.le_trans (Nat.min_le_right _ _) h
theorem i_small {L : Nat} (h : L ≤ 2 ^ 20) : ((L : Int) - 1).natAbs < 2 ^ 30 := by
  cases L with
  | zero => decide
  | succ k => rw [i_pred (Nat.succ_pos k), Int.natAbs_natCast]; exact Nat.lt_of_le_of_lt (Nat.le_of_succ_le h) (by decide)
theorem n_pred_le {e B : Nat} (h : e < B) : e ≤ B - 1 := Nat.le_sub_one_of_lt h
theorem n_dlt {a r d m y : Nat} (h2 : a + r = d) (h3 : r < m) (h4 : a + 1 * m ≤ y) : d < y := by
  subst h2; rw [Nat.one_mul] at h4
  exact Nat.lt_of_lt_of_le (Nat.add_lt_add_left h3 a) h4
theorem n_epred {e l : Nat} (h : e - 1 < l) : e ≤ l := by
  cases e with
  | zero => exact Nat.zero_le _
  | succ e => exact h
theorem i62 {x : Nat} : -(2 ^ 62) ≤ (x : Int) := Int.le_trans (by decide) (Int.natCast_nonneg x)
theorem ii62 {x : Nat} (h : x < 2 ^ 62) : (x : Int) < 2 ^ 62 := i_lt (b := 2 ^ 62) h
theorem lt_three : ∀ j, j < 3 → (j = 0 ∨ j = 1 ∨ j = 2) := by decide
theorem lt_two : ∀ j, j < 2 → (j = 0 ∨ j = 1) := by decide
theorem mod_of {k j e : Nat} (h : k + 2 * j = e) (hk : k < 2) : e % 2 = k := by rw [← h, Nat.add_mul_mod_self_left, Nat.mod_eq_of_lt hk]
theorem div_of {k j e : Nat} (h : k + 2 * j = e) (hk : k < 2) : e / 2 = j := by rw [← h, Nat.add_mul_div_left _ _ (by decide), Nat.div_eq_of_lt hk, Nat.zero_add]
theorem l62 {x : Nat} (h : x ≤ 2 ^ 24) : x < 2 ^ 62 := Nat.lt_of_le_of_lt h (by decide)
theorem i_abs {a : Int} {k : Nat} (h : a.natAbs ≤ k) : -(k : Int) ≤ a ∧ a ≤ (k : Int) := by
  obtain ⟨m, rfl | rfl⟩ := Int.eq_nat_or_neg a
  · rw [Int.natAbs_natCast] at h
    exact ⟨Int.le_trans (Int.neg_nonpos_of_nonneg (Int.natCast_nonneg k)) (Int.natCast_nonneg m), Int.ofNat_le.mpr h⟩
  · rw [Int.natAbs_neg, Int.natAbs_natCast] at h
    exact ⟨Int.neg_le_neg (Int.ofNat_le.mpr h), Int.le_trans (Int.neg_nonpos_of_nonneg (Int.natCast_nonneg m)) (Int.natCast_nonneg k)⟩
theorem i_long {a : Int} (h : a.natAbs ≤ 2 ^ 60) : -2 ^ 63 ≤ a ∧ a < 2 ^ 63 := ⟨Int.le_trans (by decide) (i_abs h).1, Int.lt_of_le_of_lt (i_abs h).2 (by decide)⟩
theorem z_idx {k : Int} {j l : Nat} (hk : k = (j : Int) ∨ k = (j : Int) - (l : Int)) (hb : l < 2 ^ 62) (hj : j < l) : -(2 ^ 63) ≤ k ∧ k < 2 ^ 63 := by
  have hj3 : (j : Int) < 2 ^ 63 := i_lt (b := 2 ^ 63) (Nat.lt_trans hj (Nat.lt_trans hb (by decide)))
  rcases hk with rfl | rfl
  · exact ⟨Int.le_trans (by decide) (Int.natCast_nonneg j), hj3⟩
  · refine ⟨Int.le_trans ?_ (Int.sub_le_sub_right (Int.natCast_nonneg j) _), Int.lt_of_le_of_lt (Int.sub_le_self _ (Int.natCast_nonneg l)) hj3⟩
    rw [Int.zero_sub]
    exact Int.neg_le_neg (Int.le_of_lt (i_lt (b := 2 ^ 63) (Nat.lt_trans hb (by decide))))
theorem i_absif {i : Int} : (if i < 0 then -i else i) = (i.natAbs : Int) := by
  by_cases h : i < 0
  · rw [if_pos h]; exact (Int.ofNat_natAbs_of_nonpos (Int.le_of_lt h)).symm
  · rw [if_neg h]; exact (Int.natAbs_of_nonneg (Int.not_lt.mp h)).symm
theorem i_b30 {a : Int} (h : a.natAbs < 2 ^ 30) : -(2 ^ 30) ≤ a ∧ a < 2 ^ 30 := ⟨(i_abs (Nat.le_of_lt h)).1, Int.lt_of_le_of_lt (i_abs (k := 2 ^ 30 - 1) (Nat.le_of_lt_succ h)).2 (by decide)⟩
theorem i_diff {a b : Int} (ha : a.natAbs < 2 ^ 30) (hb : b.natAbs < 2 ^ 30) : ((b - a).toNat : Int) < 2 ^ 62 :=
  i_lt (b := 2 ^ 62) (Nat.lt_of_le_of_lt (Int.toNat_le.mpr (Int.le_trans (Int.sub_le_sub (Int.le_of_lt (i_b30 hb).2) (i_b30 ha).1) (show (2 ^ 30 - -(2 ^ 30) : Int) ≤ ((2 ^ 31 : Nat) : Int) by decide))) (by decide))
theorem i_toNat {b : Int} (h0 : 0 ≤ b) (h : ¬ b = 0) : b.toNat ≠ 0 := fun e => h (Int.le_antisymm (Int.toNat_eq_zero.mp e) h0)
end Mine
end

section
open PySem PySem.W PyProof.Rows
set_option Elab.async false
set_option maxRecDepth 100000
set_option genSizeOf false
set_option maxHeartbeats 1000000
namespace Mine
/-- a goal put by while its facts are taken apart -/
theorem hide {p : Prop} (h : (p → False) → False) : p := Classical.byContradiction h

/-! abstract data -/
inductive Dv where
  | none
  | bool (b : Bool)
  | int (i : Int)
  | list (l : List Dv)
  | tup (l : List Dv)
  | ref (n : Nat)
  | fn (k : Nat)
  deriving Inhabited

/-- what a mutable object holds -/
inductive Mo where
  | list (l : List Dv)
  | dict (l : List (Int × Dv))
  deriving Inhabited

mutual
noncomputable def Dv.pure : Dv → Bool
  | .list l => pures l
  | .tup l => pures l
  | .ref _ => false
  | .fn _ => false
  | .none => true
  | .bool _ => true
  | .int _ => true
noncomputable def pures : List Dv → Bool
  | [] => true
  | d :: r => d.pure && pures r
end

abbrev Gm := Addr → Option Obj

noncomputable def IsL (o : Obj) (vs : List Value) : Prop := ∃ n, o = { cls := .type "list", data := .seq vs.toArray n }
noncomputable def IsT (o : Obj) (vs : List Value) : Prop := o.cls = .type "tuple" ∧ ∃ n, o.data = .seq vs.toArray n

mutual
inductive VRep (fa : Nat → Addr) (F : Gm) (loc : List Addr) : Dv → Value → Prop
  | none : VRep fa F loc .none .none
  | bool (b : Bool) : VRep fa F loc (.bool b) (.bool b)
  | int (i : Int) (t : Tok) : VRep fa F loc (.int i) (.int i t)
  | list {l : List Dv} {a : Addr} {o : Obj} {vs : List Value} : F a = some o → IsL o vs → VReps fa F loc l vs → VRep fa F loc (.list l) (.ref a)
  | tup {l : List Dv} {a : Addr} {o : Obj} {vs : List Value} : F a = some o → IsT o vs → VReps fa F loc l vs → VRep fa F loc (.tup l) (.ref a)
  | ref {n : Nat} {a : Addr} : loc[n]? = some a → VRep fa F loc (.ref n) (.ref a)
  | fn (k : Nat) : VRep fa F loc (.fn k) (.ref (fa k))
inductive VReps (fa : Nat → Addr) (F : Gm) (loc : List Addr) : List Dv → List Value → Prop
  | nil : VReps fa F loc [] []
  | cons {d : Dv} {v : Value} {l : List Dv} {vs : List Value} : VRep fa F loc d v → VReps fa F loc l vs → VReps fa F loc (d :: l) (v :: vs)
end

noncomputable def Gsub (F F' : Gm) : Prop := ∀ a o, F a = some o → F' a = some o
noncomputable def Ext (F : Gm) (loc : List Addr) (F' : Gm) (loc' : List Addr) : Prop := Gsub F F' ∧ loc <+: loc'
theorem Gsub.refl (F : Gm) : Gsub F F := fun _ _ e => e
theorem Gsub.trans {F G H : Gm} (x : Gsub F G) (y : Gsub G H) : Gsub F H := fun a o e => y a o (x a o e)
theorem Ext.refl (F : Gm) (loc : List Addr) : Ext F loc F loc := ⟨Gsub.refl F, List.prefix_refl _⟩
theorem Ext.trans {F G H : Gm} {l m k : List Addr} (x : Ext F l G m) (y : Ext G m H k) : Ext F l H k := ⟨x.1.trans y.1, x.2.trans y.2⟩

theorem prefix_get {l m : List Addr} (h : l <+: m) {n : Nat} {a : Addr} (e : l[n]? = some a) : m[n]? = some a := by
  obtain ⟨k, rfl⟩ := h
  have hn : n < l.length := by
    rcases Nat.lt_or_ge n l.length with h | h
    · exact h
    · rw [List.getElem?_eq_none h] at e; cases e
  rw [List.getElem?_append_left hn]; exact e

theorem VRep.mono {fa : Nat → Addr} {F F' : Gm} {loc loc' : List Addr} (x : Ext F loc F' loc') {d : Dv} {v : Value} (h : VRep fa F loc d v) : VRep fa F' loc' d v :=
  VRep.rec (motive_1 := fun d v _ => VRep fa F' loc' d v) (motive_2 := fun l vs _ => VReps fa F' loc' l vs) .none .bool .int (fun e h _ ih => .list (x.1 _ _ e) h ih) (fun e h _ ih => .tup (x.1 _ _ e) h ih)
    (fun e => .ref (prefix_get x.2 e)) .fn .nil (fun _ _ ih ihs => .cons ih ihs) h
theorem VReps.mono {fa : Nat → Addr} {F F' : Gm} {loc loc' : List Addr} (x : Ext F loc F' loc') {l : List Dv} {vs : List Value} (h : VReps fa F loc l vs) : VReps fa F' loc' l vs :=
  VReps.rec (motive_1 := fun d v _ => VRep fa F' loc' d v) (motive_2 := fun l vs _ => VReps fa F' loc' l vs) .none .bool .int (fun e h _ ih => .list (x.1 _ _ e) h ih) (fun e h _ ih => .tup (x.1 _ _ e) h ih)
    (fun e => .ref (prefix_get x.2 e)) .fn .nil (fun _ _ ih ihs => .cons ih ihs) h

theorem VRep.purify {fa : Nat → Addr} {F : Gm} {loc : List Addr} (loc' : List Addr) {d : Dv} {v : Value} (h : VRep fa F loc d v) : d.pure = true → VRep fa F loc' d v :=
  VRep.rec (motive_1 := fun d v _ => d.pure = true → VRep fa F loc' d v) (motive_2 := fun l vs _ => pures l = true → VReps fa F loc' l vs) (fun _ => .none) (fun b _ => .bool b) (fun i t _ => .int i t)
    (fun e h _ ih p => .list e h (ih p)) (fun e h _ ih p => .tup e h (ih p)) (fun _ p => Bool.noConfusion p) (fun k _ => .fn k) (fun _ => .nil)
    (fun _ _ ih ihs p => .cons (ih (Bool.and_eq_true_iff.mp p).1) (ihs (Bool.and_eq_true_iff.mp p).2)) h
theorem VReps.purify {fa : Nat → Addr} {F : Gm} {loc : List Addr} (loc' : List Addr) {l : List Dv} {vs : List Value} (h : VReps fa F loc l vs) : pures l = true → VReps fa F loc' l vs :=
  VReps.rec (motive_1 := fun d v _ => d.pure = true → VRep fa F loc' d v) (motive_2 := fun l vs _ => pures l = true → VReps fa F loc' l vs) (fun _ => .none) (fun b _ => .bool b) (fun i t _ => .int i t)
    (fun e h _ ih p => .list e h (ih p)) (fun e h _ ih p => .tup e h (ih p)) (fun _ p => Bool.noConfusion p) (fun k _ => .fn k) (fun _ => .nil)
    (fun _ _ ih ihs p => .cons (ih (Bool.and_eq_true_iff.mp p).1) (ihs (Bool.and_eq_true_iff.mp p).2)) h

/-- by steps along the list -/
theorem VReps.ind {fa : Nat → Addr} {F : Gm} {loc : List Addr} {C : List Dv → List Value → Prop} (nil : C [] []) (cons : ∀ d v l vs, VRep fa F loc d v → VReps fa F loc l vs → C l vs → C (d :: l) (v :: vs)) {l : List Dv} {vs : List Value}
    (h : VReps fa F loc l vs) : C l vs :=
  VReps.rec (motive_1 := fun _ _ _ => True) (motive_2 := fun l vs _ => C l vs) trivial (fun _ => trivial) (fun _ _ => trivial) (fun _ _ _ _ => trivial) (fun _ _ _ _ => trivial) (fun _ => trivial) (fun _ => trivial)
    nil (fun h r _ ih => cons _ _ _ _ h r ih) h
theorem VReps.length {fa : Nat → Addr} {F : Gm} {loc : List Addr} {l : List Dv} {vs : List Value} (h : VReps fa F loc l vs) : l.length = vs.length :=
  h.ind (C := fun l vs => l.length = vs.length) rfl fun _ _ _ _ _ _ ih => congrArg Nat.succ ih
theorem VReps.get {fa : Nat → Addr} {F : Gm} {loc : List Addr} {l : List Dv} {vs : List Value} (h : VReps fa F loc l vs) : ∀ {i : Nat} {d : Dv}, l[i]? = some d → ∃ v, vs[i]? = some v ∧ VRep fa F loc d v := by
  refine h.ind (C := fun l vs => ∀ {i : Nat} {d : Dv}, l[i]? = some d → ∃ v, vs[i]? = some v ∧ VRep fa F loc d v) (fun e => ?_) fun d v l vs h r ih i d' e => ?_
  · cases e
  · cases i with
    | zero => cases e; exact ⟨v, rfl, h⟩
    | succ i => exact ih (i := i) e
theorem VReps.append {fa : Nat → Addr} {F : Gm} {loc : List Addr} {l : List Dv} {vs : List Value} {m : List Dv} {us : List Value} (h : VReps fa F loc l vs) (h' : VReps fa F loc m us) : VReps fa F loc (l ++ m) (vs ++ us) :=
  h.ind (C := fun l vs => VReps fa F loc (l ++ m) (vs ++ us)) h' fun _ _ _ _ h _ ih => .cons h ih
theorem VReps.set {fa : Nat → Addr} {F : Gm} {loc : List Addr} {d : Dv} {v : Value} (hv : VRep fa F loc d v) {l : List Dv} {vs : List Value} (h : VReps fa F loc l vs) : ∀ i : Nat, VReps fa F loc (l.set i d) (vs.set i v) := by
  refine h.ind (C := fun l vs => ∀ i : Nat, VReps fa F loc (l.set i d) (vs.set i v)) (fun _ => .nil) fun _ _ _ _ h r ih i => ?_
  cases i with
  | zero => exact .cons hv r
  | succ i => exact .cons h (ih i)
theorem VReps.take {fa : Nat → Addr} {F : Gm} {loc : List Addr} {l : List Dv} {vs : List Value} (h : VReps fa F loc l vs) : ∀ i : Nat, VReps fa F loc (l.take i) (vs.take i) := by
  refine h.ind (C := fun l vs => ∀ i : Nat, VReps fa F loc (l.take i) (vs.take i)) (fun i => ?_) fun _ _ _ _ h r ih i => ?_
  · cases i <;> exact .nil
  · cases i with
    | zero => exact .nil
    | succ i => exact .cons h (ih i)
theorem VReps.drop {fa : Nat → Addr} {F : Gm} {loc : List Addr} {l : List Dv} {vs : List Value} (h : VReps fa F loc l vs) : ∀ i : Nat, VReps fa F loc (l.drop i) (vs.drop i) := by
  refine h.ind (C := fun l vs => ∀ i : Nat, VReps fa F loc (l.drop i) (vs.drop i)) (fun i => ?_) fun _ _ _ _ h r ih i => ?_
  · cases i <;> exact .nil
  · cases i with
    | zero => exact .cons h r
    | succ i => exact ih i
theorem VReps.reverse {fa : Nat → Addr} {F : Gm} {loc : List Addr} {l : List Dv} {vs : List Value} (h : VReps fa F loc l vs) : VReps fa F loc l.reverse vs.reverse := by
  refine h.ind (C := fun l vs => VReps fa F loc l.reverse vs.reverse) .nil fun _ _ _ _ h _ ih => ?_
  rw [List.reverse_cons, List.reverse_cons]
  exact VReps.append ih (.cons h .nil)
theorem VReps.replicate {fa : Nat → Addr} {F : Gm} {loc : List Addr} {l : List Dv} {vs : List Value} (h : VReps fa F loc l vs) : ∀ n : Nat, VReps fa F loc (List.replicate n l).flatten (List.replicate n vs).flatten
  | 0 => by simpa using VReps.nil
  | n + 1 => by
    rw [List.replicate_succ, List.replicate_succ, List.flatten_cons, List.flatten_cons]
    exact VReps.append h (VReps.replicate h n)

theorem pures_iff : ∀ {l : List Dv}, pures l = true ↔ ∀ d ∈ l, d.pure = true
  | [] => by simp [pures]
  | d :: r => by rw [pures, Bool.and_eq_true, pures_iff (l := r)]; simp

end Mine
end

section
open PySem PySem.W PyProof.Rows
set_option Elab.async false
set_option maxRecDepth 100000
set_option genSizeOf false
set_option maxHeartbeats 1000000
set_option autoImplicit false
set_option linter.unusedVariables false
namespace Mine

set_option genInjectivity false in
/-- the program's constants: the heap and the names as the top has left them -/
structure PG where
  prog : Program
  w : World
  H0 : Heap
  gens : Array GenState
  os : OsState
  mg : Str → Option Value
  mb : Str → Option Value
  fa : Nat → Addr
  fname : Nat → Str
  fd : Nat → FuncData

noncomputable def biTable : List (Str × Value) := [("len", .builtin "len"), ("sum", .builtin "sum"), ("min", .builtin "min"), ("abs", .builtin "abs"), ("int", .type "int"),
  ("range", .type "range"), ("enumerate", .type "enumerate"), ("zip", .type "zip")]

structure PG.Ok (P : PG) : Prop where
  hg : P.H0.Ns mainGlobals P.mg
  hb : P.H0.Ns builtinsNs P.mb
  hlim : P.H0.NoLimit
  hsys : sysModules < P.H0.objs.size
  hfn : ∀ k, P.mg (P.fname k) = some (.ref (P.fa k)) ∧ (∃ o, P.H0.get? (P.fa k) = some o ∧ o.data = .func (P.fd k)) ∧ P.H0.CodeRec (P.fd k).code (P.fd k).qualname
  hname : ∃ n t, P.mg "__name__" = some (.str n t) ∧ (n == ("__main__" : Str)) = false ∧ P.prog.modules.lookup n = none
  hbi : ∀ x v, biTable.lookup x = some v → P.mg x = none ∧ P.mb x = some v

/-- room for n more calls, one inside another -/
noncomputable def AOk (n : Nat) (A : Around) : Prop := A.handled = none ∧ A.depth + n < recursionLimit ∧ A.units + 8 * n + 100 < cLine

theorem AOk.deeper {n : Nat} {A : Around} (h : AOk (n + 1) A) (env : Env) : AOk n (A.deeper env) :=
  ⟨h.1, by show A.depth + 1 + n < _; rw [Nat.add_assoc, Nat.add_comm 1]; exact h.2.1,
    Nat.lt_of_le_of_lt (Nat.add_le_add_right (by show A.units + 3 + 8 * n ≤ _; rw [Nat.mul_succ, Nat.add_assoc, Nat.add_comm 3]; exact Nat.add_le_add_left (Nat.add_le_add_left (by decide) _) _) 100) h.2.2⟩

noncomputable def NoE : Value → Shared → Prop := fun _ _ => False

theorem noE' {α : Type} {M : Model} {A : Around} {t : Sem α} {Q Q' : α → Shared → Prop} {E : Value → Shared → Prop} {s : Shared} (h : wpAny M A t Q NoE s) (hQ : ∀ a s, Q a s → Q' a s) : wpAny M A t Q' E s :=
  wpAny_mono h hQ fun _ _ f => f.elim

inductive KVs (fa : Nat → Addr) (F : Gm) : List (Int × Dv) → List (Int × Value) → Prop
  | nil : KVs fa F [] []
  | cons {k : Int} {d : Dv} {v : Value} {l : List (Int × Dv)} {vs : List (Int × Value)} : VRep fa F [] d v → KVs fa F l vs → KVs fa F ((k, d) :: l) ((k, v) :: vs)

theorem KVs.mono {fa : Nat → Addr} {F F' : Gm} (x : Gsub F F') : ∀ {l : List (Int × Dv)} {vs : List (Int × Value)}, KVs fa F l vs → KVs fa F' l vs
  := by
  intro l vs h
  induction h with
  | nil => exact .nil
  | cons h _ ih => exact .cons (h.mono ⟨x, List.prefix_refl _⟩) ih

/-- a mutable object at a -/
noncomputable def MRep (P : PG) (F : Gm) : Mo → Heap → Addr → Prop
  | .list l, h, a => ∃ o vs, h.get? a = some o ∧ IsL o vs ∧ VReps P.fa F [] l vs
  | .dict kvs, h, a => ∃ kvs', h.DictOf (intKind P.prog P.w) a kvs' ∧ KVs P.fa F kvs kvs'

theorem dictOf_at {prog : Program} {w : World} {K : Type} [DecidableEq K] {knd : KeyKind prog w K} {h h' : Heap} {a : Addr} {kvs : List (K × Value)}
    (x : h.DictOf knd a kvs) (e : ∀ o, h.get? a = some o → h'.get? a = some o) : h'.DictOf knd a kvs := by
  obtain ⟨o, es, ep, ho, r⟩ := x
  exact ⟨o, es, ep, e o ho, r⟩

theorem MRep.at {P : PG} {F : Gm} {mo : Mo} {h h' : Heap} {a : Addr} (x : MRep P F mo h a) (e : ∀ o, h.get? a = some o → h'.get? a = some o) : MRep P F mo h' a := by
  cases mo with
  | list l => obtain ⟨o, vs, ho, r⟩ := x; exact ⟨o, vs, e o ho, r⟩
  | dict l => obtain ⟨kvs, hd, r⟩ := x; exact ⟨kvs, dictOf_at hd e, r⟩
theorem MRep.mono {P : PG} {F F' : Gm} {mo : Mo} {h : Heap} {a : Addr} (g : Gsub F F') (x : MRep P F mo h a) : MRep P F' mo h a := by
  cases mo with
  | list l => obtain ⟨o, vs, ho, hl, r⟩ := x; exact ⟨o, vs, ho, hl, r.mono ⟨g, List.prefix_refl _⟩⟩
  | dict l => obtain ⟨kvs, hd, r⟩ := x; exact ⟨kvs, hd, r.mono g⟩
theorem MRep.ex {P : PG} {F : Gm} {mo : Mo} {h : Heap} {a : Addr} (x : MRep P F mo h a) : ∃ o, h.get? a = some o := by
  cases mo with
  | list l => obtain ⟨o, vs, ho, r⟩ := x; exact ⟨o, ho⟩
  | dict l => obtain ⟨kvs, ⟨o, es, ep, ho, r⟩, _⟩ := x; exact ⟨o, ho⟩
/-- the store: an entry is none while an outer loop walks over that object -/
abbrev St := List (Option Mo)

/-- the heap side: immutables in F, mutables at loc, the top's objects stand -/
structure HSim (P : PG) (F : Gm) (loc : List Addr) (st : St) (s : Shared) : Prop where
  keepF : ∀ a o, F a = some o → s.heap.get? a = some o
  len : loc.length = st.length
  mrep : ∀ (n : Nat) (a : Addr) (mo : Mo), loc[n]? = some a → st[n]? = some (some mo) → MRep P F mo s.heap a
  nodup : ∀ (n m : Nat) (a : Addr), loc[n]? = some a → loc[m]? = some a → n = m
  ex : ∀ a ∈ loc, ∃ o, s.heap.get? a = some o
  apart : ∀ a ∈ loc, F a = none
  low : ∀ a ∈ loc, P.H0.objs.size ≤ a
  h0 : ∀ a o, P.H0.get? a = some o → s.heap.get? a = some o
  gens : s.gens = P.gens
  os : s.os = P.os

set_option genInjectivity false in
/-- what a frame is laid over -/
structure Cx where
  env : Env
  N : List (Option Str)
  own : List Str
  base : Gm
  old : Addr → Prop
  lim : Nat
  wit : Addr

abbrev Frm := List (Option Dv)

structure Sim (P : PG) (X : Cx) (F : Gm) (loc : List Addr) (st : St) (fr : Frm) (s : Shared) : Prop extends HSim P F loc st s where
  frm : ∃ (m : Str → Option Value) (cm : Str → Option Value), s.heap.Ns X.env.locals m ∧ (∀ nm c, X.env.cells.lookup nm = some c → s.heap.IsCell c (cm nm)) ∧
    ∀ (i : Nat) (nm : Str) (d : Dv), X.N[i]? = some (some nm) → fr[i]? = some (some d) → ∃ v, VRep P.fa F loc d v ∧
      ((X.env.kindOf nm = some .local ∧ m nm = some v) ∨ (X.env.kindOf nm = some .cell ∧ cm nm = some v ∧ ∃ c, X.env.cells.lookup nm = some c))
  lF : F X.env.locals = none
  lLoc : X.env.locals ∉ loc
  lB : X.base X.env.locals = none
  l0 : P.H0.get? X.env.locals = none
  oF : ∀ nm ∈ X.own, ∀ c, X.env.cells.lookup nm = some c → F c = none ∧ c ∉ loc ∧ X.base c = none ∧ P.H0.get? c = none ∧ c ≠ X.env.locals
  oInj : ∀ nm ∈ X.own, ∀ nm' c, X.env.cells.lookup nm = some c → X.env.cells.lookup nm' = some c → nm = nm'
  base : ∀ a o, X.base a = some o → s.heap.get? a = some o
  baseLoc : ∀ (n : Nat) (a : Addr) (mo : Mo), loc[n]? = some a → st[n]? = some (some mo) → X.base a = none
  newF : ∀ a, F a ≠ none → X.old a ∨ X.lim ≤ a
  newLoc : ∀ a ∈ loc, X.old a ∨ X.lim ≤ a
  limW : X.lim ≤ X.wit + 1
  witE : X.wit = X.env.locals ∨ X.base X.wit ≠ none
  limH : P.H0.objs.size ≤ X.lim

/-- the frame's static side -/
structure Cx.Ok (X : Cx) : Prop where
  kind : X.env.scope.kind = .function
  glob : X.env.globals = mainGlobals
  blt : X.env.builtins = builtinsNs
  inj : ∀ (i j : Nat) (nm : Str), X.N[i]? = some (some nm) → X.N[j]? = some (some nm) → i = j
  nodeb : ∀ (i : Nat) (nm : Str), X.N[i]? = some (some nm) → (nm == ("__debug__" : Str)) = false
  own : ∀ (i : Nat) (nm : Str), X.N[i]? = some (some nm) → X.env.kindOf nm = some .local ∨ X.env.kindOf nm = some .cell

theorem mem_of_get {l : List Addr} {n : Nat} {a : Addr} (e : l[n]? = some a) : a ∈ l := List.mem_of_getElem? e
theorem get_of_mem {l : List Addr} {a : Addr} (h : a ∈ l) : ∃ n : Nat, l[n]? = some a := List.mem_iff_getElem?.mp h

theorem HSim.lowN {P : PG} {F : Gm} {loc : List Addr} {st : St} {s : Shared} (S : HSim P F loc st s) {a : Addr} (ha : a ∈ loc) : P.H0.get? a = none := by
  cases e : P.H0.get? a with
  | none => rfl
  | some o => exact absurd (Heap.lt_size e) (Nat.not_lt.mpr (S.low a ha))

theorem HSim.keepsIn {P : PG} {F : Gm} {loc : List Addr} {st : St} {s s' : Shared} (S : HSim P F loc st s)
    (hk : ∀ a o, (F a ≠ none ∨ a ∈ loc ∨ P.H0.get? a ≠ none) → s.heap.get? a = some o → s'.heap.get? a = some o) (hg : s'.gens = s.gens) (ho : s'.os = s.os) : HSim P F loc st s' where
  keepF := fun a o e => hk a o (.inl (by rw [e]; exact nofun)) (S.keepF a o e)
  len := S.len
  mrep := fun n a mo e1 e2 => (S.mrep n a mo e1 e2).at fun o e => hk a o (.inr (.inl (mem_of_get e1))) e
  nodup := S.nodup
  ex := fun a ha => let ⟨o, e⟩ := S.ex a ha; ⟨o, hk a o (.inr (.inl ha)) e⟩
  apart := S.apart
  low := S.low
  h0 := fun a o e => hk a o (.inr (.inr (by rw [e]; exact nofun))) (S.h0 a o e)
  gens := hg.trans S.gens
  os := ho.trans S.os

theorem HSim.keeps {P : PG} {F : Gm} {loc : List Addr} {st : St} {s s' : Shared} (S : HSim P F loc st s)
    (hk : ∀ a o, s.heap.get? a = some o → s'.heap.get? a = some o) (hg : s'.gens = s.gens) (ho : s'.os = s.os) : HSim P F loc st s' :=
  S.keepsIn (fun a o _ => hk a o) hg ho

/-- what must not be changed behind a Sim's back -/
noncomputable def Cx.held (P : PG) (X : Cx) (F : Gm) (loc : List Addr) (a : Addr) : Prop :=
  F a ≠ none ∨ a ∈ loc ∨ P.H0.get? a ≠ none ∨ X.base a ≠ none ∨ a = X.env.locals ∨ ∃ nm, X.env.cells.lookup nm = some a

theorem Sim.keepsIn {P : PG} {X : Cx} {F : Gm} {loc : List Addr} {st : St} {fr : Frm} {s s' : Shared} (S : Sim P X F loc st fr s)
    (hk : ∀ a o, X.held P F loc a → s.heap.get? a = some o → s'.heap.get? a = some o) (hg : s'.gens = s.gens) (ho : s'.os = s.os) : Sim P X F loc st fr s' where
  toHSim := S.toHSim.keepsIn (fun a o q e => hk a o (by rcases q with q | q | q <;> first | exact .inl q | exact .inr (.inl q) | exact .inr (.inr (.inl q))) e) hg ho
  frm := by
    obtain ⟨m, cm, hn, hc, hf⟩ := S.frm
    refine ⟨m, cm, ?_, fun nm c e => ?_, hf⟩
    · obtain ⟨o, es, ep, ho', r⟩ := hn
      exact ⟨o, es, ep, hk _ o (by right; right; right; right; left; rfl) ho', r⟩
    · obtain ⟨o, ho', r⟩ := hc nm c e
      exact ⟨o, hk _ o (by right; right; right; right; right; exact ⟨nm, e⟩) ho', r⟩
  lF := S.lF
  lLoc := S.lLoc
  lB := S.lB
  l0 := S.l0
  oF := S.oF
  oInj := S.oInj
  base := fun a o e => hk a o (by right; right; right; left; rw [e]; exact nofun) (S.base a o e)
  baseLoc := S.baseLoc
  newF := S.newF
  newLoc := S.newLoc
  limW := S.limW
  witE := S.witE
  limH := S.limH

theorem Sim.keeps {P : PG} {X : Cx} {F : Gm} {loc : List Addr} {st : St} {fr : Frm} {s s' : Shared} (S : Sim P X F loc st fr s)
    (hk : ∀ a o, s.heap.get? a = some o → s'.heap.get? a = some o) (hg : s'.gens = s.gens := by rfl) (ho : s'.os = s.os := by rfl) : Sim P X F loc st fr s' :=
  S.keepsIn (fun a o _ => hk a o) hg ho

theorem Sim.toks {P : PG} {X : Cx} {F : Gm} {loc : List Addr} {st : St} {fr : Frm} {s : Shared} (S : Sim P X F loc st fr s) (t : Nat) : Sim P X F loc st fr { s with toks := t } :=
  S.keeps (fun _ _ e => e)
theorem Sim.push {P : PG} {X : Cx} {F : Gm} {loc : List Addr} {st : St} {fr : Frm} {s : Shared} (S : Sim P X F loc st fr s) (o : Obj) : Sim P X F loc st fr { s with heap := s.heap.push o } :=
  S.keeps (fun _ _ e => Heap.get?_push_of_some _ e)

/-- every held address lies below the heap's size -/
theorem Sim.held_lt {P : PG} {X : Cx} {F : Gm} {loc : List Addr} {st : St} {fr : Frm} {s : Shared} (S : Sim P X F loc st fr s) {a : Addr} (h : X.held P F loc a) : a < s.heap.objs.size := by
  rcases h with h | h | h | h | h | ⟨nm, h⟩
  · cases e : F a with
    | none => exact absurd e h
    | some o => exact Heap.lt_size (S.keepF a o e)
  · obtain ⟨o, e⟩ := S.ex a h; exact Heap.lt_size e
  · cases e : P.H0.get? a with
    | none => exact absurd e h
    | some o => exact Heap.lt_size (S.h0 a o e)
  · cases e : X.base a with
    | none => exact absurd e h
    | some o => exact Heap.lt_size (S.base a o e)
  · obtain ⟨m, cm, hn, _⟩ := S.frm; rw [h]; exact hn.lt
  · obtain ⟨m, cm, _, hc, _⟩ := S.frm; exact (hc nm a h).lt

noncomputable def Gm.put (F : Gm) (a : Addr) (o : Obj) : Gm := fun b => if b = a then some o else F b
theorem Gm.put_same {F : Gm} {a : Addr} {o : Obj} : F.put a o a = some o := if_pos rfl
theorem Gm.put_ne {F : Gm} {a b : Addr} {o : Obj} (h : b ≠ a) : F.put a o b = F b := if_neg h
theorem Gsub.put {F : Gm} {a : Addr} {o : Obj} (h : F a = none) : Gsub F (F.put a o) := fun b ob e => by
  by_cases hb : b = a
  · rw [hb, h] at e; cases e
  · rw [Gm.put_ne hb]; exact e

/-- a new immutable object -/
theorem Sim.putF {P : PG} {X : Cx} {F : Gm} {loc : List Addr} {st : St} {fr : Frm} {s : Shared} (S : Sim P X F loc st fr s) {a : Addr} {o : Obj} (ha : s.heap.get? a = some o) (hn : ¬ X.held P F loc a) (hlim : X.lim ≤ a) :
    Ext F loc (F.put a o) loc ∧ Sim P X (F.put a o) loc st fr s := by
  have hFa : F a = none := by
    cases e : F a with
    | none => rfl
    | some o' => exact absurd (.inl (by rw [e]; exact nofun)) hn
  have hsub : Gsub F (F.put a o) := Gsub.put hFa
  refine ⟨⟨hsub, List.prefix_refl _⟩, ⟨⟨fun b ob e => ?_, S.len, fun n b mo e1 e2 => (S.mrep n b mo e1 e2).mono hsub, S.nodup, S.ex, fun b hb => ?_, S.low, S.h0, S.gens, S.os⟩, ?_, ?_, S.lLoc, S.lB, S.l0, fun nm hnm c hc => ?_, S.oInj, S.base, S.baseLoc, fun b hb => ?_, S.newLoc, S.limW, S.witE, S.limH⟩⟩
  · by_cases hb : b = a
    · subst hb; rw [Gm.put_same] at e; cases e; exact ha
    · rw [Gm.put_ne hb] at e; exact S.keepF b ob e
  · rw [Gm.put_ne (fun q => hn (by right; left; exact q ▸ hb))]; exact S.apart b hb
  · obtain ⟨m, cm, h1, h2, h3⟩ := S.frm
    exact ⟨m, cm, h1, h2, fun i nm d e1 e2 => let ⟨v, hv, r⟩ := h3 i nm d e1 e2; ⟨v, hv.mono ⟨hsub, List.prefix_refl _⟩, r⟩⟩
  · rw [Gm.put_ne (fun q => hn (by right; right; right; right; left; exact q.symm))]; exact S.lF
  · obtain ⟨h1, h2⟩ := S.oF nm hnm c hc
    exact ⟨by rw [Gm.put_ne (fun q => hn (by right; right; right; right; right; exact ⟨nm, q ▸ hc⟩))]; exact h1, h2⟩
  · by_cases q : b = a
    · exact .inr (q ▸ hlim)
    · rw [Gm.put_ne q] at hb; exact S.newF b hb

theorem Sim.lim_le {P : PG} {X : Cx} {F : Gm} {loc : List Addr} {st : St} {fr : Frm} {s : Shared} (S : Sim P X F loc st fr s) : X.lim ≤ s.heap.objs.size := by
  have h : X.wit < s.heap.objs.size := by
    rcases S.witE with h | h
    · rw [h]; exact S.held_lt (by right; right; right; right; left; rfl)
    · exact S.held_lt (by right; right; right; left; exact h)
  exact Nat.le_trans S.limW (Nat.succ_le_of_lt h)

/-- an object pushed, then held as an immutable -/
theorem Sim.alloc {P : PG} {X : Cx} {F : Gm} {loc : List Addr} {st : St} {fr : Frm} {s : Shared} (S : Sim P X F loc st fr s) (o : Obj) (hf : o.isFreed = false) :
    Ext F loc (F.put s.heap.objs.size o) loc ∧ Sim P X (F.put s.heap.objs.size o) loc st fr { s with heap := s.heap.push o } :=
  (S.push o).putF (Heap.get?_push_size _ hf) (fun h => by
    have := S.held_lt (a := s.heap.objs.size) h
    exact Nat.lt_irrefl _ this) S.lim_le

/-- an object that nothing holds is laid as a mutable one -/
theorem Sim.layM {P : PG} {X : Cx} {F : Gm} {loc : List Addr} {st : St} {fr : Frm} {s' : Shared} (S' : Sim P X F loc st fr s') {a : Addr} {mo : Mo} (hm : MRep P F mo s'.heap a) (nh : ¬ X.held P F loc a) (hlim : X.lim ≤ a) :
    Ext F loc F (loc ++ [a]) ∧ Sim P X F (loc ++ [a]) (st ++ [some mo]) fr s' := by
  have S := S'
  have hFa : F a = none := by
    cases e : F a with
    | none => rfl
    | some o' => exact absurd (.inl (by rw [e]; exact nofun)) nh
  have hBa : X.base a = none := by
    cases e : X.base a with
    | none => rfl
    | some o' => exact absurd (by right; right; right; left; rw [e]; exact nofun) nh
  have hHa : P.H0.get? a = none := by
    cases e : P.H0.get? a with
    | none => rfl
    | some o' => exact absurd (by right; right; left; rw [e]; exact nofun) nh
  have hpre : Ext F loc F (loc ++ [a]) := ⟨Gsub.refl F, List.prefix_append _ _⟩
  have hal : a ∉ loc := fun h => nh (.inr (.inl h))
  have cases_get : ∀ {n : Nat} {b : Addr}, (loc ++ [a])[n]? = some b → (loc[n]? = some b ∧ n < loc.length) ∨ (n = loc.length ∧ b = a) := fun {n b} e => by
    rcases Nat.lt_trichotomy n loc.length with h | h | h
    · rw [List.getElem?_append_left h] at e; exact .inl ⟨e, h⟩
    · subst h; simp at e; exact .inr ⟨rfl, e.symm⟩
    · rw [List.getElem?_eq_none (by rw [List.length_append, List.length_singleton]; omega)] at e; cases e
  have st_get : ∀ {n : Nat}, n < loc.length → (st ++ [some mo])[n]? = st[n]? := fun {n} h => List.getElem?_append_left (by rw [← S.len]; exact h)
  refine ⟨hpre, ⟨⟨S'.keepF, by rw [List.length_append, List.length_append, S.len]; rfl, fun n b mo' e1 e2 => ?_, fun n k b e1 e2 => ?_, fun b hb => ?_, fun b hb => ?_, fun b hb => ?_, S'.h0, S'.gens, S'.os⟩, ?_, S.lF, ?_, S.lB, S.l0, fun nm hnm c hc => ?_, S.oInj, S'.base, fun n b mo' e1 e2 => ?_, S.newF, fun b hb => ?_, S.limW, S.witE, S.limH⟩⟩
  · rcases cases_get e1 with ⟨e, h⟩ | ⟨rfl, rfl⟩
    · rw [st_get h] at e2; exact S'.mrep n b mo' e e2
    · rw [S.len] at e2; simp at e2; subst e2; exact hm
  · rcases cases_get e1 with ⟨e, h⟩ | ⟨rfl, rfl⟩ <;> rcases cases_get e2 with ⟨e', h'⟩ | ⟨rfl, q⟩
    · exact S.nodup n k b e e'
    · exact absurd (q ▸ mem_of_get e) hal
    · exact absurd (mem_of_get e') hal
    · rfl
  · rcases List.mem_append.mp hb with hb | hb
    · exact S'.ex b hb
    · rw [List.mem_singleton.mp hb]; exact hm.ex
  · rcases List.mem_append.mp hb with hb | hb
    · exact S.apart b hb
    · rw [List.mem_singleton.mp hb]; exact hFa
  · rcases List.mem_append.mp hb with hb | hb
    · exact S.low b hb
    · rw [List.mem_singleton.mp hb]; exact Nat.le_trans S.limH hlim
  · obtain ⟨m, cm, h1, h2, h3⟩ := S'.frm
    exact ⟨m, cm, h1, h2, fun i nm d e1 e2 => let ⟨v, hv, r⟩ := h3 i nm d e1 e2; ⟨v, hv.mono hpre, r⟩⟩
  · intro h
    rcases List.mem_append.mp h with h | h
    · exact S.lLoc h
    · exact nh (by right; right; right; right; left; exact (List.mem_singleton.mp h).symm)
  · obtain ⟨h1, h2, h3⟩ := S.oF nm hnm c hc
    refine ⟨h1, fun h => ?_, h3⟩
    rcases List.mem_append.mp h with h | h
    · exact h2 h
    · exact nh (by right; right; right; right; right; exact ⟨nm, (List.mem_singleton.mp h) ▸ hc⟩)
  · rcases cases_get e1 with ⟨e, h⟩ | ⟨rfl, rfl⟩
    · rw [st_get h] at e2; exact S.baseLoc n b mo' e e2
    · exact hBa
  · rcases List.mem_append.mp hb with hb | hb
    · exact S.newLoc b hb
    · rw [List.mem_singleton.mp hb]; exact .inr hlim

/-- a mutable object laid -/
theorem Sim.allocM {P : PG} {X : Cx} {F : Gm} {loc : List Addr} {st : St} {fr : Frm} {s s' : Shared} (S : Sim P X F loc st fr s) {a : Addr} {mo : Mo} (hk : ∀ b o, s.heap.get? b = some o → s'.heap.get? b = some o)
    (hg : s'.gens = s.gens) (ho : s'.os = s.os) (hm : MRep P F mo s'.heap a) (hn : s.heap.objs.size ≤ a) :
    Ext F loc F (loc ++ [a]) ∧ Sim P X F (loc ++ [a]) (st ++ [some mo]) fr s' :=
  (S.keeps hk hg ho).layM hm (fun h => Nat.lt_irrefl _ (Nat.lt_of_lt_of_le (S.held_lt h) hn)) (Nat.le_trans S.lim_le hn)

/-- a mutable object written -/
theorem Sim.write {P : PG} {X : Cx} {F : Gm} {loc : List Addr} {st : St} {fr : Frm} {s s' : Shared} (S : Sim P X F loc st fr s) {n : Nat} {a : Addr} {mo mo' : Mo} (hl : loc[n]? = some a) (hst : st[n]? = some (some mo))
    (hb : Heap.SameBut a s.heap s'.heap) (hg : s'.gens = s.gens) (ho : s'.os = s.os) (hm : MRep P F mo' s'.heap a) : Sim P X F loc (st.set n (some mo')) fr s' := by
  have ha : a ∈ loc := mem_of_get hl
  have hk : ∀ b o, b ≠ a → s.heap.get? b = some o → s'.heap.get? b = some o := fun b o h e => (hb.2 b h).trans e
  have hBa := S.baseLoc n a mo hl hst
  have hnl : n < st.length := by
    rcases Nat.lt_or_ge n st.length with h | h
    · exact h
    · rw [List.getElem?_eq_none h] at hst; cases hst
  refine ⟨⟨fun b o e => hk b o (fun q => ?_) (S.keepF b o e), by rw [List.length_set]; exact S.len, fun k b mo₁ e1 e2 => ?_, S.nodup, fun b hb' => ?_, S.apart, S.low, fun b o e => hk b o (fun q => ?_) (S.h0 b o e), hg.trans S.gens, ho.trans S.os⟩, ?_, S.lF, S.lLoc, S.lB, S.l0, S.oF, S.oInj, fun b o e => hk b o (fun q => ?_) (S.base b o e), fun k b mo₁ e1 e2 => ?_, S.newF, S.newLoc, S.limW, S.witE, S.limH⟩
  · rw [q, S.apart a ha] at e; cases e
  · by_cases hk' : k = n
    · subst hk'
      rw [hl] at e1; cases e1
      rw [List.getElem?_set_self hnl] at e2; cases e2
      exact hm
    · rw [List.getElem?_set_ne (Ne.symm hk')] at e2
      exact (S.mrep k b mo₁ e1 e2).at fun o e => hk b o (fun q => hk' (S.nodup k n a (q ▸ e1) hl)) e
  · by_cases q : b = a
    · rw [q]; exact hm.ex
    · obtain ⟨o, e⟩ := S.ex b hb'; exact ⟨o, hk b o q e⟩
  · rw [q, S.lowN ha] at e; cases e
  · obtain ⟨m, cm, h1, h2, h3⟩ := S.frm
    refine ⟨m, cm, ?_, fun nm c e => ?_, h3⟩
    · obtain ⟨o, es, ep, ho', r⟩ := h1
      exact ⟨o, es, ep, hk _ o (fun q => S.lLoc (q ▸ ha)) ho', r⟩
    · obtain ⟨o, ho', r⟩ := h2 nm c e
      refine ⟨o, hk _ o (fun q => ?_) ho', r⟩
      have h4 := S.mrep n a mo hl hst
      subst q
      have ho'' : s.heap.get? c = some o := ho'
      cases mo with
      | list l => obtain ⟨o₁, vs, e1, ⟨k, e2⟩, _⟩ := h4; rw [ho''] at e1; cases e1; rw [e2] at r; cases r
      | dict l => obtain ⟨kvs, ⟨o₁, es, ep, e1, _, e2, _⟩, _⟩ := h4; rw [ho''] at e1; cases e1; rw [e2] at r; cases r
  · rw [q, hBa] at e; cases e
  · by_cases hk' : k = n
    · subst hk'; rw [hl] at e1; cases e1; exact hBa
    · rw [List.getElem?_set_ne (Ne.symm hk')] at e2; exact S.baseLoc k b mo₁ e1 e2
end Mine
end

section
open PySem PySem.W PyProof.Rows
set_option Elab.async false
set_option maxRecDepth 100000
set_option genSizeOf false
set_option genInjectivity false
set_option maxHeartbeats 1000000
set_option autoImplicit false
set_option linter.unusedVariables false
namespace Mine

inductive Bi where
  | len | sum | min | abs | int
  deriving DecidableEq
noncomputable def Bi.name : Bi → Str
  | .len => "len" | .sum => "sum" | .min => "min" | .abs => "abs" | .int => "int"

inductive Tg where
  | one (x : Nat)
  | two (x y : Nat)

mutual
inductive ME where
  | int (i : Int)
  | none
  | bool (b : Bool)
  | var (x : Nat)
  | fn (k : Nat)
  | bin (op : Operator) (mk : Bool) (a b : ME)
  | neg (a : ME)
  | ife (t : MT) (a b : ME)
  | cmp (op : CmpOp) (a b : ME)
  | and3 (a b c : ME)
  | call (f : ME) (args : MEs)
  | bi (f : Bi) (args : MEs)
  | bitlen (a : ME)
  | item (a i : ME)
  | slice (a : ME) (lo hi st : MEo)
  | list (mk : Bool) (l : MEs)
  | tup (l : MEs)
  | dict0
  | comp (elt : ME) (tg : Tg) (it : MI) (conds : MTs)
inductive MT where
  | not (t : MT)
  | and (l : MTs)
  | or (l : MTs)
  | cmp (op : CmpOp) (a b : ME)
  | val (e : ME)
inductive MTs where
  | nil
  | cons (t : MT) (r : MTs)
inductive MEo where
  | no
  | yes (e : ME)
inductive MEs where
  | nil
  | cons (e : ME) (r : MEs)
inductive MI where
  | lst (e : ME)
  | range1 (a : ME)
  | range2 (a b : ME)
  | range3 (a b c : ME)
  | enum (e : ME)
  | zip (a b : ME)
end

mutual
inductive MS where
  | asg (x : Nat) (e : ME)
  | unp (xs : List Nat) (e : ME)
  | seti (o i e : ME)
  | aug (x : Nat) (op : Operator) (e : ME)
  | iff (t : MT) (a b : MSs)
  | whil (t : MT) (b : MSs)
  | forr (tg : Tg) (it : MI) (b : MSs)
  | ret (e : ME)
  | app (o e : ME)
  | raise
inductive MSs where
  | nil
  | cons (s : MS) (r : MSs)
end

/-! what an operation asks and gives -/

noncomputable def its (st : St) : Dv → Option (List Dv)
  | .list l => some l
  | .ref n => match st[n]? with
    | some (some (.list l)) => some l
    | _ => none
  | _ => none

noncomputable def iL (l : List Int) : List Dv := l.map .int
noncomputable def iLL (l : List (List Int)) : List Dv := l.map fun x => .list (iL x)

noncomputable def mkL (mk : Bool) (st : St) (l : List Dv) (Q : Dv → St → Prop) : Prop :=
  match mk with
  | true => pures l = true ∧ Q (.ref st.length) (st ++ [some (.list l)])
  | false => Q (.list l) st

noncomputable def big : Nat := 2 ^ 62

abbrev asInt : Dv → Option Int
  | .int x => some x
  | _ => none
abbrev asBool : Dv → Option Bool
  | .bool x => some x
  | _ => none
noncomputable def arith (op : Operator) (st : St) (x y : Int) (Q : Dv → St → Prop) : Prop :=
  match op with
  | .Add => Q (.int (x + y)) st
  | .Sub => Q (.int (x - y)) st
  | .Mult => (x.natAbs < 2 ^ 64 ∨ y.natAbs < 2 ^ 64) ∧ Q (.int (x * y)) st
  | .FloorDiv => y ≠ 0 ∧ y.natAbs < 2 ^ 64 ∧ Q (.int (x.fdiv y)) st
  | .Mod => y ≠ 0 ∧ Q (.int (x.fmod y)) st
  | .Pow => 0 ≤ y ∧ y < 10000 ∧ x.natAbs < 2 ^ 64 ∧ Q (.int (x ^ y.toNat)) st
  | .LShift => 0 ≤ y ∧ y < 10000 ∧ x.natAbs < 2 ^ 64 ∧ Q (.int (x * 2 ^ y.toNat)) st
  | .RShift => 0 ≤ y ∧ 0 ≤ x ∧ Q (.int (x.fdiv (2 ^ y.toNat))) st
  | .BitAnd => Q (.int (Builtin.bitAnd x y)) st
  | .BitOr => Q (.int (Builtin.bitOr x y)) st
  | .BitXor => Q (.int (Builtin.bitXor x y)) st
  | _ => False
noncomputable abbrev seqOp (op : Operator) (mk : Bool) (st : St) (a b : Dv) (Q : Dv → St → Prop) : Prop :=
  match op with
  | .Add => ∃ la lb, its st a = some la ∧ its st b = some lb ∧ la.length + lb.length ≤ 2 ^ 24 ∧ mkL mk st (la ++ lb) Q
  | .Mult => match b with
    | .int y => ∃ la, its st a = some la ∧ y < 2 ^ 62 ∧ -(2 ^ 62) ≤ y ∧ la.length * y.toNat ≤ 2 ^ 24 ∧ mkL mk st (List.replicate y.toNat la).flatten Q
    | _ => False
  | _ => False
noncomputable def binOk (op : Operator) (mk : Bool) (st : St) (a b : Dv) (Q : Dv → St → Prop) : Prop :=
  match asInt a, asInt b with
  | some x, some y => arith op st x y Q
  | _, _ => seqOp op mk st a b Q

noncomputable def dput (kvs : List (Int × Dv)) (k : Int) (v : Dv) : List (Int × Dv) :=
  if kvs.any (fun p => p.1 = k) then kvs.map (fun p => if p.1 = k then (p.1, v) else p) else kvs ++ [(k, v)]
noncomputable def dlook (kvs : List (Int × Dv)) (k : Int) : Option Dv := (kvs.find? fun p => p.1 = k).map (·.2)

noncomputable def intCmp (op : CmpOp) (x y : Int) (Q : Bool → Prop) : Prop :=
  match op with
  | .Eq => Q (x == y)
  | .NotEq => Q (x != y)
  | .Lt => Q (decide (x < y))
  | .LtE => Q (decide (x ≤ y))
  | .Gt => Q (decide (x > y))
  | .GtE => Q (decide (x ≥ y))
  | _ => False
noncomputable abbrev eqOk (st : St) (a b : Dv) (Q : Bool → Prop) : Prop :=
  (∃ xs ys, its st a = some (iL xs) ∧ its st b = some (iL ys) ∧ Q (decide (xs = ys))) ∨ (∃ xs ys, its st a = some (iLL xs) ∧ its st b = some (iLL ys) ∧ Q (decide (xs = ys)))
noncomputable abbrev neOk (st : St) (a b : Dv) (Q : Bool → Prop) : Prop :=
  (∃ xs ys, its st a = some (iL xs) ∧ its st b = some (iL ys) ∧ Q (!decide (xs = ys))) ∨ (∃ xs ys, its st a = some (iLL xs) ∧ its st b = some (iLL ys) ∧ Q (!decide (xs = ys)))
noncomputable abbrev isOk (a b : Dv) (Q : Bool → Prop) : Prop := match b with
  | .none => match a with
    | .none => Q true
    | .list _ => Q false
    | _ => False
  | _ => False
noncomputable abbrev inOk (st : St) (x : Int) (b : Dv) (Q : Bool → Prop) : Prop := match b with
  | .ref n => match st[n]? with
    | some (some (.dict kvs)) => Q (dlook kvs x).isSome
    | some (some (.list l)) => ∃ xs, l = iL xs ∧ Q (decide (x ∈ xs))
    | _ => False
  | .list l => ∃ xs, l = iL xs ∧ Q (decide (x ∈ xs))
  | _ => False
noncomputable abbrev cmpRest (op : CmpOp) (st : St) (a b : Dv) (Q : Bool → Prop) : Prop :=
  match op with
  | .Eq => eqOk st a b Q
  | .NotEq => match asBool a, asBool b with
    | some x, some y => Q (x != y)
    | _, _ => neOk st a b Q
  | .Is => isOk a b Q
  | .IsNot => isOk a b fun c => Q (!c)
  | .In => match asInt a with
    | some x => inOk st x b Q
    | none => False
  | _ => False
noncomputable def cmpOk (op : CmpOp) (st : St) (a b : Dv) (Q : Bool → Prop) : Prop :=
  match asInt a, asInt b with
  | some x, some y => intCmp op x y Q
  | _, _ => cmpRest op st a b Q

noncomputable def nth (l : List Dv) (k : Int) (Q : Dv → Prop) : Prop :=
  ∃ (j : Nat) (d : Dv), (k = (j : Int) ∨ k = (j : Int) - l.length) ∧ l[j]? = some d ∧ l.length < big ∧ Q d

noncomputable def getOk (st : St) (d i : Dv) (Q : Dv → Prop) : Prop :=
  match i, d with
  | .int k, .tup l => nth l k Q
  | .int k, .list l => nth l k Q
  | .int k, .ref n => match st[n]? with
    | some (some (.dict kvs)) => match dlook kvs k with
      | some v => Q v
      | none => False
    | some (some (.list l)) => nth l k Q
    | _ => False
  | _, _ => False

/-- a part of a slice -/
inductive Pt where
  | no
  | at (i : Int)
  | bad
noncomputable def pt (d : Dv) : Pt := Dv.casesOn (motive_1 := fun _ => Pt) d .no (fun _ => .bad) (fun i => .at i) (fun _ => .bad) (fun _ => .bad) (fun _ => .bad) fun _ => .bad
noncomputable def Pt.el (p : Pt) (n : Option (List Dv)) (k : Int → Option (List Dv)) : Option (List Dv) := Pt.casesOn (motive := fun _ => Option (List Dv)) p n k none
noncomputable def sliceL (l : List Dv) (dl dh ds : Dv) : Option (List Dv) :=
  (pt ds).el ((pt dh).el ((pt dl).el (some l) fun a => if 0 ≤ a then some (l.drop a.toNat) else none)
      fun b => (pt dl).el (if 0 ≤ b then some (l.take b.toNat) else none) fun a => if 0 ≤ a ∧ 0 ≤ b then some ((l.take b.toNat).drop a.toNat) else none)
    fun c => (pt dh).el ((pt dl).el (if c = -1 then some l.reverse else none) fun _ => none) fun _ => none

noncomputable def bitLen (x : Int) : Int := if x = 0 then 0 else (x.natAbs.log2 : Int) + 1

noncomputable def biOk (f : Bi) (st : St) (ds : List Dv) (Q : Dv → Prop) : Prop :=
  match f, ds with
  | .len, [d] => ∃ l, its st d = some l ∧ l.length < big ∧ Q (.int l.length)
  | .sum, [d] => ∃ xs, its st d = some (iL xs) ∧ xs.length < 2 ^ 20 ∧ (∀ x ∈ xs, x.natAbs < 2 ^ 40) ∧ Q (.int xs.sum)
  | .min, [.int a, .int b] => Q (.int (if b < a then b else a))
  | .abs, [.int a] => Q (.int a.natAbs)
  | .int, [.int a] => Q (.int a)
  | .int, [.bool b] => Q (.int (if b then 1 else 0))
  | _, _ => False

noncomputable def setTg (tg : Tg) (d : Dv) (fr : Frm) (K : Frm → Prop) : Prop :=
  match tg, d with
  | .one x, d => K (fr.set x (some d))
  | .two x y, .tup [a, b] => K ((fr.set x (some a)).set y (some b))
  | _, _ => False

noncomputable def tgFree : Tg → Frm → Prop
  | .one x, fr => fr[x]? = some none
  | .two x y, fr => fr[x]? = some none ∧ fr[y]? = some none

/-- an outer object walked over: put back -/
noncomputable def back (g : Option (Nat × List Dv)) (st : St) (Q : St → Prop) : Prop :=
  match g with
  | none => Q st
  | some (n, l) => st[n]? = some none ∧ Q (st.set n (some (.list l)))

noncomputable def compL (turn : Dv → St → (Option Dv → St → Prop) → Prop) : List Dv → List Dv → St → (List Dv → St → Prop) → Prop
  | [], acc, st, Q => Q acc st
  | x :: xs, acc, st, Q => turn x st fun r st' => compL turn xs (match r with | some d => acc ++ [d] | none => acc) st' Q

noncomputable def setOk (st : St) (o i d : Dv) (Q : St → Prop) : Prop :=
  match o, i with
  | .ref n, .int k => match st[n]? with
    | some (some (.list l)) => 0 ≤ k ∧ k < l.length ∧ k < 2 ^ 62 ∧ d.pure = true ∧ Q (st.set n (some (.list (l.set k.toNat d))))
    | some (some (.dict kvs)) => kvs.length ≤ 2 ^ 20 ∧ d.pure = true ∧ Q (st.set n (some (.dict (dput kvs k d))))
    | _ => False
  | _, _ => False

noncomputable def appOk (st : St) (o d : Dv) (Q : St → Prop) : Prop :=
  match o with
  | .ref n => match st[n]? with
    | some (some (.list l)) => l.length ≤ 2 ^ 20 ∧ d.pure = true ∧ Q (st.set n (some (.list (l ++ [d]))))
    | _ => False
  | _ => False

noncomputable def setAll : List Nat → List Dv → Frm → Frm
  | x :: xs, d :: ds, fr => setAll xs ds (fr.set x (some d))
  | _, _, fr => fr

noncomputable def forL (turn : Dv → Frm → St → (Option Dv → Frm → St → Prop) → Prop) : List Dv → Frm → St → (Option Dv → Frm → St → Prop) → Prop
  | [], fr, st, Q => Q none fr st
  | x :: xs, fr, st, Q => turn x fr st fun r fr' st' => match r with
    | none => forL turn xs fr' st' Q
    | some d => Q (some d) fr' st'

noncomputable def whL (test : Frm → St → (Bool → St → Prop) → Prop) (body : Frm → St → (Option Dv → Frm → St → Prop) → Prop) : Nat → Frm → St → (Option Dv → Frm → St → Prop) → Prop
  | 0, _, _, _ => False
  | n + 1, fr, st, Q => test fr st fun b st' => match b with
    | true => body fr st' fun r fr' st'' => match r with
      | none => whL test body n fr' st'' Q
      | some d => Q (some d) fr' st''
    | false => Q none fr st'

/-- a call's contract -/
abbrev Ct := Nat → List Dv → St → (Dv → St → Prop) → Prop

mutual
noncomputable def wpE (C : Ct) : ME → Frm → St → (Dv → St → Prop) → Prop
  | .int i, _, st, Q => Q (.int i) st
  | .none, _, st, Q => Q .none st
  | .bool b, _, st, Q => Q (.bool b) st
  | .var x, fr, st, Q => match fr[x]? with
    | some (some d) => Q d st
    | _ => False
  | .fn k, _, st, Q => Q (.fn k) st
  | .bin op mk a b, fr, st, Q => wpE C a fr st fun da st1 => wpE C b fr st1 fun db st2 => binOk op mk st2 da db Q
  | .neg a, fr, st, Q => wpE C a fr st fun d st1 => match d with
    | .int i => Q (.int (-i)) st1
    | _ => False
  | .ife t a b, fr, st, Q => wpT C t fr st fun c st1 => match c with
    | true => wpE C a fr st1 Q
    | false => wpE C b fr st1 Q
  | .cmp op a b, fr, st, Q => wpE C a fr st fun da st1 => wpE C b fr st1 fun db st2 => cmpOk op st2 da db fun c => Q (.bool c) st2
  | .and3 a b c, fr, st, Q => wpE C a fr st fun d1 st1 => match d1 with
    | .bool false => Q (.bool false) st1
    | .bool true => wpE C b fr st1 fun d2 st2 => match d2 with
      | .bool false => Q (.bool false) st2
      | .bool true => wpE C c fr st2 Q
      | _ => False
    | _ => False
  | .call f args, fr, st, Q => wpE C f fr st fun d st1 => match d with
    | .fn k => wpEs C args fr st1 fun ds st2 => C k ds st2 Q
    | _ => False
  | .bi f args, fr, st, Q => wpEs C args fr st fun ds st1 => biOk f st1 ds fun d => Q d st1
  | .bitlen a, fr, st, Q => wpE C a fr st fun d st1 => match d with
    | .int i => Q (.int (bitLen i)) st1
    | _ => False
  | .item a i, fr, st, Q => wpE C a fr st fun da st1 => wpE C i fr st1 fun di st2 => getOk st2 da di fun d => Q d st2
  | .slice a lo hi stp, fr, st, Q => wpE C a fr st fun da st1 => wpEo C lo fr st1 fun dl st2 => wpEo C hi fr st2 fun dh st3 => wpEo C stp fr st3 fun ds st4 =>
      ∃ l r, its st4 da = some l ∧ sliceL l dl dh ds = some r ∧ l.length ≤ 2 ^ 24 ∧ Q (.list r) st4
  | .list mk l, fr, st, Q => wpEs C l fr st fun ds st1 => ds.length ≤ 2 ^ 24 ∧ mkL mk st1 ds Q
  | .tup l, fr, st, Q => wpEs C l fr st fun ds st1 => ds.length ≤ 2 ^ 24 ∧ Q (.tup ds) st1
  | .dict0, _, st, Q => Q (.ref st.length) (st ++ [some (.dict [])])
  | .comp elt tg it conds, fr, st, Q => tgFree tg fr ∧ wpI C it fr st fun l g st1 => l.length ≤ 2 ^ 24 ∧
      compL (fun x st2 K => setTg tg x fr fun fr' => wpTs C .And conds fr' st2 fun b st3 => match b with
        | true => wpE C elt fr' st3 fun d st4 => K (some d) st4
        | false => K none st3) l [] st1 fun r st5 => back g st5 fun st6 => Q (.list r) st6
noncomputable def wpT (C : Ct) : MT → Frm → St → (Bool → St → Prop) → Prop
  | .not t, fr, st, Q => wpT C t fr st fun b st1 => Q (!b) st1
  | .and l, fr, st, Q => wpTs C .And l fr st Q
  | .or l, fr, st, Q => wpTs C .Or l fr st Q
  | .cmp op a b, fr, st, Q => wpE C a fr st fun da st1 => wpE C b fr st1 fun db st2 => cmpOk op st2 da db fun c => Q c st2
  | .val e, fr, st, Q => wpE C e fr st fun d st1 => match d with
    | .bool b => Q b st1
    | _ => False
noncomputable def wpTs (C : Ct) : BoolOp → MTs → Frm → St → (Bool → St → Prop) → Prop
  | op, .nil, _, st, Q => Q (op == .And) st
  | op, .cons t r, fr, st, Q => wpT C t fr st fun b st1 => match op, b with
    | .And, false => Q false st1
    | .Or, true => Q true st1
    | op, _ => wpTs C op r fr st1 Q
noncomputable def wpEo (C : Ct) : MEo → Frm → St → (Dv → St → Prop) → Prop
  | .no, _, st, Q => Q .none st
  | .yes e, fr, st, Q => wpE C e fr st Q
noncomputable def wpEs (C : Ct) : MEs → Frm → St → (List Dv → St → Prop) → Prop
  | .nil, _, st, Q => Q [] st
  | .cons e r, fr, st, Q => wpE C e fr st fun d st1 => wpEs C r fr st1 fun ds st2 => Q (d :: ds) st2
noncomputable def wpI (C : Ct) : MI → Frm → St → (List Dv → Option (Nat × List Dv) → St → Prop) → Prop
  | .lst e, fr, st, Q => wpE C e fr st fun d st1 => match d with
    | .list l => Q l none st1
    | .ref n => match st1[n]? with
      | some (some (.list l)) => Q l (some (n, l)) (st1.set n none)
      | _ => False
    | _ => False
  | .range1 a, fr, st, Q => wpE C a fr st fun d st1 => match d with
    | .int n => n.natAbs < 2 ^ 30 ∧ Q ((List.range n.toNat).map fun i : Nat => .int (i : Int)) none st1
    | _ => False
  | .range2 a b, fr, st, Q => wpE C a fr st fun da st1 => wpE C b fr st1 fun db st2 => match da, db with
    | .int a, .int b => a.natAbs < 2 ^ 30 ∧ b.natAbs < 2 ^ 30 ∧ Q ((List.range (b - a).toNat).map fun i : Nat => .int (a + (i : Int))) none st2
    | _, _ => False
  | .range3 a b c, fr, st, Q => wpE C a fr st fun da st1 => wpE C b fr st1 fun db st2 => wpE C c fr st2 fun dc st3 => match da, db, dc with
    | .int a, .int b, .int c => c = -1 ∧ a.natAbs < 2 ^ 30 ∧ b.natAbs < 2 ^ 30 ∧ Q ((List.range (a - b).toNat).map fun i : Nat => .int (a - (i : Int))) none st3
    | _, _, _ => False
  | .enum e, fr, st, Q => wpE C e fr st fun d st1 => match d with
    | .list l => l.length < big ∧ Q (l.zipIdx.map fun p => .tup [.int p.2, p.1]) none st1
    | _ => False
  | .zip a b, fr, st, Q => wpE C a fr st fun da st1 => wpE C b fr st1 fun db st2 => match da, db with
    | .list l, .list m => l.length < big ∧ m.length < big ∧ Q (List.zipWith (fun x y => .tup [x, y]) l m) none st2
    | _, _ => False
end

mutual
noncomputable def wpS (C : Ct) : MS → Frm → St → (Option Dv → Frm → St → Prop) → Prop
  | .asg x e, fr, st, Q => wpE C e fr st fun d st1 => Q none (fr.set x (some d)) st1
  | .unp xs e, fr, st, Q => wpE C e fr st fun d st1 => match d with
    | .tup l => l.length = xs.length ∧ Q none (setAll xs l fr) st1
    | _ => False
  | .seti o i e, fr, st, Q => wpE C e fr st fun d st1 => wpE C o fr st1 fun od st2 => wpE C i fr st2 fun di st3 => setOk st3 od di d fun st4 => Q none fr st4
  | .aug x op e, fr, st, Q => match fr[x]? with
    | some (some (.int i)) => wpE C e fr st fun d st1 => match d with
      | .int j => binOk op false st1 (.int i) (.int j) fun r st2 => Q none (fr.set x (some r)) st2
      | _ => False
    | _ => False
  | .iff t a b, fr, st, Q => wpT C t fr st fun c st1 => match c with
    | true => wpSs C a fr st1 Q
    | false => wpSs C b fr st1 Q
  | .whil t b, fr, st, Q => ∃ n, whL (fun fr st K => wpT C t fr st K) (fun fr st K => wpSs C b fr st K) n fr st Q
  | .forr tg it b, fr, st, Q => wpI C it fr st fun l g st1 => match g with
    | none => forL (fun x fr st K => setTg tg x fr fun fr' => wpSs C b fr' st K) l fr st1 Q
    | some _ => False
  | .ret e, fr, st, Q => wpE C e fr st fun d st1 => Q (some d) fr st1
  | .app o e, fr, st, Q => wpE C o fr st fun od st1 => (∃ m l, od = .ref m ∧ st1[m]? = some (some (.list l))) ∧ wpE C e fr st1 fun d st2 => appOk st2 od d fun st3 => Q none fr st3
  | .raise, _, _, _ => False
noncomputable def wpSs (C : Ct) : MSs → Frm → St → (Option Dv → Frm → St → Prop) → Prop
  | .nil, fr, st, Q => Q none fr st
  | .cons s r, fr, st, Q => wpS C s fr st fun o fr' st' => match o with
    | none => wpSs C r fr' st' Q
    | some d => Q (some d) fr' st'
end

/-- what a def hands back of what its body ends with -/
noncomputable def fin (n : Nat) (o : Option Dv) (st : St) (Q : Dv → St → Prop) : Prop :=
  match o with
  | none => Q .none (st.take n)
  | some (.ref k) => n ≤ k ∧ match st[k]? with
    | some (some (.list l)) => Q (.list l) (st.take n)
    | _ => False
  | some d => d.pure = true ∧ Q d (st.take n)

end Mine
end

section
open PySem PySem.W PyProof.Rows
set_option Elab.async false
set_option maxRecDepth 100000
set_option maxHeartbeats 1000000
set_option autoImplicit true
set_option relaxedAutoImplicit true
set_option linter.all false
namespace Mine
theorem wpE_r1 {C : Ct} {fr : Frm} {st : St} : wpE C (.int i) fr st Q = (Q (.int i) st) := rfl
theorem wpE_r2 {C : Ct} {fr : Frm} {st : St} : wpE C (.none) fr st Q = (Q .none st) := rfl
theorem wpE_r3 {C : Ct} {fr : Frm} {st : St} : wpE C (.bool b) fr st Q = (Q (.bool b) st) := rfl
theorem wpE_r4 {C : Ct} {fr : Frm} {st : St} : wpE C (.var x) fr st Q = (match getElem? fr x with
    | some (some d) => Q d st
    | _ => False) := rfl
theorem wpE_r5 {C : Ct} {fr : Frm} {st : St} : wpE C (.fn k) fr st Q = (Q (.fn k) st) := rfl
theorem wpE_r6 {C : Ct} {fr : Frm} {st : St} : wpE C (.bin op mk a b) fr st Q = (wpE C a fr st fun da st1 => wpE C b fr st1 fun db st2 => binOk op mk st2 da db Q) := rfl
theorem wpE_r7 {C : Ct} {fr : Frm} {st : St} : wpE C (.neg a) fr st Q = (wpE C a fr st fun d st1 => match d with
    | .int i => Q (.int (-i)) st1
    | _ => False) := rfl
theorem wpE_r8 {C : Ct} {fr : Frm} {st : St} : wpE C (.ife t a b) fr st Q = (wpT C t fr st fun c st1 => match c with
    | true => wpE C a fr st1 Q
    | false => wpE C b fr st1 Q) := rfl
theorem wpE_r9 {C : Ct} {fr : Frm} {st : St} : wpE C (.cmp op a b) fr st Q = (wpE C a fr st fun da st1 => wpE C b fr st1 fun db st2 => cmpOk op st2 da db fun c => Q (.bool c) st2) := rfl
theorem wpE_r10 {C : Ct} {fr : Frm} {st : St} : wpE C (.and3 a b c) fr st Q = (wpE C a fr st fun d1 st1 => match d1 with
    | .bool false => Q (.bool false) st1
    | .bool true => wpE C b fr st1 fun d2 st2 => match d2 with
      | .bool false => Q (.bool false) st2
      | .bool true => wpE C c fr st2 Q
      | _ => False
    | _ => False) := rfl
theorem wpE_r11 {C : Ct} {fr : Frm} {st : St} : wpE C (.call f args) fr st Q = (wpE C f fr st fun d st1 => match d with
    | .fn k => wpEs C args fr st1 fun ds st2 => C k ds st2 Q
    | _ => False) := rfl
theorem wpE_r12 {C : Ct} {fr : Frm} {st : St} : wpE C (.bi f args) fr st Q = (wpEs C args fr st fun ds st1 => biOk f st1 ds fun d => Q d st1) := rfl
theorem wpE_r13 {C : Ct} {fr : Frm} {st : St} : wpE C (.bitlen a) fr st Q = (wpE C a fr st fun d st1 => match d with
    | .int i => Q (.int (bitLen i)) st1
    | _ => False) := rfl
theorem wpE_r14 {C : Ct} {fr : Frm} {st : St} : wpE C (.item a i) fr st Q = (wpE C a fr st fun da st1 => wpE C i fr st1 fun di st2 => getOk st2 da di fun d => Q d st2) := rfl
theorem wpE_r15 {C : Ct} {fr : Frm} {st : St} {lo hi stp : MEo} : wpE C (.slice a lo hi stp) fr st Q = (wpE C a fr st fun da st1 => wpEo C lo fr st1 fun dl st2 => wpEo C hi fr st2 fun dh st3 => wpEo C stp fr st3 fun ds st4 =>
      ∃ l r, its st4 da = some l ∧ sliceL l dl dh ds = some r ∧ l.length ≤ 2 ^ 24 ∧ Q (.list r) st4) := rfl
theorem wpE_r16 {C : Ct} {fr : Frm} {st : St} : wpE C (.list mk l) fr st Q = (wpEs C l fr st fun ds st1 => ds.length ≤ 2 ^ 24 ∧ mkL mk st1 ds Q) := rfl
theorem wpE_r17 {C : Ct} {fr : Frm} {st : St} : wpE C (.tup l) fr st Q = (wpEs C l fr st fun ds st1 => ds.length ≤ 2 ^ 24 ∧ Q (.tup ds) st1) := rfl
theorem wpE_r18 {C : Ct} {fr : Frm} {st : St} : wpE C (.dict0) fr st Q = (Q (.ref st.length) (st ++ [some (.dict [])])) := rfl
theorem wpE_r19 {C : Ct} {fr : Frm} {st : St} : wpE C (.comp elt tg it conds) fr st Q = (tgFree tg fr ∧ wpI C it fr st fun l g st1 => l.length ≤ 2 ^ 24 ∧
      compL (fun x st2 K => setTg tg x fr fun fr' => wpTs C .And conds fr' st2 fun b st3 => match b with
        | true => wpE C elt fr' st3 fun d st4 => K (some d) st4
        | false => K none st3) l [] st1 fun r st5 => back g st5 fun st6 => Q (.list r) st6) := rfl
theorem wpT_r1 {C : Ct} {fr : Frm} {st : St} : wpT C (.not t) fr st Q = (wpT C t fr st fun b st1 => Q (!b) st1) := rfl
theorem wpT_r2 {C : Ct} {fr : Frm} {st : St} : wpT C (.and l) fr st Q = (wpTs C .And l fr st Q) := rfl
theorem wpT_r3 {C : Ct} {fr : Frm} {st : St} : wpT C (.or l) fr st Q = (wpTs C .Or l fr st Q) := rfl
theorem wpT_r4 {C : Ct} {fr : Frm} {st : St} : wpT C (.cmp op a b) fr st Q = (wpE C a fr st fun da st1 => wpE C b fr st1 fun db st2 => cmpOk op st2 da db fun c => Q c st2) := rfl
theorem wpT_r5 {C : Ct} {fr : Frm} {st : St} : wpT C (.val e) fr st Q = (wpE C e fr st fun d st1 => match d with
    | .bool b => Q b st1
    | _ => False) := rfl
theorem wpTs_r1 {C : Ct} {fr : Frm} {st : St} : wpTs C op (.nil) fr st Q = (Q (op == .And) st) := rfl
theorem wpEo_r1 {C : Ct} {fr : Frm} {st : St} : wpEo C (.no) fr st Q = (Q .none st) := rfl
theorem wpEo_r2 {C : Ct} {fr : Frm} {st : St} : wpEo C (.yes e) fr st Q = (wpE C e fr st Q) := rfl
theorem wpEs_r1 {C : Ct} {fr : Frm} {st : St} : wpEs C (.nil) fr st Q = (Q [] st) := rfl
theorem wpEs_r2 {C : Ct} {fr : Frm} {st : St} : wpEs C (.cons e r) fr st Q = (wpE C e fr st fun d st1 => wpEs C r fr st1 fun ds st2 => Q (d :: ds) st2) := rfl
theorem wpI_r1 {C : Ct} {fr : Frm} {st : St} : wpI C (.lst e) fr st Q = (wpE C e fr st fun d st1 => match d with
    | .list l => Q l none st1
    | .ref n => match getElem? st1 n with
      | some (some (.list l)) => Q l (some (n, l)) (st1.set n none)
      | _ => False
    | _ => False) := rfl
theorem wpI_r2 {C : Ct} {fr : Frm} {st : St} : wpI C (.range1 a) fr st Q = (wpE C a fr st fun d st1 => match d with
    | .int n => n.natAbs < 2 ^ 30 ∧ Q ((List.range n.toNat).map fun i : Nat => .int (i : Int)) none st1
    | _ => False) := rfl
theorem wpI_r3 {C : Ct} {fr : Frm} {st : St} : wpI C (.range2 a b) fr st Q = (wpE C a fr st fun da st1 => wpE C b fr st1 fun db st2 => match da, db with
    | .int a, .int b => a.natAbs < 2 ^ 30 ∧ b.natAbs < 2 ^ 30 ∧ Q ((List.range (b - a).toNat).map fun i : Nat => .int (a + (i : Int))) none st2
    | _, _ => False) := rfl
theorem wpI_r4 {C : Ct} {fr : Frm} {st : St} : wpI C (.range3 a b c) fr st Q = (wpE C a fr st fun da st1 => wpE C b fr st1 fun db st2 => wpE C c fr st2 fun dc st3 => match da, db, dc with
    | .int a, .int b, .int c => c = -1 ∧ a.natAbs < 2 ^ 30 ∧ b.natAbs < 2 ^ 30 ∧ Q ((List.range (a - b).toNat).map fun i : Nat => .int (a - (i : Int))) none st3
    | _, _, _ => False) := rfl
theorem wpI_r5 {C : Ct} {fr : Frm} {st : St} : wpI C (.enum e) fr st Q = (wpE C e fr st fun d st1 => match d with
    | .list l => l.length < big ∧ Q (l.zipIdx.map fun p => .tup [.int p.2, p.1]) none st1
    | _ => False) := rfl
theorem wpI_r6 {C : Ct} {fr : Frm} {st : St} : wpI C (.zip a b) fr st Q = (wpE C a fr st fun da st1 => wpE C b fr st1 fun db st2 => match da, db with
    | .list l, .list m => l.length < big ∧ m.length < big ∧ Q (List.zipWith (fun x y => .tup [x, y]) l m) none st2
    | _, _ => False) := rfl
theorem wpS_r1 {C : Ct} {fr : Frm} {st : St} : wpS C (.asg x e) fr st Q = (wpE C e fr st fun d st1 => Q none (fr.set x (some d)) st1) := rfl
theorem wpS_r2 {C : Ct} {fr : Frm} {st : St} : wpS C (.unp xs e) fr st Q = (wpE C e fr st fun d st1 => match d with
    | .tup l => l.length = xs.length ∧ Q none (setAll xs l fr) st1
    | _ => False) := rfl
theorem wpS_r3 {C : Ct} {fr : Frm} {st : St} : wpS C (.seti o i e) fr st Q = (wpE C e fr st fun d st1 => wpE C o fr st1 fun od st2 => wpE C i fr st2 fun di st3 => setOk st3 od di d fun st4 => Q none fr st4) := rfl
theorem wpS_r4 {C : Ct} {fr : Frm} {st : St} : wpS C (.aug x op e) fr st Q = (match getElem? fr x with
    | some (some (.int i)) => wpE C e fr st fun d st1 => match d with
      | .int j => binOk op false st1 (.int i) (.int j) fun r st2 => Q none (fr.set x (some r)) st2
      | _ => False
    | _ => False) := rfl
theorem wpS_r5 {C : Ct} {fr : Frm} {st : St} : wpS C (.iff t a b) fr st Q = (wpT C t fr st fun c st1 => match c with
    | true => wpSs C a fr st1 Q
    | false => wpSs C b fr st1 Q) := rfl
theorem wpS_r6 {C : Ct} {fr : Frm} {st : St} : wpS C (.whil t b) fr st Q = (∃ n, whL (fun fr st K => wpT C t fr st K) (fun fr st K => wpSs C b fr st K) n fr st Q) := rfl
theorem wpS_r7 {C : Ct} {fr : Frm} {st : St} : wpS C (.forr tg it b) fr st Q = (wpI C it fr st fun l g st1 => match g with
    | none => forL (fun x fr st K => setTg tg x fr fun fr' => wpSs C b fr' st K) l fr st1 Q
    | some _ => False) := rfl
theorem wpS_r8 {C : Ct} {fr : Frm} {st : St} : wpS C (.ret e) fr st Q = (wpE C e fr st fun d st1 => Q (some d) fr st1) := rfl
theorem wpS_r9 {C : Ct} {fr : Frm} {st : St} : wpS C (.app o e) fr st Q = (wpE C o fr st fun od st1 => (∃ m l, od = .ref m ∧ st1[m]? = some (some (.list l))) ∧ wpE C e fr st1 fun d st2 => appOk st2 od d fun st3 => Q none fr st3) := rfl
theorem wpS_r10 {C : Ct} {fr : Frm} {st : St} : wpS C (.raise) fr st Q = (False) := rfl
theorem wpSs_r1 {C : Ct} {fr : Frm} {st : St} : wpSs C (.nil) fr st Q = (Q none fr st) := rfl
theorem wpSs_r2 {C : Ct} {fr : Frm} {st : St} : wpSs C (.cons s r) fr st Q = (wpS C s fr st fun o fr' st' => match o with
    | none => wpSs C r fr' st' Q
    | some d => Q (some d) fr' st') := rfl
/-! single steps -/
section
variable {st : St} {Q : Dv → St → Prop} {C : Bool → Prop} {R : Dv → Prop} {K : Frm → Prop} {mk : Bool}
theorem s_eq (x y : Int) : cmpOk .Eq st (.int x) (.int y) C = C (x == y) := rfl
theorem s_ne (x y : Int) : cmpOk .NotEq st (.int x) (.int y) C = C (x != y) := rfl
theorem s_lt (x y : Int) : cmpOk .Lt st (.int x) (.int y) C = C (decide (x < y)) := rfl
theorem s_le (x y : Int) : cmpOk .LtE st (.int x) (.int y) C = C (decide (x ≤ y)) := rfl
theorem s_gt (x y : Int) : cmpOk .Gt st (.int x) (.int y) C = C (decide (x > y)) := rfl
theorem s_ge (x y : Int) : cmpOk .GtE st (.int x) (.int y) C = C (decide (x ≥ y)) := rfl
theorem s_neb (x y : Bool) : cmpOk .NotEq st (.bool x) (.bool y) C = C (x != y) := rfl
theorem s_is1 : cmpOk .Is st .none .none C = C true := rfl
theorem s_is2 (l : List Dv) : cmpOk .Is st (.list l) .none C = C false := rfl
theorem s_isn1 : cmpOk .IsNot st .none .none C = C false := rfl
theorem s_isn2 (l : List Dv) : cmpOk .IsNot st (.list l) .none C = C true := rfl
theorem s_add (x y : Int) : binOk .Add mk st (.int x) (.int y) Q = Q (.int (x + y)) st := rfl
theorem s_sub (x y : Int) : binOk .Sub mk st (.int x) (.int y) Q = Q (.int (x - y)) st := rfl
theorem s_mul (x y : Int) : binOk .Mult mk st (.int x) (.int y) Q = ((x.natAbs < 2 ^ 64 ∨ y.natAbs < 2 ^ 64) ∧ Q (.int (x * y)) st) := rfl
theorem s_fdiv (x y : Int) : binOk .FloorDiv mk st (.int x) (.int y) Q = (y ≠ 0 ∧ y.natAbs < 2 ^ 64 ∧ Q (.int (x.fdiv y)) st) := rfl
theorem s_mod (x y : Int) : binOk .Mod mk st (.int x) (.int y) Q = (y ≠ 0 ∧ Q (.int (x.fmod y)) st) := rfl
theorem s_pow (x y : Int) : binOk .Pow mk st (.int x) (.int y) Q = (0 ≤ y ∧ y < 10000 ∧ x.natAbs < 2 ^ 64 ∧ Q (.int (x ^ y.toNat)) st) := rfl
theorem s_lsh (x y : Int) : binOk .LShift mk st (.int x) (.int y) Q = (0 ≤ y ∧ y < 10000 ∧ x.natAbs < 2 ^ 64 ∧ Q (.int (x * 2 ^ y.toNat)) st) := rfl
theorem s_rsh (x y : Int) : binOk .RShift mk st (.int x) (.int y) Q = (0 ≤ y ∧ 0 ≤ x ∧ Q (.int (x.fdiv (2 ^ y.toNat))) st) := rfl
theorem s_and (x y : Int) : binOk .BitAnd mk st (.int x) (.int y) Q = Q (.int (Builtin.bitAnd x y)) st := rfl
theorem s_or (x y : Int) : binOk .BitOr mk st (.int x) (.int y) Q = Q (.int (Builtin.bitOr x y)) st := rfl
theorem s_xor (x y : Int) : binOk .BitXor mk st (.int x) (.int y) Q = Q (.int (Builtin.bitXor x y)) st := rfl
theorem s_addL (a b : List Dv) : binOk .Add mk st (.list a) (.list b) Q = (a.length + b.length ≤ 2 ^ 24 ∧ mkL mk st (a ++ b) Q) := by
  refine propext ⟨?_, fun h => ⟨a, b, rfl, rfl, h⟩⟩
  rintro ⟨la, lb, e1, e2, h⟩
  cases e1; cases e2; exact h
theorem s_mulL (a : List Dv) (y : Int) : binOk .Mult mk st (.list a) (.int y) Q = (y < 2 ^ 62 ∧ -(2 ^ 62) ≤ y ∧ a.length * y.toNat ≤ 2 ^ 24 ∧ mkL mk st (List.replicate y.toNat a).flatten Q) := by
  refine propext ⟨?_, fun h => ⟨a, rfl, h⟩⟩
  rintro ⟨la, e1, h⟩
  cases e1; exact h
theorem s_mkT (l : List Dv) : mkL true st l Q = (pures l = true ∧ Q (.ref st.length) (st ++ [some (.list l)])) := rfl
theorem s_mkF (l : List Dv) : mkL false st l Q = Q (.list l) st := rfl
theorem s_getL (l : List Dv) (k : Int) : getOk st (.list l) (.int k) R = nth l k R := rfl
theorem s_getT (l : List Dv) (k : Int) : getOk st (.tup l) (.int k) R = nth l k R := rfl
theorem s_tg1 (x : Nat) (d : Dv) (fr : Frm) : setTg (.one x) d fr K = K (fr.set x (some d)) := rfl
theorem s_tg2 (x y : Nat) (a b : Dv) (fr : Frm) : setTg (.two x y) (.tup [a, b]) fr K = K ((fr.set x (some a)).set y (some b)) := rfl
theorem s_len (l : List Dv) : biOk .len st [.list l] R = (l.length < big ∧ R (.int l.length)) := by
  refine propext ⟨?_, fun h => ⟨l, rfl, h⟩⟩
  rintro ⟨la, e1, h⟩
  cases e1; exact h
theorem s_inR (x : Int) (n : Nat) : cmpOk .In st (.int x) (.ref n) C = (match getElem? st n with
    | some (some (.dict kvs)) => C (dlook kvs x).isSome
    | some (some (.list l)) => ∃ xs, l = iL xs ∧ C (decide (x ∈ xs))
    | _ => False) := rfl
theorem s_getR (k : Int) (n : Nat) : getOk st (.ref n) (.int k) R = (match getElem? st n with
    | some (some (.dict kvs)) => match dlook kvs k with
      | some v => R v
      | none => False
    | some (some (.list l)) => nth l k R
    | _ => False) := rfl
theorem s_backN {Q : St → Prop} : back none st Q = Q st := rfl
theorem s_min (a b : Int) : biOk .min st [.int a, .int b] R = R (.int (if b < a then b else a)) := rfl
theorem s_abs (a : Int) : biOk .abs st [.int a] R = R (.int a.natAbs) := rfl
theorem s_int (a : Int) : biOk .int st [.int a] R = R (.int a) := rfl
theorem s_intb (a : Bool) : biOk .int st [.bool a] R = R (.int (if a then 1 else 0)) := rfl
end

theorem wp_cons {C : Ct} {s : MS} {r : MSs} {fr : Frm} {st : St} {Q : Option Dv → Frm → St → Prop} :
    wpSs C (.cons s r) fr st Q = wpS C s fr st fun o fr' st' => match o with | none => wpSs C r fr' st' Q | some d => Q (some d) fr' st' := rfl
theorem wp_nil {C : Ct} {fr : Frm} {st : St} {Q : Option Dv → Frm → St → Prop} : wpSs C .nil fr st Q = Q none fr st := rfl
theorem setOk_dict {st : St} {n : Nat} {kvs : List (Int × Dv)} {k : Int} {d : Dv} {Q : St → Prop} (h : st[n]? = some (some (.dict kvs))) (h1 : kvs.length ≤ 2 ^ 20) (h2 : d.pure = true) (q : Q (st.set n (some (.dict (dput kvs k d))))) : setOk st (.ref n) (.int k) d Q := by
  unfold setOk
  dsimp only
  rw [h]
  exact ⟨h1, h2, q⟩
theorem appOk_list {st : St} {n : Nat} {l : List Dv} {d : Dv} {Q : St → Prop} (h : st[n]? = some (some (.list l))) (h1 : l.length ≤ 2 ^ 20) (h2 : d.pure = true) (q : Q (st.set n (some (.list (l ++ [d]))))) : appOk st (.ref n) d Q := by
  unfold appOk
  dsimp only
  rw [h]
  exact ⟨h1, h2, q⟩
/-- a text without its first statement -/
noncomputable def tailS : MSs → MSs
  | .cons _ r => r
  | .nil => .nil
theorem tailS_c {s : MS} {r : MSs} : tailS (.cons s r) = r := rfl
theorem wpSs_n {C : Ct} {a : Option Dv} {fr : Frm} {st : St} {Q : Option Dv → Frm → St → Prop} : wpSs C .nil (a :: fr) st Q = Q none (a :: fr) st := rfl
theorem wpSs_c {C : Ct} {s : MS} {r : MSs} {a : Option Dv} {fr : Frm} {st : St} {Q : Option Dv → Frm → St → Prop} :
    wpSs C (.cons s r) (a :: fr) st Q = wpS C s (a :: fr) st fun o fr' st' => match o with | none => wpSs C r fr' st' Q | some d => Q (some d) fr' st' := rfl
theorem wpS_w {C : Ct} {t : MT} {b : MSs} {fr : Frm} {st : St} {Q : Option Dv → Frm → St → Prop} : wpS C (.whil t b) fr st Q = ∃ n, whL (wpT C t) (wpSs C b) n fr st Q := rfl
theorem forL_n {turn : Dv → Frm → St → (Option Dv → Frm → St → Prop) → Prop} {fr : Frm} {st : St} {Q : Option Dv → Frm → St → Prop} : forL turn [] fr st Q = Q none fr st := rfl
theorem forL_c {turn : Dv → Frm → St → (Option Dv → Frm → St → Prop) → Prop} {x : Dv} {xs : List Dv} {fr : Frm} {st : St} {Q : Option Dv → Frm → St → Prop} : forL turn (x :: xs) fr st Q = turn x fr st fun r fr' st' => match r with
    | none => forL turn xs fr' st' Q
    | some d => Q (some d) fr' st' := rfl
theorem compL_n {turn : Dv → St → (Option Dv → St → Prop) → Prop} {acc : List Dv} {st : St} {Q : List Dv → St → Prop} : compL turn [] acc st Q = Q acc st := rfl
theorem compL_c {turn : Dv → St → (Option Dv → St → Prop) → Prop} {x : Dv} {xs acc : List Dv} {st : St} {Q : List Dv → St → Prop} : compL turn (x :: xs) acc st Q = turn x st fun r st' => compL turn xs (match r with | some d => acc ++ [d] | none => acc) st' Q := rfl
theorem whL_s {test : Frm → St → (Bool → St → Prop) → Prop} {body : Frm → St → (Option Dv → Frm → St → Prop) → Prop} {n : Nat} {fr : Frm} {st : St} {Q : Option Dv → Frm → St → Prop} : whL test body (n + 1) fr st Q = test fr st fun b st' => match b with
    | true => body fr st' fun r fr' st'' => match r with
      | none => whL test body n fr' st'' Q
      | some d => Q (some d) fr' st''
    | false => Q none fr st' := rfl
theorem wp_consI {C : Ct} {s : MS} {r : MSs} {fr : Frm} {st : St} {Q : Option Dv → Frm → St → Prop} (h : wpS C s fr st fun o fr' st' => match o with | none => wpSs C r fr' st' Q | some d => Q (some d) fr' st') : wpSs C (.cons s r) fr st Q := h
theorem wp_nilI {C : Ct} {fr : Frm} {st : St} {Q : Option Dv → Frm → St → Prop} (h : Q none fr st) : wpSs C .nil fr st Q := h
theorem sl_to {l : List Dv} {b : Int} : sliceL l .none (.int b) .none = if 0 ≤ b then some (l.take b.toNat) else none := rfl
theorem sl_from {l : List Dv} {a : Int} : sliceL l (.int a) .none .none = if 0 ≤ a then some (l.drop a.toNat) else none := rfl
theorem sl_rev {l : List Dv} {c : Int} : sliceL l .none .none (.int c) = if c = -1 then some l.reverse else none := rfl
theorem sl_two {l : List Dv} {a b : Int} : sliceL l (.int a) (.int b) .none = if 0 ≤ a ∧ 0 ≤ b then some ((l.take b.toNat).drop a.toNat) else none := rfl

theorem wpTs_r2 {C : Ct} {fr : Frm} {st : St} : wpTs C op (.cons t r) fr st Q = (wpT C t fr st fun b st1 => match op, b with
    | .And, false => Q false st1
    | .Or, true => Q true st1
    | op, _ => wpTs C op r fr st1 Q) := rfl
theorem setAll_r1 {x : Nat} {d : Dv} {fr : Frm} : setAll (x :: xs) (d :: ds) fr = setAll xs ds (fr.set x (some d)) := rfl
theorem setAll_r2 {fr : Frm} : setAll [] [] fr = fr := rfl
end Mine
end

section
open PySem PySem.W PyProof.Rows
set_option Elab.async false
set_option maxRecDepth 100000
set_option genSizeOf false
set_option maxHeartbeats 1000000
set_option autoImplicit false
set_option linter.unusedVariables false
namespace Mine

abbrev Nms := List (Str × NameKind)
abbrev Slots := List (Option Str)

noncomputable def renm (sc : Nms) (names : Nms) : Nms := names.map fun (n, k) => if (k == .free && sc.lookup n == some .cell) then (n, .cell) else (n, k)

noncomputable def slotIs (N : Slots) (x : Nat) (id : Str) : Bool := N[x]? == some (some id)

theorem no {p : Prop} (h : false = true) : p := Bool.noConfusion h
/-! what stands at the head of an expression, of a statement: one case split for all -/
set_option genInjectivity false in
structure VE where
  tag : Nat
  a : Expr
  b : Expr
  c : Expr
  es : List Expr
  p : Pos
  k : Nat
  id : Str
  con : Const
  bop : Operator
  uop : UnaryOp
  lop : BoolOp
  cops : List CmpOp
  ks : List Keyword
  oa : Option Expr
  ob : Option Expr
  oc : Option Expr
  dk : List (Option Expr)
  gs : List Comprehension
  scp : Option Scope
noncomputable def e0 : Expr := .Name ⟨#[]⟩ ⟨0, 0, 0, 0⟩
noncomputable def d0 : VE := ⟨0, e0, e0, e0, [], ⟨0, 0, 0, 0⟩, 0, ⟨#[]⟩, .none, .Add, .Not, .And, [], [], none, none, none, [], [], none⟩
noncomputable def vE : Expr → VE
  | .Constant v k p => { d0 with tag := 1, con := v, k := k, p := p }
  | .Name id p => { d0 with tag := 2, id := id, p := p }
  | .BinOp l o r p => { d0 with tag := 3, a := l, bop := o, b := r, p := p }
  | .UnaryOp o x p => { d0 with tag := 4, uop := o, a := x, p := p }
  | .IfExp c x y p => { d0 with tag := 5, a := c, b := x, c := y, p := p }
  | .Compare l os rs p => { d0 with tag := 6, a := l, cops := os, es := rs, p := p }
  | .BoolOp o es p => { d0 with tag := 7, lop := o, es := es, p := p }
  | .Call f as ks p => { d0 with tag := 8, a := f, es := as, ks := ks, p := p }
  | .Subscript v s p => { d0 with tag := 9, a := v, b := s, p := p }
  | .List es p => { d0 with tag := 10, es := es, p := p }
  | .Tuple es k p => { d0 with tag := 11, es := es, k := k, p := p }
  | .Dict ks vs p => { d0 with tag := 12, dk := ks, es := vs, p := p }
  | .ListComp el gs scope p => { d0 with tag := 13, a := el, gs := gs, scp := some scope, p := p }
  | .Attribute v nm p => { d0 with tag := 14, a := v, id := nm, p := p }
  | .Slice l u s p => { d0 with tag := 15, oa := l, ob := u, oc := s, p := p }
  | _ => d0
noncomputable def unE (v : VE) : Nat → Expr
  | 1 => .Constant v.con v.k v.p
  | 2 => .Name v.id v.p
  | 3 => .BinOp v.a v.bop v.b v.p
  | 4 => .UnaryOp v.uop v.a v.p
  | 5 => .IfExp v.a v.b v.c v.p
  | 6 => .Compare v.a v.cops v.es v.p
  | 7 => .BoolOp v.lop v.es v.p
  | 8 => .Call v.a v.es v.ks v.p
  | 9 => .Subscript v.a v.b v.p
  | 10 => .List v.es v.p
  | 11 => .Tuple v.es v.k v.p
  | 12 => .Dict v.dk v.es v.p
  | 13 => match v.scp with
    | some s => .ListComp v.a v.gs s v.p
    | none => e0
  | 14 => .Attribute v.a v.id v.p
  | 15 => .Slice v.oa v.ob v.oc v.p
  | _ => e0
theorem vE_back (e : Expr) (h : (vE e).tag = 0 → False) : e = unE (vE e) (vE e).tag := by
  cases e <;> first | rfl | exact (h rfl).elim
noncomputable def tagIs (n : Nat) (e : Expr) : Bool := (vE e).tag == n
theorem tag_back {n : Nat} {e : Expr} (h : tagIs (n + 1) e = true) : e = unE (vE e) (n + 1) := by
  have h' : (vE e).tag = n + 1 := eq_of_beq h
  have := vE_back e (by rw [h']; exact Nat.succ_ne_zero n)
  rw [h'] at this
  exact this
theorem vE_scope (e : Expr) (h : tagIs 13 e = true) : ∃ s, (vE e).scp = some s := by
  cases e <;> first | exact no h | exact ⟨_, rfl⟩

set_option genInjectivity false in
structure VS where
  tag : Nat
  ts : List Expr
  a : Expr
  b : Expr
  oa : Option Expr
  bop : Operator
  xs : List Stmt
  ys : List Stmt
  p : Pos
noncomputable def s0 : VS := ⟨0, [], e0, e0, none, .Add, [], [], ⟨0, 0, 0, 0⟩⟩
noncomputable def vS : Stmt → VS
  | .Assign ts v p => { s0 with tag := 1, ts := ts, a := v, p := p }
  | .AugAssign t o v p => { s0 with tag := 2, a := t, bop := o, b := v, p := p }
  | .If c x y p => { s0 with tag := 3, a := c, xs := x, ys := y, p := p }
  | .While c x o p => { s0 with tag := 4, a := c, xs := x, ys := o, p := p }
  | .For t i x o p => { s0 with tag := 5, a := t, b := i, xs := x, ys := o, p := p }
  | .Return v p => { s0 with tag := 6, oa := v, p := p }
  | .Expr e p => { s0 with tag := 7, a := e, p := p }
  | _ => s0
noncomputable def unS (v : VS) : Nat → Stmt
  | 1 => .Assign v.ts v.a v.p
  | 2 => .AugAssign v.a v.bop v.b v.p
  | 3 => .If v.a v.xs v.ys v.p
  | 4 => .While v.a v.xs v.ys v.p
  | 5 => .For v.a v.b v.xs v.ys v.p
  | 6 => .Return v.oa v.p
  | 7 => .Expr v.a v.p
  | _ => .Pass v.p
theorem vS_back (e : Stmt) (h : (vS e).tag = 0 → False) : e = unS (vS e) (vS e).tag := by
  cases e <;> first | rfl | exact (h rfl).elim
noncomputable def stagIs (n : Nat) (e : Stmt) : Bool := (vS e).tag == n
theorem stag_back {n : Nat} {e : Stmt} (h : stagIs (n + 1) e = true) : e = unS (vS e) (n + 1) := by
  have h' : (vS e).tag = n + 1 := eq_of_beq h
  have := vS_back e (by rw [h']; exact Nat.succ_ne_zero n)
  rw [h'] at this
  exact this
noncomputable def nameIs (sc : Nms) (nm : Str) (e : Expr) : Bool := tagIs 2 e && ((vE e).id == nm && sc.lookup (vE e).id == some .globalImplicit)

/-- the targets' names -/
noncomputable def tgNames (tg : Tg) (e : Expr) : Option (List (Nat × Str)) := match tg with
  | .one x => if tagIs 2 e then some [(x, (vE e).id)] else none
  | .two x y => if tagIs 11 e then (match (vE e).es with
    | [a, b] => if tagIs 2 a && tagIs 2 b && !(x == y) then some [(x, (vE a).id), (y, (vE b).id)] else none
    | _ => none) else none
noncomputable def childN (names : Nms) (N : Slots) (tg : List (Nat × Str)) : Slots :=
  N.mapIdx fun i o => match tg.lookup i with
    | some id => some id
    | none => match o with
      | some nm => if names.lookup nm == some .free then some nm else none
      | none => none

noncomputable def nodupB : Slots → Bool
  | [] => true
  | none :: r => nodupB r
  | some x :: r => !r.contains (some x) && nodupB r

noncomputable def nodupNames : Nms → Bool
  | [] => true
  | x :: r => (r.lookup x.1).isNone && nodupNames r

/-- a block of names for a comprehension that stands in a frame whose names are sc -/
noncomputable def scopeOk (sc : Nms) (N : Slots) (tg : List (Nat × Str)) (scope : Scope) : Bool :=
  scope.kind == .function && nodupNames scope.names &&
  scope.names.all (fun x => x.2 != .free || sc.lookup x.1 == some .cell) &&
  tg.all (fun p => N[p.1]? == some none && (scope.names.lookup p.2 == some .local || scope.names.lookup p.2 == some .cell) && !(p.2 == ("__debug__" : Str))) &&
  nodupB (childN scope.names N tg)

noncomputable def MI.pairs : MI → Bool
  | .enum _ => true
  | .zip _ _ => true
  | _ => false
noncomputable def Tg.isTwo : Tg → Bool
  | .two _ _ => true
  | _ => false
noncomputable def on1 {α : Type} (f : α → Bool) (es : List α) : Bool := match es with
  | [x] => f x
  | _ => false
noncomputable def on2 {α : Type} (f : α → α → Bool) (es : List α) : Bool := match es with
  | [x, y] => f x y
  | _ => false
noncomputable def on3 {α : Type} (f : α → α → α → Bool) (es : List α) : Bool := match es with
  | [x, y, z] => f x y z
  | _ => false
noncomputable def onC (f : CmpOp → Expr → Bool) (os : List CmpOp) (es : List Expr) : Bool := match os, es with
  | [o], [r] => f o r
  | _, _ => false
noncomputable def isNeg (o : UnaryOp) : Bool := match o with | .USub => true | _ => false
noncomputable def isNot (o : UnaryOp) : Bool := match o with | .Not => true | _ => false
noncomputable def isAnd (o : BoolOp) : Bool := match o with | .And => true | _ => false
noncomputable def isOr (o : BoolOp) : Bool := match o with | .Or => true | _ => false
mutual
noncomputable def encE (G : List Str) : ME → Nms → Slots → Expr → Bool
  | .int i, _, _, e => tagIs 1 e && (match (vE e).con with
    | .int j => i == j
    | _ => false)
  | .none, _, _, e => tagIs 1 e && (match (vE e).con with
    | .none => true
    | _ => false)
  | .bool b, _, _, e => tagIs 1 e && (match (vE e).con with
    | .bool c => b == c
    | _ => false)
  | .var x, _, N, e => tagIs 2 e && slotIs N x (vE e).id
  | .fn k, sc, _, e => tagIs 2 e && (G[k]? == some (vE e).id && sc.lookup (vE e).id == some .globalImplicit && !((vE e).id == ("__debug__" : Str)))
  | .bin op _ a b, sc, N, e => tagIs 3 e && (op == (vE e).bop && encE G a sc N (vE e).a && encE G b sc N (vE e).b)
  | .neg a, sc, N, e => tagIs 4 e && (isNeg (vE e).uop && encE G a sc N (vE e).a)
  | .ife t a b, sc, N, e => tagIs 5 e && (encT G t sc N (vE e).a && encE G a sc N (vE e).b && encE G b sc N (vE e).c)
  | .cmp op a b, sc, N, e => tagIs 6 e && onC (fun o r => op == o && encE G a sc N (vE e).a && encE G b sc N r) (vE e).cops (vE e).es
  | .and3 a b c, sc, N, e => tagIs 7 e && (isAnd (vE e).lop && on3 (fun x y z => encE G a sc N x && encE G b sc N y && encE G c sc N z) (vE e).es)
  | .call f args, sc, N, e => tagIs 8 e && (tagIs 2 (vE e).a && ((vE e).ks.isEmpty && (encE G f sc N (vE e).a && encEs G args sc N (vE e).es && decide (0 < (vE e).es.length))))
  | .bi f args, sc, N, e => tagIs 8 e && (nameIs sc f.name (vE e).a && ((vE e).ks.isEmpty && (encEs G args sc N (vE e).es && decide (0 < (vE e).es.length))))
  | .bitlen a, sc, N, e => tagIs 8 e && (tagIs 14 (vE e).a && (tagIs 9 (vE (vE e).a).a && ((vE e).es.isEmpty && ((vE e).ks.isEmpty && ((vE (vE e).a).id == ("bit_length" : Str) && (vE (vE e).a).p.endLine == (vE e).p.line && encE G a sc N (vE (vE e).a).a)))))
  | .item a i, sc, N, e => tagIs 9 e && (encE G a sc N (vE e).a && encE G i sc N (vE e).b)
  | .slice a lo hi st, sc, N, e => tagIs 9 e && (tagIs 15 (vE e).b && (encE G a sc N (vE e).a && encEo G lo sc N (vE (vE e).b).oa && encEo G hi sc N (vE (vE e).b).ob && encEo G st sc N (vE (vE e).b).oc))
  | .list _ l, sc, N, e => tagIs 10 e && encEs G l sc N (vE e).es
  | .tup l, sc, N, e => tagIs 11 e && encEs G l sc N (vE e).es
  | .dict0, _, _, e => tagIs 12 e && ((vE e).dk.isEmpty && (vE e).es.isEmpty)
  | .comp elt tg it conds, sc, N, e => tagIs 13 e && (match (vE e).gs, (vE e).scp with
    | [g], some scope => (g.is_async == 0) && (match tgNames tg g.target with
      | some tn => scopeOk sc N tn scope && (!it.pairs || tg.isTwo) && encI G it sc N g.iter && encE G elt (renm sc scope.names) (childN scope.names N tn) (vE e).a && decide (g.ifs.length ≤ 1) && encTs G conds (renm sc scope.names) (childN scope.names N tn) g.ifs
      | none => false)
    | _, _ => false)
noncomputable def encT (G : List Str) : MT → Nms → Slots → Expr → Bool
  | .not t, sc, N, e => tagIs 4 e && (isNot (vE e).uop && encT G t sc N (vE e).a)
  | .and l, sc, N, e => tagIs 7 e && (isAnd (vE e).lop && encTs G l sc N (vE e).es)
  | .or l, sc, N, e => tagIs 7 e && (isOr (vE e).lop && encTs G l sc N (vE e).es)
  | .cmp op a b, sc, N, e => tagIs 6 e && onC (fun o r => op == o && encE G a sc N (vE e).a && encE G b sc N r) (vE e).cops (vE e).es
  | .val v, sc, N, e => (tagIs 2 e || tagIs 8 e) && encE G v sc N e
noncomputable def encTs (G : List Str) : MTs → Nms → Slots → List Expr → Bool
  | .nil, _, _, es => es.isEmpty
  | .cons t r, sc, N, es => match es with
    | e :: es => encT G t sc N e && encTs G r sc N es
    | [] => false
noncomputable def encEo (G : List Str) : MEo → Nms → Slots → Option Expr → Bool
  | .no, _, _, o => o.isNone
  | .yes m, sc, N, o => match o with
    | some e => encE G m sc N e
    | none => false
noncomputable def encEs (G : List Str) : MEs → Nms → Slots → List Expr → Bool
  | .nil, _, _, es => es.isEmpty
  | .cons m r, sc, N, es => match es with
    | e :: es => encE G m sc N e && encEs G r sc N es
    | [] => false
noncomputable def encI (G : List Str) : MI → Nms → Slots → Expr → Bool
  | .lst m, sc, N, e => encE G m sc N e
  | .range1 a, sc, N, e => tagIs 8 e && (nameIs sc "range" (vE e).a && ((vE e).ks.isEmpty && on1 (fun x => encE G a sc N x) (vE e).es))
  | .range2 a b, sc, N, e => tagIs 8 e && (nameIs sc "range" (vE e).a && ((vE e).ks.isEmpty && on2 (fun x y => encE G a sc N x && encE G b sc N y) (vE e).es))
  | .range3 a b c, sc, N, e => tagIs 8 e && (nameIs sc "range" (vE e).a && ((vE e).ks.isEmpty && on3 (fun x y z => encE G a sc N x && encE G b sc N y && encE G c sc N z) (vE e).es))
  | .enum a, sc, N, e => tagIs 8 e && (nameIs sc "enumerate" (vE e).a && ((vE e).ks.isEmpty && on1 (fun x => encE G a sc N x) (vE e).es))
  | .zip a b, sc, N, e => tagIs 8 e && (nameIs sc "zip" (vE e).a && ((vE e).ks.isEmpty && on2 (fun x y => encE G a sc N x && encE G b sc N y) (vE e).es))
end

noncomputable def namesOf (N : Slots) : List Nat → List Expr → Bool
  | [], [] => true
  | x :: xs, e :: es => tagIs 2 e && (slotIs N x (vE e).id && namesOf N xs es)
  | _, _ => false
noncomputable def notConsts (e : Expr) : Bool := !(tagIs 11 e) || !((vE e).es.all (constantsAlone 8))
noncomputable def nodupNat : List Nat → Bool
  | [] => true
  | x :: r => !r.contains x && nodupNat r

mutual
noncomputable def encS (G : List Str) (sc : Nms) (N : Slots) : MS → Stmt → Bool
  | .asg x m, s => stagIs 1 s && on1 (fun t => tagIs 2 t && (slotIs N x (vE t).id && encE G m sc N (vS s).a)) (vS s).ts
  | .unp xs m, s => stagIs 1 s && on1 (fun t => tagIs 11 t && (namesOf N xs (vE t).es && nodupNat xs && notConsts (vS s).a && encE G m sc N (vS s).a)) (vS s).ts
  | .seti o i m, s => stagIs 1 s && on1 (fun t => tagIs 9 t && (encE G m sc N (vS s).a && encE G o sc N (vE t).a && encE G i sc N (vE t).b)) (vS s).ts
  | .aug x op m, s => stagIs 2 s && (tagIs 2 (vS s).a && (slotIs N x (vE (vS s).a).id && op == (vS s).bop && ([.Add, .Sub, .Mod, .BitOr, .RShift] : List Operator).contains op && encE G m sc N (vS s).b))
  | .iff t a b, s => stagIs 3 s && (encT G t sc N (vS s).a && encSs G sc N a (vS s).xs && encSs G sc N b (vS s).ys)
  | .whil t b, s => stagIs 4 s && ((vS s).ys.isEmpty && (encT G t sc N (vS s).a && encSs G sc N b (vS s).xs))
  | .forr tg it b, s => stagIs 5 s && ((vS s).ys.isEmpty && ((match tgNames tg (vS s).a with
      | some tn => tn.all fun p => slotIs N p.1 p.2
      | none => false) && (!it.pairs || tg.isTwo) && encI G it sc N (vS s).b && encSs G sc N b (vS s).xs))
  | .ret m, s => stagIs 6 s && (match (vS s).oa with
    | some v => encE G m sc N v
    | none => false)
  | .app o m, s => stagIs 7 s && (tagIs 8 (vS s).a && (tagIs 14 (vE (vS s).a).a && (tagIs 2 (vE (vE (vS s).a).a).a && ((vE (vS s).a).ks.isEmpty && on1 (fun v => (vE (vE (vS s).a).a).id == ("append" : Str) && (vE (vE (vS s).a).a).p.endLine == (vE (vS s).a).p.line && encE G o sc N (vE (vE (vS s).a).a).a && encE G m sc N v) (vE (vS s).a).es))))
  | .raise, _ => true
noncomputable def encSs (G : List Str) (sc : Nms) (N : Slots) : MSs → List Stmt → Bool
  | .nil, ss => ss.isEmpty
  | .cons m r, ss => match ss with
    | s :: ss => encS G sc N m s && encSs G sc N r ss
    | [] => false
end
end Mine
end

section
open PySem PySem.W PyProof.Rows
set_option Elab.async false
set_option maxRecDepth 100000
set_option maxHeartbeats 1000000
set_option autoImplicit false
set_option linter.all false
namespace Mine
theorem noO {α : Type} {x : α} {p : Prop} (h : none = some x) : p := by cases h
theorem sp {a b : Bool} (h : (a && b) = true) : a = true ∧ b = true := Bool.and_eq_true_iff.mp h
theorem nl {α : Type} {l : List α} (h : l.isEmpty = true) : l = [] := List.isEmpty_iff.mp h
section
variable {e : Expr}
theorem t1 (h : tagIs 1 e = true) : e = .Constant (vE e).con (vE e).k (vE e).p := tag_back h
theorem t2 (h : tagIs 2 e = true) : e = .Name (vE e).id (vE e).p := tag_back h
theorem t3 (h : tagIs 3 e = true) : e = .BinOp (vE e).a (vE e).bop (vE e).b (vE e).p := tag_back h
theorem t4 (h : tagIs 4 e = true) : e = .UnaryOp (vE e).uop (vE e).a (vE e).p := tag_back h
theorem t5 (h : tagIs 5 e = true) : e = .IfExp (vE e).a (vE e).b (vE e).c (vE e).p := tag_back h
theorem t6 (h : tagIs 6 e = true) : e = .Compare (vE e).a (vE e).cops (vE e).es (vE e).p := tag_back h
theorem t7 (h : tagIs 7 e = true) : e = .BoolOp (vE e).lop (vE e).es (vE e).p := tag_back h
theorem t8 (h : tagIs 8 e = true) : e = .Call (vE e).a (vE e).es (vE e).ks (vE e).p := tag_back h
theorem t9 (h : tagIs 9 e = true) : e = .Subscript (vE e).a (vE e).b (vE e).p := tag_back h
theorem t10 (h : tagIs 10 e = true) : e = .List (vE e).es (vE e).p := tag_back h
theorem t11 (h : tagIs 11 e = true) : e = .Tuple (vE e).es (vE e).k (vE e).p := tag_back h
theorem t12 (h : tagIs 12 e = true) : e = .Dict (vE e).dk (vE e).es (vE e).p := tag_back h
theorem t13 {s : Scope} (h : tagIs 13 e = true) (hs : (vE e).scp = some s) : e = .ListComp (vE e).a (vE e).gs s (vE e).p := by
  have : e = (match (vE e).scp with
    | some s => .ListComp (vE e).a (vE e).gs s (vE e).p
    | none => e0) := tag_back h
  rw [hs] at this
  exact this
theorem t14 (h : tagIs 14 e = true) : e = .Attribute (vE e).a (vE e).id (vE e).p := tag_back h
theorem t15 (h : tagIs 15 e = true) : e = .Slice (vE e).oa (vE e).ob (vE e).oc (vE e).p := tag_back h
end
section
variable {s : Stmt}
theorem sv1 (h : stagIs 1 s = true) : s = .Assign (vS s).ts (vS s).a (vS s).p := stag_back h
theorem sv2 (h : stagIs 2 s = true) : s = .AugAssign (vS s).a (vS s).bop (vS s).b (vS s).p := stag_back h
theorem sv3 (h : stagIs 3 s = true) : s = .If (vS s).a (vS s).xs (vS s).ys (vS s).p := stag_back h
theorem sv4 (h : stagIs 4 s = true) : s = .While (vS s).a (vS s).xs (vS s).ys (vS s).p := stag_back h
theorem sv5 (h : stagIs 5 s = true) : s = .For (vS s).a (vS s).b (vS s).xs (vS s).ys (vS s).p := stag_back h
theorem sv6 (h : stagIs 6 s = true) : s = .Return (vS s).oa (vS s).p := stag_back h
theorem sv7 (h : stagIs 7 s = true) : s = .Expr (vS s).a (vS s).p := stag_back h
end
section
variable {G : List Str} {sc : Nms} {N : Slots} {e : Expr} {R : Expr → Prop}
theorem i_name {nm : Str} (h : nameIs sc nm e = true) : ∃ p, e = .Name nm p ∧ sc.lookup nm = some .globalImplicit := by
  obtain ⟨h1, h2⟩ := sp h
  obtain ⟨h2, h3⟩ := sp h2
  refine ⟨(vE e).p, ?_, ?_⟩
  · rw [← eq_of_beq h2]; exact t2 h1
  · rw [← eq_of_beq h2]; exact eq_of_beq h3
theorem i_int {i : Int} (he : encE G (.int i) sc N e = true) (k : ∀ j x p, (i == j) = true → R (.Constant (.int j) x p)) : R e := by
  have he : (tagIs 1 e && (match (vE e).con with
    | .int j => i == j
    | _ => false)) = true := he
  obtain ⟨h1, h2⟩ := sp he
  rw [t1 h1]
  cases hc : (vE e).con <;> rw [hc] at h2 <;> first | exact no h2 | exact k _ _ _ h2
theorem i_none (he : encE G .none sc N e = true) (k : ∀ x p, R (.Constant .none x p)) : R e := by
  have he : (tagIs 1 e && (match (vE e).con with
    | .none => true
    | _ => false)) = true := he
  obtain ⟨h1, h2⟩ := sp he
  rw [t1 h1]
  cases hc : (vE e).con <;> rw [hc] at h2 <;> first | exact no h2 | exact k _ _
theorem i_bool {b : Bool} (he : encE G (.bool b) sc N e = true) (k : ∀ c x p, (b == c) = true → R (.Constant (.bool c) x p)) : R e := by
  have he : (tagIs 1 e && (match (vE e).con with
    | .bool c => b == c
    | _ => false)) = true := he
  obtain ⟨h1, h2⟩ := sp he
  rw [t1 h1]
  cases hc : (vE e).con <;> rw [hc] at h2 <;> first | exact no h2 | exact k _ _ _ h2
theorem i_var {x : Nat} (he : encE G (.var x) sc N e = true) (k : ∀ id p, slotIs N x id = true → R (.Name id p)) : R e := by
  have he : (tagIs 2 e && slotIs N x (vE e).id) = true := he
  obtain ⟨h1, h2⟩ := sp he
  rw [t2 h1]; exact k _ _ h2
theorem i_fn {x : Nat} (he : encE G (.fn x) sc N e = true) (k : ∀ id p, (G[x]? == some id && sc.lookup id == some .globalImplicit && !(id == ("__debug__" : Str))) = true → R (.Name id p)) : R e := by
  have he : (tagIs 2 e && (G[x]? == some (vE e).id && sc.lookup (vE e).id == some .globalImplicit && !((vE e).id == ("__debug__" : Str)))) = true := he
  obtain ⟨h1, h2⟩ := sp he
  rw [t2 h1]; exact k _ _ h2
theorem i_bin {op : Operator} {mk : Bool} {a b : ME} (he : encE G (.bin op mk a b) sc N e = true) (k : ∀ l o r p, (op == o && encE G a sc N l && encE G b sc N r) = true → R (.BinOp l o r p)) : R e := by
  have he : (tagIs 3 e && (op == (vE e).bop && encE G a sc N (vE e).a && encE G b sc N (vE e).b)) = true := he
  obtain ⟨h1, h2⟩ := sp he
  rw [t3 h1]; exact k _ _ _ _ h2
theorem i_neg {a : ME} (he : encE G (.neg a) sc N e = true) (k : ∀ x p, encE G a sc N x = true → R (.UnaryOp .USub x p)) : R e := by
  have he : (tagIs 4 e && (isNeg (vE e).uop && encE G a sc N (vE e).a)) = true := he
  obtain ⟨h1, h2⟩ := sp he
  obtain ⟨h2, h3⟩ := sp h2
  rw [t4 h1]
  cases hc : (vE e).uop <;> rw [hc] at h2 <;> first | exact no h2 | exact k _ _ h3
theorem i_ife {t : MT} {a b : ME} (he : encE G (.ife t a b) sc N e = true) (k : ∀ c x y p, (encT G t sc N c && encE G a sc N x && encE G b sc N y) = true → R (.IfExp c x y p)) : R e := by
  have he : (tagIs 5 e && (encT G t sc N (vE e).a && encE G a sc N (vE e).b && encE G b sc N (vE e).c)) = true := he
  obtain ⟨h1, h2⟩ := sp he
  rw [t5 h1]; exact k _ _ _ _ h2
/-- one comparison -/
theorem cmp1 {f : CmpOp → Expr → Bool} {os : List CmpOp} {es : List Expr} (h : onC f os es = true) : ∃ o r, os = [o] ∧ es = [r] ∧ f o r = true := by
  rcases os with _ | ⟨o, _ | ⟨o2, os⟩⟩ <;> rcases es with _ | ⟨r, _ | ⟨r2, es⟩⟩ <;> first | exact no h | exact ⟨_, _, rfl, rfl, h⟩
theorem one1 {α : Type} {f : α → Bool} {es : List α} (h : on1 f es = true) : ∃ x, es = [x] ∧ f x = true := by
  rcases es with _ | ⟨r, _ | ⟨r2, es⟩⟩ <;> first | exact no h | exact ⟨_, rfl, h⟩
theorem one2 {α : Type} {f : α → α → Bool} {es : List α} (h : on2 f es = true) : ∃ x y, es = [x, y] ∧ f x y = true := by
  rcases es with _ | ⟨r, _ | ⟨r2, _ | ⟨r3, es⟩⟩⟩ <;> first | exact no h | exact ⟨_, _, rfl, h⟩
theorem one3 {α : Type} {f : α → α → α → Bool} {es : List α} (h : on3 f es = true) : ∃ x y z, es = [x, y, z] ∧ f x y z = true := by
  rcases es with _ | ⟨r, _ | ⟨r2, _ | ⟨r3, _ | ⟨r4, es⟩⟩⟩⟩ <;> first | exact no h | exact ⟨_, _, _, rfl, h⟩
theorem i_cmp {op : CmpOp} {a b : ME} (he : encE G (.cmp op a b) sc N e = true) (k : ∀ l o r p, (op == o && encE G a sc N l && encE G b sc N r) = true → R (.Compare l [o] [r] p)) : R e := by
  have he : (tagIs 6 e && onC (fun o r => op == o && encE G a sc N (vE e).a && encE G b sc N r) (vE e).cops (vE e).es) = true := he
  obtain ⟨h1, h2⟩ := sp he
  obtain ⟨o, r, e1, e2, h3⟩ := cmp1 h2
  rw [t6 h1, e1, e2]; exact k _ _ _ _ h3
theorem is_and {o : BoolOp} (h : isAnd o = true) : o = .And := by cases o <;> first | rfl | exact no h
theorem is_or {o : BoolOp} (h : isOr o = true) : o = .Or := by cases o <;> first | rfl | exact no h
theorem i_and3 {a b c : ME} (he : encE G (.and3 a b c) sc N e = true) (k : ∀ x y z p, (encE G a sc N x && encE G b sc N y && encE G c sc N z) = true → R (.BoolOp .And [x, y, z] p)) : R e := by
  have he : (tagIs 7 e && (isAnd (vE e).lop && on3 (fun x y z => encE G a sc N x && encE G b sc N y && encE G c sc N z) (vE e).es)) = true := he
  obtain ⟨h1, h2⟩ := sp he
  obtain ⟨h2, h3⟩ := sp h2
  obtain ⟨x, y, z, e1, h4⟩ := one3 h3
  rw [t7 h1, e1, is_and h2]; exact k _ _ _ _ h4
theorem i_call {f : ME} {args : MEs} (he : encE G (.call f args) sc N e = true) (k : ∀ id p as pos, (encE G f sc N (.Name id p) && encEs G args sc N as && decide (0 < as.length)) = true → R (.Call (.Name id p) as [] pos)) : R e := by
  have he : (tagIs 8 e && (tagIs 2 (vE e).a && ((vE e).ks.isEmpty && (encE G f sc N (vE e).a && encEs G args sc N (vE e).es && decide (0 < (vE e).es.length))))) = true := he
  obtain ⟨h1, h2⟩ := sp he
  obtain ⟨h2, h3⟩ := sp h2
  obtain ⟨h3, h4⟩ := sp h3
  rw [t2 h2] at h4
  rw [t8 h1, nl h3, t2 h2]; exact k _ _ _ _ h4
theorem i_bi {f : Bi} {args : MEs} (he : encE G (.bi f args) sc N e = true) (k : ∀ id p as pos, (id == f.name && sc.lookup id == some .globalImplicit && encEs G args sc N as && decide (0 < as.length)) = true → R (.Call (.Name id p) as [] pos)) : R e := by
  have he : (tagIs 8 e && (nameIs sc f.name (vE e).a && ((vE e).ks.isEmpty && (encEs G args sc N (vE e).es && decide (0 < (vE e).es.length))))) = true := he
  obtain ⟨h1, h2⟩ := sp he
  obtain ⟨h2, h3⟩ := sp h2
  obtain ⟨h3, h4⟩ := sp h3
  obtain ⟨p, e1, e2⟩ := i_name h2
  obtain ⟨h5, h6⟩ := sp h4
  rw [t8 h1, nl h3, e1]
  refine k _ _ _ _ ?_
  rw [e2, h5, h6, beq_self_eq_true, beq_self_eq_true]; rfl
theorem i_bitlen {a : ME} (he : encE G (.bitlen a) sc N e = true) (k : ∀ v s p nm apos pos, (nm == ("bit_length" : Str) && apos.endLine == pos.line && encE G a sc N (.Subscript v s p)) = true → R (.Call (.Attribute (.Subscript v s p) nm apos) [] [] pos)) : R e := by
  have he : (tagIs 8 e && (tagIs 14 (vE e).a && (tagIs 9 (vE (vE e).a).a && ((vE e).es.isEmpty && ((vE e).ks.isEmpty && ((vE (vE e).a).id == ("bit_length" : Str) && (vE (vE e).a).p.endLine == (vE e).p.line && encE G a sc N (vE (vE e).a).a)))))) = true := he
  obtain ⟨h1, h2⟩ := sp he
  obtain ⟨h2, h3⟩ := sp h2
  obtain ⟨h3, h4⟩ := sp h3
  obtain ⟨h4, h5⟩ := sp h4
  obtain ⟨h5, h6⟩ := sp h5
  rw [t9 h3] at h6
  rw [t8 h1, nl h4, nl h5, t14 h2, t9 h3]
  exact k _ _ _ _ _ _ h6
theorem i_item {a i : ME} (he : encE G (.item a i) sc N e = true) (k : ∀ v s p, (encE G a sc N v && encE G i sc N s) = true → R (.Subscript v s p)) : R e := by
  have he : (tagIs 9 e && (encE G a sc N (vE e).a && encE G i sc N (vE e).b)) = true := he
  obtain ⟨h1, h2⟩ := sp he
  rw [t9 h1]; exact k _ _ _ h2
theorem i_slice {a : ME} {lo hi st : MEo} (he : encE G (.slice a lo hi st) sc N e = true) (k : ∀ v l u s p q, (encE G a sc N v && encEo G lo sc N l && encEo G hi sc N u && encEo G st sc N s) = true → R (.Subscript v (.Slice l u s p) q)) : R e := by
  have he : (tagIs 9 e && (tagIs 15 (vE e).b && (encE G a sc N (vE e).a && encEo G lo sc N (vE (vE e).b).oa && encEo G hi sc N (vE (vE e).b).ob && encEo G st sc N (vE (vE e).b).oc))) = true := he
  obtain ⟨h1, h2⟩ := sp he
  obtain ⟨h2, h3⟩ := sp h2
  rw [t9 h1, t15 h2]; exact k _ _ _ _ _ _ h3
theorem i_list {mk : Bool} {l : MEs} (he : encE G (.list mk l) sc N e = true) (k : ∀ es p, encEs G l sc N es = true → R (.List es p)) : R e := by
  have he : (tagIs 10 e && encEs G l sc N (vE e).es) = true := he
  obtain ⟨h1, h2⟩ := sp he
  rw [t10 h1]; exact k _ _ h2
theorem i_tup {l : MEs} (he : encE G (.tup l) sc N e = true) (k : ∀ es x p, encEs G l sc N es = true → R (.Tuple es x p)) : R e := by
  have he : (tagIs 11 e && encEs G l sc N (vE e).es) = true := he
  obtain ⟨h1, h2⟩ := sp he
  rw [t11 h1]; exact k _ _ _ h2
theorem i_dict0 (he : encE G .dict0 sc N e = true) (k : ∀ p, R (.Dict [] [] p)) : R e := by
  have he : (tagIs 12 e && ((vE e).dk.isEmpty && (vE e).es.isEmpty)) = true := he
  obtain ⟨h1, h2⟩ := sp he
  obtain ⟨h2, h3⟩ := sp h2
  rw [t12 h1, nl h2, nl h3]; exact k _
theorem i_comp {elt : ME} {tg : Tg} {it : MI} {conds : MTs} (he : encE G (.comp elt tg it conds) sc N e = true) (k : ∀ el target iter ifs scope p tn, tgNames tg target = some tn →
    (scopeOk sc N tn scope && (!it.pairs || tg.isTwo) && encI G it sc N iter && encE G elt (renm sc scope.names) (childN scope.names N tn) el && decide (ifs.length ≤ 1) && encTs G conds (renm sc scope.names) (childN scope.names N tn) ifs) = true → R (.ListComp el [⟨target, iter, ifs, 0⟩] scope p)) : R e := by
  have he : (tagIs 13 e && (match (vE e).gs, (vE e).scp with
    | [g], some scope => (g.is_async == 0) && (match tgNames tg g.target with
      | some tn => scopeOk sc N tn scope && (!it.pairs || tg.isTwo) && encI G it sc N g.iter && encE G elt (renm sc scope.names) (childN scope.names N tn) (vE e).a && decide (g.ifs.length ≤ 1) && encTs G conds (renm sc scope.names) (childN scope.names N tn) g.ifs
      | none => false)
    | _, _ => false)) = true := he
  obtain ⟨h1, h2⟩ := sp he
  obtain ⟨s, hs⟩ := vE_scope e h1
  rw [hs] at h2
  rw [t13 h1 hs]
  generalize (vE e).gs = gs at h2 ⊢
  rcases gs with _ | ⟨⟨target, iter, ifs, as⟩, _ | ⟨g2, gs⟩⟩
  · exact no h2
  · obtain ⟨h2, h3⟩ := sp h2
    have ha : as = 0 := eq_of_beq h2
    subst ha
    dsimp only at h3
    cases ht : tgNames tg target with
    | none => rw [ht] at h3; exact no h3
    | some tn => rw [ht] at h3; exact k _ _ _ _ _ _ _ ht h3
  · exact no h2
theorem i_not {t : MT} (he : encT G (.not t) sc N e = true) (k : ∀ x p, encT G t sc N x = true → R (.UnaryOp .Not x p)) : R e := by
  have he : (tagIs 4 e && (isNot (vE e).uop && encT G t sc N (vE e).a)) = true := he
  obtain ⟨h1, h2⟩ := sp he
  obtain ⟨h2, h3⟩ := sp h2
  rw [t4 h1]
  cases hc : (vE e).uop <;> rw [hc] at h2 <;> first | exact no h2 | exact k _ _ h3
theorem i_and {l : MTs} (he : encT G (.and l) sc N e = true) (k : ∀ es p, encTs G l sc N es = true → R (.BoolOp .And es p)) : R e := by
  have he : (tagIs 7 e && (isAnd (vE e).lop && encTs G l sc N (vE e).es)) = true := he
  obtain ⟨h1, h2⟩ := sp he
  obtain ⟨h2, h3⟩ := sp h2
  rw [t7 h1, is_and h2]; exact k _ _ h3
theorem i_or {l : MTs} (he : encT G (.or l) sc N e = true) (k : ∀ es p, encTs G l sc N es = true → R (.BoolOp .Or es p)) : R e := by
  have he : (tagIs 7 e && (isOr (vE e).lop && encTs G l sc N (vE e).es)) = true := he
  obtain ⟨h1, h2⟩ := sp he
  obtain ⟨h2, h3⟩ := sp h2
  rw [t7 h1, is_or h2]; exact k _ _ h3
theorem i_tcmp {op : CmpOp} {a b : ME} (he : encT G (.cmp op a b) sc N e = true) (k : ∀ l o r p, (op == o && encE G a sc N l && encE G b sc N r) = true → R (.Compare l [o] [r] p)) : R e := by exact i_cmp (e := e) he k
theorem i_val {v : ME} (he : encT G (.val v) sc N e = true) (k1 : ∀ id p, encE G v sc N (.Name id p) = true → R (.Name id p)) (k2 : ∀ f as ks p, encE G v sc N (.Call f as ks p) = true → R (.Call f as ks p)) : R e := by
  have he : ((tagIs 2 e || tagIs 8 e) && encE G v sc N e) = true := he
  obtain ⟨h1, h2⟩ := sp he
  rcases Bool.or_eq_true_iff.mp h1 with h | h
  · rw [t2 h] at h2 ⊢; exact k1 _ _ h2
  · rw [t8 h] at h2 ⊢; exact k2 _ _ _ _ h2
theorem i_rng {nm : Str} {es : List Expr} {K : Expr → Prop} (h1 : tagIs 8 e = true) (h2 : nameIs sc nm (vE e).a = true) (h3 : (vE e).ks.isEmpty = true) (h4 : (vE e).es = es) (k : ∀ p pos, sc.lookup nm = some .globalImplicit → K (.Call (.Name nm p) es [] pos)) : K e := by
  obtain ⟨p, e1, e2⟩ := i_name h2
  rw [t8 h1, nl h3, e1, h4]
  exact k _ _ e2
theorem i_range1 {a : ME} (he : encI G (.range1 a) sc N e = true) (k : ∀ p x pos, sc.lookup ("range" : Str) = some .globalImplicit → encE G a sc N x = true → R (.Call (.Name "range" p) [x] [] pos)) : R e := by
  have he : (tagIs 8 e && (nameIs sc "range" (vE e).a && ((vE e).ks.isEmpty && on1 (fun x => encE G a sc N x) (vE e).es))) = true := he
  obtain ⟨h1, h2⟩ := sp he
  obtain ⟨h2, h3⟩ := sp h2
  obtain ⟨h3, h4⟩ := sp h3
  obtain ⟨x, e1, h5⟩ := one1 h4
  exact i_rng h1 h2 h3 e1 fun p pos q => k p x pos q h5
theorem i_range2 {a b : ME} (he : encI G (.range2 a b) sc N e = true) (k : ∀ p x y pos, sc.lookup ("range" : Str) = some .globalImplicit → (encE G a sc N x && encE G b sc N y) = true → R (.Call (.Name "range" p) [x, y] [] pos)) : R e := by
  have he : (tagIs 8 e && (nameIs sc "range" (vE e).a && ((vE e).ks.isEmpty && on2 (fun x y => encE G a sc N x && encE G b sc N y) (vE e).es))) = true := he
  obtain ⟨h1, h2⟩ := sp he
  obtain ⟨h2, h3⟩ := sp h2
  obtain ⟨h3, h4⟩ := sp h3
  obtain ⟨x, y, e1, h5⟩ := one2 h4
  exact i_rng h1 h2 h3 e1 fun p pos q => k p x y pos q h5
theorem i_range3 {a b c : ME} (he : encI G (.range3 a b c) sc N e = true) (k : ∀ p x y z pos, sc.lookup ("range" : Str) = some .globalImplicit → (encE G a sc N x && encE G b sc N y && encE G c sc N z) = true → R (.Call (.Name "range" p) [x, y, z] [] pos)) : R e := by
  have he : (tagIs 8 e && (nameIs sc "range" (vE e).a && ((vE e).ks.isEmpty && on3 (fun x y z => encE G a sc N x && encE G b sc N y && encE G c sc N z) (vE e).es))) = true := he
  obtain ⟨h1, h2⟩ := sp he
  obtain ⟨h2, h3⟩ := sp h2
  obtain ⟨h3, h4⟩ := sp h3
  obtain ⟨x, y, z, e1, h5⟩ := one3 h4
  exact i_rng h1 h2 h3 e1 fun p pos q => k p x y z pos q h5
theorem i_enum {a : ME} (he : encI G (.enum a) sc N e = true) (k : ∀ p x pos, sc.lookup ("enumerate" : Str) = some .globalImplicit → encE G a sc N x = true → R (.Call (.Name "enumerate" p) [x] [] pos)) : R e := by
  have he : (tagIs 8 e && (nameIs sc "enumerate" (vE e).a && ((vE e).ks.isEmpty && on1 (fun x => encE G a sc N x) (vE e).es))) = true := he
  obtain ⟨h1, h2⟩ := sp he
  obtain ⟨h2, h3⟩ := sp h2
  obtain ⟨h3, h4⟩ := sp h3
  obtain ⟨x, e1, h5⟩ := one1 h4
  exact i_rng h1 h2 h3 e1 fun p pos q => k p x pos q h5
theorem i_zip {a b : ME} (he : encI G (.zip a b) sc N e = true) (k : ∀ p x y pos, sc.lookup ("zip" : Str) = some .globalImplicit → (encE G a sc N x && encE G b sc N y) = true → R (.Call (.Name "zip" p) [x, y] [] pos)) : R e := by
  have he : (tagIs 8 e && (nameIs sc "zip" (vE e).a && ((vE e).ks.isEmpty && on2 (fun x y => encE G a sc N x && encE G b sc N y) (vE e).es))) = true := he
  obtain ⟨h1, h2⟩ := sp he
  obtain ⟨h2, h3⟩ := sp h2
  obtain ⟨h3, h4⟩ := sp h3
  obtain ⟨x, y, e1, h5⟩ := one2 h4
  exact i_rng h1 h2 h3 e1 fun p pos q => k p x y pos q h5
end
section
variable {G : List Str} {sc : Nms} {N : Slots} {t : Stmt} {R : Stmt → Prop}
theorem i_asg {x : Nat} {m : ME} (he : encS G sc N (.asg x m) t = true) (k : ∀ id p v pos, (slotIs N x id && encE G m sc N v) = true → R (.Assign [.Name id p] v pos)) : R t := by
  have he : (stagIs 1 t && on1 (fun t' => tagIs 2 t' && (slotIs N x (vE t').id && encE G m sc N (vS t).a)) (vS t).ts) = true := he
  obtain ⟨h1, h2⟩ := sp he
  obtain ⟨t', e1, h3⟩ := one1 h2
  obtain ⟨h3, h4⟩ := sp h3
  rw [sv1 h1, e1, t2 h3]; exact k _ _ _ _ h4
theorem i_unp {xs : List Nat} {m : ME} (he : encS G sc N (.unp xs m) t = true) (k : ∀ ts x p v pos, (namesOf N xs ts && nodupNat xs && notConsts v && encE G m sc N v) = true → R (.Assign [.Tuple ts x p] v pos)) : R t := by
  have he : (stagIs 1 t && on1 (fun t' => tagIs 11 t' && (namesOf N xs (vE t').es && nodupNat xs && notConsts (vS t).a && encE G m sc N (vS t).a)) (vS t).ts) = true := he
  obtain ⟨h1, h2⟩ := sp he
  obtain ⟨t', e1, h3⟩ := one1 h2
  obtain ⟨h3, h4⟩ := sp h3
  rw [sv1 h1, e1, t11 h3]; exact k _ _ _ _ _ h4
theorem i_seti {o i m : ME} (he : encS G sc N (.seti o i m) t = true) (k : ∀ ov iv p v pos, (encE G m sc N v && encE G o sc N ov && encE G i sc N iv) = true → R (.Assign [.Subscript ov iv p] v pos)) : R t := by
  have he : (stagIs 1 t && on1 (fun t' => tagIs 9 t' && (encE G m sc N (vS t).a && encE G o sc N (vE t').a && encE G i sc N (vE t').b)) (vS t).ts) = true := he
  obtain ⟨h1, h2⟩ := sp he
  obtain ⟨t', e1, h3⟩ := one1 h2
  obtain ⟨h3, h4⟩ := sp h3
  rw [sv1 h1, e1, t9 h3]; exact k _ _ _ _ _ h4
theorem i_aug {x : Nat} {op : Operator} {m : ME} (he : encS G sc N (.aug x op m) t = true) (k : ∀ id p op' v pos, (slotIs N x id && op == op' && ([.Add, .Sub, .Mod, .BitOr, .RShift] : List Operator).contains op && encE G m sc N v) = true → R (.AugAssign (.Name id p) op' v pos)) : R t := by
  have he : (stagIs 2 t && (tagIs 2 (vS t).a && (slotIs N x (vE (vS t).a).id && op == (vS t).bop && ([.Add, .Sub, .Mod, .BitOr, .RShift] : List Operator).contains op && encE G m sc N (vS t).b))) = true := he
  obtain ⟨h1, h2⟩ := sp he
  obtain ⟨h2, h3⟩ := sp h2
  rw [sv2 h1, t2 h2]; exact k _ _ _ _ _ h3
theorem i_iff {c : MT} {a b : MSs} (he : encS G sc N (.iff c a b) t = true) (k : ∀ c' x y p, (encT G c sc N c' && encSs G sc N a x && encSs G sc N b y) = true → R (.If c' x y p)) : R t := by
  have he : (stagIs 3 t && (encT G c sc N (vS t).a && encSs G sc N a (vS t).xs && encSs G sc N b (vS t).ys)) = true := he
  obtain ⟨h1, h2⟩ := sp he
  rw [sv3 h1]; exact k _ _ _ _ h2
theorem i_whil {c : MT} {b : MSs} (he : encS G sc N (.whil c b) t = true) (k : ∀ c' x p, (encT G c sc N c' && encSs G sc N b x) = true → R (.While c' x [] p)) : R t := by
  have he : (stagIs 4 t && ((vS t).ys.isEmpty && (encT G c sc N (vS t).a && encSs G sc N b (vS t).xs))) = true := he
  obtain ⟨h1, h2⟩ := sp he
  obtain ⟨h2, h3⟩ := sp h2
  rw [sv4 h1, nl h2]; exact k _ _ _ h3
theorem i_forr {tg : Tg} {it : MI} {b : MSs} (he : encS G sc N (.forr tg it b) t = true) (k : ∀ target iter x p tn, tgNames tg target = some tn → (tn.all fun p => slotIs N p.1 p.2) = true → (!it.pairs || tg.isTwo) = true → encI G it sc N iter = true → encSs G sc N b x = true → R (.For target iter x [] p)) : R t := by
  have he : (stagIs 5 t && ((vS t).ys.isEmpty && ((match tgNames tg (vS t).a with
      | some tn => tn.all fun p => slotIs N p.1 p.2
      | none => false) && (!it.pairs || tg.isTwo) && encI G it sc N (vS t).b && encSs G sc N b (vS t).xs))) = true := he
  obtain ⟨h1, h2⟩ := sp he
  obtain ⟨h2, h3⟩ := sp h2
  obtain ⟨h3, h4⟩ := sp h3
  obtain ⟨h3, h5⟩ := sp h3
  obtain ⟨h3, h6⟩ := sp h3
  rw [sv5 h1, nl h2]
  cases ht : tgNames tg (vS t).a with
  | none => rw [ht] at h3; exact no h3
  | some tn => rw [ht] at h3; exact k _ _ _ _ tn ht h3 h6 h5 h4
theorem i_ret {m : ME} (he : encS G sc N (.ret m) t = true) (k : ∀ v p, encE G m sc N v = true → R (.Return (some v) p)) : R t := by
  have he : (stagIs 6 t && (match (vS t).oa with
    | some v => encE G m sc N v
    | none => false)) = true := he
  obtain ⟨h1, h2⟩ := sp he
  rw [sv6 h1]
  cases ho : (vS t).oa with
  | none => rw [ho] at h2; exact no h2
  | some v => rw [ho] at h2; exact k _ _ h2
theorem i_app {o m : ME} (he : encS G sc N (.app o m) t = true) (k : ∀ id p nm apos v pos q, (nm == ("append" : Str) && apos.endLine == pos.line && encE G o sc N (.Name id p) && encE G m sc N v) = true → R (.Expr (.Call (.Attribute (.Name id p) nm apos) [v] [] pos) q)) : R t := by
  have he : (stagIs 7 t && (tagIs 8 (vS t).a && (tagIs 14 (vE (vS t).a).a && (tagIs 2 (vE (vE (vS t).a).a).a && ((vE (vS t).a).ks.isEmpty && on1 (fun v => (vE (vE (vS t).a).a).id == ("append" : Str) && (vE (vE (vS t).a).a).p.endLine == (vE (vS t).a).p.line && encE G o sc N (vE (vE (vS t).a).a).a && encE G m sc N v) (vE (vS t).a).es))))) = true := he
  obtain ⟨h1, h2⟩ := sp he
  obtain ⟨h2, h3⟩ := sp h2
  obtain ⟨h3, h4⟩ := sp h3
  obtain ⟨h4, h5⟩ := sp h4
  obtain ⟨h5, h6⟩ := sp h5
  obtain ⟨v, e1, h7⟩ := one1 h6
  rw [t2 h4] at h7
  rw [sv7 h1, t8 h2, t14 h3, t2 h4, nl h5, e1]
  exact k _ _ _ _ _ _ _ h7
end
theorem i_tnil {G : List Str} {sc : Nms} {N : Slots} {es : List Expr} (h : encTs G .nil sc N es = true) : es = [] := nl h
theorem i_tcons {G : List Str} {sc : Nms} {N : Slots} {m : MT} {r : MTs} {es : List Expr} (h : encTs G (.cons m r) sc N es = true) : ∃ e es', es = e :: es' ∧ encT G m sc N e = true ∧ encTs G r sc N es' = true := by
  cases es with
  | nil => exact no h
  | cons e es => obtain ⟨h1, h2⟩ := sp h; exact ⟨e, es, rfl, h1, h2⟩
theorem i_enil {G : List Str} {sc : Nms} {N : Slots} {es : List Expr} (h : encEs G .nil sc N es = true) : es = [] := nl h
theorem i_econs {G : List Str} {sc : Nms} {N : Slots} {m : ME} {r : MEs} {es : List Expr} (h : encEs G (.cons m r) sc N es = true) : ∃ e es', es = e :: es' ∧ encE G m sc N e = true ∧ encEs G r sc N es' = true := by
  cases es with
  | nil => exact no h
  | cons e es => obtain ⟨h1, h2⟩ := sp h; exact ⟨e, es, rfl, h1, h2⟩
theorem i_snil {G : List Str} {sc : Nms} {N : Slots} {es : List Stmt} (h : encSs G sc N .nil es = true) : es = [] := nl h
theorem i_scons {G : List Str} {sc : Nms} {N : Slots} {m : MS} {r : MSs} {es : List Stmt} (h : encSs G sc N (.cons m r) es = true) : ∃ e es', es = e :: es' ∧ encS G sc N m e = true ∧ encSs G sc N r es' = true := by
  cases es with
  | nil => exact no h
  | cons e es => obtain ⟨h1, h2⟩ := sp h; exact ⟨e, es, rfl, h1, h2⟩
/-! targets -/
theorem i_tg1 {x : Nat} {e : Expr} {tn : List (Nat × Str)} {R : Expr → List (Nat × Str) → Prop} (h : tgNames (.one x) e = some tn) (k : ∀ id p, R (.Name id p) [(x, id)]) : R e tn := by
  have h : (if tagIs 2 e then some [(x, (vE e).id)] else none) = some tn := h
  by_cases h1 : tagIs 2 e = true
  · rw [if_pos h1] at h
    cases h
    have := k (vE e).id (vE e).p
    rw [← t2 h1] at this
    exact this
  · rw [if_neg h1] at h; cases h
theorem i_tg2 {x y : Nat} {e : Expr} {tn : List (Nat × Str)} {R : Expr → List (Nat × Str) → Prop} (h : tgNames (.two x y) e = some tn) (k : ∀ a b p q kk r, (x == y) = false → R (.Tuple [.Name a p, .Name b q] kk r) [(x, a), (y, b)]) : R e tn := by
  have h : (if tagIs 11 e then (match (vE e).es with
    | [a, b] => if tagIs 2 a && tagIs 2 b && !(x == y) then some [(x, (vE a).id), (y, (vE b).id)] else none
    | _ => none) else none) = some tn := h
  by_cases h1 : tagIs 11 e = true
  · rw [if_pos h1] at h
    have ee := t11 h1
    generalize (vE e).es = es at h ee
    rcases es with _ | ⟨a, _ | ⟨b, _ | ⟨c, es⟩⟩⟩
    · cases h
    · cases h
    · dsimp only at h
      by_cases h2 : (tagIs 2 a && tagIs 2 b && !(x == y)) = true
      · rw [if_pos h2] at h
        cases h
        obtain ⟨h2, h3⟩ := sp h2
        obtain ⟨h2, h4⟩ := sp h2
        rw [ee]
        have := k (vE a).id (vE b).id (vE a).p (vE b).p (vE e).k (vE e).p (by simpa using h3)
        rw [← t2 h2, ← t2 h4] at this
        exact this
      · rw [if_neg h2] at h; cases h
    · cases h
  · rw [if_neg h1] at h; cases h
theorem i_tg1' {x : Nat} {e : Expr} {tn : List (Nat × Str)} (h : tgNames (.one x) e = some tn) : ∃ id p, e = .Name id p ∧ tn = [(x, id)] :=
  i_tg1 (R := fun e tn => ∃ id p, e = .Name id p ∧ tn = [(x, id)]) h fun id p => ⟨id, p, rfl, rfl⟩
theorem i_tg2' {x y : Nat} {e : Expr} {tn : List (Nat × Str)} (h : tgNames (.two x y) e = some tn) : ∃ a pa b pb k r, ¬ (x == y) = true ∧ e = .Tuple [.Name a pa, .Name b pb] k r ∧ tn = [(x, a), (y, b)] :=
  i_tg2 (R := fun e tn => ∃ a pa b pb k r, ¬ (x == y) = true ∧ e = .Tuple [.Name a pa, .Name b pb] k r ∧ tn = [(x, a), (y, b)]) h fun a b p q kk r hxy => ⟨a, p, b, q, kk, r, by rw [hxy]; exact Bool.false_ne_true, rfl, rfl⟩
theorem i_names {N : Slots} {x : Nat} {xs : List Nat} {e : Expr} {es : List Expr} (h : namesOf N (x :: xs) (e :: es) = true) : ∃ id p, e = .Name id p ∧ slotIs N x id = true ∧ namesOf N xs es = true := by
  have h : (tagIs 2 e && (slotIs N x (vE e).id && namesOf N xs es)) = true := h
  obtain ⟨h1, h2⟩ := sp h
  obtain ⟨h2, h3⟩ := sp h2
  exact ⟨_, _, t2 h1, h2, h3⟩
end Mine
end

section
open PySem PySem.W PyProof.Rows PySem.Spec PySem.SeqAt
set_option Elab.async false
set_option maxRecDepth 100000
set_option maxHeartbeats 1000000
set_option autoImplicit false
set_option linter.unusedVariables false
namespace Mine

/-- behind an expression -/
inductive EP (P : PG) (X : Cx) (F : Gm) (loc : List Addr) (fr : Frm) (Q : Dv → St → Prop) (v : Value) (s' : Shared) : Prop where
  | mk (F' : Gm) (loc' : List Addr) (st' : St) (d : Dv) : Ext F loc F' loc' → Sim P X F' loc' st' fr s' → VRep P.fa F' loc' d v → Q d st' → EP P X F loc fr Q v s'

theorem EP.ext {P : PG} {X : Cx} {F F₁ : Gm} {loc loc₁ : List Addr} {fr : Frm} {Q : Dv → St → Prop} {v : Value} {s' : Shared} (x : Ext F loc F₁ loc₁) (h : EP P X F₁ loc₁ fr Q v s') : EP P X F loc fr Q v s' := by
  obtain ⟨F', loc', st', d, e, S, r, q⟩ := h
  exact ⟨F', loc', st', d, x.trans e, S, r, q⟩

section
variable {P : PG} {X : Cx} {F : Gm} {loc : List Addr} {st : St} {fr : Frm} {s : Shared}

theorem lst_isList {h : Heap} {a : Addr} {o : Obj} {vs : List Value} (e : h.get? a = some o) (hl : IsL o vs) : h.IsList a vs.toArray := by
  obtain ⟨n, rfl⟩ := hl; exact ⟨_, e, rfl, n, rfl⟩
theorem tup_isTup {h : Heap} {a : Addr} {o : Obj} {vs : List Value} (e : h.get? a = some o) (hl : IsT o vs) : IsTup h a vs.toArray := ⟨o, e, hl.1, hl.2⟩

theorem its_real (S : HSim P F loc st s) {d : Dv} {v : Value} (r : VRep P.fa F loc d v) {l : List Dv} (h : its st d = some l) :
    ∃ a o vs, v = .ref a ∧ s.heap.get? a = some o ∧ IsL o vs ∧ VReps P.fa F loc l vs := by
  cases r with
  | list e hl rs => cases h; exact ⟨_, _, _, rfl, S.keepF _ _ e, hl, rs⟩
  | @ref n a e =>
    simp only [its] at h
    cases q : st[n]? with
    | none => rw [q] at h; cases h
    | some x =>
      rw [q] at h
      cases x with
      | none => cases h
      | some mo =>
        cases mo with
        | dict => cases h
        | list l' =>
          cases h
          refine hide fun hn => ?_
          obtain ⟨o, vs, ho, hl, rs⟩ := S.mrep n a _ e q
          refine hn ?_; clear hn
          exact ⟨a, o, vs, rfl, ho, hl, rs.mono ⟨Gsub.refl F, List.nil_prefix⟩⟩
  | none => cases h
  | bool => cases h
  | int => cases h
  | tup => cases h
  | fn => cases h

theorem v_int {fa : Nat → Addr} {F : Gm} {loc : List Addr} {i : Int} {v : Value} (r : VRep fa F loc (.int i) v) : ∃ t, v = .int i t := by
  cases r; exact ⟨_, rfl⟩
theorem iL_vals {fa : Nat → Addr} {F : Gm} {loc : List Addr} : ∀ {xs : List Int} {vs : List Value}, VReps fa F loc (iL xs) vs → IntsAre vs xs
  | [], _, h => by cases h; exact .nil
  | x :: xs, _, h => by
    cases h with
    | cons r rs =>
      obtain ⟨t, rfl⟩ := v_int r
      exact .cons x t (iL_vals rs)
/-- a new list, immutable or mutable -/
theorem mkL_snd (S : Sim P X F loc st fr s) {mk : Bool} {l : List Dv} {vs : List Value} (r : VReps P.fa F loc l vs) {Q : Dv → St → Prop} (h : mkL mk st l Q) {o : Obj} (hl : IsL o vs) (hf : o.isFreed = false) :
    EP P X F loc fr Q (.ref s.heap.objs.size) { s with heap := s.heap.push o } := by
  cases mk with
  | false =>
    obtain ⟨e, S'⟩ := S.alloc o hf
    exact ⟨_, _, _, .list l, e, S', .list Gm.put_same hl (r.mono e), h⟩
  | true =>
    obtain ⟨hp, hq⟩ := h
    obtain ⟨e, S'⟩ := S.allocM (mo := .list l) (s' := { s with heap := s.heap.push o }) (a := s.heap.objs.size) (fun b ob q => Heap.get?_push_of_some _ q) rfl rfl
      ⟨o, vs, Heap.get?_push_size _ hf, hl, r.purify [] hp⟩ (Nat.le_refl _)
    refine ⟨_, _, _, .ref st.length, e, S', .ref ?_, hq⟩
    rw [← S.len]; simp

theorem add_push {A : Around} {E : Value → Shared → Prop} {prog : Program} {w : World} {l b : Addr} {vs ws : List Value} {Q : Value → Shared → Prop} (hl : s.heap.IsList l vs.toArray) (hb : s.heap.IsList b ws.toArray) (hsz : vs.length + ws.length ≤ 2 ^ 24)
    (h : Q (.ref s.heap.objs.size) { s with heap := s.heap.push { cls := .type "list", data := .seq (vs ++ ws).toArray } }) : wpAny (model prog w) A (binaryOp .Add (.ref l) (.ref b)) Q E s := by
  refine hide fun hn => ?_
  obtain ⟨⟨c₁, d₁, t₁, x₁⟩, ho, hc, n, hd⟩ := hl
  obtain ⟨⟨c₂, d₂, t₂, x₂⟩, ho', hc', n', hd'⟩ := hb
  refine hn ?_; clear hn
  simp only at hc hd hc' hd'
  subst hc hd hc' hd'
  refine concat_meets ⟨_, ho, rfl⟩ ⟨_, ho', rfl⟩ noFill_list_add seq_list_add PySem.F.slot_list_add PySem.F.entry_list_add (PySem.F.args_list_add_2 _ _) (list_addW l b vs.toArray ws.toArray n n' d₁ d₂ x₁ x₂ (by rw [sizeLine_eq]; simpa using hsz)) ⟨ho, ho', ?_⟩
  have e : vs.toArray ++ ws.toArray = (vs ++ ws).toArray := by simp
  rw [e]; exact h

noncomputable def allNews (h : Heap) (L : Addr) : List (Addr × Obj) := (List.range h.objs.size).filterMap fun a => if a = L then none else (h.get? a).map fun o => (a, o)
theorem allNews_mem {h : Heap} {L a : Addr} {o : Obj} (hne : a ≠ L) (e : h.get? a = some o) : (a, o) ∈ allNews h L :=
  List.mem_filterMap.mpr ⟨a, List.mem_range.mpr (Heap.lt_size e), by rw [if_neg hne, e]; rfl⟩

/-- a rule that speaks of a frame and a ledger, read as «all but the frame's own dict is kept» -/
theorem Sim.led (S : Sim P X F loc st fr s) : ∃ m, Fr {} X.env.locals s.heap m ∧ News {} X.env.locals s.heap (allNews s.heap X.env.locals) ∧
    ∀ s' : Shared, Fr {} X.env.locals s'.heap m → (∀ p ∈ allNews s.heap X.env.locals, s'.heap.get? p.1 = some p.2) → s'.gens = s.gens → s'.os = s.os → Sim P X F loc st fr s' := by
  refine hide fun hn => ?_
  obtain ⟨m, cm, h1, h2, h3⟩ := S.frm
  refine hn ?_; clear hn
  refine ⟨m, ⟨h1, fun b o e => by simp [Heap.get?] at e, Nat.zero_le _⟩, fun p hp => ?_, fun s' F' hk hg ho => ?_⟩
  · unfold allNews at hp
    obtain ⟨a, ha, e⟩ := List.mem_filterMap.mp hp
    split at e
    · cases e
    · rename_i hne
      cases q : s.heap.get? a with
      | none => rw [q] at e; cases e
      | some o => rw [q] at e; cases e; exact ⟨q, hne, by simp [Heap.get?]⟩
  · have k : ∀ a o, a ≠ X.env.locals → s.heap.get? a = some o → s'.heap.get? a = some o := fun a o hne e => hk (a, o) (allNews_mem hne e)
    refine ⟨S.toHSim.keepsIn (fun a o q e => k a o (fun x => ?_) e) hg ho, ⟨m, cm, F'.ns, fun nm c e => ?_, h3⟩, S.lF, S.lLoc, S.lB, S.l0, S.oF, S.oInj, fun a o e => k a o (fun x => ?_) (S.base a o e), S.baseLoc, S.newF, S.newLoc, S.limW, S.witE, S.limH⟩
    · subst x
      rcases q with q | q | q
      · exact q S.lF
      · exact S.lLoc q
      · exact q S.l0
    · obtain ⟨o, ho', r⟩ := h2 nm c e
      refine ⟨o, k c o (fun x => ?_) ho', r⟩
      refine hide fun hn => ?_
      obtain ⟨oL, es, ep, hL, hd, _⟩ := h1
      refine hn ?_; clear hn
      have q : s.heap.get? c = some o := ho'
      rw [x, hL] at q; cases q; rw [hd] at r; cases r
    · rw [x, S.lB] at e; cases e

end
end Mine
end

section
open PySem PySem.W PyProof.Rows PySem.Spec PySem.SeqAt
set_option Elab.async false
set_option maxRecDepth 100000
set_option maxHeartbeats 1000000
set_option autoImplicit false
set_option linter.unusedVariables false
namespace Mine
section
variable {P : PG} {X : Cx} {F : Gm} {loc : List Addr} {st : St} {fr : Frm} {s : Shared} {A : Around} {n : Nat}

theorem intBits_le {x : Int} (h : x.natAbs < 2 ^ 64) : Builtin.Int.intBits x ≤ 64 := by
  unfold Builtin.Int.intBits
  split
  · omega
  · rename_i hx
    have hx' : x.natAbs ≠ 0 := by simpa using hx
    have := (Nat.log2_lt hx').mpr h
    omega

theorem pylong_no {x y : Int} (h : y.natAbs < 2 ^ 64) : Builtin.divisionGoesByPylong x y = false := by
  unfold Builtin.divisionGoesByPylong
  simp only
  rw [Bool.and_eq_false_iff]
  left
  rw [decide_eq_false_iff_not]
  split
  · omega
  · rename_i hx
    have hx' : y.natAbs ≠ 0 := by simpa using hx
    have := (Nat.log2_lt hx').mpr h
    omega

theorem one_pow_int (k : Nat) : (1 : Int) ^ k = 1 := Int.one_pow
theorem int_snd (S : Sim P X F loc st fr s) {Q : Dv → St → Prop} {i : Int} (h : Q (.int i) st) (t : Tok) (k : Nat) : EP P X F loc fr Q (.int i t) { s with toks := k } :=
  ⟨F, loc, st, .int i, Ext.refl F loc, S.toks k, .int i t, h⟩
theorem pow_any {E : Value → Shared → Prop} {prog : Program} {w : World} {a b : Int} {t u : Tok} {Q : Value → Shared → Prop} (h0 : 0 ≤ b) (h1 : b < 10000) (ha : a.natAbs < 2 ^ 64) (h : ∀ u k, Q (.int (a ^ b.toNat) u) { s with toks := k }) :
    wpAny (model prog w) A (binaryOp .Pow (.int a t) (.int b u)) Q E s := by
  by_cases hb : b = 0
  · subst hb
    refine AutoIntOps.pow_0 (by omega) rfl ?_
    have q := h s.toks (s.toks + 1)
    rw [show a ^ (0 : Int).toNat = 1 from Int.pow_zero a] at q; exact q
  · by_cases ha0 : a = 0
    · subst ha0
      refine AutoIntOps.pow_1 (by omega) (by simpa using hb) rfl ?_
      have : (0 : Int) ^ b.toNat = 0 := Int.zero_pow (i_toNat h0 hb)
      have q := h s.toks (s.toks + 1)
      rw [this] at q; exact q
    · by_cases ha1 : a = 1
      · subst ha1
        refine AutoIntOps.pow_1 (by omega) (by simpa using hb) rfl ?_
        have q := h s.toks (s.toks + 1)
        rw [one_pow_int] at q; exact q
      · by_cases ham : a = -1
        · subst ham
          refine AutoIntOps.pow_2 (by omega) (by simpa using hb) (by decide) rfl ?_
          have q := h s.toks (s.toks + 1)
          have e : (-1 : Int) ^ b.toNat = if (b % 2 == 0) = true then 1 else -1 := by
            obtain ⟨k, rfl⟩ := Int.eq_ofNat_of_zero_le h0
            rw [Int.toNat_natCast]
            rcases Nat.mod_two_eq_zero_or_one k with hk | hk
            · have : ((k : Int) % 2 == 0) = true := by simp; omega
              rw [if_pos this]
              obtain ⟨m, rfl⟩ : ∃ m, k = 2 * m := ⟨k / 2, by omega⟩
              rw [Int.pow_mul]
              have : ((-1 : Int) ^ 2) = 1 := by decide
              rw [this, one_pow_int]
            · have : ¬ ((k : Int) % 2 == 0) = true := by simp; omega
              rw [if_neg this]
              obtain ⟨m, rfl⟩ : ∃ m, k = 2 * m + 1 := ⟨k / 2, by omega⟩
              rw [Int.pow_succ, Int.pow_mul]
              have : ((-1 : Int) ^ 2) = 1 := by decide
              rw [this, one_pow_int]; rfl
          rw [e] at q; exact q
        · refine AutoIntOps.pow_4 (by omega) (by simpa using hb) (by simp; exact ⟨ha0, ha1⟩) (by simpa using ham) ?_ (h _ _)
          unfold Builtin.Int.intTooBig
          rw [decide_eq_true_eq]
          have h2 := intBits_le ha
          have h3 : ((Builtin.Int.intBits a : Nat) : Int) * b ≤ 64 * 10000 := Int.mul_le_mul (by omega) (by omega) h0 (by omega)
          have h4 : ((bitsLine : Nat) : Int) = 2 ^ 27 := by decide
          omega

theorem rshift_any {E : Value → Shared → Prop} {prog : Program} {w : World} {a b : Int} {t u : Tok} {Q : Value → Shared → Prop} (h0 : 0 ≤ b) (ha : 0 ≤ a) (h : ∀ u k, Q (.int (a.fdiv (2 ^ b.toNat)) u) { s with toks := k }) :
    wpAny (model prog w) A (binaryOp .RShift (.int a t) (.int b u)) Q E s := by
  by_cases hb : b ≥ ((Builtin.Int.intBits a : Nat) : Int)
  · refine AutoIntOps.rshift_1 (by omega) hb ?_
    have e : a.fdiv (2 ^ b.toNat) = if a < 0 then -1 else 0 := by
      rw [if_neg (by omega)]
      obtain ⟨m, rfl⟩ := Int.eq_ofNat_of_zero_le ha
      have hm : m < 2 ^ b.toNat := by
        unfold Builtin.Int.intBits at hb
        split at hb
        · rename_i hz
          have : m = 0 := by simpa using hz
          rw [this]; exact Nat.two_pow_pos _
        · rename_i hz
          have hz' : m ≠ 0 := by simpa using hz
          have := (Nat.log2_lt (n := m) (k := b.toNat) hz').mp (by simp at hb; omega)
          exact this
      rw [Int.fdiv_eq_ediv_of_nonneg _ (by exact Int.le_of_lt (Int.pow_pos (by decide)))]
      rw [show ((2 : Int) ^ b.toNat) = ((2 ^ b.toNat : Nat) : Int) by simp]
      rw [← Int.natCast_ediv, Nat.div_eq_of_lt hm]; rfl
    have q := h s.toks (s.toks + 1)
    rw [e] at q; exact q
  · exact AutoIntOps.rshift_2 (by omega) hb (h _ _)

theorem lshift_any {E : Value → Shared → Prop} {prog : Program} {w : World} {a b : Int} {t u : Tok} {Q : Value → Shared → Prop} (h0 : 0 ≤ b) (h1 : b < 10000) (ha : a.natAbs < 2 ^ 64) (h : ∀ u k, Q (.int (a * 2 ^ b.toNat) u) { s with toks := k }) :
    wpAny (model prog w) A (binaryOp .LShift (.int a t) (.int b u)) Q E s := lshift_int_small h0 (by omega) ha (h _ _)

theorem mul_push {E : Value → Shared → Prop} (S : Sim P X F loc st fr s) {l : Addr} {o : Obj} {vs : List Value} {y : Int} {u : Tok} {Q : Value → Shared → Prop} (ho : s.heap.get? l = some o) (hl : IsL o vs) (h1 : -(2 ^ 62) ≤ y) (h2 : y < 2 ^ 62) (hsz : vs.length * y.toNat ≤ 2 ^ 24)
    (h : ∀ s' o, Sim P X F loc st fr s' → s'.heap.get? s.heap.objs.size = some o → IsL o (List.replicate y.toNat vs).flatten → Q (.ref s.heap.objs.size) s') :
    wpAny (model P.prog P.w) A (binaryOp .Mult (.ref l) (.int y u)) Q E s := by
  refine hide fun hn => ?_
  obtain ⟨m, Fm, N, hback⟩ := S.led
  obtain ⟨k, rfl⟩ := hl
  refine hn ?_; clear hn
  refine mul_list Fm N ho (by omega) (by omega) (by simpa using hsz) fun h' F' N' => ?_
  have hk : ∀ p ∈ allNews s.heap X.env.locals, h'.get? p.1 = some p.2 := fun p hp => (N' p (.tail _ hp)).1
  exact h { s with heap := h' } _ (hback { s with heap := h' } F' hk rfl rfl) (N' _ (.head _)).1 ⟨0, by rw [listMul_foldl_if]⟩

theorem mkL_at {s' : Shared} (S' : Sim P X F loc st fr s') {mk : Bool} {l : List Dv} {vs : List Value} (r : VReps P.fa F loc l vs) {Q : Dv → St → Prop} (h : mkL mk st l Q) {o : Obj} {a : Addr} (hl : IsL o vs) (ho : s'.heap.get? a = some o) (hn : ¬ X.held P F loc a) (hlim : X.lim ≤ a) :
    EP P X F loc fr Q (.ref a) s' := by
  cases mk with
  | false =>
    obtain ⟨e, S2⟩ := S'.putF ho hn hlim
    exact ⟨_, _, _, .list l, e, S2, .list Gm.put_same hl (r.mono e), h⟩
  | true =>
    obtain ⟨hp, hq⟩ := h
    obtain ⟨e, S2⟩ := S'.layM (mo := .list l) ⟨o, vs, ho, hl, r.purify [] hp⟩ hn hlim
    refine ⟨_, _, _, .ref st.length, e, S2, .ref ?_, hq⟩
    rw [← S'.len]; simp

theorem as_int {d : Dv} {x : Int} (h : asInt d = some x) : d = .int x := by
  cases d <;> first | exact noO h | exact congrArg Dv.int (Option.some.inj h)
theorem arith_snd (S : Sim P X F loc st fr s) {op : Operator} {x y : Int} {t u : Tok} {Q : Dv → St → Prop} (h : arith op st x y Q) :
    wpAny (model P.prog P.w) A (binaryOp op (.int x t) (.int y u)) (EP P X F loc fr Q) NoE s := by
  cases op with
  | Add => exact PySem.P.add_int (int_snd S h _ _)
  | Sub => exact PySem.P.sub_int (int_snd S h _ _)
  | Mult => exact PySem.P.mul_int (int_snd S h.2 _ _) (h.1.elim (fun h => .of_left (intBits_le h)) fun h => .of_right (intBits_le h))
  | FloorDiv => exact floordiv_int h.1 (int_snd S h.2.2 _ _) (.inl (pylong_no h.2.1))
  | Mod => exact mod_int' h.1 (int_snd S h.2 _ _)
  | Pow => exact pow_any h.1 h.2.1 h.2.2.1 fun u k => int_snd S h.2.2.2 _ _
  | LShift => exact lshift_any h.1 h.2.1 h.2.2.1 fun u k => int_snd S h.2.2.2 _ _
  | RShift => exact rshift_any h.1 h.2.1 fun u k => int_snd S h.2.2 _ _
  | BitAnd => exact and_int (int_snd S h _ _)
  | BitOr => exact or_int (int_snd S h _ _)
  | BitXor => exact xor_int (int_snd S h _ _)
  | _ => exact h.elim
theorem seq_snd (S : Sim P X F loc st fr s) {op : Operator} {mk : Bool} {a b : Dv} {va vb : Value} (ra : VRep P.fa F loc a va) (rb : VRep P.fa F loc b vb) {Q : Dv → St → Prop} (h : seqOp op mk st a b Q) :
    wpAny (model P.prog P.w) A (binaryOp op va vb) (EP P X F loc fr Q) NoE s := by
  cases op with
  | Add =>
    refine hide fun hn => ?_
    obtain ⟨la, lb, ea, eb, hsz, hQ⟩ := h
    obtain ⟨x, ox, vx, rfl, hx, hlx, rx⟩ := its_real S.toHSim ra ea
    obtain ⟨y, oy, vy, rfl, hy, hly, ry⟩ := its_real S.toHSim rb eb
    refine hn ?_; clear hn
    exact add_push (lst_isList hx hlx) (lst_isList hy hly) (by rw [← rx.length, ← ry.length]; exact hsz) (mkL_snd S (rx.append ry) hQ ⟨_, rfl⟩ rfl)
  | Mult =>
    cases b with
    | int y =>
      refine hide fun hn => ?_
      obtain ⟨la, ea, h1, h2, hsz, hQ⟩ := h
      obtain ⟨x, ox, vx, rfl, hx, hlx, rx⟩ := its_real S.toHSim ra ea
      obtain ⟨t, rfl⟩ := v_int rb
      refine hn ?_; clear hn
      refine mul_push S hx hlx h2 h1 (by rw [← rx.length]; exact hsz) fun s' o S' ho hl => ?_
      refine mkL_at S' (rx.replicate _) hQ hl ho (fun hh => ?_) S.lim_le
      exact Nat.lt_irrefl _ (S.held_lt hh)
    | _ => exact h.elim
  | _ => exact h.elim
theorem bin_snd (S : Sim P X F loc st fr s) {op : Operator} {mk : Bool} {a b : Dv} {va vb : Value} (ra : VRep P.fa F loc a va) (rb : VRep P.fa F loc b vb) {Q : Dv → St → Prop} (h : binOk op mk st a b Q) :
    wpAny (model P.prog P.w) A (binaryOp op va vb) (EP P X F loc fr Q) NoE s := by
  unfold binOk at h
  cases ea : asInt a with
  | none => rw [ea] at h; exact seq_snd S ra rb h
  | some x =>
    rw [ea] at h
    cases eb : asInt b with
    | none => rw [eb] at h; exact seq_snd S ra rb h
    | some y =>
      rw [eb] at h
      obtain rfl := as_int ea
      obtain rfl := as_int eb
      obtain ⟨t, rfl⟩ := v_int ra
      obtain ⟨u, rfl⟩ := v_int rb
      exact arith_snd S h
end
end Mine
end

section
open PySem PySem.W PyProof.Rows PySem.Spec PySem.SeqAt
set_option Elab.async false
set_option maxRecDepth 100000
set_option maxHeartbeats 1000000
set_option autoImplicit false
set_option linter.unusedVariables false
namespace Mine
section
variable {P : PG} {X : Cx} {F : Gm} {loc : List Addr} {st : St} {fr : Frm} {s : Shared} {A : Around} {n : Nat}

/-! equality of lists of ints, of lists of lists of ints -/
theorem reads_iL {h : Heap} {a : Addr} {o : Obj} {vs : List Value} {xs : List Int} (e : h.get? a = some o) (hl : IsL o vs) (hi : IntsAre vs xs) : Reads h (.ref a) (.list (xs.map PyData.int)) [a] :=
  reads_of_ints (lst_isList e hl) hi

theorem v_bool {fa : Nat → Addr} {b : Bool} {v : Value} (r : VRep fa F loc (.bool b) v) : v = .bool b := by
  cases r; rfl
theorem v_none {fa : Nat → Addr} {v : Value} (r : VRep fa F loc .none v) : v = .none := by
  cases r; rfl
theorem v_list {fa : Nat → Addr} {l : List Dv} {v : Value} (r : VRep fa F loc (.list l) v) : ∃ a o vs, v = .ref a ∧ F a = some o ∧ IsL o vs ∧ VReps fa F loc l vs := by
  cases r with
  | list e hl r => exact ⟨_, _, _, rfl, e, hl, r⟩
theorem v_ref {fa : Nat → Addr} {n : Nat} {v : Value} (r : VRep fa F loc (.ref n) v) : ∃ d, v = .ref d ∧ loc[n]? = some d := by
  cases r with
  | ref e => exact ⟨_, rfl, e⟩
theorem readsAll_iLL {P : PG} (hk : ∀ a o, F a = some o → s.heap.get? a = some o) : ∀ {xss : List (List Int)} {vs : List Value}, VReps P.fa F loc (iLL xss) vs →
    ∃ as, ReadsAll s.heap vs (xss.map fun xs => PyData.list (xs.map PyData.int)) as
  | [], vs, r => by
    cases r
    exact ⟨[], .nil⟩
  | xs :: xss, vs, r => by
    cases r with
    | cons r rs =>
      refine hide fun hn => ?_
      obtain ⟨a, o, us, rfl, e, hl, r⟩ := v_list r
      obtain ⟨as, h⟩ := readsAll_iLL hk rs
      refine hn ?_; clear hn
      exact ⟨_, .cons (reads_iL (hk _ _ e) hl (iL_vals r)) h⟩

theorem canLayAll0_iLL : ∀ xss : List (List Int), PyData.canLayAll0 (xss.map fun xs => PyData.list (xs.map PyData.int)) = true
  | [] => by simp [PyData.canLayAll0]
  | xs :: r => by simp [PyData.canLayAll0, PyData.canLay0, canLayAll0_ints xs, canLayAll0_iLL r]
theorem depthAll_iLL : ∀ xss : List (List Int), PyData.depthAll (xss.map fun xs => PyData.list (xs.map PyData.int)) ≤ 2
  | [] => by simp [PyData.depthAll]
  | xs :: r => by
    have h1 := depthAll_iLL r
    have h2 := PySem.W.depthAll_ints xs
    simp only [List.map_cons, PyData.depthAll, PyData.depth]
    omega
theorem shaped_iLL (xss : List (List Int)) : shaped (.list (xss.map fun xs => PyData.list (xs.map PyData.int))) = true := by
  have h1 := depthAll_iLL xss
  have h2 : PyData.depth (.list (xss.map fun xs => PyData.list (xs.map PyData.int))) ≤ 64 := by simp only [PyData.depth]; omega
  show (PyData.canLay0 (.list (xss.map fun xs => PyData.list (xs.map PyData.int))) && decide (PyData.depth (.list (xss.map fun xs => PyData.list (xs.map PyData.int))) ≤ 64)) = true
  rw [Bool.and_eq_true]
  exact ⟨by simp only [PyData.canLay0]; exact canLayAll0_iLL xss, decide_eq_true h2⟩
theorem noMix_iLL : ∀ xss yss : List (List Int), noMixAll (xss.map fun xs => PyData.list (xs.map PyData.int)) (yss.map fun xs => PyData.list (xs.map PyData.int)) = true
  | [], [] => by simp [noMixAll]
  | [], _ :: _ => by simp [noMixAll]
  | _ :: _, [] => by simp [noMixAll]
  | xs :: r, ys :: q => by simp [noMixAll, noMix, noMix_ints xs ys, noMix_iLL r q]
theorem same_iLL : ∀ xss yss : List (List Int), PySem.Spec.sameAll (xss.map fun xs => PyData.list (xs.map PyData.int)) (yss.map fun xs => PyData.list (xs.map PyData.int)) = decide (xss = yss)
  | [], [] => by simp [PySem.Spec.sameAll]
  | [], _ :: _ => by simp [PySem.Spec.sameAll]
  | _ :: _, [] => by simp [PySem.Spec.sameAll]
  | xs :: r, ys :: q => by
    simp only [List.map_cons, PySem.Spec.sameAll, PySem.Spec.same, same_iLL r q, same_ints xs ys]
    by_cases h : xs = ys <;> simp [h]

theorem dlook_cons {k k' : Int} {d : Dv} {l : List (Int × Dv)} : dlook ((k', d) :: l) k = if k' = k then some d else dlook l k := by
  unfold dlook
  by_cases hk : k' = k
  · rw [List.find?_cons_of_pos (by simpa using hk), if_pos hk]; rfl
  · rw [List.find?_cons_of_neg (by simpa using hk), if_neg hk]
theorem valueAt_cons {k k' : Int} {v : Value} {l : List (Int × Value)} : valueAt ((k', v) :: l) k = if k' = k then some v else valueAt l k := by
  unfold valueAt
  by_cases hk : k' = k
  · rw [List.find?_cons_of_pos (by simpa using hk), if_pos hk]; rfl
  · rw [List.find?_cons_of_neg (by simpa using hk), if_neg hk]
theorem dlook_some {fa : Nat → Addr} {k : Int} : ∀ {l : List (Int × Dv)} {vs : List (Int × Value)}, KVs fa F l vs → ∀ {d : Dv}, dlook l k = some d → ∃ v, valueAt vs k = some v ∧ VRep fa F [] d v
  := by
  intro l vs h
  induction h with
  | nil => intro d e; cases e
  | @cons k' d' v l vs h r ih =>
    intro d e
    rw [dlook_cons] at e
    rw [valueAt_cons]
    by_cases hk : k' = k
    · rw [if_pos hk] at e ⊢; cases e; exact ⟨v, rfl, h⟩
    · rw [if_neg hk] at e ⊢; exact ih e
theorem dlook_isSome {fa : Nat → Addr} {k : Int} : ∀ {l : List (Int × Dv)} {vs : List (Int × Value)}, KVs fa F l vs → (valueAt vs k).isSome = (dlook l k).isSome
  := by
  intro l vs h
  induction h with
  | nil => rfl
  | @cons k' d' v l vs h r ih =>
    rw [dlook_cons, valueAt_cons]
    by_cases hk : k' = k
    · rw [if_pos hk, if_pos hk]; rfl
    · rw [if_neg hk, if_neg hk]; exact ih
theorem dput_snd {fa : Nat → Addr} {k : Int} {d : Dv} {v : Value} (hv : VRep fa F [] d v) {l : List (Int × Dv)} {vs : List (Int × Value)} (h : KVs fa F l vs) : KVs fa F (dput l k d) (stored vs k v) := by
  have hany : ∀ {l : List (Int × Dv)} {vs : List (Int × Value)}, KVs fa F l vs → (l.any fun p => decide (p.1 = k)) = vs.any fun p => decide (p.1 = k) := fun {l vs} h => by
    induction h with
    | nil => rfl
    | cons _ _ ih => simp only [List.any_cons, ih]
  have hmap : ∀ {l : List (Int × Dv)} {vs : List (Int × Value)}, KVs fa F l vs → KVs fa F (l.map fun p => if p.1 = k then (p.1, d) else p) (vs.map fun p => if p.1 = k then (p.1, v) else p) := fun {l vs} h => by
    induction h with
    | nil => exact .nil
    | @cons k' d' v' l vs h' r ih =>
      simp only [List.map_cons]
      by_cases hk : k' = k
      · rw [if_pos hk, if_pos hk]; exact .cons hv ih
      · rw [if_neg hk, if_neg hk]; exact .cons h' ih
  have happ : ∀ {l : List (Int × Dv)} {vs : List (Int × Value)}, KVs fa F l vs → KVs fa F (l ++ [(k, d)]) (vs ++ [(k, v)]) := fun {l vs} h => by
    induction h with
    | nil => exact .cons hv .nil
    | cons h' _ ih => exact .cons h' ih
  unfold dput stored
  rw [hany h]
  split
  · exact hmap h
  · exact happ h
theorem KVs.length {fa : Nat → Addr} : ∀ {l : List (Int × Dv)} {vs : List (Int × Value)}, KVs fa F l vs → l.length = vs.length
  | _, _, .nil => rfl
  | _, _, .cons _ r => by rw [List.length_cons, List.length_cons, KVs.length r]

theorem any_eq_mem (x : Int) : ∀ xs : List Int, (xs.any fun y => y == x) = decide (x ∈ xs)
  | [] => by simp
  | y :: r => by
    rw [List.any_cons, any_eq_mem x r]
    by_cases h : y = x
    · simp [h]
    · simp [h, Ne.symm h]
theorem as_bool {d : Dv} {x : Bool} (h : asBool d = some x) : d = .bool x := by
  cases d <;> first | exact noO h | exact congrArg Dv.bool (Option.some.inj h)
/-- what a comparison hands back -/
noncomputable def CP (P : PG) (X : Cx) (F : Gm) (loc : List Addr) (st : St) (fr : Frm) (Q : Bool → Prop) (v : Value) (s' : Shared) : Prop := ∃ c, v = .bool c ∧ Sim P X F loc st fr s' ∧ Q c
theorem intCmp_snd (S : Sim P X F loc st fr s) {op : CmpOp} {x y : Int} {t u : Tok} {Q : Bool → Prop} (h : intCmp op x y Q) : wpAny (model P.prog P.w) A (compareOp op (.int x t) (.int y u)) (CP P X F loc st fr Q) NoE s := by
  cases op with
  | Eq => exact PySem.P.eq_int ⟨_, rfl, S, h⟩
  | NotEq => exact PySem.P.ne_int ⟨_, rfl, S, h⟩
  | Lt => exact PySem.P.lt_int ⟨_, rfl, S, h⟩
  | LtE => exact PySem.P.le_int ⟨_, rfl, S, h⟩
  | Gt => exact PySem.P.gt_int ⟨_, rfl, S, h⟩
  | GtE => exact PySem.P.ge_int ⟨_, rfl, S, h⟩
  | _ => exact h.elim
theorem eqOk_snd (hu : A.units + 64 < cLine) (S : Sim P X F loc st fr s) {a b : Dv} {va vb : Value} (ra : VRep P.fa F loc a va) (rb : VRep P.fa F loc b vb) {Q Q' : Bool → Prop} {op : CmpOp} (ho : (op = .Eq ∧ Q' = Q) ∨ (op = .NotEq ∧ Q' = fun c => Q (!c))) (h : eqOk st a b Q') :
    wpAny (model P.prog P.w) A (compareOp op va vb) (CP P X F loc st fr Q) NoE s := by
  rcases h with ⟨xs, ys, ea, eb, hQ⟩ | ⟨xs, ys, ea, eb, hQ⟩
  · refine hide fun hn => ?_
    obtain ⟨x, ox, vx, rfl, hx, hlx, rx⟩ := its_real S.toHSim ra ea
    obtain ⟨y, oy, vy, rfl, hy, hly, ry⟩ := its_real S.toHSim rb eb
    refine hn ?_; clear hn
    rcases ho with ⟨rfl, rfl⟩ | ⟨rfl, rfl⟩
    · exact eq_intsK (lst_isList hx hlx) (iL_vals rx) (lst_isList hy hly) (iL_vals ry) hu ⟨_, rfl, S, hQ⟩
    · exact ne_intsK (lst_isList hx hlx) (iL_vals rx) (lst_isList hy hly) (iL_vals ry) hu ⟨_, rfl, S, hQ⟩
  · refine hide fun hn => ?_
    obtain ⟨x, ox, vx, rfl, hx, hlx, rx⟩ := its_real S.toHSim ra ea
    obtain ⟨y, oy, vy, rfl, hy, hly, ry⟩ := its_real S.toHSim rb eb
    obtain ⟨as, hr⟩ := readsAll_iLL (s := s) S.keepF rx
    obtain ⟨bs, hr'⟩ := readsAll_iLL (s := s) S.keepF ry
    obtain ⟨k, rfl⟩ := hlx
    obtain ⟨k', rfl⟩ := hly
    refine hn ?_; clear hn
    have hs : PySem.Spec.same (.list (xs.map fun xs => PyData.list (xs.map PyData.int))) (.list (ys.map fun xs => PyData.list (xs.map PyData.int))) = decide (xs = ys) := by simp only [PySem.Spec.same]; exact same_iLL xs ys
    have hr := Reads.list (n := k) hx rfl rfl (by simpa using hr)
    have hr' := Reads.list (n := k') hy rfl rfl (by simpa using hr')
    have hn : noMix (.list (xs.map fun xs => PyData.list (xs.map PyData.int))) (.list (ys.map fun xs => PyData.list (xs.map PyData.int))) = true := by simp only [noMix]; exact noMix_iLL xs ys
    rcases ho with ⟨rfl, rfl⟩ | ⟨rfl, rfl⟩
    · exact eq_dataH_same hr hr' (shaped_iLL xs) (shaped_iLL ys) hu hn (by rw [hs]; exact ⟨_, rfl, S, hQ⟩)
    · exact ne_dataH_same hr hr' (shaped_iLL xs) (shaped_iLL ys) hu hn (by rw [hs]; exact ⟨_, rfl, S, hQ⟩)
theorem isOk_snd (S : Sim P X F loc st fr s) {a b : Dv} {va vb : Value} (ra : VRep P.fa F loc a va) (rb : VRep P.fa F loc b vb) {Q Q' : Bool → Prop} {op : CmpOp} (ho : (op = .Is ∧ Q' = Q) ∨ (op = .IsNot ∧ Q' = fun c => Q (!c))) (h : isOk a b Q') :
    wpAny (model P.prog P.w) A (compareOp op va vb) (CP P X F loc st fr Q) NoE s := by
  cases b with
  | none =>
    obtain rfl := v_none rb
    cases a with
    | none =>
      obtain rfl := v_none ra
      rcases ho with ⟨rfl, rfl⟩ | ⟨rfl, rfl⟩
      · exact wpAny_is_plain rfl ⟨_, rfl, S, h⟩
      · exact wpAny_isNot_plain rfl ⟨_, rfl, S, h⟩
    | list l =>
      refine hide fun hn => ?_
      obtain ⟨d, o, vs, rfl, _, _, _⟩ := v_list ra
      refine hn ?_; clear hn
      rcases ho with ⟨rfl, rfl⟩ | ⟨rfl, rfl⟩
      · exact wpAny_is_plain rfl ⟨_, rfl, S, h⟩
      · exact wpAny_isNot_plain rfl ⟨_, rfl, S, h⟩
    | _ => exact h.elim
  | _ => exact h.elim
theorem inOk_snd (S : Sim P X F loc st fr s) (hP : P.Ok) {x : Int} {t : Tok} {b : Dv} {vb : Value} (rb : VRep P.fa F loc b vb) {Q : Bool → Prop} (h : inOk st x b Q) :
    wpAny (model P.prog P.w) A (compareOp .In (.int x t) vb) (CP P X F loc st fr Q) NoE s := by
  cases b with
  | ref n₁ =>
    obtain ⟨d, rfl, e⟩ := v_ref rb
    have h : (match st[n₁]? with
      | some (some (.dict kvs)) => Q (dlook kvs x).isSome
      | some (some (.list l)) => ∃ xs, l = iL xs ∧ Q (decide (x ∈ xs))
      | _ => False) := h
    split at h
    · rename_i kvs q
      obtain ⟨kvs', hd, hkv⟩ := S.mrep _ _ _ e q
      have hne : (d == sysModules) = false := by
        have h1 := S.low d (mem_of_get e)
        have h2 := hP.hsys
        exact beq_eq_false_iff_ne.mpr (fun q => by rw [q] at h1; exact absurd h2 (Nat.not_lt.mpr h1))
      exact wpAny_in_of (intKind_is P.prog P.w x t) hne hd.mapOf ⟨_, rfl, S.toks _, by show Q (valueAt kvs' x).isSome; rw [dlook_isSome hkv]; exact h⟩
    · rename_i l q
      refine hide fun hn => ?_
      obtain ⟨xs, rfl, hQ⟩ := h
      obtain ⟨o, vs, ho, hl, r⟩ := S.mrep _ _ _ e q
      refine hn ?_; clear hn
      refine in_list_ints (lst_isList ho hl) (iL_vals r) ⟨_, rfl, S, ?_⟩
      rw [any_eq_mem]; exact hQ
    · exact h.elim
  | list l =>
    refine hide fun hn => ?_
    obtain ⟨d, o, vs, rfl, e, hl, r⟩ := v_list rb
    obtain ⟨xs, rfl, hQ⟩ := h
    refine hn ?_; clear hn
    refine in_list_ints (lst_isList (S.keepF _ _ e) hl) (iL_vals r) ⟨_, rfl, S, ?_⟩
    rw [any_eq_mem]; exact hQ
  | _ => exact h.elim
theorem cmpRest_snd (hA : AOk n A) (S : Sim P X F loc st fr s) (hP : P.Ok) {op : CmpOp} {a b : Dv} {va vb : Value} (ra : VRep P.fa F loc a va) (rb : VRep P.fa F loc b vb) {Q : Bool → Prop} (h : cmpRest op st a b Q) :
    wpAny (model P.prog P.w) A (compareOp op va vb) (CP P X F loc st fr Q) NoE s := by
  have hu : A.units + 64 < cLine := Nat.lt_of_le_of_lt (Nat.add_le_add (Nat.le_add_right _ _) (by decide)) hA.2.2
  cases op with
  | Eq => exact eqOk_snd hu S ra rb (.inl ⟨rfl, rfl⟩) h
  | NotEq =>
    have h : (match asBool a, asBool b with
      | some x, some y => Q (x != y)
      | _, _ => neOk st a b Q) := h
    cases ea : asBool a with
    | none => rw [ea] at h; exact eqOk_snd (Q' := fun c => Q (!c)) hu S ra rb (.inr ⟨rfl, rfl⟩) h
    | some x =>
      rw [ea] at h
      cases eb : asBool b with
      | none => rw [eb] at h; exact eqOk_snd (Q' := fun c => Q (!c)) hu S ra rb (.inr ⟨rfl, rfl⟩) h
      | some y =>
        rw [eb] at h
        obtain rfl := as_bool ea
        obtain rfl := as_bool eb
        obtain rfl := v_bool ra
        obtain rfl := v_bool rb
        exact ne_bool ⟨_, rfl, S, h⟩
  | Is => exact isOk_snd S ra rb (.inl ⟨rfl, rfl⟩) h
  | IsNot => exact isOk_snd S ra rb (.inr ⟨rfl, rfl⟩) h
  | In =>
    have h : (match asInt a with
      | some x => inOk st x b Q
      | none => False) := h
    cases ea : asInt a with
    | none => rw [ea] at h; exact h.elim
    | some x =>
      rw [ea] at h
      obtain rfl := as_int ea
      obtain ⟨t, rfl⟩ := v_int ra
      exact inOk_snd S hP rb h
  | _ => exact h.elim
theorem cmp_snd (hA : AOk n A) (S : Sim P X F loc st fr s) {op : CmpOp} {a b : Dv} {va vb : Value} (ra : VRep P.fa F loc a va) (rb : VRep P.fa F loc b vb) {Q : Bool → Prop} (h : cmpOk op st a b Q)
    (hP : P.Ok) : wpAny (model P.prog P.w) A (compareOp op va vb) (fun v s' => ∃ c, v = .bool c ∧ Sim P X F loc st fr s' ∧ Q c) NoE s := by
  unfold cmpOk at h
  cases ea : asInt a with
  | none => rw [ea] at h; exact cmpRest_snd hA S hP ra rb h
  | some x =>
    rw [ea] at h
    cases eb : asInt b with
    | none => rw [eb] at h; exact cmpRest_snd hA S hP ra rb h
    | some y =>
      rw [eb] at h
      obtain rfl := as_int ea
      obtain rfl := as_int eb
      obtain ⟨t, rfl⟩ := v_int ra
      obtain ⟨u, rfl⟩ := v_int rb
      exact intCmp_snd S h
end
end Mine
end

section
open PySem PySem.W PyProof.Rows PySem.Spec PySem.SeqAt
set_option Elab.async false
set_option maxRecDepth 100000
set_option maxHeartbeats 1000000
set_option autoImplicit false
set_option linter.unusedVariables false
namespace Mine
section
variable {P : PG} {X : Cx} {F : Gm} {loc : List Addr} {st : St} {fr : Frm} {s : Shared} {A : Around} {n : Nat}

/-- which of the two roads a subscript takes is no matter -/
theorem sub_road (slice : Expr) (o i : Value) : ∃ ops, subscripted slice false o i = operate ops (getItem o i) := by
  cases slice <;> first | exact ⟨_, rfl⟩ | (rename_i l u s p; cases s <;> exact ⟨_, rfl⟩)

theorem nth_item {l : List Dv} {vs : List Value} {k : Int} {Q : Dv → Prop} (r : VReps P.fa F loc l vs) (h : nth l k Q) :
    ∃ j d v, seqIndex? k vs.length = some j ∧ vs[j]? = some v ∧ VRep P.fa F loc d v ∧ Q d ∧ -(2 ^ 63) ≤ k ∧ k < 2 ^ 63 := by
  refine hide fun hn => ?_
  obtain ⟨j, d, hk, hd, hb, hQ⟩ := h
  obtain ⟨v, hv, hr⟩ := r.get hd
  refine hn ?_; clear hn
  have hj : j < l.length := by
    rcases Nat.lt_or_ge j l.length with h | h
    · exact h
    · rw [List.getElem?_eq_none h] at hd; cases hd
  have hl := r.length
  unfold big at hb
  refine ⟨j, d, v, ?_, hv, hr, hQ, (z_idx hk hb hj).1, (z_idx hk hb hj).2⟩
  unfold seqIndex?
  rcases hk with rfl | rfl
  · have h1 : ¬ ((j : Int) < 0) := by omega
    simp only [h1, if_false]
    have h2 : (decide ((0 : Int) ≤ j) && decide ((j : Int) < (vs.length : Int))) = true := by simp; omega
    rw [if_pos h2]; rfl
  · have h1 : ((j : Int) - (l.length : Int) < 0) := by omega
    simp only [h1, if_true]
    have h2 : ((j : Int) - (l.length : Int) + (vs.length : Int)) = j := by omega
    rw [h2]
    have h3 : (decide ((0 : Int) ≤ j) && decide ((j : Int) < (vs.length : Int))) = true := by simp; omega
    rw [if_pos h3]; rfl

theorem getItem_any {E : Value → Shared → Prop} {prog : Program} {w : World} {l : Addr} {vs : List Value} {k : Int} {t : Tok} {j : Nat} {v : Value} {Q : Value → Shared → Prop} (hl : s.heap.IsList l vs.toArray)
    (hj : seqIndex? k vs.length = some j) (hv : vs[j]? = some v) (h1 : -(2 ^ 63) ≤ k) (h2 : k < 2 ^ 63) (h : Q v s) : wpAny (model prog w) A (getItem (.ref l) (.int k t)) Q E s := by
  unfold seqIndex? at hj
  by_cases hk : k < 0
  · simp only [hk, if_true] at hj
    split at hj
    · rename_i hc
      cases hj
      simp at hc
      exact wpAny_getItem_list_neg hl hk (by simp; omega) h1 (by simpa using hv) h
    · cases hj
  · simp only [hk, if_false] at hj
    split at hj
    · rename_i hc
      cases hj
      exact wpAny_getItem_list hl (by omega) h2 (by simpa using hv) h
    · cases hj

theorem get_snd (hP : P.Ok) (S : Sim P X F loc st fr s) {d i : Dv} {vd vi : Value} (rd : VRep P.fa F loc d vd) (ri : VRep P.fa F loc i vi) {Q : Dv → Prop} (h : getOk st d i Q) (value slice : Expr) :
    wpAny (model P.prog P.w) A (subscriptTail value slice vd vi) (EP P X F loc fr fun d st' => st' = st ∧ Q d) NoE s := by
  obtain ⟨ops, hops⟩ := sub_road slice vd vi
  obtain ⟨k, rfl⟩ : ∃ k, i = .int k := by
    cases i with
    | int k => exact ⟨k, rfl⟩
    | _ => exact h.elim
  obtain ⟨m, rfl⟩ := v_int ri
  cases d with
  | tup l =>
    cases rd
    rename_i a o vs e hl r
    refine hide fun hn => ?_
    obtain ⟨j, d, v, hj, hv, hr, hQ, h1, h2⟩ := nth_item r h
    refine hn ?_; clear hn
    have ht := tup_isTup (S.keepF _ _ e) hl
    exact tail_any ht.typeIs slot_tuple_getitem.lookup (getItem_tuple ht h1 h2 (by simpa using hj) (by simpa using hv) ⟨F, loc, st, d, Ext.refl F loc, S, hr, rfl, hQ⟩) hops
  | list l =>
    refine hide fun hn => ?_
    obtain ⟨a, o, vs, rfl, e, hl, r⟩ := v_list rd
    obtain ⟨j, d, v, hj, hv, hr, hQ, h1, h2⟩ := nth_item r h
    refine hn ?_; clear hn
    have ht := lst_isList (S.keepF _ _ e) hl
    exact tail_any ht.typeIs slot_list_getitem.lookup (getItem_any ht hj hv h1 h2 ⟨F, loc, st, d, Ext.refl F loc, S, hr, rfl, hQ⟩) hops
  | ref n₁ =>
    obtain ⟨a, rfl, e⟩ := v_ref rd
    have h : (match st[n₁]? with
      | some (some (.dict kvs)) => match dlook kvs k with
        | some v => Q v
        | none => False
      | some (some (.list l)) => nth l k Q
      | _ => False) := h
    split at h
    · rename_i kvs q
      obtain ⟨kvs', hd, hkv⟩ := S.mrep _ _ _ e q
      split at h
      · rename_i v' hv'
        obtain ⟨v, hv, hr⟩ := dlook_some hkv hv'
        exact tail_any hd.mapOf.typeIs slot_dict_getitem.lookup (wpAny_getItem_of (intKind_is P.prog P.w k m) hd.mapOf hv ⟨F, loc, st, v', Ext.refl F loc, S.toks _, hr.mono ⟨Gsub.refl F, List.nil_prefix⟩, rfl, h⟩) hops
      · exact h.elim
    · rename_i l q
      refine hide fun hn => ?_
      obtain ⟨o, vs, ho, hl, r⟩ := S.mrep _ _ _ e q
      obtain ⟨j, d, v, hj, hv, hr, hQ, h1, h2⟩ := nth_item r h
      refine hn ?_; clear hn
      have ht := lst_isList ho hl
      exact tail_any ht.typeIs slot_list_getitem.lookup (getItem_any ht hj hv h1 h2 ⟨F, loc, st, d, Ext.refl F loc, S, hr.mono ⟨Gsub.refl F, List.nil_prefix⟩, rfl, hQ⟩) hops
    · exact h.elim
  | _ => exact h.elim

/-! slices -/
inductive SlcL (l : List Dv) : Dv → Dv → Dv → List Dv → Prop
  | all : SlcL l .none .none .none l
  | low (a : Nat) : SlcL l (.int a) .none .none (l.drop a)
  | upto (b : Nat) : SlcL l .none (.int b) .none (l.take b)
  | two (a b : Nat) : SlcL l (.int a) (.int b) .none ((l.take b).drop a)
  | rev : SlcL l .none .none (.int (-1)) l.reverse
theorem some_if {c : Prop} [Decidable c] {x r : List Dv} (h : (if c then some x else none) = some r) : c ∧ x = r := by
  by_cases hc : c
  · rw [if_pos hc] at h; exact ⟨hc, Option.some.inj h⟩
  · rw [if_neg hc] at h; cases h
theorem slc_low {l r : List Dv} {a : Int} (h : (if 0 ≤ a then some (l.drop a.toNat) else none) = some r) : SlcL l (.int a) .none .none r := by
  obtain ⟨ha, rfl⟩ := some_if h
  obtain ⟨k, rfl⟩ := Int.eq_ofNat_of_zero_le ha
  exact .low k
theorem slc_upto {l r : List Dv} {a : Int} (h : (if 0 ≤ a then some (l.take a.toNat) else none) = some r) : SlcL l .none (.int a) .none r := by
  obtain ⟨ha, rfl⟩ := some_if h
  obtain ⟨k, rfl⟩ := Int.eq_ofNat_of_zero_le ha
  exact .upto k
theorem slc_two {l r : List Dv} {a b : Int} (h : (if 0 ≤ a ∧ 0 ≤ b then some ((l.take b.toNat).drop a.toNat) else none) = some r) : SlcL l (.int a) (.int b) .none r := by
  obtain ⟨ha, rfl⟩ := some_if h
  obtain ⟨k, rfl⟩ := Int.eq_ofNat_of_zero_le ha.1
  obtain ⟨m, rfl⟩ := Int.eq_ofNat_of_zero_le ha.2
  exact .two k m
theorem slc_rev {l r : List Dv} {c : Int} (h : (if c = -1 then some l.reverse else none) = some r) : SlcL l .none .none (.int c) r := by
  obtain ⟨rfl, rfl⟩ := some_if h
  exact .rev
theorem pt_no {d : Dv} (h : pt d = .no) : d = .none := by cases d <;> first | rfl | cases h
theorem pt_at {d : Dv} {i : Int} (h : pt d = .at i) : d = .int i := by cases d <;> first | (cases h; rfl) | cases h
theorem el_some {p : Pt} {n : Option (List Dv)} {k : Int → Option (List Dv)} {r : List Dv} (h : p.el n k = some r) : (p = .no ∧ n = some r) ∨ ∃ i, p = .at i ∧ k i = some r := by
  cases p with
  | no => exact .inl ⟨rfl, h⟩
  | «at» i => exact .inr ⟨i, rfl, h⟩
  | bad => exact noO h
theorem slice_inv {l r : List Dv} {dl dh ds : Dv} (h : sliceL l dl dh ds = some r) : SlcL l dl dh ds r := by
  rcases el_some h with ⟨e1, h1⟩ | ⟨c, e1, h1⟩ <;> clear h
  · rcases el_some h1 with ⟨e2, h2⟩ | ⟨b, e2, h2⟩ <;> clear h1
    · rcases el_some h2 with ⟨e3, h3⟩ | ⟨a, e3, h3⟩ <;> clear h2
      · cases pt_no e1; cases pt_no e2; cases pt_no e3; cases h3; exact .all
      · cases pt_no e1; cases pt_no e2; cases pt_at e3; exact slc_low h3
    · rcases el_some h2 with ⟨e3, h3⟩ | ⟨a, e3, h3⟩ <;> clear h2
      · cases pt_no e1; cases pt_at e2; cases pt_no e3; exact slc_upto h3
      · cases pt_no e1; cases pt_at e2; cases pt_at e3; exact slc_two h3
  · rcases el_some h1 with ⟨e2, h2⟩ | ⟨b, e2, h2⟩ <;> clear h1
    · rcases el_some h2 with ⟨e3, h3⟩ | ⟨a, e3, h3⟩ <;> clear h2
      · cases pt_at e1; cases pt_no e2; cases pt_no e3; exact slc_rev h3
      · exact noO h3
    · exact noO h2
theorem pick_two (vs : List Value) (k m : Nat) : (vs.drop (min k vs.toArray.size)).take (min m vs.toArray.size - min k vs.toArray.size) = (vs.take m).drop k := by
  rw [List.size_toArray, List.drop_take]
  rcases Nat.le_total k vs.length with h1 | h1
  · rw [Nat.min_eq_left h1]
    rcases Nat.le_total m vs.length with h2 | h2
    · rw [Nat.min_eq_left h2]
    · rw [Nat.min_eq_right h2, List.take_of_length_le (by rw [List.length_drop]; exact Nat.le_refl _), List.take_of_length_le (by rw [List.length_drop]; exact Nat.sub_le_sub_right h2 _)]
  · rw [Nat.min_eq_right h1, List.drop_of_length_le (Nat.le_refl _), List.drop_of_length_le h1]; rw [List.take_nil, List.take_nil]
theorem slice_pick {fa : Nat → Addr} {l r : List Dv} {vs : List Value} {dl dh ds : Dv} {vl vh vst : Value} (hr : VReps fa F loc l vs) (h : sliceL l dl dh ds = some r) (rl : VRep fa F loc dl vl) (rh : VRep fa F loc dh vh) (rs : VRep fa F loc ds vst) :
    ∃ lo hi stp, IsPart vl lo ∧ IsPart vh hi ∧ IsPart vst stp ∧ stp ≠ some 0 ∧ ∃ us : List Value, slicePick vs.toArray lo hi stp = us.toArray ∧ VReps fa F loc r us := by
  have h := slice_inv h
  cases h with
  | all =>
    cases v_none rl; cases v_none rh; cases v_none rs
    exact ⟨none, none, none, .none, .none, .none, nofun, vs, by rw [slicePick_all], hr⟩
  | low k =>
    obtain ⟨t, rfl⟩ := v_int rl
    cases v_none rh; cases v_none rs
    exact ⟨some _, none, none, .int _ _, .none, .none, nofun, vs.drop k, by have := slicePick_from' vs.toArray k; simpa using this, hr.drop k⟩
  | upto k =>
    obtain ⟨t, rfl⟩ := v_int rh
    cases v_none rl; cases v_none rs
    exact ⟨none, some _, none, .none, .int _ _, .none, nofun, vs.take k, by have := slicePick_upto' vs.toArray k; simpa using this, hr.take k⟩
  | two k m =>
    obtain ⟨t, rfl⟩ := v_int rl
    obtain ⟨t', rfl⟩ := v_int rh
    cases v_none rs
    refine ⟨some _, some _, none, .int _ _, .int _ _, .none, nofun, (vs.take m).drop k, ?_, (hr.take m).drop k⟩
    rw [slicePick_plain]
    simp only [Option.elim, clipAt_nat]
    congr 1
    exact pick_two vs k m
  | rev =>
    obtain ⟨t, rfl⟩ := v_int rs
    cases v_none rl; cases v_none rh
    exact ⟨none, none, some _, .none, .none, .int _ _, by decide, vs.reverse, by rw [krv_pick], hr.reverse⟩

theorem slice_snd (S : Sim P X F loc st fr s) {d dl dh ds : Dv} {vd vl vh vst : Value} (rd : VRep P.fa F loc d vd) (rl : VRep P.fa F loc dl vl) (rh : VRep P.fa F loc dh vh) (rs : VRep P.fa F loc ds vst) {l r : List Dv}
    (e : its st d = some l) (h : sliceL l dl dh ds = some r) (hsz : l.length ≤ 2 ^ 24) {Q : Dv → St → Prop} (hQ : Q (.list r) st) (value slice : Expr) :
    wpAny (model P.prog P.w) A (subscriptTail value slice vd (.ref s.heap.objs.size)) (EP P X F loc fr Q) NoE { s with heap := s.heap.push { cls := .type "slice", data := .fields #[vl, vh, vst] } } := by
  refine hide fun hn => ?_
  obtain ⟨a, o, vs, rfl, ho, hl, hr⟩ := its_real S.toHSim rd e
  obtain ⟨lo, hi, stp, p1, p2, p3, hne, us, hp, hu⟩ := slice_pick hr h rl rh rs
  obtain ⟨ops, hops⟩ := sub_road slice (.ref a) (.ref s.heap.objs.size)
  refine hn ?_; clear hn
  have S' := S.push { cls := .type "slice", data := .fields #[vl, vh, vst] }
  have hL := lst_isList (Heap.get?_push_of_some { cls := .type "slice", data := .fields #[vl, vh, vst] } ho) hl
  refine tail_any hL.typeIs slot_list_getitem.lookup (wpAny_getItem_list_slice hL (Heap.IsSliceOf.new ..) p1 p2 p3 hne ?_ (by simp [sizeLine_eq]; rw [← hr.length]; omega)) hops
  rw [hp]
  exact mkL_snd (mk := false) S' hu hQ ⟨_, rfl⟩ rfl

/-! built-in functions -/
theorem sumFits {xs : List Int} (h1 : xs.length < 2 ^ 20) (h2 : ∀ x ∈ xs, x.natAbs < 2 ^ 40) : ∀ j, j < xs.length → InLong (xs.getD j 0) ∧ InLong ((xs.take (j + 1)).sum) := by
  have bound : ∀ (ys : List Int), (∀ x ∈ ys, x.natAbs < 2 ^ 40) → ys.sum.natAbs ≤ ys.length * 2 ^ 40 := by
    intro ys
    induction ys with
    | nil => intro _; simp
    | cons y r ih =>
      intro h
      have h3 := ih fun x hx => h x (List.mem_cons_of_mem _ hx)
      have h4 := h y List.mem_cons_self
      rw [List.sum_cons, List.length_cons, Nat.add_mul]
      rw [Nat.add_comm, Nat.one_mul]
      exact Nat.le_trans (Int.natAbs_add_le y r.sum) (Nat.add_le_add (Nat.le_of_lt h4) h3)
  intro j hj
  have h5 := bound (xs.take (j + 1)) fun x hx => h2 x (List.mem_of_mem_take hx)
  have h6 : (xs.take (j + 1)).length * 2 ^ 40 ≤ 2 ^ 20 * 2 ^ 40 := Nat.mul_le_mul (by rw [List.length_take]; exact min_small (Nat.le_of_lt h1)) (Nat.le_refl _)
  have h7 : xs.getD j 0 ∈ xs := by
    rw [List.getD_eq_getElem?_getD, List.getElem?_eq_getElem hj]; exact List.getElem_mem hj
  have h8 := h2 _ h7
  unfold InLong
  exact ⟨i_long (Nat.le_trans (Nat.le_of_lt h8) (by decide)), i_long (Nat.le_trans h5 (Nat.le_trans h6 (by decide)))⟩

theorem sum_snd (hA : AOk n A) (S : Sim P X F loc st fr s) {l : Addr} {vs : List Value} {xs : List Int} (hl : s.heap.IsList l vs.toArray) (hi : IntsAre vs xs) (h1 : xs.length < 2 ^ 20) (h2 : ∀ x ∈ xs, x.natAbs < 2 ^ 40) {Q : Value → Shared → Prop}
    (h : ∀ t s', Sim P X F loc st fr s' → Q (.int xs.sum t) s') : wpAny (model P.prog P.w) A (call (.builtin "sum") [.ref l]) Q NoE s := by
  obtain ⟨ys, hy⟩ := hi.allInts.items
  rw [hy] at hl
  have hn : xs = ys.toList.map (·.1) := by
    rw [← hi.numsOf]
    have : vs = (intItems ys).toList := by rw [← hy]
    rw [this]; exact nums_intItems ys
  refine sum_intList hA.1 hl (fun j hj => ?_) fun h' tk t' hk => ?_
  · rw [numAt_eq, preSum_eq, ← hn]
    have hj' : j < xs.length := by rw [hn]; simpa using hj
    exact sumFits h1 h2 j hj'
  · rw [preSum_eq, List.take_of_length_le (by simp), ← hn]
    exact h t' _ (S.keeps hk rfl rfl)

end
end Mine
end

section
open PySem PySem.W PyProof.Rows PySem.Spec PySem.SeqAt PySem.Calls
set_option Elab.async false
set_option maxRecDepth 100000
set_option maxHeartbeats 1000000
set_option autoImplicit false
set_option linter.unusedVariables false
namespace Mine

/-- the frame at hand: its block's names are sc, its slots N -/
structure Cxx (X : Cx) (sc : Nms) (N : Slots) : Prop where
  ok : X.Ok
  names : X.env.scope.names = sc
  slots : X.N = N
  cells : ∀ nm, sc.lookup nm = some .cell → ∃ c, X.env.cells.lookup nm = some c

section
variable {P : PG} {X : Cx} {F : Gm} {loc : List Addr} {st : St} {fr : Frm} {s : Shared} {A : Around} {n : Nat}

theorem Sim.store (S : Sim P X F loc st fr s) (hX : X.Ok) {i : Nat} {nm : Str} (hN : X.N[i]? = some (some nm)) (hw : X.env.kindOf nm = some .cell → nm ∈ X.own) (hcell : X.env.kindOf nm = some .cell → ∃ c, X.env.cells.lookup nm = some c) {d : Dv} {v : Value} (r : VRep P.fa F loc d v) {E : Value → Shared → Prop} {M : Model} {Q : Unit → Shared → Prop}
    (h : ∀ s', Sim P X F loc st (fr.set i (some d)) s' → Q () s') : wpAny M A (storeName X.env nm v) Q E s := by
  refine hide fun hn => ?_
  obtain ⟨m, cm, h1, h2, h3⟩ := S.frm
  refine hn ?_; clear hn
  rcases hX.own i nm hN with hl | hc
  · refine wpAny_storeName_local hl h1 (fun h' hn hs => h _ ?_) (by rw [hX.kind]; rfl)
    have hk : ∀ a o, a ≠ X.env.locals → s.heap.get? a = some o → h'.get? a = some o := fun a o hne e => (hs.2 a hne).trans e
    refine ⟨S.toHSim.keepsIn (fun a o q e => hk a o (fun x => ?_) e) rfl rfl, ⟨_, cm, hn, fun nm' c e => ?_, fun j nm' d' e1 e2 => ?_⟩, S.lF, S.lLoc, S.lB, S.l0, S.oF, S.oInj, fun a o e => hk a o (fun x => ?_) (S.base a o e), S.baseLoc, S.newF, S.newLoc, S.limW, S.witE, S.limH⟩
    · subst x
      rcases q with q | q | q
      · exact q S.lF
      · exact S.lLoc q
      · exact q S.l0
    · obtain ⟨o, ho, q⟩ := h2 nm' c e
      refine ⟨o, hk c o (fun x => ?_) ho, q⟩
      refine hide fun hn => ?_
      obtain ⟨oL, es, ep, hL, hd, _⟩ := h1
      refine hn ?_; clear hn
      have q' : s.heap.get? c = some o := ho
      rw [x, hL] at q'; cases q'; rw [hd] at q; cases q
    · by_cases hj : j = i
      · subst hj
        rw [hN] at e1; cases e1
        have hlt : j < fr.length := by
          rcases Nat.lt_or_ge j fr.length with h | h
          · exact h
          · rw [List.getElem?_eq_none (by rw [List.length_set]; exact h)] at e2; cases e2
        rw [List.getElem?_set_self hlt] at e2; cases e2
        exact ⟨v, r, .inl ⟨hl, by simp⟩⟩
      · rw [List.getElem?_set_ne (Ne.symm hj)] at e2
        obtain ⟨v', r', q⟩ := h3 j nm' d' e1 e2
        have hne : nm' ≠ nm := fun x => hj (hX.inj j i nm (x ▸ e1) hN)
        refine ⟨v', r', ?_⟩
        rcases q with ⟨a, b⟩ | q
        · exact .inl ⟨a, by rw [if_neg hne]; exact b⟩
        · exact .inr q
    · rw [x, S.lB] at e; cases e
  · obtain ⟨v₀, r₀, hcl⟩ : ∃ c, X.env.cells.lookup nm = some c ∧ True := by
      by_cases hq : ∃ c, X.env.cells.lookup nm = some c
      · obtain ⟨c, hc'⟩ := hq; exact ⟨c, hc', trivial⟩
      · exact (hq (hcell hc)).elim
    have hown := hw hc
    refine hide fun hn => ?_
    obtain ⟨oF, oL, oB, o0, oLoc⟩ := S.oF nm hown v₀ r₀
    refine hn ?_; clear hn
    refine wpAny_storeName_cell hX.kind hc r₀ (h2 nm v₀ r₀) (fun h' hn hs => h _ ?_)
    have hk : ∀ a o, a ≠ v₀ → s.heap.get? a = some o → h'.get? a = some o := fun a o hne e => (hs.2 a hne).trans e
    refine ⟨S.toHSim.keepsIn (fun a o q e => hk a o (fun x => ?_) e) rfl rfl, ⟨m, fun y => if y = nm then some v else cm y, ?_, fun nm' c e => ?_, fun j nm' d' e1 e2 => ?_⟩, S.lF, S.lLoc, S.lB, S.l0, S.oF, S.oInj, fun a o e => hk a o (fun x => ?_) (S.base a o e), S.baseLoc, S.newF, S.newLoc, S.limW, S.witE, S.limH⟩
    · subst x
      rcases q with q | q | q
      · exact q oF
      · exact oL q
      · exact q o0
    · refine hide fun hn => ?_
      obtain ⟨oL', es, ep, hL, q⟩ := h1
      refine hn ?_; clear hn
      exact ⟨oL', es, ep, hk _ _ (Ne.symm oLoc) hL, q⟩
    · by_cases hne : nm' = nm
      · subst hne
        rw [r₀] at e; cases e
        show h'.IsCell v₀ (if nm' = nm' then some v else cm nm')
        rw [if_pos rfl]; exact hn
      · show h'.IsCell c (if nm' = nm then some v else cm nm')
        rw [if_neg hne]
        obtain ⟨o, ho, q⟩ := h2 nm' c e
        exact ⟨o, hk c o (fun x => hne (S.oInj nm hown nm' v₀ r₀ (x ▸ e)).symm) ho, q⟩
    · by_cases hj : j = i
      · subst hj
        rw [hN] at e1; cases e1
        have hlt : j < fr.length := by
          rcases Nat.lt_or_ge j fr.length with h | h
          · exact h
          · rw [List.getElem?_eq_none (by rw [List.length_set]; exact h)] at e2; cases e2
        rw [List.getElem?_set_self hlt] at e2; cases e2
        exact ⟨v, r, .inr ⟨hc, by simp, v₀, r₀⟩⟩
      · rw [List.getElem?_set_ne (Ne.symm hj)] at e2
        obtain ⟨v', r', q⟩ := h3 j nm' d' e1 e2
        have hne : nm' ≠ nm := fun x => hj (hX.inj j i nm (x ▸ e1) hN)
        refine ⟨v', r', ?_⟩
        rcases q with q | ⟨a, b, c⟩
        · exact .inl q
        · exact .inr ⟨a, by simp only [if_neg hne]; exact b, c⟩
    · rw [x, oB] at e; cases e

/-- a slot read -/
theorem Sim.read (S : Sim P X F loc st fr s) (hX : X.Ok) {i : Nat} {nm : Str} (hN : X.N[i]? = some (some nm)) {d : Dv} (e : fr[i]? = some (some d)) {E : Value → Shared → Prop} {M : Model} {Q : Value → Shared → Prop}
    (h : ∀ v, VRep P.fa F loc d v → Q v s) : wpAny M A (loadName X.env nm) Q E s := by
  refine hide fun hn => ?_
  obtain ⟨m, cm, h1, h2, h3⟩ := S.frm
  obtain ⟨v, r, q⟩ := h3 i nm d hN e
  refine hn ?_; clear hn
  rcases q with ⟨hl, hv⟩ | ⟨hc, hv, c, hcl⟩
  · exact wpAny_loadName_local hX.kind hl h1 hv (h v r)
  · exact wpAny_loadName_cell hX.kind hc hcl (hv ▸ h2 nm c hcl) (h v r)

/-- behind a call -/
inductive CallP (P : PG) (F : Gm) (loc : List Addr) (st : St) (s : Shared) (Q : Dv → St → Prop) (v : Value) (s' : Shared) : Prop where
  | mk (F' : Gm) (st' : St) (d : Dv) : Gsub F F' → (∀ a, F' a ≠ none → F a ≠ none ∨ s.heap.objs.size ≤ a) → HSim P F' loc st' s' →
    (∀ a o, s.heap.get? a = some o → (∀ (i : Nat) (mo : Mo), loc[i]? = some a → st[i]? ≠ some (some mo)) → s'.heap.get? a = some o) →
    (∀ (i : Nat) (mo : Mo), st'[i]? = some (some mo) → ∃ mo', st[i]? = some (some mo')) → VRep P.fa F' [] d v → Q d st' → CallP P F loc st s Q v s'
/-- a call's contract, at n levels of room -/
noncomputable def CallOK (P : PG) (n : Nat) : Ct := fun k ds st Q => ∀ (A : Around) (F : Gm) (loc : List Addr) (s : Shared) (vs : List Value), AOk n A → HSim P F loc st s → VReps P.fa F loc ds vs →
  P.H0.objs.size ≤ s.heap.objs.size →
  wpAny (model P.prog P.w) A (call (.ref (P.fa k)) vs) (CallP P F loc st s Q) NoE s

/-- behind a test -/
inductive TP (P : PG) (X : Cx) (F : Gm) (loc : List Addr) (fr : Frm) (Q : Bool → St → Prop) (b : Bool) (s' : Shared) : Prop where
  | mk (F' : Gm) (loc' : List Addr) (st' : St) : Ext F loc F' loc' → Sim P X F' loc' st' fr s' → Q b st' → TP P X F loc fr Q b s'
/-- behind a row of arguments -/
inductive EsP (P : PG) (X : Cx) (F : Gm) (loc : List Addr) (fr : Frm) (Q : List Dv → St → Prop) (vs : List Value) (s' : Shared) : Prop where
  | mk (F' : Gm) (loc' : List Addr) (st' : St) (ds : List Dv) : Ext F loc F' loc' → Sim P X F' loc' st' fr s' → VReps P.fa F' loc' ds vs → Q ds st' → EsP P X F loc fr Q vs s'
theorem es_bind {P : PG} {X : Cx} {F : Gm} {loc : List Addr} {fr : Frm} {s : Shared} {A : Around} {M : Model} {t : Sem (List Value)} {Q : List Dv → St → Prop} {R : List Value → Shared → Prop} (h : wpAny M A t (EsP P X F loc fr Q) NoE s)
    (k : ∀ F' loc' st' ds vs s', Ext F loc F' loc' → Sim P X F' loc' st' fr s' → VReps P.fa F' loc' ds vs → Q ds st' → R vs s') : wpAny M A t R NoE s :=
  wpAny_mono h (fun vs s' h => by obtain ⟨F', loc', st', ds, e, S', r, q⟩ := h; exact k F' loc' st' ds vs s' e S' r q) fun _ _ x => x
/-- what an expression's soundness says -/
noncomputable def SndE (P : PG) (n : Nat) (G : List Str) (m : ME) : Prop := ∀ sc N e, encE G m sc N e = true → ∀ X, Cxx X sc N → ∀ fr st Q, wpE (CallOK P n) m fr st Q → ∀ A F loc s, AOk n A → Sim P X F loc st fr s →
  wpAny (model P.prog P.w) A (eval e X.env) (EP P X F loc fr Q) NoE s
noncomputable def SndT (P : PG) (n : Nat) (G : List Str) (m : MT) : Prop := ∀ sc N e, encT G m sc N e = true → ∀ X, Cxx X sc N → ∀ fr st Q, wpT (CallOK P n) m fr st Q → ∀ A F loc s, AOk n A → Sim P X F loc st fr s →
  wpAny (model P.prog P.w) A (isTrue e X.env (eval e X.env)) (TP P X F loc fr Q) NoE s
noncomputable def SndEs (P : PG) (n : Nat) (G : List Str) (m : MEs) : Prop := ∀ sc N es, encEs G m sc N es = true → ∀ X, Cxx X sc N → ∀ fr st Q, wpEs (CallOK P n) m fr st Q → ∀ A F loc s pos, AOk n A → Sim P X F loc st fr s →
  wpAny (model P.prog P.w) A (spliced (backTo pos (starEach es X.env))) (EsP P X F loc fr Q) NoE s
noncomputable def SndEo (P : PG) (n : Nat) (G : List Str) (m : MEo) : Prop := ∀ sc N o, encEo G m sc N o = true → ∀ X, Cxx X sc N → ∀ fr st Q, wpEo (CallOK P n) m fr st Q → ∀ A F loc s, AOk n A → Sim P X F loc st fr s →
  wpAny (model P.prog P.w) A (evalPart o X.env) (EP P X F loc fr Q) NoE s

/-- one expression behind another -/
theorem ep_bind {M : Model} {t : Sem Value} {Q : Dv → St → Prop} {R : Value → Shared → Prop} (h : wpAny M A t (EP P X F loc fr Q) NoE s)
    (k : ∀ F' loc' st' d v s', Ext F loc F' loc' → Sim P X F' loc' st' fr s' → VRep P.fa F' loc' d v → Q d st' → R v s') : wpAny M A t R NoE s :=
  wpAny_mono h (fun v s' ⟨F', loc', st', d, e, S', r, q⟩ => k F' loc' st' d v s' e S' r q) fun _ _ x => x

theorem ep_weak {M : Model} {t : Sem Value} {F₁ : Gm} {loc₁ : List Addr} {Q Q' : Dv → St → Prop} (h : wpAny M A t (EP P X F₁ loc₁ fr Q) NoE s) (x : Ext F loc F₁ loc₁) (hq : ∀ d st, Q d st → Q' d st) : wpAny M A t (EP P X F loc fr Q') NoE s :=
  wpAny_mono h (fun v s' ⟨F', loc', st', d, e, S', r, q⟩ => ⟨F', loc', st', d, x.trans e, S', r, hq d st' q⟩) fun _ _ x => x
end

section
variable {P : PG} {n : Nat} {G : List Str}

theorem snd_int (i : Int) : SndE P n G (.int i) := by
  intro sc N e he X hX fr st Q hw A F loc s hA S
  refine i_int (R := fun e => wpAny (model P.prog P.w) A (eval e X.env) (EP P X F loc fr Q) NoE s) he fun j k p he => ?_
  · have : i = j := by simpa using he
    subst this
    exact wpAny_Constant_int (int_snd S (by exact hw) _ _)
theorem snd_none : SndE P n G .none := by
  intro sc N e he X hX fr st Q hw A F loc s hA S
  refine i_none (R := fun e => wpAny (model P.prog P.w) A (eval e X.env) (EP P X F loc fr Q) NoE s) he fun k p => ?_
  · exact wpAny_Constant_none ⟨F, loc, st, .none, Ext.refl F loc, S, .none, by exact hw⟩
theorem snd_bool (b : Bool) : SndE P n G (.bool b) := by
  intro sc N e he X hX fr st Q hw A F loc s hA S
  refine i_bool (R := fun e => wpAny (model P.prog P.w) A (eval e X.env) (EP P X F loc fr Q) NoE s) he fun c k p he => ?_
  · have : b = c := by simpa using he
    subst this
    exact wpAny_Constant_bool ⟨F, loc, st, .bool b, Ext.refl F loc, S, .bool b, by exact hw⟩
theorem slot_of {N : Slots} {x : Nat} {id : Str} (h : slotIs N x id = true) : N[x]? = some (some id) := by
  unfold slotIs at h; simpa using h
theorem snd_var (x : Nat) : SndE P n G (.var x) := by
  intro sc N e he X hX fr st Q hw A F loc s hA S
  refine i_var (R := fun e => wpAny (model P.prog P.w) A (eval e X.env) (EP P X F loc fr Q) NoE s) he fun id p he => ?_
  · have hN : X.N[x]? = some (some id) := by rw [hX.slots]; exact slot_of he
    rw [wpE_r4] at hw
    split at hw
    · rename_i d q
      exact wpAny_Name (S.read hX.ok hN q fun v r => ⟨F, loc, st, d, Ext.refl F loc, S, r, hw⟩) (hX.ok.nodeb x id hN)
    · exact hw.elim
theorem snd_fn (hP : P.Ok) (hG : ∀ (k : Nat) (id : Str), G[k]? = some id → P.fname k = id) (k : Nat) : SndE P n G (.fn k) := by
  intro sc N e he X hX fr st Q hw A F loc s hA S
  refine i_fn (R := fun e => wpAny (model P.prog P.w) A (eval e X.env) (EP P X F loc fr Q) NoE s) he fun id p he => ?_
  · simp only [Bool.and_eq_true, beq_iff_eq, Bool.not_eq_true'] at he
    obtain ⟨⟨h1, h2⟩, h3⟩ := he
    obtain rfl := hG k id h1
    have hkind : X.env.kindOf (P.fname k) = some .globalImplicit := by unfold Env.kindOf; rw [hX.names]; exact h2
    refine Name_function_global hX.ok.kind hkind (loadGlobal_global (mg := P.mg) (by rw [hX.ok.glob]; exact hP.hg.keeps S.h0) (hP.hfn k).1 ⟨F, loc, st, .fn k, Ext.refl F loc, S, .fn k, by exact hw⟩) h3
theorem snd_bin {op : Operator} {mk : Bool} {a b : ME} (ha : SndE P n G a) (hb : SndE P n G b) : SndE P n G (.bin op mk a b) := by
  intro sc N e he X hX fr st Q hw A F loc s hA S
  refine i_bin (R := fun e => wpAny (model P.prog P.w) A (eval e X.env) (EP P X F loc fr Q) NoE s) he fun l o r p he => ?_
  · simp only [Bool.and_eq_true, beq_iff_eq] at he
    obtain ⟨⟨rfl, h1⟩, h2⟩ := he
    rw [wpE_r6] at hw
    refine wpAny_BinOp (ep_bind (ha sc N _ h1 X hX fr st _ hw A F loc s hA S) fun F₁ loc₁ st₁ d₁ v₁ s₁ e₁ S₁ r₁ q₁ => ?_)
    refine ep_bind (hb sc N _ h2 X hX fr st₁ _ q₁ A F₁ loc₁ s₁ hA S₁) fun F₂ loc₂ st₂ d₂ v₂ s₂ e₂ S₂ r₂ q₂ => ?_
    exact ep_weak (bin_snd S₂ (r₁.mono e₂) r₂ q₂) (e₁.trans e₂) fun _ _ q => q
theorem snd_neg {a : ME} (ha : SndE P n G a) : SndE P n G (.neg a) := by
  intro sc N e he X hX fr st Q hw A F loc s hA S
  refine i_neg (R := fun e => wpAny (model P.prog P.w) A (eval e X.env) (EP P X F loc fr Q) NoE s) he fun x p he => ?_
  · rw [wpE_r7] at hw
    refine wpAny_UnaryOp (ep_bind (ha sc N _ he X hX fr st _ hw A F loc s hA S) fun F₁ loc₁ st₁ d₁ v₁ s₁ e₁ S₁ r₁ q₁ => ?_)
    split at q₁
    · cases r₁
      exact PySem.P.neg_int ((int_snd S₁ q₁ _ _).ext e₁)
    · exact q₁.elim
theorem snd_ife {t : MT} {a b : ME} (ht : SndT P n G t) (ha : SndE P n G a) (hb : SndE P n G b) : SndE P n G (.ife t a b) := by
  intro sc N e he X hX fr st Q hw A F loc s hA S
  refine i_ife (R := fun e => wpAny (model P.prog P.w) A (eval e X.env) (EP P X F loc fr Q) NoE s) he fun c x y p he => ?_
  · simp only [Bool.and_eq_true] at he
    obtain ⟨⟨h1, h2⟩, h3⟩ := he
    rw [wpE_r8] at hw
    refine wpAny_IfExp (wpAny_mono (ht sc N _ h1 X hX fr st _ hw A F loc s hA S) (fun c s₁ ⟨F₁, loc₁, st₁, e₁, S₁, q₁⟩ => ?_) fun _ _ x => x)
    cases c with
    | true => exact ep_weak (ha sc N _ h2 X hX fr st₁ _ q₁ A F₁ loc₁ s₁ hA S₁) e₁ fun _ _ q => q
    | false => exact ep_weak (hb sc N _ h3 X hX fr st₁ _ q₁ A F₁ loc₁ s₁ hA S₁) e₁ fun _ _ q => q

/-- an encoded expression is no set display, no starred one -/
theorem enc_set {m : ME} {sc : Nms} {N : Slots} {a : List Expr} {k : Nat} {p : Pos} : encE G m sc N (.Set a k p) = false := by
  cases m <;> rfl
theorem enc_star {m : ME} {sc : Nms} {N : Slots} {a : Expr} {p : Pos} : encE G m sc N (.Starred a p) = false := by
  cases m <;> rfl
theorem enc_noSet {m : ME} {sc : Nms} {N : Slots} {e : Expr} (h : encE G m sc N e = true) (op : CmpOp) (env : Env) : behindInMarks op e = false ∧ (∀ x, foldedSetIterable e env x = pure x) ∧ (∀ r, starEach (e :: r) env = (false, eval e env) :: starEach r env) := by
  cases e <;> first | (rw [enc_set] at h; cases h; done) | (rw [enc_star] at h; cases h; done) | exact ⟨rfl, fun _ => rfl, fun _ => rfl⟩

theorem snd_cmp (hP : P.Ok) {op : CmpOp} {a b : ME} (ha : SndE P n G a) (hb : SndE P n G b) : SndE P n G (.cmp op a b) := by
  intro sc N e he X hX fr st Q hw A F loc s hA S
  refine i_cmp (R := fun e => wpAny (model P.prog P.w) A (eval e X.env) (EP P X F loc fr Q) NoE s) he fun l o r p he => ?_
  · simp only [Bool.and_eq_true, beq_iff_eq] at he
    obtain ⟨⟨rfl, h1⟩, h2⟩ := he
    rw [wpE_r9] at hw
    refine wpAny_Compare1 (ep_bind (ha sc N _ h1 X hX fr st _ hw A F loc s hA S) fun F₁ loc₁ st₁ d₁ v₁ s₁ e₁ S₁ r₁ q₁ => ?_) (enc_noSet h2 _ X.env).1
    refine ep_bind (hb sc N _ h2 X hX fr st₁ _ q₁ A F₁ loc₁ s₁ hA S₁) fun F₂ loc₂ st₂ d₂ v₂ s₂ e₂ S₂ r₂ q₂ => ?_
    refine wpAny_mono (cmp_snd hA S₂ (r₁.mono e₂) r₂ q₂ hP) (fun v s' ⟨c, hv, S', q⟩ => ?_) fun _ _ x => x
    subst hv
    exact ⟨F₂, loc₂, st₂, .bool c, e₁.trans e₂, S', .bool c, q⟩
theorem sndT_cmp (hP : P.Ok) {op : CmpOp} {a b : ME} (ha : SndE P n G a) (hb : SndE P n G b) : SndT P n G (.cmp op a b) := by
  intro sc N e he X hX fr st Q hw A F loc s hA S
  refine i_tcmp (R := fun e => wpAny (model P.prog P.w) A (PySem.isTrue e X.env (eval e X.env)) (TP P X F loc fr Q) NoE s) he fun l o r p he => ?_
  · simp only [Bool.and_eq_true, beq_iff_eq] at he
    obtain ⟨⟨rfl, h1⟩, h2⟩ := he
    rw [wpT_r4] at hw
    refine wpAny_isTrue_Compare1 (ep_bind (ha sc N _ h1 X hX fr st _ hw A F loc s hA S) fun F₁ loc₁ st₁ d₁ v₁ s₁ e₁ S₁ r₁ q₁ => ?_) (enc_noSet h2 _ X.env).1
    refine ep_bind (hb sc N _ h2 X hX fr st₁ _ q₁ A F₁ loc₁ s₁ hA S₁) fun F₂ loc₂ st₂ d₂ v₂ s₂ e₂ S₂ r₂ q₂ => ?_
    refine wpAny_mono (cmp_snd hA S₂ (r₁.mono e₂) r₂ q₂ hP) (fun v s' ⟨c, hv, S', q⟩ => ?_) fun _ _ x => x
    subst hv
    exact wpAny_truthy_bool ⟨F₂, loc₂, st₂, e₁.trans e₂, S', q⟩
theorem sndT_not {t : MT} (ht : SndT P n G t) : SndT P n G (.not t) := by
  intro sc N e he X hX fr st Q hw A F loc s hA S
  refine i_not (R := fun e => wpAny (model P.prog P.w) A (PySem.isTrue e X.env (eval e X.env)) (TP P X F loc fr Q) NoE s) he fun x p he => ?_
  · rw [wpT_r1] at hw
    exact wpAny_isTrue_Not (wpAny_mono (ht sc N _ he X hX fr st _ hw A F loc s hA S) (fun b s' ⟨F', loc', st', e, S', q⟩ => ⟨F', loc', st', e, S', q⟩) fun _ _ x => x)
theorem sndT_val {v : ME} (hv : SndE P n G v) : SndT P n G (.val v) := by
  intro sc N e he X hX fr st Q hw A F loc s hA S
  rw [wpT_r5] at hw
  refine i_val (R := fun e => wpAny (model P.prog P.w) A (PySem.isTrue e X.env (eval e X.env)) (TP P X F loc fr Q) NoE s) he (fun id p he => ?_) (fun f as ks p he => ?_)
  · refine wpAny_isTrue_value (ep_bind (hv sc N _ he X hX fr st _ hw A F loc s hA S) fun F₁ loc₁ st₁ d₁ v₁ s₁ e₁ S₁ r₁ q₁ => ?_) (by rfl)
    split at q₁
    · cases r₁; exact wpAny_truthy_bool ⟨F₁, loc₁, st₁, e₁, S₁, q₁⟩
    · exact q₁.elim
  · refine wpAny_isTrue_value (ep_bind (hv sc N _ he X hX fr st _ hw A F loc s hA S) fun F₁ loc₁ st₁ d₁ v₁ s₁ e₁ S₁ r₁ q₁ => ?_) (by rfl)
    split at q₁
    · cases r₁; exact wpAny_truthy_bool ⟨F₁, loc₁, st₁, e₁, S₁, q₁⟩
    · exact q₁.elim

noncomputable def SndTs (P : PG) (n : Nat) (G : List Str) (m : MTs) : Prop := ∀ sc N es, encTs G m sc N es = true → ∀ X, Cxx X sc N → ∀ op fr st Q, wpTs (CallOK P n) op m fr st Q → ∀ A F loc s, AOk n A → Sim P X F loc st fr s →
  wpAny (model P.prog P.w) A (allTrue op es X.env) (TP P X F loc fr Q) NoE s
theorem sndTs_nil : SndTs P n G .nil := by
  intro sc N es he X hX op fr st Q hw A F loc s hA S
  obtain rfl := i_tnil he
  rw [wpTs_r1] at hw
  exact wpAny_pure ⟨F, loc, st, Ext.refl F loc, S, hw⟩
theorem sndTs_cons {t : MT} {r : MTs} (ht : SndT P n G t) (hr : SndTs P n G r) : SndTs P n G (.cons t r) := by
  intro sc N es he X hX op fr st Q hw A F loc s hA S
  have hx := i_tcons he; clear he; obtain ⟨e, es', rfl, he⟩ := hx
  · rw [wpTs_r2] at hw
    have h1 := ht sc N _ he.1 X hX fr st _ hw A F loc s hA S
    cases op with
    | And =>
      refine wpAny_allTrue_And_cons (wpAny_mono h1 (fun b s₁ ⟨F₁, loc₁, st₁, e₁, S₁, q₁⟩ => ?_) fun _ _ x => x)
      cases b with
      | false => exact ⟨F₁, loc₁, st₁, e₁, S₁, q₁⟩
      | true => exact wpAny_mono (hr sc N _ he.2 X hX .And fr st₁ Q q₁ A F₁ loc₁ s₁ hA S₁) (fun b s' ⟨F', loc', st', e, S', q⟩ => ⟨F', loc', st', e₁.trans e, S', q⟩) fun _ _ x => x
    | Or =>
      refine wpAny_allTrue_Or_cons (wpAny_mono h1 (fun b s₁ ⟨F₁, loc₁, st₁, e₁, S₁, q₁⟩ => ?_) fun _ _ x => x)
      cases b with
      | true => exact ⟨F₁, loc₁, st₁, e₁, S₁, q₁⟩
      | false => exact wpAny_mono (hr sc N _ he.2 X hX .Or fr st₁ Q q₁ A F₁ loc₁ s₁ hA S₁) (fun b s' ⟨F', loc', st', e, S', q⟩ => ⟨F', loc', st', e₁.trans e, S', q⟩) fun _ _ x => x
theorem sndT_and {l : MTs} (hl : SndTs P n G l) : SndT P n G (.and l) := by
  intro sc N e he X hX fr st Q hw A F loc s hA S
  refine i_and (R := fun e => wpAny (model P.prog P.w) A (PySem.isTrue e X.env (eval e X.env)) (TP P X F loc fr Q) NoE s) he fun es p he => ?_
  · rw [wpT_r2] at hw
    exact wpAny_isTrue_BoolOp (hl sc N _ he X hX .And fr st Q hw A F loc s hA S)
theorem sndT_or {l : MTs} (hl : SndTs P n G l) : SndT P n G (.or l) := by
  intro sc N e he X hX fr st Q hw A F loc s hA S
  refine i_or (R := fun e => wpAny (model P.prog P.w) A (PySem.isTrue e X.env (eval e X.env)) (TP P X F loc fr Q) NoE s) he fun es p he => ?_
  · rw [wpT_r3] at hw
    exact wpAny_isTrue_BoolOp (hl sc N _ he X hX .Or fr st Q hw A F loc s hA S)
end
end Mine
end

section
open PySem PySem.W PyProof.Rows PySem.Spec PySem.SeqAt PySem.Calls
set_option Elab.async false
set_option maxRecDepth 100000
set_option maxHeartbeats 1000000
set_option autoImplicit false
set_option linter.unusedVariables false
namespace Mine
section
variable {P : PG} {X : Cx} {F : Gm} {loc : List Addr} {st : St} {fr : Frm} {s : Shared} {A : Around}

theorem Sim.afterCall (S : Sim P X F loc st fr s) {F' : Gm} {st' : St} {s' : Shared} (g : Gsub F F') (hnew : ∀ a, F' a ≠ none → F a ≠ none ∨ s.heap.objs.size ≤ a) (H : HSim P F' loc st' s')
    (hk : ∀ a o, s.heap.get? a = some o → (∀ (i : Nat) (mo : Mo), loc[i]? = some a → st[i]? ≠ some (some mo)) → s'.heap.get? a = some o)
    (hl : ∀ (i : Nat) (mo : Mo), st'[i]? = some (some mo) → ∃ mo', st[i]? = some (some mo')) : Ext F loc F' loc ∧ Sim P X F' loc st' fr s' := by
  have fresh : ∀ a, X.held P F loc a → F' a ≠ none → F a ≠ none := fun a h1 h2 => (hnew a h2).resolve_right fun h3 => Nat.lt_irrefl _ (Nat.lt_of_lt_of_le (S.held_lt h1) h3)
  have none_of : ∀ a, X.held P F loc a → F a = none → F' a = none := fun a h1 h2 => by
    cases e : F' a with
    | none => rfl
    | some o => exact absurd h2 (fresh a h1 (by rw [e]; exact nofun))
  have hL : X.held P F loc X.env.locals := by right; right; right; right; left; rfl
  have keep : ∀ a o, a ∉ loc → s.heap.get? a = some o → s'.heap.get? a = some o := fun a o h1 e => hk a o e fun i mo e1 _ => h1 (mem_of_get e1)
  refine ⟨⟨g, List.prefix_refl _⟩, ⟨H, ?_, none_of _ hL S.lF, S.lLoc, S.lB, S.l0, fun nm hnm c hc => ?_, S.oInj, fun a o e => ?_, fun i a mo e1 e2 => ?_, fun a ha => ?_, S.newLoc, S.limW, S.witE, S.limH⟩⟩
  · refine hide fun hn => ?_
    obtain ⟨m, cm, h1, h2, h3⟩ := S.frm
    refine hn ?_; clear hn
    refine ⟨m, cm, ?_, fun nm c e => ?_, fun i nm d e1 e2 => let ⟨v, hv, r⟩ := h3 i nm d e1 e2; ⟨v, hv.mono ⟨g, List.prefix_refl _⟩, r⟩⟩
    · refine hide fun hn => ?_
      obtain ⟨o, es, ep, ho, r⟩ := h1
      refine hn ?_; clear hn
      exact ⟨o, es, ep, keep _ o S.lLoc ho, r⟩
    · obtain ⟨o, ho, r⟩ := h2 nm c e
      refine ⟨o, hk c o ho (fun i mo e1 e2 => ?_), r⟩
      have ho' : s.heap.get? c = some o := ho
      have h4 := S.mrep i c mo e1 e2
      cases mo with
      | list l => obtain ⟨o₁, vs, q1, ⟨k, q2⟩, _⟩ := h4; rw [ho'] at q1; cases q1; rw [q2] at r; cases r
      | dict l => obtain ⟨kvs, ⟨o₁, es, ep, q1, _, q2, _⟩, _⟩ := h4; rw [ho'] at q1; cases q1; rw [q2] at r; cases r
  · obtain ⟨h1, h2⟩ := S.oF nm hnm c hc
    exact ⟨none_of c (by right; right; right; right; right; exact ⟨nm, hc⟩) h1, h2⟩
  · refine hk a o (S.base a o e) fun i mo e1 e2 => ?_
    rw [S.baseLoc i a mo e1 e2] at e; cases e
  · obtain ⟨mo', h1⟩ := hl i mo e2
    exact S.baseLoc i a mo' e1 h1
  · rcases hnew a ha with h | h
    · exact S.newF a h
    · exact .inr (Nat.le_trans S.lim_le h)

variable {n : Nat} {G : List Str}

theorem sndEs_nil : SndEs P n G .nil := by
  intro sc N es he X hX fr st Q hw A F loc s pos hA S
  obtain rfl := i_enil he
  rw [wpEs_r1] at hw
  exact args_nil ⟨F, loc, st, [], Ext.refl F loc, S, .nil, hw⟩
theorem sndEs_cons {m : ME} {r : MEs} (hm : SndE P n G m) (hr : SndEs P n G r) : SndEs P n G (.cons m r) := by
  intro sc N es he X hX fr st Q hw A F loc s pos hA S
  have hx := i_econs he; clear he; obtain ⟨e, es', rfl, he⟩ := hx
  · rw [wpEs_r2] at hw
    refine args_cons (ep_bind (hm sc N _ he.1 X hX fr st _ hw A F loc s hA S) fun F₁ loc₁ st₁ d₁ v₁ s₁ e₁ S₁ r₁ q₁ => ?_) ((enc_noSet he.1 .In X.env).2.2 _)
    refine es_bind (hr sc N _ he.2 X hX fr st₁ _ q₁ A F₁ loc₁ s₁ pos hA S₁) fun F' loc' st' ds vs s' e S' rs q => ?_
    exact ⟨F', loc', st', d₁ :: ds, e₁.trans e, S', .cons (r₁.mono e) rs, q⟩

theorem encEs_plain : ∀ {m : MEs} {sc : Nms} {N : Slots} {es : List Expr} (env : Env) (pos : Pos), encEs G m sc N es = true → (backTo pos (starEach es env)).any (·.1) = false
  | .nil, _, _, es, env, pos, h => by
    obtain rfl := i_enil h
    rfl
  | .cons m r, _, _, es, env, pos, h => by
    have hx := i_econs h; clear h; obtain ⟨e, es', rfl, h⟩ := hx
    rw [(enc_noSet h.1 .In env).2.2]
    show (false || _) = false
    exact encEs_plain env pos h.2

theorem snd_call (hP : P.Ok) {f : ME} {args : MEs} (hf : SndE P n G f) (ha : SndEs P n G args) : SndE P n G (.call f args) := by
  intro sc N e he X hX fr st Q hw A F loc s hA S
  refine i_call (R := fun e => wpAny (model P.prog P.w) A (eval e X.env) (EP P X F loc fr Q) NoE s) he fun id p as pos he => ?_
  · simp only [Bool.and_eq_true, decide_eq_true_eq] at he
    obtain ⟨⟨h1, h2⟩, h3⟩ := he
    rw [wpE_r11] at hw
    refine Call_ (ep_bind (hf sc N _ h1 X hX fr st _ hw A F loc s hA S) fun F₁ loc₁ st₁ d₁ v₁ s₁ e₁ S₁ r₁ q₁ => ?_) (by rfl)
    split at q₁
    · rename_i k
      cases r₁
      cases as with
      | nil => simp at h3
      | cons e₀ rest =>
        obtain ⟨o, ho, hdat⟩ := (hP.hfn k).2.1
        have hst : ∀ m : MEs, encEs G m sc N (e₀ :: rest) = true → starEach (e₀ :: rest) X.env = (false, eval e₀ X.env) :: starEach rest X.env := fun m h => by
          cases m with
          | nil => exact no h
          | cons m r => exact (enc_noSet (sp h).1 .In X.env).2.2 _
        refine callWith_def hdat (es_bind (ha sc N _ h2 X hX fr st₁ _ q₁ A F₁ loc₁ s₁ _ hA S₁) fun F₂ loc₂ st₂ ds vs s₂ e₂ S₂ rs q₂ => ⟨S₂.h0 _ _ ho, ?_⟩) (hst args h2)
        refine wpAny_mono (q₂ A F₂ loc₂ s₂ vs hA S₂.toHSim rs (Nat.le_trans S₂.limH S₂.lim_le)) (fun v s' h => ?_) fun _ _ x => x
        obtain ⟨F', st', d, g, hnew, H, hkeep, hlive, r, q⟩ := h
        obtain ⟨e₃, S'⟩ := S₂.afterCall g hnew H hkeep hlive
        exact ⟨F', loc₂, st', d, (e₁.trans e₂).trans e₃, S', r.mono ⟨Gsub.refl F', List.nil_prefix⟩, q⟩
    · exact q₁.elim
end
end Mine
end

section
open PySem PySem.W PyProof.Rows PySem.Spec PySem.SeqAt PySem.Calls
set_option Elab.async false
set_option maxRecDepth 100000
set_option maxHeartbeats 1000000
set_option autoImplicit false
set_option linter.unusedVariables false
namespace Mine
section
variable {P : PG} {X : Cx} {F : Gm} {loc : List Addr} {st : St} {fr : Frm} {s : Shared} {A : Around} {n : Nat} {G : List Str}

theorem sndEo_no : SndEo P n G .no := by
  intro sc N o he X hX fr st Q hw A F loc s hA S
  cases o with
  | some e => exact no he
  | none => rw [wpEo_r1] at hw; exact wpAny_pure ⟨F, loc, st, .none, Ext.refl F loc, S, .none, hw⟩
theorem sndEo_yes {m : ME} (hm : SndE P n G m) : SndEo P n G (.yes m) := by
  intro sc N o he X hX fr st Q hw A F loc s hA S
  cases o with
  | none => exact no he
  | some e => rw [wpEo_r2] at hw; exact hm sc N e he X hX fr st Q hw A F loc s hA S

theorem snd_slice {a : ME} {lo hi stp : MEo} (ha : SndE P n G a) (hl : SndEo P n G lo) (hh : SndEo P n G hi) (hs : SndEo P n G stp) : SndE P n G (.slice a lo hi stp) := by
  intro sc N e he X hX fr st Q hw A F loc s hA S
  refine i_slice (R := fun e => wpAny (model P.prog P.w) A (eval e X.env) (EP P X F loc fr Q) NoE s) he fun v l u sx p q he => ?_
  · simp only [Bool.and_eq_true] at he
    refine hide fun hn => ?_
    obtain ⟨⟨⟨h1, h2⟩, h3⟩, h4⟩ := he
    refine hn ?_; clear hn
    rw [wpE_r15] at hw
    refine Subscript_ (ep_bind (ha sc N _ h1 X hX fr st _ hw A F loc s hA S) fun F₁ loc₁ st₁ d₁ v₁ s₁ e₁ S₁ r₁ q₁ => ?_)
    refine wpAny_Slice (ep_bind (hl sc N _ h2 X hX fr st₁ _ q₁ A F₁ loc₁ s₁ hA S₁) fun F₂ loc₂ st₂ d₂ v₂ s₂ e₂ S₂ r₂ q₂ => ?_)
    refine ep_bind (hh sc N _ h3 X hX fr st₂ _ q₂ A F₂ loc₂ s₂ hA S₂) fun F₃ loc₃ st₃ d₃ v₃ s₃ e₃ S₃ r₃ q₃ => ?_
    refine ep_bind (hs sc N _ h4 X hX fr st₃ _ q₃ A F₃ loc₃ s₃ hA S₃) fun F₄ loc₄ st₄ d₄ v₄ s₄ e₄ S₄ r₄ q₄ => ?_
    refine hide fun hn => ?_
    obtain ⟨l, r, el, er, hsz, hQ⟩ := q₄
    refine hn ?_; clear hn
    exact ep_weak (slice_snd S₄ (r₁.mono ((e₂.trans e₃).trans e₄)) (r₂.mono (e₃.trans e₄)) (r₃.mono e₄) r₄ el er hsz hQ _ _) (((e₁.trans e₂).trans e₃).trans e₄) fun _ _ q => q

theorem snd_item (hP : P.Ok) {a i : ME} (ha : SndE P n G a) (hi : SndE P n G i) : SndE P n G (.item a i) := by
  intro sc N e he X hX fr st Q hw A F loc s hA S
  refine i_item (R := fun e => wpAny (model P.prog P.w) A (eval e X.env) (EP P X F loc fr Q) NoE s) he fun v sx p he => ?_
  · simp only [Bool.and_eq_true] at he
    rw [wpE_r14] at hw
    refine Subscript_ (ep_bind (ha sc N _ he.1 X hX fr st _ hw A F loc s hA S) fun F₁ loc₁ st₁ d₁ v₁ s₁ e₁ S₁ r₁ q₁ => ?_)
    refine ep_bind (hi sc N _ he.2 X hX fr st₁ _ q₁ A F₁ loc₁ s₁ hA S₁) fun F₂ loc₂ st₂ d₂ v₂ s₂ e₂ S₂ r₂ q₂ => ?_
    exact ep_weak (get_snd hP S₂ (r₁.mono e₂) r₂ q₂ _ _) (e₁.trans e₂) fun d st' q => q.1 ▸ q.2

theorem snd_list {mk : Bool} {l : MEs} (hl : SndEs P n G l) : SndE P n G (.list mk l) := by
  intro sc N e he X hX fr st Q hw A F loc s hA S
  refine i_list (R := fun e => wpAny (model P.prog P.w) A (eval e X.env) (EP P X F loc fr Q) NoE s) he fun es p he => ?_
  · rw [wpE_r16] at hw
    refine List_ (es_bind (hl sc N _ he X hX fr st _ hw A F loc s _ hA S) fun F₁ loc₁ st₁ ds vs s₁ e₁ S₁ rs q => ?_)
    obtain ⟨hsz, q⟩ := q
    exact wpAny_newObj_type ((mkL_snd S₁ rs q ⟨_, rfl⟩ rfl).ext e₁) (by show vs.toArray.size ≤ sizeLine; rw [List.size_toArray, sizeLine_eq, ← rs.length]; exact hsz)
theorem snd_tup {l : MEs} (hl : SndEs P n G l) : SndE P n G (.tup l) := by
  intro sc N e he X hX fr st Q hw A F loc s hA S
  refine i_tup (R := fun e => wpAny (model P.prog P.w) A (eval e X.env) (EP P X F loc fr Q) NoE s) he fun es k p he => ?_
  · rw [wpE_r17] at hw
    refine Tuple_ (es_bind (hl sc N _ he X hX fr st _ hw A F loc s _ hA S) fun F₁ loc₁ st₁ ds vs s₁ e₁ S₁ rs q => ?_)
    obtain ⟨hsz, q⟩ := q
    refine wpAny_newObj_type ?_ (by show vs.toArray.size ≤ sizeLine; rw [List.size_toArray, sizeLine_eq, ← rs.length]; exact hsz)
    obtain ⟨e', S'⟩ := S₁.alloc ({ cls := .type "tuple", data := .seq vs.toArray } : Obj) rfl
    exact ⟨_, _, _, .tup ds, e₁.trans e', S', .tup Gm.put_same ⟨rfl, _, rfl⟩ (rs.mono e'), q⟩
theorem snd_dict0 : SndE P n G .dict0 := by
  intro sc N e he X hX fr st Q hw A F loc s hA S
  refine i_dict0 (R := fun e => wpAny (model P.prog P.w) A (eval e X.env) (EP P X F loc fr Q) NoE s) he fun p => ?_
  · rw [wpE_r18] at hw
    refine wpAny_Dict_empty ?_
    obtain ⟨e', S'⟩ := S.allocM (mo := .dict []) (s' := { s with heap := s.heap.push { cls := .type "dict", data := .dict #[] } }) (a := s.heap.objs.size) (fun b ob q => Heap.get?_push_of_some _ q) rfl rfl
      ⟨[], Heap.DictOf.new s.heap, .nil⟩ (Nat.le_refl _)
    refine ⟨_, _, _, .ref st.length, e', S', .ref ?_, hw⟩
    rw [← S.len]; simp

theorem snd_and3 {a b c : ME} (ha : SndE P n G a) (hb : SndE P n G b) (hc : SndE P n G c) : SndE P n G (.and3 a b c) := by
  intro sc N e he X hX fr st Q hw A F loc s hA S
  refine i_and3 (R := fun e => wpAny (model P.prog P.w) A (eval e X.env) (EP P X F loc fr Q) NoE s) he fun x y z pos he => ?_
  · simp only [Bool.and_eq_true] at he
    obtain ⟨⟨h1, h2⟩, h3⟩ := he
    rw [wpE_r10] at hw
    rw [arm_eval_BoolOp]
    show wpAny _ A (do let v ← eval x X.env; standAt pos; let t ← holding [v] (truthy v); match BoolOp.And, t with
      | .And, false | .Or, true => pure v
      | _, _ => boolOp pos .And [eval y X.env, eval z X.env]) _ _ s
    refine wpAny_bind (ep_bind (ha sc N _ h1 X hX fr st _ hw A F loc s hA S) fun F₁ loc₁ st₁ d₁ v₁ s₁ e₁ S₁ r₁ q₁ => ?_)
    refine wpAny_bind (wpAny_standAt ?_)
    split at q₁
    · cases r₁
      exact wpAny_bind (wpAny_holding (wpAny_truthy_bool (wpAny_pure ⟨F₁, loc₁, st₁, .bool false, e₁, S₁, .bool false, q₁⟩)))
    · cases r₁
      refine wpAny_bind (wpAny_holding (wpAny_truthy_bool ?_))
      show wpAny _ A (do let v ← eval y X.env; standAt pos; let t ← holding [v] (truthy v); match BoolOp.And, t with
        | .And, false | .Or, true => pure v
        | _, _ => boolOp pos .And [eval z X.env]) _ _ s₁
      refine wpAny_bind (ep_bind (hb sc N _ h2 X hX fr st₁ _ q₁ A F₁ loc₁ s₁ hA S₁) fun F₂ loc₂ st₂ d₂ v₂ s₂ e₂ S₂ r₂ q₂ => ?_)
      refine wpAny_bind (wpAny_standAt ?_)
      split at q₂
      · cases r₂
        exact wpAny_bind (wpAny_holding (wpAny_truthy_bool (wpAny_pure ⟨F₂, loc₂, st₂, .bool false, e₁.trans e₂, S₂, .bool false, q₂⟩)))
      · cases r₂
        refine wpAny_bind (wpAny_holding (wpAny_truthy_bool ?_))
        exact ep_weak (hc sc N _ h3 X hX fr st₂ _ q₂ A F₂ loc₂ s₂ hA S₂) (e₁.trans e₂) fun _ _ q => q
      · exact q₂.elim
    · exact q₁.elim

theorem bitLen_eq (x : Int) : ((Builtin.Int.intBits x : Nat) : Int) = bitLen x := by
  unfold Builtin.Int.intBits bitLen
  by_cases h : x = 0
  · simp [h]
  · simp [h]

theorem snd_bitlen {a : ME} (ha : SndE P n G a) : SndE P n G (.bitlen a) := by
  intro sc N e he X hX fr st Q hw A F loc s hA S
  refine i_bitlen (R := fun e => wpAny (model P.prog P.w) A (eval e X.env) (EP P X F loc fr Q) NoE s) he fun v sl p nm apos pos he => ?_
  · simp only [Bool.and_eq_true, beq_iff_eq] at he
    obtain ⟨⟨rfl, h2⟩, h3⟩ := he
    rw [wpE_r13] at hw
    refine Call_method0 rfl (by simpa using h2) (ep_bind (ha sc N _ h3 X hX fr st _ hw A F loc s hA S) fun F₁ loc₁ st₁ d₁ v₁ s₁ e₁ S₁ r₁ q₁ => ?_)
    split at q₁
    · rename_i i
      cases r₁
      refine ⟨"int", "int.bit_length", PySem.F.plainAttrs_int, PySem.F.slot_int_bit_length, PySem.F.type_int_bit_length, typeIs_int _ _ _, nofun, ?_⟩
      refine Calls.callWith_builtin rfl ?_
      refine PyProof.Rows.evalArgs_none ?_
      refine call_int_bit_length ?_
      rw [bitLen_eq]
      exact (int_snd S₁ q₁ _ _).ext e₁
    · exact q₁.elim

theorem bi_name {X : Cx} {sc : Nms} {N : Slots} (hP : P.Ok) (hX : Cxx X sc N) {id : Str} {v : Value} (h : sc.lookup id = some .globalImplicit) (hv : biTable.lookup id = some v) (S : Sim P X F loc st fr s) {M : Model} {E : Value → Shared → Prop} {Q : Value → Shared → Prop} {p : Pos} (hd : (id == ("__debug__" : Str)) = false)
    (hQ : Q v s) : wpAny M A (eval (.Name id p) X.env) Q E s := by
  have hkind : X.env.kindOf id = some .globalImplicit := by unfold Env.kindOf; rw [hX.names]; exact h
  obtain ⟨h1, h2⟩ := hP.hbi id v hv
  exact Name_function_global hX.ok.kind hkind (loadGlobal_builtin (mg := P.mg) (mb := P.mb) (by rw [hX.ok.glob]; exact hP.hg.keeps S.h0) h1 (by rw [hX.ok.blt]; exact hP.hb.keeps S.h0) h2 hQ) hd

noncomputable def Bi.val : Bi → Value
  | .len => .builtin "len" | .sum => .builtin "sum" | .min => .builtin "min" | .abs => .builtin "abs" | .int => .type "int"
theorem bi_look (b : Bi) : biTable.lookup b.name = some b.val := by cases b <;> decide
theorem bi_deb (b : Bi) : (b.name == ("__debug__" : Str)) = false := by cases b <;> decide

theorem vreps1 {fa : Nat → Addr} {d : Dv} {vs : List Value} (h : VReps fa F loc [d] vs) : ∃ v, vs = [v] ∧ VRep fa F loc d v := by
  cases h with
  | cons r rs => cases rs with
    | nil => exact ⟨_, rfl, r⟩
theorem vreps2 {fa : Nat → Addr} {d d' : Dv} {vs : List Value} (h : VReps fa F loc [d, d'] vs) : ∃ v v', vs = [v, v'] ∧ VRep fa F loc d v ∧ VRep fa F loc d' v' := by
  cases h with
  | cons r rs =>
    obtain ⟨v', rfl, r'⟩ := vreps1 rs
    exact ⟨_, v', rfl, r, r'⟩

theorem bi_call (hA : AOk n A) (S : Sim P X F loc st fr s) {b : Bi} {ds : List Dv} {vs : List Value} (rs : VReps P.fa F loc ds vs) {Q : Dv → St → Prop} (h : biOk b st ds fun d => Q d st) :
    wpAny (model P.prog P.w) A (call b.val vs) (EP P X F loc fr Q) NoE s := by
  cases b with
  | len =>
    rcases ds with _ | ⟨d, _ | ⟨d2, ds⟩⟩
    · exact h.elim
    · refine hide fun hn => ?_
      obtain ⟨l, e, hb, q⟩ := h
      obtain ⟨v, rfl, r⟩ := vreps1 rs
      obtain ⟨a, o, us, rfl, ho, hl, hr⟩ := its_real S.toHSim r e
      refine hn ?_; clear hn
      unfold big at hb
      refine len_list (lst_isList ho hl) (by rw [List.size_toArray, ← hr.length]; omega) ?_
      rw [List.size_toArray, ← hr.length]
      exact int_snd S q _ _
    · exact h.elim
  | sum =>
    rcases ds with _ | ⟨d, _ | ⟨d2, ds⟩⟩
    · exact h.elim
    · refine hide fun hn => ?_
      obtain ⟨xs, e, h1, h2, q⟩ := h
      obtain ⟨v, rfl, r⟩ := vreps1 rs
      obtain ⟨a, o, us, rfl, ho, hl, hr⟩ := its_real S.toHSim r e
      refine hn ?_; clear hn
      exact sum_snd hA S (lst_isList ho hl) (iL_vals hr) h1 h2 fun t s' S' => ⟨F, loc, st, .int xs.sum, Ext.refl F loc, S', .int _ t, q⟩
    · exact h.elim
  | min =>
    rcases ds with _ | ⟨d, _ | ⟨d2, _ | ⟨d3, ds⟩⟩⟩
    · exact h.elim
    · cases d <;> exact h.elim
    · cases d with
      | int a =>
        cases d2 with
        | int b =>
          refine hide fun hn => ?_
          obtain ⟨v, v', rfl, r, r'⟩ := vreps2 rs
          obtain ⟨t, rfl⟩ := v_int r
          obtain ⟨u, rfl⟩ := v_int r'
          refine hn ?_; clear hn
          have h : Q (.int (if b < a then b else a)) st := h
          refine min_two_ints hA.1 fun h' tk hk => ?_
          have S' := S.keeps (s' := { s with heap := h', toks := tk }) hk rfl rfl
          split <;> rename_i hc
          · rw [if_pos hc] at h; exact ⟨F, loc, st, _, Ext.refl F loc, S', .int _ _, h⟩
          · rw [if_neg hc] at h; exact ⟨F, loc, st, _, Ext.refl F loc, S', .int _ _, h⟩
        | _ => exact h.elim
      | _ => exact h.elim
    · cases d <;> first | exact h.elim | (cases d2 <;> exact h.elim)
  | abs =>
    rcases ds with _ | ⟨d, _ | ⟨d2, ds⟩⟩
    · exact h.elim
    · cases d with
      | int i =>
        refine hide fun hn => ?_
        obtain ⟨v, rfl, r⟩ := vreps1 rs
        obtain ⟨t, rfl⟩ := v_int r
        refine hn ?_; clear hn
        refine call_abs_int fun u tk => ⟨F, loc, st, .int i.natAbs, Ext.refl F loc, S.toks tk, ?_, h⟩
        have : (if i < 0 then -i else i) = (i.natAbs : Int) := i_absif
        rw [this]; exact .int _ _
      | _ => exact h.elim
    · cases d <;> exact h.elim
  | int =>
    rcases ds with _ | ⟨d, _ | ⟨d2, ds⟩⟩
    · exact h.elim
    · cases d with
      | int i =>
        refine hide fun hn => ?_
        obtain ⟨v, rfl, r⟩ := vreps1 rs
        obtain ⟨t, rfl⟩ := v_int r
        refine hn ?_; clear hn
        exact call_int_int ⟨F, loc, st, _, Ext.refl F loc, S, .int _ _, h⟩
      | bool c =>
        obtain ⟨v, rfl, r⟩ := vreps1 rs
        obtain rfl := v_bool r
        exact call_int_bool (int_snd S h _ _)
      | _ => exact h.elim
    · cases d <;> exact h.elim

theorem snd_bi (hP : P.Ok) {b : Bi} {args : MEs} (ha : SndEs P n G args) : SndE P n G (.bi b args) := by
  intro sc N e he X hX fr st Q hw A F loc s hA S
  refine i_bi (R := fun e => wpAny (model P.prog P.w) A (eval e X.env) (EP P X F loc fr Q) NoE s) he fun id p as pos he => ?_
  · simp only [Bool.and_eq_true, decide_eq_true_eq, beq_iff_eq] at he
    refine hide fun hn => ?_
    obtain ⟨⟨⟨rfl, h2⟩, h3⟩, h4⟩ := he
    refine hn ?_; clear hn
    rw [wpE_r12] at hw
    refine Call_ (bi_name hP hX h2 (bi_look b) S (bi_deb b) ?_) (by rfl)
    cases as with
    | nil => simp at h4
    | cons e₀ rest =>
      have hst : starEach (e₀ :: rest) X.env = (false, eval e₀ X.env) :: starEach rest X.env ∧ ∀ pos, (backTo pos (starEach rest X.env)).any (·.1) = false := by
        cases args with
        | nil => exact no h3
        | cons m r =>
          have h3 := sp h3
          exact ⟨(enc_noSet h3.1 .In X.env).2.2 _, fun pos => encEs_plain X.env pos h3.2⟩
      have fin : wpAny (model P.prog P.w) A (spliced (backTo pos (starEach (e₀ :: rest) X.env))) (fun vs s₁ => wpAny (model P.prog P.w) A (call b.val vs) (EP P X F loc fr Q) NoE s₁) NoE s :=
        es_bind (ha sc N _ h3 X hX fr st _ hw A F loc s pos hA S) fun F₁ loc₁ st₁ ds vs s₁ e₁ S₁ rs q => ep_weak (bi_call hA S₁ rs q) e₁ fun _ _ q => q
      cases b with
      | int => exact callWith_type1 fin hst.1 (hst.2 _)
      | len => exact PyProof.Rows.callWith_builtin1 fin hst.1 (hst.2 _)
      | sum => exact PyProof.Rows.callWith_builtin1 fin hst.1 (hst.2 _)
      | min => exact PyProof.Rows.callWith_builtin1 fin hst.1 (hst.2 _)
      | abs => exact PyProof.Rows.callWith_builtin1 fin hst.1 (hst.2 _)
end
end Mine
end

section
open PySem PySem.W PyProof.Rows PySem.Spec PySem.SeqAt PySem.Calls
set_option Elab.async false
set_option maxRecDepth 100000
set_option maxHeartbeats 1000000
set_option autoImplicit false
set_option linter.unusedVariables false
namespace Mine

/-- a loop's value as it stands ahead of the targets -/
noncomputable def TV (fa : Nat → Addr) (F : Gm) (loc : List Addr) (tg : Tg) (h : Heap) (d : Dv) (v : Value) : Prop :=
  match tg with
  | .one _ => VRep fa F loc d v
  | .two _ _ => ∀ d1 d2, d = .tup [d1, d2] → ∃ T v1 v2, v = .ref T ∧ h.IsTuple T #[v1, v2] ∧ VRep fa F loc d1 v1 ∧ VRep fa F loc d2 v2

/-- an iterator that walks over items -/
structure Itr (P : PG) (A : Around) (target : Expr) (tg : Tg) (F : Gm) (loc : List Addr) (items : List Dv) (I : Addr) (fp wr : List Addr) (top : Addr) (Stt : Nat → Heap → Prop) : Prop where
  turns : ∃ Pk Md, KTurns P.prog P.w A target I fp wr items.length Pk Md Stt ∧
    ∀ i v h, i < items.length → Pk i v h → (∀ a o, F a = some o → h.get? a = some o) → ∃ d, items[i]? = some d ∧ TV P.fa F loc tg h d v
  self : ∀ i (s : Shared) (Q : Value → Shared → Prop) (E : Value → Shared → Prop), Stt i s.heap → Q (.ref I) s → wpAny (model P.prog P.w) A (pyIter (.ref I)) Q E s
  top : top ∈ wr ∧ top ∈ fp ∧ ∀ b ∈ wr, b ≤ top
  ex : ∀ i (h : Heap), Stt i h → ∀ b ∈ fp, ∃ o, h.get? b = some o

/-- the iterator's objects lie apart from what the frame holds -/
structure Apart (P : PG) (X : Cx) (F : Gm) (loc : List Addr) (st : St) (s : Shared) (fp wr : List Addr) : Prop where
  ex : ∀ b ∈ fp, ∃ o, s.heap.get? b = some o
  fpL : X.env.locals ∉ fp
  fpC : ∀ nm c, X.env.cells.lookup nm = some c → c ∉ fp
  live : ∀ (k : Nat) (a : Addr) (mo : Mo), loc[k]? = some a → st[k]? = some (some mo) → a ∉ fp
  free : ∀ b ∈ wr, ¬ X.held P F loc b

noncomputable def Cx.loop (X : Cx) (F : Gm) (loc : List Addr) (fp : List Addr) (h : Heap) (top : Addr) : Cx :=
  { X with base := (fun a => match X.base a with | some o => some o | none => if a ∈ fp then h.get? a else none), old := (fun a => F a ≠ none ∨ a ∈ loc), lim := top + 1, wit := top }

section
variable {P : PG} {X : Cx} {F : Gm} {loc : List Addr} {st : St} {fr : Frm} {s : Shared} {A : Around} {n : Nat} {G : List Str}

theorem Cx.loop_ok (hX : X.Ok) (fp : List Addr) (h : Heap) (top : Addr) : (X.loop F loc fp h top).Ok := ⟨hX.kind, hX.glob, hX.blt, hX.inj, hX.nodeb, hX.own⟩
theorem Cxx.loop {sc : Nms} {N : Slots} (hX : Cxx X sc N) (fp : List Addr) (h : Heap) (top : Addr) : Cxx (X.loop F loc fp h top) sc N := ⟨Cx.loop_ok hX.ok fp h top, hX.names, hX.slots, hX.cells⟩

theorem loop_base_some {a : Addr} {o : Obj} {fp : List Addr} {h : Heap} {top : Addr} (e : X.base a = some o) : (X.loop F loc fp h top).base a = some o := by
  show (match X.base a with | some o => some o | none => _) = _
  rw [e]
theorem loop_base_fp {a : Addr} {fp : List Addr} {h : Heap} {top : Addr} (e : X.base a = none) (ha : a ∈ fp) : (X.loop F loc fp h top).base a = h.get? a := by
  show (match X.base a with | some o => some o | none => if a ∈ fp then h.get? a else none) = _
  rw [e]; exact if_pos ha
theorem loop_base_none {a : Addr} {fp : List Addr} {h : Heap} {top : Addr} (e : X.base a = none) (ha : a ∉ fp) : (X.loop F loc fp h top).base a = none := by
  show (match X.base a with | some o => some o | none => if a ∈ fp then h.get? a else none) = _
  rw [e]; exact if_neg ha

/-- into a turn -/
theorem Sim.enter (S : Sim P X F loc st fr s) {fp wr : List Addr} {top : Addr} (Z : Apart P X F loc st s fp wr) (ht : top ∈ fp) (hw : top ∈ wr) (hlim : X.lim ≤ top + 1) : Sim P (X.loop F loc fp s.heap top) F loc st fr s where
  toHSim := S.toHSim
  frm := S.frm
  lF := S.lF
  lLoc := S.lLoc
  lB := loop_base_none S.lB Z.fpL
  l0 := S.l0
  oF := fun nm hnm c hc => let ⟨h1, h2, h3, h4⟩ := S.oF nm hnm c hc; ⟨h1, h2, loop_base_none h3 (Z.fpC nm c hc), h4⟩
  oInj := S.oInj
  base := fun a o e => by
    cases q : X.base a with
    | some o' => rw [loop_base_some q] at e; cases e; exact S.base a _ q
    | none =>
      by_cases ha : a ∈ fp
      · rw [loop_base_fp q ha] at e; exact e
      · rw [loop_base_none q ha] at e; cases e
  baseLoc := fun k a mo e1 e2 => loop_base_none (S.baseLoc k a mo e1 e2) (Z.live k a mo e1 e2)
  newF := fun a h => .inl (.inl h)
  newLoc := fun a h => .inl (.inr h)
  limW := Nat.le_refl _
  witE := by
    right
    show (X.loop F loc fp s.heap top).base top ≠ none
    have hb : X.base top = none := by
      cases q : X.base top with
      | none => rfl
      | some o => exact absurd (by right; right; right; left; rw [q]; exact nofun) (Z.free top hw)
    obtain ⟨o, e⟩ := Z.ex top ht
    rw [loop_base_fp hb ht, e]; exact nofun
  limH := Nat.le_trans S.limH hlim

/-- out of a turn -/
theorem Sim.leave (S : Sim P X F loc st fr s) {fp wr : List Addr} {top : Addr} (Z : Apart P X F loc st s fp wr) (htop : ∀ b ∈ wr, b ≤ top) (hlim : X.lim ≤ top + 1) {F' : Gm} {loc' : List Addr} {st' : St} {fr' : Frm} {s' : Shared}
    (S' : Sim P (X.loop F loc fp s.heap top) F' loc' st' fr' s') : Sim P X F' loc' st' fr' s' ∧ Apart P X F' loc' st' s' fp wr ∧ ∀ b ∈ fp, ∀ o, s.heap.get? b = some o → s'.heap.get? b = some o := by
  have kept : ∀ b ∈ fp, ∀ o, s.heap.get? b = some o → s'.heap.get? b = some o := fun b hb o e => by
    cases q : X.base b with
    | some o' =>
      have h1 := S.base b o' q
      rw [e] at h1; cases h1
      exact S'.base b _ (loop_base_some q)
    | none => exact S'.base b o (by rw [loop_base_fp q hb]; exact e)
  have bnone : ∀ a, (X.loop F loc fp s.heap top).base a = none → X.base a = none := fun a e => by
    cases q : X.base a with
    | none => rfl
    | some o => rw [loop_base_some q] at e; cases e
  refine ⟨⟨S'.toHSim, S'.frm, S'.lF, S'.lLoc, S.lB, S'.l0, fun nm hnm c hc => ?_, S'.oInj, fun a o e => S'.base a o (loop_base_some e), fun k a mo e1 e2 => bnone a (S'.baseLoc k a mo e1 e2), fun a h => ?_, fun a h => ?_, S.limW, S.witE, S.limH⟩,
    ⟨fun b hb => ?_, Z.fpL, Z.fpC, fun k a mo e1 e2 ha => ?_, fun b hb hh => ?_⟩, kept⟩
  · obtain ⟨h1, h2, h3, h4⟩ := S'.oF nm hnm c hc
    exact ⟨h1, h2, bnone c h3, h4⟩
  · rcases S'.newF a h with (q | q) | q
    · exact S.newF a q
    · exact S.newLoc a q
    · exact .inr (Nat.le_trans hlim q)
  · rcases S'.newLoc a h with (q | q) | q
    · exact S.newF a q
    · exact S.newLoc a q
    · exact .inr (Nat.le_trans hlim q)
  · obtain ⟨o, e⟩ := Z.ex b hb; exact ⟨o, kept b hb o e⟩
  · have h1 := S'.baseLoc k a mo e1 e2
    obtain ⟨o, e⟩ := Z.ex a ha
    rw [loop_base_fp (bnone a h1) ha, e] at h1; cases h1
  · have hfree := Z.free b hb
    have hlt : ¬ top + 1 ≤ b := Nat.not_le.mpr (Nat.lt_succ_of_le (htop b hb))
    rcases hh with q | q | q | q | q | q
    · rcases S'.newF b q with (q | q) | q
      · exact hfree (.inl q)
      · exact hfree (.inr (.inl q))
      · exact hlt q
    · rcases S'.newLoc b q with (q | q) | q
      · exact hfree (.inl q)
      · exact hfree (.inr (.inl q))
      · exact hlt q
    · exact hfree (by right; right; left; exact q)
    · exact hfree (by right; right; right; left; exact q)
    · exact hfree (by right; right; right; right; left; exact q)
    · exact hfree (by right; right; right; right; right; exact q)

theorem Apart.step {fp wr : List Addr} (Z : Apart P X F loc st s fp wr) {s' : Shared} (hex : ∀ b ∈ fp, ∃ o, s'.heap.get? b = some o) : Apart P X F loc st s' fp wr := ⟨hex, Z.fpL, Z.fpC, Z.live, Z.free⟩

/-- the targets stored -/
theorem assign_snd (hA : AOk n A) (S : Sim P X F loc st fr s) (hX : X.Ok) {tg : Tg} {target : Expr} {tn : List (Nat × Str)} (ht : tgNames tg target = some tn) (hs : ∀ p ∈ tn, X.N[p.1]? = some (some p.2))
    (hw : ∀ p ∈ tn, X.env.kindOf p.2 = some .cell → p.2 ∈ X.own) (hcell : ∀ nm, X.env.kindOf nm = some .cell → ∃ c, X.env.cells.lookup nm = some c)
    {d : Dv} {v : Value} (r : TV P.fa F loc tg s.heap d v) {K : Frm → Prop} (h : setTg tg d fr K) : wpAny (model P.prog P.w) A (assign target X.env v) (fun _ s' => ∃ fr', Sim P X F loc st fr' s' ∧ K fr') NoE s := by
  cases tg with
  | one x =>
    obtain ⟨id, p, rfl, rfl⟩ := i_tg1' ht
    exact wpAny_assign_Name (S.store hX (hs (x, id) (.head _)) (hw (x, id) (.head _)) (hcell id) r fun s' S' => ⟨_, S', h⟩)
  | two x y =>
    obtain ⟨a, pa, b, pb, k, p, hxy, rfl, rfl⟩ := i_tg2' ht
    · skip
      unfold setTg at h
      cases d with
      | tup l =>
        cases l with
        | nil => exact h.elim
        | cons d1 l => cases l with
          | nil => exact h.elim
          | cons d2 l => cases l with
            | cons _ _ => exact h.elim
            | nil =>
              refine hide fun hn => ?_
              obtain ⟨T, v1, v2, rfl, hT, r1, r2⟩ := r d1 d2 rfl
              refine hn ?_; clear hn
              refine wpAny_assign_Tuple hA.1 hT rfl rfl fun h' he => ?_
              have S1 : Sim P X F loc st fr { s with heap := h' } := S.keeps (fun a o e => he a o (Nat.ne_of_lt (Heap.lt_size e)) e) rfl rfl
              show wpAny _ A (assignInOrder [assign (.Name a pa) X.env, assign (.Name b pb) X.env] [v1, v2]) _ _ _
              refine assignInOrder_cons (wpAny_assign_Name (S1.store hX (hs (x, a) (.head _)) (hw (x, a) (.head _)) (hcell a) r1 fun s2 S2 => ?_))
              refine assignInOrder_cons (wpAny_assign_Name (S2.store hX (hs (y, b) (.tail _ (.head _))) (hw (y, b) (.tail _ (.head _))) (hcell b) r2 fun s3 S3 => ?_))
              exact assignInOrder_nil ⟨_, S3, h⟩
      | none => exact h.elim
      | bool => exact h.elim
      | int => exact h.elim
      | list => exact h.elim
      | ref => exact h.elim
      | fn => exact h.elim
end
end Mine
end

section
open PySem PySem.W PyProof.Rows PySem.Spec PySem.SeqAt PySem.Calls
set_option Elab.async false
set_option maxRecDepth 100000
set_option maxHeartbeats 1000000
set_option autoImplicit false
set_option linter.unusedVariables false
namespace Mine

/-- where a loop starts: the items, what is walked over (an outer mutable, or none) -/
structure Src (P : PG) (X : Cx) (A : Around) (target : Expr) (tg : Tg) (F : Gm) (loc : List Addr) (st : St) (s : Shared) (l : List Dv) (g : Option (Nat × List Dv)) (I : Addr) (fp wr : List Addr) (top : Addr) (Stt : Nat → Heap → Prop) : Prop where
  itr : Itr P A target tg F loc l I fp wr top Stt
  st0 : Stt 0 s.heap
  apart : Apart P X F loc st s fp wr
  lim : X.lim ≤ top + 1
  gone : ∀ k l', g = some (k, l') → ∃ ax o vs, loc[k]? = some ax ∧ ax ∈ fp ∧ ax ∉ wr ∧ X.base ax = none ∧ s.heap.get? ax = some o ∧ IsL o vs ∧ VReps P.fa F [] l' vs

noncomputable def IterAt (P : PG) (X : Cx) (F : Gm) (loc : List Addr) (fr : Frm) (Q : List Dv → Option (Nat × List Dv) → St → Prop) (A : Around) (target : Expr) (tg : Tg) (it : Value) (s₂ : Shared) : Prop :=
  ∃ F' loc' st' l g I fp wr top Stt, it = .ref I ∧ Ext F loc F' loc' ∧ Sim P X F' loc' st' fr s₂ ∧ Src P X A target tg F' loc' st' s₂ l g I fp wr top Stt ∧ Q l g st'

section
variable {P : PG} {X : Cx} {F : Gm} {loc : List Addr} {st : St} {fr : Frm} {s : Shared} {A : Around} {n : Nat} {G : List Str}

theorem IterAt.ext {Q : List Dv → Option (Nat × List Dv) → St → Prop} {target : Expr} {tg : Tg} {it : Value} {s₂ : Shared} {F₁ : Gm} {loc₁ : List Addr} (e : Ext F loc F₁ loc₁) (h : IterAt P X F₁ loc₁ fr Q A target tg it s₂) : IterAt P X F loc fr Q A target tg it s₂ := by
  refine hide fun hn => ?_
  obtain ⟨F', loc', st', l, g, I, fp, wr, top, Stt, h1, h2, h3⟩ := h
  refine hn ?_; clear hn
  exact ⟨F', loc', st', l, g, I, fp, wr, top, Stt, h1, e.trans h2, h3⟩

/-- a mutable entry forgotten for the time of a loop -/
theorem Sim.drop (S : Sim P X F loc st fr s) (k : Nat) : Sim P X F loc (st.set k none) fr s := by
  have h : ∀ {i : Nat} {mo : Mo}, (st.set k none)[i]? = some (some mo) → st[i]? = some (some mo) := fun {i mo} e => by
    by_cases hk : k = i
    · subst hk
      rcases Nat.lt_or_ge k st.length with h | h
      · rw [List.getElem?_set_self h] at e; cases e
      · rw [List.getElem?_eq_none (by rw [List.length_set]; exact h)] at e; cases e
    · rw [List.getElem?_set_ne hk] at e; exact e
  exact ⟨⟨S.keepF, by rw [List.length_set]; exact S.len, fun i a mo e1 e2 => S.mrep i a mo e1 (h e2), S.nodup, S.ex, S.apart, S.low, S.h0, S.gens, S.os⟩, S.frm, S.lF, S.lLoc, S.lB, S.l0, S.oF, S.oInj, S.base, fun i a mo e1 e2 => S.baseLoc i a mo e1 (h e2), S.newF, S.newLoc, S.limW, S.witE, S.limH⟩
/-- and put back -/
theorem Sim.undrop (S : Sim P X F loc st fr s) {k : Nat} {ax : Addr} {l : List Dv} {vs : List Value} {o : Obj} (hk : loc[k]? = some ax) (hb : X.base ax = none) (ho : s.heap.get? ax = some o) (hl : IsL o vs) (r : VReps P.fa F [] l vs) : Sim P X F loc (st.set k (some (.list l))) fr s := by
  have h : ∀ {i : Nat} {mo : Mo}, (st.set k (some (.list l)))[i]? = some (some mo) → (i = k ∧ mo = .list l) ∨ st[i]? = some (some mo) := fun {i mo} e => by
    by_cases hk : k = i
    · subst hk
      rcases Nat.lt_or_ge k st.length with h | h
      · rw [List.getElem?_set_self h] at e; cases e; exact .inl ⟨rfl, rfl⟩
      · rw [List.getElem?_eq_none (by rw [List.length_set]; exact h)] at e; cases e
    · rw [List.getElem?_set_ne hk] at e; exact .inr e
  refine ⟨⟨S.keepF, by rw [List.length_set]; exact S.len, fun i a mo e1 e2 => ?_, S.nodup, S.ex, S.apart, S.low, S.h0, S.gens, S.os⟩, S.frm, S.lF, S.lLoc, S.lB, S.l0, S.oF, S.oInj, S.base, fun i a mo e1 e2 => ?_, S.newF, S.newLoc, S.limW, S.witE, S.limH⟩
  · rcases h e2 with ⟨rfl, rfl⟩ | q
    · rw [hk] at e1; cases e1; exact ⟨o, vs, ho, hl, r⟩
    · exact S.mrep i a mo e1 q
  · rcases h e2 with ⟨rfl, rfl⟩ | q
    · rw [hk] at e1; cases e1; exact hb
    · exact S.baseLoc i a mo e1 q

theorem cell_ne_list (S : Sim P X F loc st fr s) {nm : Str} {c a : Addr} {o : Obj} {vs : List Value} (hc : X.env.cells.lookup nm = some c) (ho : s.heap.get? a = some o) (hl : IsL o vs) : c ≠ a := fun q => by
  refine hide fun hn => ?_
  obtain ⟨m, cm, _, h2, _⟩ := S.frm
  obtain ⟨o', ho', hd⟩ := h2 nm c hc
  refine hn ?_; clear hn
  have h : s.heap.get? c = some o' := ho'
  rw [q, ho] at h
  obtain ⟨k, rfl⟩ := hl
  cases h; cases hd
theorem locals_ne_list (S : Sim P X F loc st fr s) {a : Addr} {o : Obj} {vs : List Value} (ho : s.heap.get? a = some o) (hl : IsL o vs) : X.env.locals ≠ a := fun q => by
  refine hide fun hn => ?_
  obtain ⟨m, cm, ⟨o', es, ep, ho', hd, _⟩, _⟩ := S.frm
  refine hn ?_; clear hn
  rw [q, ho] at ho'
  obtain ⟨k, rfl⟩ := hl
  cases ho'; cases hd

theorem tv_of_reps {tg : Tg} {h : Heap} {d : Dv} {v : Value} (r : VRep P.fa F loc d v) (hk : ∀ a o, F a = some o → h.get? a = some o) : TV P.fa F loc tg h d v := by
  cases tg with
  | one x => exact r
  | two x y =>
    intro d1 d2 e
    subst e
    cases r with
    | tup e hl rs =>
      refine hide fun hn => ?_
      obtain ⟨v1, v2, rfl, r1, r2⟩ := vreps2 rs
      refine hn ?_; clear hn
      exact ⟨_, v1, v2, rfl, ⟨_, hk _ _ e, hl.1, hl.2⟩, r1, r2⟩

/-- the iterators over a list -/
theorem itr_list (hA : AOk n A) {I ax : Addr} (hne : ax ≠ I) {l : List Dv} {vs : List Value} (rs : VReps P.fa F loc l vs) (target : Expr) (tg : Tg) :
    Itr P A target tg F loc l I [I, ax] [I] I (fun i h => h.IsListIter I ax i ∧ h.IsList ax vs.toArray) where
  turns := by
    have hn : l.length = vs.toArray.size := by rw [List.size_toArray]; exact rs.length
    rw [hn]
    refine ⟨_, _, KTurns.ofWalks (Walks.list hA.1 I ax hne vs.toArray) (fun i v s Q E hst hQ => letGo_listiter hst.1 hQ), fun i v h hi hp hk => ?_⟩
    have hv : vs[i]? = some v := by simpa using hp
    have hi' : i < l.length := by rw [hn]; exact hi
    obtain ⟨v', hv', r⟩ := rs.get (List.getElem?_eq_getElem hi')
    rw [hv] at hv'; cases hv'
    exact ⟨_, List.getElem?_eq_getElem hi', tv_of_reps r hk⟩
  self := fun i s Q E hst hQ => wpAny_pyIter_listiter hst.1 hQ
  top := ⟨by simp, by simp, fun b hb => by rw [List.mem_singleton.mp hb]; exact Nat.le_refl _⟩
  ex := fun i h hst b hb => by
    rcases List.mem_cons.mp hb with rfl | hb
    · obtain ⟨o, e, _⟩ := hst.1; exact ⟨o, e⟩
    · rw [List.mem_singleton.mp hb]; obtain ⟨o, e, _⟩ := hst.2; exact ⟨o, e⟩

/-- a fresh address is held by nothing -/
theorem Sim.fresh (S : Sim P X F loc st fr s) {a : Addr} (h : s.heap.objs.size ≤ a) : ¬ X.held P F loc a := fun q => Nat.lt_irrefl _ (Nat.lt_of_lt_of_le (S.held_lt q) h)

theorem iter_list (hA : AOk n A) (S : Sim P X F loc st fr s) {a : Addr} {o : Obj} {vs : List Value} {l : List Dv} (ho : s.heap.get? a = some o) (hl : IsL o vs) (rs : VReps P.fa F loc l vs) {g : Option (Nat × List Dv)} (target : Expr) (tg : Tg)
    (hlive : ∀ (k : Nat) (mo : Mo), loc[k]? = some a → st[k]? ≠ some (some mo))
    (hg : ∀ k l', g = some (k, l') → loc[k]? = some a ∧ X.base a = none ∧ VReps P.fa F [] l' vs) {Q : List Dv → Option (Nat × List Dv) → St → Prop} (hQ : Q l g st) :
    wpAny (model P.prog P.w) A (pyIter (.ref a)) (fun it s₂ => IterAt P X F loc fr Q A target tg it s₂) NoE s := by
  have hlt : a < s.heap.objs.size := Heap.lt_size ho
  have hne : a ≠ s.heap.objs.size := Nat.ne_of_lt hlt
  refine wpAny_pyIter_list (lst_isList ho hl) ?_
  have S' := S.push { cls := .type "list_iterator", data := .fields #[.ref a, .int 0 0] }
  have ho' := Heap.get?_push_of_some { cls := .type "list_iterator", data := .fields #[.ref a, .int 0 0] } ho
  have hI : (s.heap.push { cls := .type "list_iterator", data := .fields #[.ref a, .int 0 0] }).get? s.heap.objs.size = some { cls := .type "list_iterator", data := .fields #[.ref a, .int 0 0] } := Heap.get?_push_size _ rfl
  have nf := S.fresh (a := s.heap.objs.size) (Nat.le_refl _)
  refine ⟨F, loc, st, l, g, s.heap.objs.size, [s.heap.objs.size, a], [s.heap.objs.size], s.heap.objs.size, _, rfl, Ext.refl F loc, S', ⟨itr_list hA hne rs target tg, ⟨⟨_, hI, rfl, rfl⟩, lst_isList ho' hl⟩, ⟨fun b hb => ?_, fun hb => ?_, fun nm c hc hb => ?_, fun k b mo e1 e2 hb => ?_, fun b hb => ?_⟩, Nat.le_succ_of_le S.lim_le, fun k l' e => ?_⟩, hQ⟩
  · rcases List.mem_cons.mp hb with rfl | hb
    · exact ⟨_, hI⟩
    · rw [List.mem_singleton.mp hb]; exact ⟨_, ho'⟩
  · rcases List.mem_cons.mp hb with e | hb
    · exact nf (by right; right; right; right; left; exact e.symm)
    · exact locals_ne_list S ho hl (List.mem_singleton.mp hb)
  · rcases List.mem_cons.mp hb with e | hb
    · exact nf (by right; right; right; right; right; exact ⟨nm, e ▸ hc⟩)
    · exact cell_ne_list S hc ho hl (List.mem_singleton.mp hb)
  · rcases List.mem_cons.mp hb with e | hb
    · exact nf (.inr (.inl (e ▸ mem_of_get e1)))
    · rw [List.mem_singleton.mp hb] at e1; exact hlive k mo e1 e2
  · rw [List.mem_singleton.mp hb]; exact nf
  · obtain ⟨h1, h2, h3⟩ := hg k l' e
    exact ⟨a, o, vs, h1, by simp, by simpa using hne, h2, ho', hl, h3⟩

/-- the same over an immutable list -/
theorem F_live (S : Sim P X F loc st fr s) {a : Addr} {o : Obj} (e : F a = some o) : ∀ (k : Nat) (mo : Mo), loc[k]? = some a → st[k]? ≠ some (some mo) := fun k mo e1 _ => by
  have := S.apart a (mem_of_get e1)
  rw [e] at this; cases this

theorem letGo_rangeiter {prog : Program} {w : World} {E : Value → Shared → Prop} {target : Expr} {I : Addr} {x y z : Int} {v : Value} {Q' : Unit → Shared → Prop} {s' : Shared} (hit : IsRangeIter s'.heap I x y z) (h : Q' () s') :
    wpAny (model prog w) A (letOwnedTupleGo target (.ref I) v) Q' E s' := by
  have hit' : s'.heap.get? I = some _ := hit
  unfold letOwnedTupleGo
  cases target <;> first
    | exact wpAny_pure h
    | (cases v <;> first
        | exact wpAny_pure h
        | exact wpAny_bind (wpAny_load hit' (wpAny_pure h)))

theorem itr_range (hA : AOk n A) (I : Addr) (a c : Int) (m : Nat) (target : Expr) (tg : Tg) :
    Itr P A target tg F loc ((List.range m).map fun i : Nat => .int (a + (i : Int) * c)) I [I] [I] I (fun i h => IsRangeIter h I (a + (i : Nat) * c) ((m : Int) - (i : Nat)) c) where
  turns := by
    rw [List.length_map, List.length_range]
    refine ⟨_, _, KTurns.ofWalks (Walks.range hA.1 I a c m) (fun i v s Q E hst hQ => letGo_rangeiter hst hQ), fun i v h hi hp hk => ?_⟩
    obtain ⟨t, rfl⟩ := hp
    refine ⟨.int (a + (i : Int) * c), by simp [hi], ?_⟩
    cases tg with
    | one x => exact .int _ _
    | two x y => intro d1 d2 e; cases e
  self := fun i s Q E hst hQ => wpAny_pyIter_rangeiter hst hQ
  top := ⟨by simp, by simp, fun b hb => by rw [List.mem_singleton.mp hb]; exact Nat.le_refl _⟩
  ex := fun i h hst b hb => by
    rw [List.mem_singleton.mp hb]; exact ⟨_, hst⟩

theorem iter_range (hA : AOk n A) (S : Sim P X F loc st fr s) {r : Addr} {a b c : Int} {t u v : Tok} {m : Nat} (hr : IsRange s.heap r a b c t u v) (hsm : Builtin.Range.small a b c = true) (hm : Builtin.Range.rangeSize a b c = (m : Int)) (target : Expr) (tg : Tg)
    {Q : List Dv → Option (Nat × List Dv) → St → Prop} (hQ : Q ((List.range m).map fun i : Nat => .int (a + (i : Int) * c)) none st) :
    wpAny (model P.prog P.w) A (pyIter (.ref r)) (fun it s₂ => IterAt P X F loc fr Q A target tg it s₂) NoE s := by
  refine wpAny_pyIter_range hr hsm ?_
  rw [hm]
  have S' := S.push { cls := .type "range_iterator", data := .fields #[rawInt a, rawInt (m : Int), rawInt c] }
  have hI : (s.heap.push { cls := .type "range_iterator", data := .fields #[rawInt a, rawInt (m : Int), rawInt c] }).get? s.heap.objs.size = some { cls := .type "range_iterator", data := .fields #[rawInt a, rawInt (m : Int), rawInt c] } := Heap.get?_push_size _ rfl
  have nf := S.fresh (a := s.heap.objs.size) (Nat.le_refl _)
  refine ⟨F, loc, st, _, none, s.heap.objs.size, [s.heap.objs.size], [s.heap.objs.size], s.heap.objs.size, _, rfl, Ext.refl F loc, S', ⟨itr_range hA _ a c m target tg, ?_, ⟨fun b hb => ?_, fun hb => ?_, fun nm c hc hb => ?_, fun k b mo e1 e2 hb => ?_, fun b hb => ?_⟩, Nat.le_succ_of_le S.lim_le, fun k l' e => by cases e⟩, hQ⟩
  · show IsRangeIter _ _ (a + ((0 : Nat) : Int) * c) ((m : Int) - ((0 : Nat) : Int)) c
    rw [show a + ((0 : Nat) : Int) * c = a by simp, show (m : Int) - ((0 : Nat) : Int) = m by simp]
    exact hI
  · rw [List.mem_singleton.mp hb]; exact ⟨_, hI⟩
  · exact nf (by right; right; right; right; left; exact (List.mem_singleton.mp hb).symm)
  · exact nf (by right; right; right; right; right; exact ⟨nm, (List.mem_singleton.mp hb) ▸ hc⟩)
  · exact nf (.inr (.inl ((List.mem_singleton.mp hb) ▸ mem_of_get e1)))
  · rw [List.mem_singleton.mp hb]; exact nf

theorem itr_enum (hA : AOk n A) {e it ax : Addr} (h1 : e ≠ it) (h2 : ax ≠ e) (h3 : ax ≠ it) (hle : it ≤ e) {l : List Dv} {vs : List Value} (rs : VReps P.fa F loc l vs) (elts : List Expr) (k : Nat) (pos : Pos) (x y : Nat) :
    Itr P A (.Tuple elts k pos) (.two x y) F loc (l.zipIdx.map fun p => .tup [.int p.2, p.1]) e [e, it, ax] [e, it] e (fun i h => (∃ old, IsEnum h e it i old) ∧ h.IsListIter it ax i ∧ h.IsList ax vs.toArray) where
  turns := by
    have hn : (l.zipIdx.map fun p => Dv.tup [.int p.2, p.1]).length = vs.toArray.size := by rw [List.size_toArray, List.length_map, List.length_zipIdx]; exact rs.length
    rw [hn]
    refine ⟨_, _, KTurns.ofWalksU (WalksT.enumerate hA.1 e it ax h1 h2 h3 vs.toArray).toU, fun i v h hi hp hk => ?_⟩
    refine hide fun hn => ?_
    obtain ⟨T, vals, rfl, ⟨t, w, hw, rfl⟩, hT⟩ := hp
    refine hn ?_; clear hn
    have hw' : vs[i]? = some w := by simpa using hw
    have hi' : i < l.length := by rw [rs.length]; simpa using hi
    obtain ⟨v', hv', r⟩ := rs.get (List.getElem?_eq_getElem hi')
    rw [hw'] at hv'; cases hv'
    refine ⟨.tup [.int i, l[i]], by simp [hi'], ?_⟩
    intro d1 d2 e
    cases e
    exact ⟨T, _, w, rfl, hT, .int _ _, r⟩
  self := fun i s Q E hst hQ => by
    obtain ⟨⟨old, he⟩, _⟩ := hst
    exact wpAny_pyIter_enum he hQ
  top := ⟨by simp, by simp, fun b hb => by
    rcases List.mem_cons.mp hb with rfl | hb
    · exact Nat.le_refl _
    · rw [List.mem_singleton.mp hb]; exact hle⟩
  ex := fun i h hst b hb => by
    refine hide fun hn => ?_
    obtain ⟨⟨old, he⟩, ⟨o1, e1, _⟩, ⟨o2, e2, _⟩⟩ := hst
    refine hn ?_; clear hn
    simp only [List.mem_cons, List.not_mem_nil, or_false] at hb
    rcases hb with rfl | rfl | rfl
    · exact ⟨_, he⟩
    · exact ⟨_, e1⟩
    · exact ⟨_, e2⟩

theorem iter_enum (hA : AOk n A) (S : Sim P X F loc st fr s) {a : Addr} {o : Obj} {vs : List Value} {l : List Dv} (ho : F a = some o) (hl : IsL o vs) (rs : VReps P.fa F loc l vs) (elts : List Expr) (k : Nat) (pos : Pos) (x y : Nat)
    {Q : List Dv → Option (Nat × List Dv) → St → Prop} (hQ : Q (l.zipIdx.map fun p => .tup [.int p.2, p.1]) none st) :
    wpAny (model P.prog P.w) A (call (.type "enumerate") [.ref a]) (fun xv s₁ => wpAny (model P.prog P.w) A (pyIter xv) (fun it s₂ => IterAt P X F loc fr Q A (.Tuple elts k pos) (.two x y) it s₂) NoE s₁) NoE s := by
  have ho₀ := S.keepF a o ho
  have hlt : a < s.heap.objs.size := Heap.lt_size ho₀
  refine call_enumerate_list (lst_isList ho₀ hl) fun h' he hit hsz hk => ?_
  refine wpAny_pyIter_enum he ?_
  have S' : Sim P X F loc st fr { s with heap := h' } := S.keeps hk rfl rfl
  have n0 := S.fresh (a := s.heap.objs.size) (Nat.le_refl _)
  have n1 := S.fresh (a := s.heap.objs.size + 1) (Nat.le_succ _)
  have hit' := hit
  obtain ⟨oi, hoi, _⟩ := hit'
  have nofp : ∀ b, X.held P F loc b → b ≠ a → b ∉ [s.heap.objs.size + 1, s.heap.objs.size, a] := fun b hb hba hm => by
    rcases List.mem_cons.mp hm with e | hm
    · exact n1 (e ▸ hb)
    · rcases List.mem_cons.mp hm with e | hm
      · exact n0 (e ▸ hb)
      · exact hba (List.mem_singleton.mp hm)
  refine ⟨F, loc, st, _, none, s.heap.objs.size + 1, [s.heap.objs.size + 1, s.heap.objs.size, a], [s.heap.objs.size + 1, s.heap.objs.size], s.heap.objs.size + 1, _, rfl, Ext.refl F loc, S',
    ⟨itr_enum hA (Nat.succ_ne_self _) (Nat.ne_of_lt (Nat.lt_succ_of_lt hlt)) (Nat.ne_of_lt hlt) (Nat.le_succ _) rs elts k pos x y, ⟨⟨_, he⟩, hit, lst_isList (hk _ _ ho₀) hl⟩, ⟨fun b hb => ?_, nofp _ (by right; right; right; right; left; rfl) (locals_ne_list S ho₀ hl), fun nm c hc => nofp c (by right; right; right; right; right; exact ⟨nm, hc⟩) (cell_ne_list S hc ho₀ hl), fun j b mo e1 e2 => nofp b (.inr (.inl (mem_of_get e1))) fun q => ?_, fun b hb => ?_⟩, Nat.le_succ_of_le (Nat.le_succ_of_le S.lim_le), fun k l' e => by cases e⟩, hQ⟩
  · rcases List.mem_cons.mp hb with rfl | hb
    · exact ⟨_, he⟩
    · rcases List.mem_cons.mp hb with rfl | hb
      · exact ⟨oi, hoi⟩
      · rw [List.mem_singleton.mp hb]; exact ⟨o, hk _ _ ho₀⟩
  · subst q
    exact F_live S ho j mo e1 e2
  · rcases List.mem_cons.mp hb with rfl | hb
    · exact n1
    · rw [List.mem_singleton.mp hb]; exact n0

theorem itr_zip (hA : AOk n A) {z TI TO i1 i2 l1 l2 : Addr} (D : ZipApart z TI TO i1 i2 l1 l2) (hle : TO ≤ z ∧ i1 ≤ z ∧ i2 ≤ z) {l m : List Dv} {vs us : List Value} (rs : VReps P.fa F loc l vs) (ru : VReps P.fa F loc m us) (elts : List Expr) (k : Nat) (pos : Pos) (x y : Nat) :
    Itr P A (.Tuple elts k pos) (.two x y) F loc (List.zipWith (fun x y => .tup [x, y]) l m) z [z, TI, TO, i1, i2, l1, l2] [z, TO, i1, i2] z
      (fun i h => IsZip h z TI TO .none ∧ IsPair h TI (.ref i1) (.ref i2) ∧ (∃ a b, IsPair h TO a b) ∧ h.IsListIter i1 l1 i ∧ h.IsListIter i2 l2 i ∧ h.IsList l1 vs.toArray ∧ h.IsList l2 us.toArray) where
  turns := by
    have hn : (List.zipWith (fun x y => Dv.tup [x, y]) l m).length = min vs.toArray.size us.toArray.size := by rw [List.length_zipWith, List.size_toArray, List.size_toArray, rs.length, ru.length]
    rw [hn]
    refine ⟨_, _, KTurns.ofWalksU (WalksT.zip2 hA.1 z TI TO i1 i2 l1 l2 D vs.toArray us.toArray).toU, fun i v h hi hp hk => ?_⟩
    refine hide fun hn => ?_
    obtain ⟨T, vals, rfl, ⟨a, b, ha, hb, rfl⟩, hT⟩ := hp
    refine hn ?_; clear hn
    have ha' : vs[i]? = some a := by simpa using ha
    have hb' : us[i]? = some b := by simpa using hb
    have hi1 : i < l.length := by rw [rs.length]; exact Nat.lt_of_lt_of_le hi (Nat.min_le_left _ _)
    have hi2 : i < m.length := by rw [ru.length]; exact Nat.lt_of_lt_of_le hi (Nat.min_le_right _ _)
    obtain ⟨v', hv', r⟩ := rs.get (List.getElem?_eq_getElem hi1)
    rw [ha'] at hv'; cases hv'
    obtain ⟨u', hu', r'⟩ := ru.get (List.getElem?_eq_getElem hi2)
    rw [hb'] at hu'; cases hu'
    refine ⟨.tup [l[i], m[i]], by simp [List.getElem?_zipWith, hi1, hi2], ?_⟩
    intro d1 d2 e
    cases e
    exact ⟨T, a, b, rfl, hT, r, r'⟩
  self := fun i s Q E hst hQ => wpAny_pyIter_zip hst.1 hQ
  top := ⟨by simp, by simp, fun b hb => by
    rcases List.mem_cons.mp hb with rfl | hb
    · exact Nat.le_refl _
    · rcases List.mem_cons.mp hb with rfl | hb
      · exact hle.1
      · rcases List.mem_cons.mp hb with rfl | hb
        · exact hle.2.1
        · rw [List.mem_singleton.mp hb]; exact hle.2.2⟩
  ex := fun i h hst b hb => by
    refine hide fun hn => ?_
    obtain ⟨hz, hTI, ⟨a, b', hTO⟩, ⟨o1, e1, _⟩, ⟨o2, e2, _⟩, ⟨o3, e3, _⟩, ⟨o4, e4, _⟩⟩ := hst
    refine hn ?_; clear hn
    simp only [List.mem_cons, List.not_mem_nil, or_false] at hb
    rcases hb with rfl | rfl | rfl | rfl | rfl | rfl | rfl
    · exact ⟨_, hz⟩
    · exact ⟨_, hTI⟩
    · exact ⟨_, hTO⟩
    · exact ⟨_, e1⟩
    · exact ⟨_, e2⟩
    · exact ⟨_, e3⟩
    · exact ⟨_, e4⟩

theorem iter_zip (hA : AOk n A) (S : Sim P X F loc st fr s) {a b : Addr} {o o' : Obj} {vs us : List Value} {l m : List Dv} (ho : F a = some o) (hl : IsL o vs) (rs : VReps P.fa F loc l vs) (ho' : F b = some o') (hl' : IsL o' us) (ru : VReps P.fa F loc m us) (elts : List Expr) (k : Nat) (pos : Pos) (x y : Nat)
    {Q : List Dv → Option (Nat × List Dv) → St → Prop} (hQ : Q (List.zipWith (fun x y => .tup [x, y]) l m) none st) :
    wpAny (model P.prog P.w) A (call (.type "zip") [.ref a, .ref b]) (fun xv s₁ => wpAny (model P.prog P.w) A (pyIter xv) (fun it s₂ => IterAt P X F loc fr Q A (.Tuple elts k pos) (.two x y) it s₂) NoE s₁) NoE s := by
  have h1 := S.keepF a o ho
  have h2 := S.keepF b o' ho'
  have hlt : a < s.heap.objs.size := Heap.lt_size h1
  have hlt' : b < s.heap.objs.size := Heap.lt_size h2
  refine call_zip_2 (lst_isList h1 hl) (lst_isList h2 hl') fun h' hz hTI hTO hi1 hi2 hsz hk => ?_
  refine wpAny_pyIter_zip hz ?_
  have S' : Sim P X F loc st fr { s with heap := h' } := S.keeps hk rfl rfl
  have nf : ∀ j, ¬ X.held P F loc (s.heap.objs.size + j) := fun j => S.fresh (Nat.le_add_right _ _)
  have n0 : ¬ X.held P F loc s.heap.objs.size := S.fresh (Nat.le_refl _)
  have e1 := hi1
  obtain ⟨oi, hoi, _⟩ := e1
  have e2 := hi2
  obtain ⟨oj, hoj, _⟩ := e2
  generalize hN : s.heap.objs.size = N at *
  have nofp : ∀ c, X.held P F loc c → c ≠ a → c ≠ b → c ∉ [N + 4, N + 2, N + 3, N, N + 1, a, b] := fun c hc hca hcb hm => by
    simp only [List.mem_cons, List.not_mem_nil, or_false] at hm
    rcases hm with e | e | e | e | e | e | e
    · exact nf 4 (e ▸ hc)
    · exact nf 2 (e ▸ hc)
    · exact nf 3 (e ▸ hc)
    · exact n0 (e ▸ hc)
    · exact nf 1 (e ▸ hc)
    · exact hca e
    · exact hcb e
  refine ⟨F, loc, st, _, none, N + 4, [N + 4, N + 2, N + 3, N, N + 1, a, b], [N + 4, N + 3, N, N + 1], N + 4, _, rfl, Ext.refl F loc, S',
    ⟨itr_zip hA (zipApart_new hlt hlt') ⟨Nat.le_succ _, Nat.le_add_right _ _, Nat.add_le_add_left (by decide) _⟩ rs ru elts k pos x y, ⟨hz, hTI, ⟨_, _, hTO⟩, hi1, hi2, lst_isList (hk _ _ h1) hl, lst_isList (hk _ _ h2) hl'⟩,
      ⟨fun c hc => ?_, nofp _ (by right; right; right; right; left; rfl) (locals_ne_list S h1 hl) (locals_ne_list S h2 hl'), fun nm c hc => nofp c (by right; right; right; right; right; exact ⟨nm, hc⟩) (cell_ne_list S hc h1 hl) (cell_ne_list S hc h2 hl'), fun j c mo q1 q2 => nofp c (.inr (.inl (mem_of_get q1))) (fun q => ?_) (fun q => ?_), fun c hc => ?_⟩, ?_, fun k l' e => by cases e⟩, hQ⟩
  · simp only [List.mem_cons, List.not_mem_nil, or_false] at hc
    rcases hc with rfl | rfl | rfl | rfl | rfl | rfl | rfl
    · exact ⟨_, hz⟩
    · exact ⟨_, hTI⟩
    · exact ⟨_, hTO⟩
    · exact ⟨oi, hoi⟩
    · exact ⟨oj, hoj⟩
    · exact ⟨o, hk _ _ h1⟩
    · exact ⟨o', hk _ _ h2⟩
  · subst q; exact F_live S ho j mo q1 q2
  · subst q; exact F_live S ho' j mo q1 q2
  · simp only [List.mem_cons, List.not_mem_nil, or_false] at hc
    rcases hc with rfl | rfl | rfl | rfl
    · exact nf 4
    · exact nf 3
    · exact n0
    · exact nf 1
  · have := S.lim_le
    rw [hN] at this
    exact Nat.le_trans this (Nat.le_add_right N 5)
end
end Mine
end

section
open PySem PySem.W PyProof.Rows PySem.Spec PySem.SeqAt PySem.Calls
set_option Elab.async false
set_option maxRecDepth 100000
set_option maxHeartbeats 1000000
set_option autoImplicit false
set_option linter.unusedVariables false
namespace Mine
noncomputable def SndI (P : PG) (n : Nat) (G : List Str) (m : MI) : Prop := ∀ sc N e, encI G m sc N e = true → ∀ X, Cxx X sc N → ∀ fr st Q, wpI (CallOK P n) m fr st Q → ∀ A F loc s target tg,
  (m.pairs = true → ∃ elts k pos x y, target = .Tuple elts k pos ∧ tg = .two x y) → AOk n A → Sim P X F loc st fr s →
  wpAny (model P.prog P.w) A (eval e X.env) (fun x s₁ => wpAny (model P.prog P.w) A (pyIter x) (fun it s₂ => IterAt P X F loc fr Q A target tg it s₂) NoE s₁) NoE s

section
variable {P : PG} {X : Cx} {F : Gm} {loc : List Addr} {st : St} {fr : Frm} {s : Shared} {A : Around} {n : Nat} {G : List Str}

theorem sndI_lst {m : ME} (hm : SndE P n G m) : SndI P n G (.lst m) := by
  intro sc N e he X hX fr st Q hw A F loc s target tg _ hA S
  have he : encE G m sc N e = true := he
  rw [wpI_r1] at hw
  refine ep_bind (hm sc N e he X hX fr st _ hw A F loc s hA S) fun F₁ loc₁ st₁ d₁ v₁ s₁ e₁ S₁ r₁ q₁ => ?_
  split at q₁
  · cases r₁ with
    | list hF hl rs =>
      refine wpAny_mono (iter_list hA S₁ (S₁.keepF _ _ hF) hl rs target tg (F_live S₁ hF) (fun _ _ e => by cases e) q₁) (fun it s₂ h => h.ext e₁) fun _ _ x => x
  · rename_i k
    cases r₁ with
    | @ref _ a hloc =>
      split at q₁
      · rename_i l hst
        refine hide fun hn => ?_
        obtain ⟨o, vs, ho, hl, rs⟩ := S₁.mrep k a _ hloc hst
        refine hn ?_; clear hn
        have hb := S₁.baseLoc k a _ hloc hst
        have hk : k < st₁.length := by
          rcases Nat.lt_or_ge k st₁.length with h | h
          · exact h
          · rw [List.getElem?_eq_none h] at hst; cases hst
        refine wpAny_mono (iter_list hA (S₁.drop k) ho hl (rs.mono ⟨Gsub.refl F₁, List.nil_prefix⟩) (g := some (k, l)) target tg (fun j mo e1 e2 => ?_) (fun j l' e => ?_) q₁) (fun it s₂ h => h.ext e₁) fun _ _ x => x
        · have := S₁.nodup j k a e1 hloc
          subst this
          rw [List.getElem?_set_self hk] at e2; cases e2
        · cases e; exact ⟨hloc, hb, rs⟩
      · exact q₁.elim
  · exact q₁.elim

theorem rangeSize_up (a b : Int) : Builtin.Range.rangeSize a b 1 = ((b - a).toNat : Int) := by
  unfold Builtin.Range.rangeSize
  simp only [show (1 : Int) > 0 by decide, if_true, Int.ediv_one]
  split <;> omega
theorem rangeSize_down (a b : Int) : Builtin.Range.rangeSize a b (-1) = ((a - b).toNat : Int) := by
  unfold Builtin.Range.rangeSize
  simp only [show ¬ (-1 : Int) > 0 by decide, if_false, show - (-1 : Int) = 1 by decide, Int.ediv_one]
  split <;> omega

theorem abs_b {a : Int} (h : a.natAbs < 2 ^ 30) : -(2 ^ 30) ≤ a ∧ a < 2 ^ 30 := i_b30 h
theorem small_ok {a b c : Int} (ha : a.natAbs < 2 ^ 30) (hb : b.natAbs < 2 ^ 30) (hc : c = 1 ∨ c = -1) : Builtin.Range.small a b c = true := by
  have hs : ∀ k : Nat, Builtin.Range.rangeSize a b c = (k : Int) → (k : Int) < 2 ^ 62 → Builtin.Range.small a b c = true := fun k e hk => by
    unfold Builtin.Range.small Builtin.Range.rangeFitsLong
    rw [e]
    have ha := abs_b ha
    have hb := abs_b hb
    have a1 : (-9223372036854775808 : Int) ≤ a := Int.le_trans (by decide) ha.1
    have a2 : a < (9223372036854775808 : Int) := Int.lt_trans ha.2 (by decide)
    have c1 : (-9223372036854775808 : Int) ≤ b := Int.le_trans (by decide) hb.1
    have c2 : b < (9223372036854775808 : Int) := Int.lt_trans hb.2 (by decide)
    rcases hc with rfl | rfl <;> simp [a1, a2, c1, c2] <;> omega
  rcases hc with rfl | rfl
  · exact hs _ (rangeSize_up a b) (i_diff ha hb)
  · exact hs _ (rangeSize_down a b) (i_diff hb ha)

theorem range_look : biTable.lookup ("range" : Str) = some (.type "range") := by decide
theorem enum_look : biTable.lookup ("enumerate" : Str) = some (.type "enumerate") := by decide
theorem zip_look : biTable.lookup ("zip" : Str) = some (.type "zip") := by decide

theorem call_ty (hP : P.Ok) {sc : Nms} {N : Slots} (hX : Cxx X sc N) (S : Sim P X F loc st fr s) {id : Str} {p pos : Pos} {T : String} (h : sc.lookup id = some .globalImplicit) (hv : biTable.lookup id = some (.type T)) (hd : (id == ("__debug__" : Str)) = false)
    {e₀ : Expr} {es : List Expr} (hst : starEach (e₀ :: es) X.env = (false, eval e₀ X.env) :: starEach es X.env) (hpl : (backTo pos (starEach es X.env)).any (·.1) = false) {R : Value → Shared → Prop}
    (k : wpAny (model P.prog P.w) A (spliced (backTo pos (starEach (e₀ :: es) X.env))) (fun vs s₁ => wpAny (model P.prog P.w) A (call (.type T) vs) R NoE s₁) NoE s) :
    wpAny (model P.prog P.w) A (eval (.Call (.Name id p) (e₀ :: es) [] pos) X.env) R NoE s := by
  refine Call_ (bi_name hP hX h hv S hd ?_) (by rfl)
  exact callWith_type1 k hst hpl

theorem spl1 {m : ME} (hm : SndE P n G m) {sc : Nms} {N : Slots} {e : Expr} (he : encE G m sc N e = true) (hX : Cxx X sc N) {pos : Pos} {Q : Dv → St → Prop} (hw : wpE (CallOK P n) m fr st Q) (hA : AOk n A) (S : Sim P X F loc st fr s) {R : List Value → Shared → Prop}
    (k : ∀ F' loc' st' d v s', Ext F loc F' loc' → Sim P X F' loc' st' fr s' → VRep P.fa F' loc' d v → Q d st' → R [v] s') :
    wpAny (model P.prog P.w) A (spliced (backTo pos (starEach [e] X.env))) R NoE s :=
  args_cons (ep_bind (hm sc N e he X hX fr st Q hw A F loc s hA S) fun F₁ loc₁ st₁ d₁ v₁ s₁ e₁ S₁ r₁ q₁ => args_nil (k F₁ loc₁ st₁ d₁ v₁ s₁ e₁ S₁ r₁ q₁)) ((enc_noSet he .In X.env).2.2 _)

theorem splc {m : ME} (hm : SndE P n G m) {sc : Nms} {N : Slots} {e : Expr} {es : List Expr} (he : encE G m sc N e = true) (hX : Cxx X sc N) {pos : Pos} {Q : Dv → St → Prop} (hw : wpE (CallOK P n) m fr st Q) (hA : AOk n A) (S : Sim P X F loc st fr s) {R : List Value → Shared → Prop}
    (k : ∀ F' loc' st' d v s', Ext F loc F' loc' → Sim P X F' loc' st' fr s' → VRep P.fa F' loc' d v → Q d st' → wpAny (model P.prog P.w) A (spliced (backTo pos (starEach es X.env))) (fun vs s₂ => R (v :: vs) s₂) NoE s') :
    wpAny (model P.prog P.w) A (spliced (backTo pos (starEach (e :: es) X.env))) R NoE s :=
  args_cons (ep_bind (hm sc N e he X hX fr st Q hw A F loc s hA S) fun F₁ loc₁ st₁ d₁ v₁ s₁ e₁ S₁ r₁ q₁ => k F₁ loc₁ st₁ d₁ v₁ s₁ e₁ S₁ r₁ q₁) ((enc_noSet he .In X.env).2.2 _)

theorem starE {m : ME} {sc : Nms} {N : Slots} {e : Expr} (he : encE G m sc N e = true) (env : Env) (es : List Expr) : starEach (e :: es) env = (false, eval e env) :: starEach es env := (enc_noSet he .In env).2.2 es

theorem sndI_range1 (hP : P.Ok) {a : ME} (ha : SndE P n G a) : SndI P n G (.range1 a) := by
  intro sc N e he X hX fr st Q hw A F loc s target tg ht hA S
  refine i_range1 (R := fun e => wpAny (model P.prog P.w) A (eval e X.env) (fun x s₁ => wpAny (model P.prog P.w) A (pyIter x) (fun it s₂ => IterAt P X F loc fr Q A target tg it s₂) NoE s₁) NoE s) he fun p x pos h2 h3 => ?_
  · rw [wpI_r2] at hw
    refine call_ty hP hX S h2 range_look (by decide) (starE h3 X.env []) rfl (spl1 ha h3 hX hw hA S fun F₁ loc₁ st₁ d₁ v₁ s₁ e₁ S₁ r₁ q₁ => ?_)
    split at q₁
    · rename_i m
      cases r₁
      rename_i t
      refine call_range_1 ?_
      have S2 := (S₁.push { cls := .type "range", data := .fields #[.int 0 s₁.toks, .int m t, .int 1 (s₁.toks + 1)] }).toks (s₁.toks + 1 + 1)
      have hr : Builtin.Range.rangeSize 0 m 1 = ((m.toNat : Nat) : Int) := by rw [rangeSize_up]; simp
      have hq : Q ((List.range m.toNat).map fun i : Nat => .int (0 + (i : Int) * 1)) none st₁ := by simpa using q₁.2
      exact wpAny_mono (iter_range hA S2 (IsRange.new s₁.heap 0 m 1 s₁.toks t (s₁.toks + 1)) (small_ok (by decide) q₁.1 (.inl rfl)) hr target tg hq) (fun it s₂ h => h.ext e₁) fun _ _ x => x
    · exact q₁.elim
theorem sndI_range2 (hP : P.Ok) {a b : ME} (ha : SndE P n G a) (hb : SndE P n G b) : SndI P n G (.range2 a b) := by
  intro sc N e he X hX fr st Q hw A F loc s target tg ht hA S
  refine i_range2 (R := fun e => wpAny (model P.prog P.w) A (eval e X.env) (fun x s₁ => wpAny (model P.prog P.w) A (pyIter x) (fun it s₂ => IterAt P X F loc fr Q A target tg it s₂) NoE s₁) NoE s) he fun p x y pos h2 he => ?_
  · simp only [Bool.and_eq_true, beq_iff_eq] at he
    obtain ⟨h3, h4⟩ := he
    rw [wpI_r3] at hw
    refine call_ty hP hX S h2 range_look (by decide) (starE h3 X.env _) (by rw [starE h4]; rfl) (splc ha h3 hX hw hA S fun F₁ loc₁ st₁ d₁ v₁ s₁ e₁ S₁ r₁ q₁ => ?_)
    refine spl1 hb h4 hX q₁ hA S₁ fun F₂ loc₂ st₂ d₂ v₂ s₂ e₂ S₂ r₂ q₂ => ?_
    have r₁' := r₁.mono e₂
    split at q₂
    · rename_i i j
      cases r₁'; cases r₂
      rename_i t u
      refine call_range_2 ?_
      have S3 := (S₂.push { cls := .type "range", data := .fields #[.int i t, .int j u, .int 1 s₂.toks] }).toks (s₂.toks + 1)
      have hq : Q ((List.range (j - i).toNat).map fun k : Nat => .int (i + (k : Int) * 1)) none st₂ := by simpa using q₂.2.2
      exact wpAny_mono (iter_range hA S3 (IsRange.new s₂.heap i j 1 t u s₂.toks) (small_ok q₂.1 q₂.2.1 (.inl rfl)) (rangeSize_up i j) target tg hq) (fun it s₂ h => h.ext (e₁.trans e₂)) fun _ _ x => x
    · exact q₂.elim
theorem sndI_range3 (hP : P.Ok) {a b c : ME} (ha : SndE P n G a) (hb : SndE P n G b) (hc : SndE P n G c) : SndI P n G (.range3 a b c) := by
  intro sc N e he X hX fr st Q hw A F loc s target tg ht hA S
  refine i_range3 (R := fun e => wpAny (model P.prog P.w) A (eval e X.env) (fun x s₁ => wpAny (model P.prog P.w) A (pyIter x) (fun it s₂ => IterAt P X F loc fr Q A target tg it s₂) NoE s₁) NoE s) he fun p x y z pos h2 he => ?_
  · simp only [Bool.and_eq_true, beq_iff_eq] at he
    obtain ⟨⟨h3, h4⟩, h5⟩ := he
    rw [wpI_r4] at hw
    refine call_ty hP hX S h2 range_look (by decide) (starE h3 X.env _) (by rw [starE h4, starE h5]; rfl) (splc ha h3 hX hw hA S fun F₁ loc₁ st₁ d₁ v₁ s₁ e₁ S₁ r₁ q₁ => ?_)
    refine splc hb h4 hX q₁ hA S₁ fun F₂ loc₂ st₂ d₂ v₂ s₂ e₂ S₂ r₂ q₂ => ?_
    refine spl1 hc h5 hX q₂ hA S₂ fun F₃ loc₃ st₃ d₃ v₃ s₃ e₃ S₃ r₃ q₃ => ?_
    have r₁' := r₁.mono (e₂.trans e₃)
    have r₂' := r₂.mono e₃
    split at q₃
    · rename_i i j k
      obtain ⟨rfl, hi, hj, hQ⟩ := q₃
      cases r₁'; cases r₂'; cases r₃
      rename_i t u w
      refine call_range_3 (by decide) ?_ (.inl (PyProof.noPylong_small (by decide)))
      have S4 := (S₃.push { cls := .type "range", data := .fields #[.int i t, .int j u, .int (-1) w] }).toks s₃.toks
      have hq : Q ((List.range (i - j).toNat).map fun k : Nat => .int (i + (k : Int) * (-1))) none st₃ := by
        have : (fun k : Nat => Dv.int (i + (k : Int) * (-1))) = fun k : Nat => Dv.int (i - (k : Int)) := by funext k; congr 1; omega
        rw [this]; exact hQ
      exact wpAny_mono (iter_range hA S4 (IsRange.new s₃.heap i j (-1) t u w) (small_ok hi hj (.inr rfl)) (rangeSize_down i j) target tg hq) (fun it s₂ h => h.ext ((e₁.trans e₂).trans e₃)) fun _ _ x => x
    · exact q₃.elim
theorem sndI_enum (hP : P.Ok) {a : ME} (ha : SndE P n G a) : SndI P n G (.enum a) := by
  intro sc N e he X hX fr st Q hw A F loc s target tg ht hA S
  refine i_enum (R := fun e => wpAny (model P.prog P.w) A (eval e X.env) (fun x s₁ => wpAny (model P.prog P.w) A (pyIter x) (fun it s₂ => IterAt P X F loc fr Q A target tg it s₂) NoE s₁) NoE s) he fun p x pos h2 h3 => ?_
  · rw [wpI_r5] at hw
    refine hide fun hn => ?_
    obtain ⟨elts, k, tpos, xx, yy, rfl, rfl⟩ := ht rfl
    refine hn ?_; clear hn
    refine call_ty hP hX S h2 enum_look (by decide) (starE h3 X.env []) rfl (spl1 ha h3 hX hw hA S fun F₁ loc₁ st₁ d₁ v₁ s₁ e₁ S₁ r₁ q₁ => ?_)
    split at q₁
    · cases r₁ with
      | list hF hl rs =>
        refine wpAny_mono (iter_enum hA S₁ hF hl rs elts k tpos xx yy q₁.2) (fun v s₂ h => ?_) fun _ _ x => x
        exact wpAny_mono h (fun it s₃ h' => h'.ext e₁) fun _ _ x => x
    · exact q₁.elim
theorem sndI_zip (hP : P.Ok) {a b : ME} (ha : SndE P n G a) (hb : SndE P n G b) : SndI P n G (.zip a b) := by
  intro sc N e he X hX fr st Q hw A F loc s target tg ht hA S
  refine i_zip (R := fun e => wpAny (model P.prog P.w) A (eval e X.env) (fun x s₁ => wpAny (model P.prog P.w) A (pyIter x) (fun it s₂ => IterAt P X F loc fr Q A target tg it s₂) NoE s₁) NoE s) he fun p x y pos h2 he => ?_
  · simp only [Bool.and_eq_true, beq_iff_eq] at he
    obtain ⟨h3, h4⟩ := he
    rw [wpI_r6] at hw
    refine hide fun hn => ?_
    obtain ⟨elts, k, tpos, xx, yy, rfl, rfl⟩ := ht rfl
    refine hn ?_; clear hn
    refine call_ty hP hX S h2 zip_look (by decide) (starE h3 X.env _) (by rw [starE h4]; rfl) (splc ha h3 hX hw hA S fun F₁ loc₁ st₁ d₁ v₁ s₁ e₁ S₁ r₁ q₁ => ?_)
    refine spl1 hb h4 hX q₁ hA S₁ fun F₂ loc₂ st₂ d₂ v₂ s₂ e₂ S₂ r₂ q₂ => ?_
    have r₁' := r₁.mono e₂
    split at q₂
    · cases r₁' with
      | list hF hl rs =>
        cases r₂ with
        | list hF' hl' rs' =>
          refine wpAny_mono (iter_zip hA S₂ hF hl rs hF' hl' rs' elts k tpos xx yy q₂.2.2) (fun v s₃ h => ?_) fun _ _ x => x
          exact wpAny_mono h (fun it s₄ h' => h'.ext (e₁.trans e₂)) fun _ _ x => x
    · exact q₂.elim
end
end Mine
end

section
open PySem PySem.W PyProof.Rows PySem.Spec PySem.SeqAt PySem.Calls
set_option Elab.async false
set_option maxRecDepth 100000
set_option maxHeartbeats 1000000
set_option autoImplicit false
set_option linter.unusedVariables false
namespace Mine

/-! the block's environment -/
section
variable {M : Model} {A : Around} {E : Value → Shared → Prop} {s : Shared} {env : Env}

theorem mem_lookup_some {α : Type} [BEq α] [LawfulBEq α] {β : Type} : ∀ {l : List (α × β)} {n : α} {c : β}, (n, c) ∈ l → ∃ c', l.lookup n = some c'
  | (k, v) :: r, n, c, h => by
    rw [List.lookup_cons]
    cases hb : n == k with
    | true => exact ⟨v, rfl⟩
    | false =>
      rcases List.mem_cons.mp h with e | h
      · cases e; simp at hb
      · exact mem_lookup_some h
theorem lookup_mem {α : Type} [BEq α] [LawfulBEq α] {β : Type} : ∀ {l : List (α × β)} {n : α} {c : β}, l.lookup n = some c → (n, c) ∈ l
  | (k, v) :: r, n, c, h => by
    rw [List.lookup_cons] at h
    cases hb : n == k with
    | true => rw [hb] at h; cases h; rw [eq_of_beq hb]; exact List.mem_cons_self
    | false => rw [hb] at h; exact List.mem_cons_of_mem _ (lookup_mem h)

theorem closure_is {scope : Scope} (h : ∀ x ∈ scope.names, x.2 = .free → ∃ c, env.cells.lookup x.1 = some c) :
    ∃ cl, closureFor scope env = pure cl ∧ (∀ nm c, (nm, c) ∈ cl → env.cells.lookup nm = some c ∧ (nm, NameKind.free) ∈ scope.names) ∧ ∀ nm, (nm, NameKind.free) ∈ scope.names → ∃ c, (nm, c) ∈ cl := by
  unfold closureFor
  suffices H : ∀ (names : Nms) (acc : List (Str × Addr)), (∀ x ∈ names, x.2 = .free → ∃ c, env.cells.lookup x.1 = some c) →
      ∃ cl, (forIn names acc fun x cs => match x with | (name, kind) => if (kind == NameKind.free) = true then do let a ← cellOf env name; pure (ForInStep.yield ((name, a) :: cs)) else pure (ForInStep.yield cs) : Sem (List (Str × Addr))) = pure cl ∧
        (∀ nm c, (nm, c) ∈ cl → (nm, c) ∈ acc ∨ (env.cells.lookup nm = some c ∧ (nm, NameKind.free) ∈ names)) ∧ (∀ nm, (nm, NameKind.free) ∈ names → ∃ c, (nm, c) ∈ cl) ∧ ∀ p ∈ acc, p ∈ cl by
    refine hide fun hn => ?_
    obtain ⟨cl, h1, h2, h3, _⟩ := H scope.names [] h
    refine hn ?_; clear hn
    refine ⟨cl, ?_, fun nm c hm => (h2 nm c hm).resolve_left nofun, h3⟩
    have : (forIn scope.names [] fun x cs => match x with | (name, kind) => if (kind == NameKind.free) = true then do let a ← cellOf env name; pure (ForInStep.yield ((name, a) :: cs)) else pure (ForInStep.yield cs) : Sem (List (Str × Addr))) >>= pure = pure cl := by rw [h1]; rfl
    exact this
  intro names
  induction names with
  | nil => exact fun acc _ => ⟨acc, rfl, fun _ _ h => .inl h, fun _ h => (nomatch h), fun _ h => h⟩
  | cons x r ih =>
    obtain ⟨name, kind⟩ := x
    intro acc h
    rw [List.forIn_cons]
    by_cases hk : (kind == NameKind.free) = true
    · have hk' : kind = .free := eq_of_beq hk
      subst hk'
      refine hide fun hn => ?_
      obtain ⟨c, hc⟩ := h (name, .free) (.head _) rfl
      obtain ⟨cl, h1, h2, h3, h4⟩ := ih ((name, c) :: acc) fun x hx => h x (.tail _ hx)
      refine hn ?_; clear hn
      refine ⟨cl, ?_, fun nm c' hm => ?_, fun nm hm => ?_, fun p hp => h4 p (.tail _ hp)⟩
      · have : cellOf env name = pure c := by unfold cellOf; rw [hc]
        simp only [this]
        exact h1
      · rcases h2 nm c' hm with h5 | ⟨h5, h6⟩
        · rcases List.mem_cons.mp h5 with e | h5
          · cases e; exact .inr ⟨hc, .head _⟩
          · exact .inl h5
        · exact .inr ⟨h5, .tail _ h6⟩
      · rcases List.mem_cons.mp hm with e | hm
        · cases e; exact ⟨c, h4 _ (.head _)⟩
        · exact h3 nm hm
    · refine hide fun hn => ?_
      obtain ⟨cl, h1, h2, h3, h4⟩ := ih acc fun x hx => h x (.tail _ hx)
      refine hn ?_; clear hn
      refine ⟨cl, ?_, fun nm c' hm => ?_, fun nm hm => ?_, h4⟩
      · simp only [hk]
        exact h1
      · rcases h2 nm c' hm with h5 | ⟨h5, h6⟩
        · exact .inl h5
        · exact .inr ⟨h5, .tail _ h6⟩
      · rcases List.mem_cons.mp hm with e | hm
        · cases e; exact absurd rfl hk
        · exact h3 nm hm

theorem cellsFrom_acc : ∀ (names : Nms) (n : Nat) (acc : List (Str × Addr)), cellsFrom n names acc = cellsFrom n names [] ++ acc
  | [], _, _ => rfl
  | (name, kind) :: r, n, acc => by
    unfold cellsFrom
    split
    · rw [cellsFrom_acc r (n + 1) ((name, n) :: acc), cellsFrom_acc r (n + 1) [(name, n)], List.append_assoc]; rfl
    · exact cellsFrom_acc r n acc
theorem cellsFrom_mem : ∀ (names : Nms) (n : Nat), ∀ p ∈ cellsFrom n names [], (p.1, NameKind.cell) ∈ names
  | [], _, _, h => (nomatch h)
  | (name, kind) :: r, n, p, h => by
    unfold cellsFrom at h
    split at h
    · rename_i hk
      have hk' : kind = .cell := eq_of_beq hk
      subst hk'
      rw [cellsFrom_acc] at h
      rcases List.mem_append.mp h with h | h
      · exact .tail _ (cellsFrom_mem r _ p h)
      · rw [List.mem_singleton.mp h]; exact .head _
    · exact .tail _ (cellsFrom_mem r _ p h)
theorem cellsFrom_has : ∀ (names : Nms) (n : Nat) (nm : Str), (nm, NameKind.cell) ∈ names → ∃ c, (nm, c) ∈ cellsFrom n names []
  | (name, kind) :: r, n, nm, h => by
    unfold cellsFrom
    rcases List.mem_cons.mp h with e | h
    · cases e
      rw [if_pos (show (NameKind.cell == NameKind.cell) = true from rfl), cellsFrom_acc]
      exact ⟨n, List.mem_append_right _ (.head _)⟩
    · split
      · rw [cellsFrom_acc]
        obtain ⟨c, hc⟩ := cellsFrom_has r (n + 1) nm h
        exact ⟨c, List.mem_append_left _ hc⟩
      · exact cellsFrom_has r n nm h

theorem newEnv_block {scope : Scope} {globals : Addr} {cl : List (Str × Addr)} {qual : Str} {outer : Env} {Q : Env → Shared → Prop}
    (h : Q { scope, locals := s.heap.objs.size, globals, cells := cellsFrom (s.heap.objs.size + 1) scope.names cl, qual, func := none, code := outer.code, frame := outer.frame, builtins := outer.builtins }
      { s with heap := pushCells (s.heap.push { cls := .type "dict", data := .dict #[] }) scope.names }) :
    wpAny M A (newFunctionEnv scope globals cl [] qual none .none (some outer)) Q E s := by
  simp only [newFunctionEnv, Option.isSome_some, if_true]
  refine wpAny_bind (wpAny_alloc ?_)
  refine wpAny_bind (wpAny_layCells _ (fun name kind cells => by cases hkc : kind == NameKind.cell <;> simp [hkc]) _ _ _ _ ?_)
  rw [show ({ s with heap := s.heap.push { cls := .type "dict", data := .dict #[] } } : Shared).heap.objs.size = s.heap.objs.size + 1 from Heap.size_push ..]
  exact wpAny_bind (wpAny_pure (wpAny_pure h))
end

section
variable {prog : Program} {w : World} {A : Around} {R : Result → Shared → Prop} {s : Shared}
theorem compLoop_any {elt target iter : Expr} {ifs : List Expr} {scope : Scope} {pos : Pos} {it acc : Value} {env : Env} (I : Nat → Shared → Prop)
    (turn : ∀ n s, I n s → wpAny (model prog w) A (pyNext it) (fun r s₁ => match r with
      | none => R (.ok .next) s₁
      | some v => wpAny (model prog w) A (letOwnedTupleGo target it v) (fun _ s₁' => wpAny (model prog w) A (assign target env v) (fun _ s₂ =>
          wpAny (model prog w) A (forIn ifs true fun c r => if r = true then do let ok ← isTrue c env (eval c env); pure (ForInStep.yield ok) else pure (ForInStep.yield r)) (fun ok s₃ =>
            if ok = true then wpAny (model prog w) A (eval elt env) (fun x s₄ =>
              wpAny (model prog w) A (call (.builtin "list.append") [acc, x]) (fun _ s₅ => ∃ m, m < n ∧ I m s₅) NoE s₄) NoE s₃
            else ∃ m, m < n ∧ I m s₃) NoE s₂) NoE s₁') NoE s₁) NoE s)
    (n : Nat) (h : I n s) : codeAny (model prog w) A (.compLoop (.ListComp elt [⟨target, iter, ifs, 0⟩] scope pos) 0 it acc env) R s := by
  refine codeAny_loop rfl I (fun n s hI => ?_) n h
  show wpAny _ A ((compTurn (.ListComp elt [⟨target, iter, ifs, 0⟩] scope pos) 0 it acc env).onRaise (fun x => do noteFrame x env; theTreesLotGoes x)) _ _ s
  refine wpAny_noted ?_
  rw [compTurn_list]
  refine wpAny_bind (wpAny_standAt (wpAny_bind (noE' (turn n s hI) fun r s₁ h₁ => ?_)))
  cases r with
  | none => exact wpAny_pure h₁
  | some v =>
    refine wpAny_bind (noE' h₁ fun _ s₁' h₁' => wpAny_bind (noE' h₁' fun _ s₂ h₂ => wpAny_bind (noE' h₂ fun ok s₃ h₃ => ?_)))
    cases ok with
    | false => exact wpAny_pure ⟨rfl, h₃⟩
    | true => exact wpAny_bind (wpAny_bind (noE' h₃ fun x s₄ h₄ => wpAny_bind (noE' h₄ fun _ s₅ h₅ => wpAny_pure (wpAny_pure ⟨rfl, h₅⟩))))
end
end Mine
end

section
open PySem PySem.W PyProof.Rows PySem.Spec PySem.SeqAt PySem.Calls
set_option Elab.async false
set_option maxRecDepth 100000
set_option maxHeartbeats 1000000
set_option autoImplicit false
set_option linter.unusedVariables false
namespace Mine

/-- what a comprehension's block stands on, once it is laid: C its dict, D its list -/
structure Blk (P : PG) (X : Cx) (sc : Nms) (N : Slots) (tg : Tg) (tn : List (Nat × Str)) (scope : Scope) (cenv : Env) (C D : Addr) (fp wr : List Addr) (top : Addr) : Prop where
  locals : cenv.locals = C
  names : cenv.scope.names = renm sc scope.names
  kind : cenv.scope.kind = .function
  glob : cenv.globals = mainGlobals
  blt : cenv.builtins = builtinsNs
  /-- the cells: the block's own, then those that it takes from the frame -/
  own : ∀ nm c, cenv.cells.lookup nm = some c → (nm, NameKind.cell) ∈ scope.names ∧ C < c ∨ (nm, NameKind.free) ∈ scope.names ∧ X.env.cells.lookup nm = some c
  has : ∀ nm, (nm, NameKind.cell) ∈ scope.names ∨ (nm, NameKind.free) ∈ scope.names → ∃ c, cenv.cells.lookup nm = some c
  inj : ∀ nm nm' c, (nm, NameKind.cell) ∈ scope.names → cenv.cells.lookup nm = some c → cenv.cells.lookup nm' = some c → nm = nm'
  low : P.H0.objs.size ≤ C ∧ X.lim ≤ C
  lt : X.env.locals < C ∧ (∀ nm c, X.env.cells.lookup nm = some c → c < C) ∧ top < C ∧ D < C ∧ ∀ b ∈ fp, b < C
  dfp : D ∉ fp

open Classical in
/-- the block's frame at a turn -/
noncomputable def Cx.block (X : Cx) (cenv : Env) (N : Slots) (own : List Str) (F : Gm) (loc : List Addr) (st : St) (h : Heap) : Cx where
  env := cenv
  N := N
  own := own
  base := fun a => if a = cenv.locals ∨ (∃ nm ∈ own, cenv.cells.lookup nm = some a) ∨ (∃ (k : Nat) (mo : Mo), loc[k]? = some a ∧ st[k]? = some (some mo)) then none else h.get? a
  old := fun a => F a ≠ none ∨ a ∈ loc
  lim := cenv.locals + 1
  wit := cenv.locals

noncomputable def ownOf (scope : Scope) : List Str := (scope.names.filter fun x => x.2 == .cell).map (·.1)
theorem ownOf_mem {scope : Scope} {nm : Str} : nm ∈ ownOf scope ↔ (nm, NameKind.cell) ∈ scope.names := by
  unfold ownOf
  constructor
  · intro h
    refine hide fun hn => ?_
    obtain ⟨p, hp, rfl⟩ := List.mem_map.mp h
    obtain ⟨h1, h2⟩ := List.mem_filter.mp hp
    obtain ⟨a, b⟩ := p
    refine hn ?_; clear hn
    have : b = .cell := eq_of_beq h2
    subst this; exact h1
  · intro h
    exact List.mem_map.mpr ⟨(nm, .cell), List.mem_filter.mpr ⟨h, rfl⟩, rfl⟩

section
variable {P : PG} {X : Cx} {F : Gm} {loc : List Addr} {st : St} {fr : Frm} {s : Shared} {A : Around} {n : Nat} {G : List Str}
variable {sc : Nms} {N : Slots} {tg : Tg} {tn : List (Nat × Str)} {scope : Scope} {cenv : Env} {C D : Addr} {fp wr : List Addr} {top : Addr}

theorem block_none {own : List Str} {h : Heap} {a : Addr} {Nc : Slots} (e : a = cenv.locals ∨ (∃ nm ∈ own, cenv.cells.lookup nm = some a) ∨ (∃ (k : Nat) (mo : Mo), loc[k]? = some a ∧ st[k]? = some (some mo))) :
    (X.block cenv Nc own F loc st h).base a = none := by
  classical
  show (if _ then _ else _) = _
  exact if_pos e
theorem block_some {own : List Str} {h : Heap} {a : Addr} {Nc : Slots} (e : ¬ (a = cenv.locals ∨ (∃ nm ∈ own, cenv.cells.lookup nm = some a) ∨ (∃ (k : Nat) (mo : Mo), loc[k]? = some a ∧ st[k]? = some (some mo)))) :
    (X.block cenv Nc own F loc st h).base a = h.get? a := by
  classical
  show (if _ then _ else _) = _
  exact if_neg e

/-- the block's slots -/
theorem nodupB_inj : ∀ {N : Slots}, nodupB N = true → ∀ (i j : Nat) (nm : Str), N[i]? = some (some nm) → N[j]? = some (some nm) → i = j
  | [], _, i, j, nm, e, _ => by simp at e
  | none :: r, h, i, j, nm, e1, e2 => by
    cases i with
    | zero => simp at e1
    | succ i => cases j with
      | zero => simp at e2
      | succ j => rw [nodupB_inj (N := r) (by unfold nodupB at h; exact h) i j nm (by simpa using e1) (by simpa using e2)]
  | some x :: r, h, i, j, nm, e1, e2 => by
    unfold nodupB at h
    rw [Bool.and_eq_true] at h
    have hx : ¬ (some x ∈ r) := by simpa using h.1
    cases i with
    | zero => cases j with
      | zero => rfl
      | succ j =>
        simp at e1 e2; subst e1
        exact absurd (List.mem_of_getElem? e2) hx
    | succ i => cases j with
      | zero =>
        simp at e1 e2; subst e2
        exact absurd (List.mem_of_getElem? e1) hx
      | succ j => rw [nodupB_inj (N := r) h.2 i j nm (by simpa using e1) (by simpa using e2)]

theorem childN_get {names : Nms} {N : Slots} {tn : List (Nat × Str)} {i : Nat} {nm : Str} (h : (childN names N tn)[i]? = some (some nm)) :
    tn.lookup i = some nm ∨ (N[i]? = some (some nm) ∧ names.lookup nm = some .free) := by
  unfold childN at h
  rw [List.getElem?_mapIdx] at h
  cases hN : N[i]? with
  | none => rw [hN] at h; cases h
  | some o =>
    rw [hN] at h
    simp only [Option.map_some, Option.some.injEq] at h
    cases ht : tn.lookup i with
    | some id => rw [ht] at h; left; exact h
    | none =>
      rw [ht] at h
      cases o with
      | none => cases h
      | some x =>
        simp only at h
        split at h
        · rename_i hf; cases h; exact .inr ⟨rfl, by simpa using hf⟩
        · cases h
theorem childN_tg {names : Nms} {N : Slots} {tn : List (Nat × Str)} {i : Nat} {nm : Str} {o : Option Str} (h : tn.lookup i = some nm) (hN : N[i]? = some o) : (childN names N tn)[i]? = some (some nm) := by
  unfold childN
  rw [List.getElem?_mapIdx, hN]
  simp only [Option.map_some, h]

theorem nodupNames_lookup : ∀ {l : Nms} {nm : Str} {k : NameKind}, nodupNames l = true → (nm, k) ∈ l → l.lookup nm = some k
  | x :: r, nm, k, h, hm => by
    unfold nodupNames at h
    rw [Bool.and_eq_true] at h
    rw [List.lookup_cons]
    rcases List.mem_cons.mp hm with e | hm
    · subst e; simp
    · cases hb : nm == x.1 with
      | false => exact nodupNames_lookup h.2 hm
      | true =>
        have hnx : nm = x.1 := eq_of_beq hb
        have h1 := nodupNames_lookup h.2 hm
        rw [hnx] at h1
        rw [h1] at h; exact absurd h.1 (by simp)

theorem renm_lookup {sc names : Nms} {nm : Str} : (renm sc names).lookup nm = (names.lookup nm).map fun k => if (k == .free && sc.lookup nm == some .cell) = true then .cell else k := by
  unfold renm
  induction names with
  | nil => rfl
  | cons x r ih =>
    obtain ⟨a, k⟩ := x
    have e : (match ((a, k) : Str × NameKind) with | (n, k) => if (k == .free && sc.lookup n == some .cell) = true then (n, NameKind.cell) else (n, k)) = (a, if (k == .free && sc.lookup a == some .cell) = true then NameKind.cell else k) := by
      show (if _ then _ else _) = _
      split <;> rfl
    rw [List.map_cons]
    refine (congrArg (fun z => List.lookup nm (z :: _)) e).trans ?_
    rw [List.lookup_cons, List.lookup_cons]
    cases hb : nm == a with
    | true =>
      have : nm = a := eq_of_beq hb
      subst this
      rfl
    | false => exact ih

theorem scope_facts (h : scopeOk sc N tn scope = true) : scope.kind = .function ∧ nodupNames scope.names = true ∧ (∀ x ∈ scope.names, x.2 = .free → sc.lookup x.1 = some .cell) ∧
    (∀ p ∈ tn, N[p.1]? = some none ∧ (scope.names.lookup p.2 = some .local ∨ scope.names.lookup p.2 = some .cell) ∧ (p.2 == ("__debug__" : Str)) = false) ∧ nodupB (childN scope.names N tn) = true := by
  unfold scopeOk at h
  simp only [Bool.and_eq_true, beq_iff_eq, List.all_eq_true, Bool.or_eq_true, bne_iff_ne, ne_eq, Bool.not_eq_true'] at h
  refine hide fun hn => ?_
  obtain ⟨⟨⟨⟨h1, h2⟩, h3⟩, h4⟩, h5⟩ := h
  refine hn ?_; clear hn
  exact ⟨h1, h2, fun x hx hf => (h3 x hx).resolve_left fun h => h hf, fun p hp => let ⟨⟨a, b⟩, c⟩ := h4 p hp; ⟨a, b, c⟩, h5⟩

theorem tn_lookup_mem {tn : List (Nat × Str)} {i : Nat} {nm : Str} (h : tn.lookup i = some nm) : (i, nm) ∈ tn := lookup_mem h

theorem block_cxx (hX : Cxx X sc N) (hs : scopeOk sc N tn scope = true) (B : Blk P X sc N tg tn scope cenv C D fp wr top) (F : Gm) (loc : List Addr) (st : St) (h : Heap) :
    Cxx (X.block cenv (childN scope.names N tn) (ownOf scope) F loc st h) (renm sc scope.names) (childN scope.names N tn) := by
  refine hide fun hn => ?_
  obtain ⟨h1, h2, h3, h4, h5⟩ := scope_facts hs
  refine hn ?_; clear hn
  have kindOf : ∀ nm, cenv.kindOf nm = (scope.names.lookup nm).map fun k => if (k == .free && sc.lookup nm == some .cell) = true then .cell else k := fun nm => by
    unfold Env.kindOf; rw [B.names, renm_lookup]
  refine ⟨⟨B.kind, B.glob, B.blt, nodupB_inj h5, fun i nm e => ?_, fun i nm e => ?_⟩, B.names, rfl, fun nm e => ?_⟩
  · rcases childN_get e with q | ⟨q, _⟩
    · exact (h4 _ (tn_lookup_mem q)).2.2
    · exact hX.ok.nodeb i nm (by rw [hX.slots]; exact q)
  · show cenv.kindOf nm = _ ∨ cenv.kindOf nm = _
    rw [kindOf]
    rcases childN_get e with q | ⟨q, qf⟩
    · rcases (h4 _ (tn_lookup_mem q)).2.1 with h | h <;> simp only at h <;> rw [h] <;> simp
    · rw [qf]
      have := h3 (nm, .free) (lookup_mem qf) rfl
      simp [this]
  · rw [renm_lookup] at e
    cases q : scope.names.lookup nm with
    | none => rw [q] at e; cases e
    | some k =>
      rw [q] at e
      simp only [Option.map_some, Option.some.injEq] at e
      split at e
      · rename_i hc
        rw [Bool.and_eq_true] at hc
        have : k = .free := eq_of_beq hc.1
        subst this
        exact B.has nm (.inr (lookup_mem q))
      · subst e
        exact B.has nm (.inl (lookup_mem q))
end
end Mine
end

section
open PySem PySem.W PyProof.Rows PySem.Spec PySem.SeqAt PySem.Calls
set_option Elab.async false
set_option maxRecDepth 100000
set_option maxHeartbeats 1000000
set_option autoImplicit false
set_option linter.unusedVariables false
namespace Mine

/-- between the turns of a comprehension -/
structure CInv (P : PG) (X : Cx) (scope : Scope) (cenv : Env) (C D : Addr) (fp wr : List Addr) (Stt : Nat → Heap → Prop) (h₀ : Heap) (i : Nat) (acc : List Dv) (F : Gm) (loc : List Addr) (st : St) (fr : Frm) (s : Shared) : Prop where
  par : Sim P X F loc st fr s
  stt : Stt i s.heap
  ap : Apart P X F loc st s fp wr
  accs : ∃ vs : List Value, s.heap.PlainList D vs.toArray ∧ VReps P.fa F loc acc vs
  ns : ∃ m, s.heap.Ns C m
  cel : ∀ nm ∈ ownOf scope, ∀ c, cenv.cells.lookup nm = some c → ∃ v, s.heap.IsCell c v
  nD : ¬ X.held P F loc D
  nC : ¬ X.held P F loc C
  nO : ∀ nm ∈ ownOf scope, ∀ c, cenv.cells.lookup nm = some c → ¬ X.held P F loc c
  kept : ∀ b ∈ fp, b ∉ wr → ∀ o, h₀.get? b = some o → s.heap.get? b = some o

theorem cell_choice {h : Heap} {l : List (Str × Addr)} (H : ∀ nm c, l.lookup nm = some c → ∃ v, h.IsCell c v) : ∃ cm : Str → Option Value, ∀ nm c, l.lookup nm = some c → h.IsCell c (cm nm) := by
  classical
  refine ⟨fun nm => if q : ∃ c v, l.lookup nm = some c ∧ h.IsCell c v then Classical.choose (Classical.choose_spec q) else none, fun nm c e => ?_⟩
  obtain ⟨v, hv⟩ := H nm c e
  have q : ∃ c v, l.lookup nm = some c ∧ h.IsCell c v := ⟨c, v, e, hv⟩
  show h.IsCell c (if q : ∃ c v, l.lookup nm = some c ∧ h.IsCell c v then Classical.choose (Classical.choose_spec q) else none)
  rw [dif_pos q]
  obtain ⟨h2, h3⟩ := Classical.choose_spec (Classical.choose_spec q)
  have h4 : c = Classical.choose q := Option.some.inj (e.symm.trans h2)
  exact h4 ▸ h3
theorem isCell_eq {h : Heap} {c : Addr} {v v' : Option Value} (x : h.IsCell c v) (y : h.IsCell c v') : v = v' := by
  refine hide fun hn => ?_
  obtain ⟨o, e, d⟩ := x
  obtain ⟨o', e', d'⟩ := y
  refine hn ?_; clear hn
  rw [e] at e'; cases e'; rw [d] at d'; cases d'; rfl

theorem tgFree_get {tg : Tg} {target : Expr} {tn : List (Nat × Str)} {fr : Frm} (ht : tgNames tg target = some tn) (hf : tgFree tg fr) : ∀ p ∈ tn, fr[p.1]? = some none := by
  cases tg with
  | one x =>
    obtain ⟨id, _, rfl, rfl⟩ := i_tg1' ht
    intro p hp
    rw [List.mem_singleton.mp hp]; exact hf
  | two x y =>
    obtain ⟨a, pa, b, pb, k, _, hxy, rfl, rfl⟩ := i_tg2' ht
    · intro p hp
      rcases List.mem_cons.mp hp with rfl | hp
      · exact hf.1
      · rw [List.mem_singleton.mp hp]; exact hf.2

section
variable {P : PG} {X : Cx} {F : Gm} {loc : List Addr} {st : St} {fr : Frm} {s : Shared} {A : Around} {n : Nat} {G : List Str}
variable {sc : Nms} {N : Slots} {tg : Tg} {tn : List (Nat × Str)} {scope : Scope} {cenv : Env} {C D : Addr} {fp wr : List Addr} {top : Addr} {Stt : Nat → Heap → Prop} {h₀ : Heap} {i : Nat} {acc : List Dv} {target : Expr}

/-- into a turn of a comprehension -/
theorem block_enter (hX : Cxx X sc N) (hs : scopeOk sc N tn scope = true) (B : Blk P X sc N tg tn scope cenv C D fp wr top) (ht : tgNames tg target = some tn) (hf : tgFree tg fr)
    (I : CInv P X scope cenv C D fp wr Stt h₀ i acc F loc st fr s) : Sim P (X.block cenv (childN scope.names N tn) (ownOf scope) F loc st s.heap) F loc st fr s := by
  refine hide fun hn => ?_
  obtain ⟨k1, k2, k3, k4, k5⟩ := scope_facts hs
  obtain ⟨m, hm⟩ := I.ns
  obtain ⟨mp, cp, p1, p2, p3⟩ := I.par.frm
  refine hn ?_; clear hn
  have hcell : ∀ nm c, cenv.cells.lookup nm = some c → ∃ v, s.heap.IsCell c v := fun nm c e => by
    rcases B.own nm c e with ⟨h1, _⟩ | ⟨h1, h2⟩
    · exact I.cel nm (ownOf_mem.mpr h1) c e
    · exact ⟨_, p2 nm c h2⟩
  obtain ⟨cm, hcm⟩ := cell_choice hcell
  have hF : ∀ a, ¬ X.held P F loc a → F a = none := fun a h => by
    cases e : F a with
    | none => rfl
    | some o => exact absurd (.inl (by rw [e]; exact nofun)) h
  have hL : ∀ a, ¬ X.held P F loc a → a ∉ loc := fun a h q => h (.inr (.inl q))
  have hH : ∀ a, ¬ X.held P F loc a → P.H0.get? a = none := fun a h => by
    cases e : P.H0.get? a with
    | none => rfl
    | some o => exact absurd (by right; right; left; rw [e]; exact nofun) h
  have hCl : cenv.locals = C := B.locals
  refine ⟨I.par.toHSim, ⟨m, cm, by show s.heap.Ns cenv.locals m; rw [hCl]; exact hm, hcm, fun j nm d e1 e2 => ?_⟩, by show F cenv.locals = none; rw [hCl]; exact hF C I.nC, by show cenv.locals ∉ loc; rw [hCl]; exact hL C I.nC, block_none (.inl rfl), by show P.H0.get? cenv.locals = none; rw [hCl]; exact hH C I.nC,
    fun nm hnm c hc => ⟨hF c (I.nO nm hnm c hc), hL c (I.nO nm hnm c hc), block_none (.inr (.inl ⟨nm, hnm, hc⟩)), hH c (I.nO nm hnm c hc), ?_⟩, fun nm hnm nm' c h1 h2 => B.inj nm nm' c (ownOf_mem.mp hnm) h1 h2, fun a o e => ?_, fun k a mo e1 e2 => block_none (.inr (.inr ⟨k, mo, e1, e2⟩)), fun a h => .inl (.inl h), fun a h => .inl (.inr h), Nat.le_refl _, .inl rfl, ?_⟩
  · have e1' : (childN scope.names N tn)[j]? = some (some nm) := e1
    rcases childN_get e1' with q | ⟨q, qf⟩
    · have := tgFree_get ht hf _ (tn_lookup_mem q)
      simp only at this
      rw [this] at e2; cases e2
    · obtain ⟨v, r, hv⟩ := p3 j nm d (by rw [hX.slots]; exact q) e2
      have hsc : sc.lookup nm = some .cell := k3 (nm, .free) (lookup_mem qf) rfl
      have hkp : X.env.kindOf nm = some .cell := by unfold Env.kindOf; rw [hX.names]; exact hsc
      refine ⟨v, r, .inr ⟨?_, ?_⟩⟩
      · show cenv.scope.names.lookup nm = _
        rw [B.names, renm_lookup, qf]; simp [hsc]
      · rcases hv with ⟨hl, _⟩ | ⟨_, hv, c, hc⟩
        · rw [hkp] at hl; cases hl
        · obtain ⟨c', hc'⟩ := B.has nm (.inr (lookup_mem qf))
          rcases B.own nm c' hc' with ⟨h1, _⟩ | ⟨_, h2⟩
          · have := nodupNames_lookup k2 h1
            rw [qf] at this; cases this
          · rw [hc] at h2; cases h2
            have h5 := isCell_eq (hcm nm _ hc') (p2 nm _ hc)
            exact ⟨by rw [h5]; exact hv, _, hc'⟩
  · show c ≠ cenv.locals
    rw [hCl]
    rcases B.own nm c hc with ⟨_, h⟩ | ⟨h, _⟩
    · exact Nat.ne_of_gt h
    · have h1 := nodupNames_lookup k2 h
      have h2 := nodupNames_lookup k2 (ownOf_mem.mp hnm)
      rw [h1] at h2; cases h2
  · by_cases q : a = cenv.locals ∨ (∃ nm ∈ ownOf scope, cenv.cells.lookup nm = some a) ∨ (∃ (k : Nat) (mo : Mo), loc[k]? = some a ∧ st[k]? = some (some mo))
    · rw [block_none q] at e; cases e
    · rw [block_some q] at e; exact e
  · show P.H0.objs.size ≤ cenv.locals + 1
    rw [hCl]; exact Nat.le_succ_of_le B.low.1

/-- out of a turn of a comprehension -/
theorem block_leave (hX : Cxx X sc N) (hs : scopeOk sc N tn scope = true) (B : Blk P X sc N tg tn scope cenv C D fp wr top) (htop : ∀ b ∈ wr, b ≤ top) (hwf : ∀ b ∈ wr, b ∈ fp) (hfr : ∀ i h h', Stt i h → (∀ b ∈ fp, ∀ o, h.get? b = some o → h'.get? b = some o) → Stt i h')
    (I : CInv P X scope cenv C D fp wr Stt h₀ i acc F loc st fr s) {F' : Gm} {loc' : List Addr} {st' : St} {fr' : Frm} {s' : Shared} (x : Ext F loc F' loc')
    (S' : Sim P (X.block cenv (childN scope.names N tn) (ownOf scope) F loc st s.heap) F' loc' st' fr' s') : CInv P X scope cenv C D fp wr Stt h₀ i acc F' loc' st' fr s' := by
  refine hide fun hn => ?_
  obtain ⟨k1, k2, k3, k4, k5⟩ := scope_facts hs
  refine hn ?_; clear hn
  have hCl : cenv.locals = C := B.locals
  have ownC : ∀ nm ∈ ownOf scope, ∀ c, cenv.cells.lookup nm = some c → C < c := fun nm hnm c hc => by
    rcases B.own nm c hc with ⟨_, h⟩ | ⟨h, _⟩
    · exact h
    · have h1 := nodupNames_lookup k2 h
      have h2 := nodupNames_lookup k2 (ownOf_mem.mp hnm)
      rw [h1] at h2; cases h2
  -- what is not the block's own, nor live, is kept
  have keep : ∀ a o, a ≠ C → (∀ nm ∈ ownOf scope, cenv.cells.lookup nm ≠ some a) → (∀ (k : Nat) (mo : Mo), loc[k]? = some a → st[k]? ≠ some (some mo)) → s.heap.get? a = some o → s'.heap.get? a = some o := fun a o h1 h2 h3 e =>
    S'.base a o (by
      rw [block_some (fun q => ?_)]; exact e
      rcases q with q | ⟨nm, hnm, q⟩ | ⟨k, mo, q1, q2⟩
      · exact h1 (q.trans hCl)
      · exact h2 nm hnm q
      · exact h3 k mo q1 q2)
  have keepLow : ∀ a o, a < C → (∀ (k : Nat) (mo : Mo), loc[k]? = some a → st[k]? ≠ some (some mo)) → s.heap.get? a = some o → s'.heap.get? a = some o := fun a o h1 h3 e =>
    keep a o (Nat.ne_of_lt h1) (fun nm hnm q => Nat.lt_asymm h1 (ownC nm hnm a q)) h3 e
  have notLive : ∀ a, a ∉ loc → ∀ (k : Nat) (mo : Mo), loc[k]? = some a → st[k]? ≠ some (some mo) := fun a h k mo e _ => h (mem_of_get e)
  -- below C nothing new is held
  have newF : ∀ a, a < C → F' a ≠ none → F a ≠ none ∨ a ∈ loc := fun a h q => by
    rcases S'.newF a q with q | q
    · exact q
    · have q' : cenv.locals + 1 ≤ a := q
      rw [hCl] at q'
      exact absurd (Nat.lt_of_succ_le q') (Nat.lt_asymm h)
  have newL : ∀ a, a < C → a ∈ loc' → F a ≠ none ∨ a ∈ loc := fun a h q => by
    rcases S'.newLoc a q with q | q
    · exact q
    · have q' : cenv.locals + 1 ≤ a := q
      rw [hCl] at q'
      exact absurd (Nat.lt_of_succ_le q') (Nat.lt_asymm h)
  have freeF : ∀ a, a < C → F a = none → a ∉ loc → F' a = none := fun a h h1 h2 => by
    cases e : F' a with
    | none => rfl
    | some o => exact (newF a h (by rw [e]; exact nofun)).elim (fun q => absurd h1 q) fun q => absurd q h2
  have freeL : ∀ a, a < C → F a = none → a ∉ loc → a ∉ loc' := fun a h h1 h2 q => by
    rcases newL a h q with q | q
    · exact q h1
    · exact h2 q
  have stay : ∀ a, a < C → ¬ X.held P F loc a → ¬ X.held P F' loc' a := fun a hlt hn q => by
    have hFa : F a = none := by
      cases e : F a with
      | none => rfl
      | some o => exact absurd (.inl (by rw [e]; exact nofun)) hn
    have hLa : a ∉ loc := fun q => hn (.inr (.inl q))
    rcases q with q | q | q
    · exact q (freeF a hlt hFa hLa)
    · exact freeL a hlt hFa hLa q
    · exact hn (.inr (.inr q))
  have stayC : ∀ a, F' a = none → a ∉ loc' → ¬ X.held P F loc a → ¬ X.held P F' loc' a := fun a h1 h2 hn q => by
    rcases q with q | q | q
    · exact q h1
    · exact h2 q
    · exact hn (.inr (.inr q))
  have fpKeep : ∀ b ∈ fp, ∀ o, s.heap.get? b = some o → s'.heap.get? b = some o := fun b hb o e =>
    keepLow b o (B.lt.2.2.2.2 b hb) (fun k mo e1 e2 => I.ap.live k b mo e1 e2 hb) e
  refine hide fun hn => ?_
  obtain ⟨m, cm, p1, p2, p3⟩ := I.par.frm
  refine hn ?_; clear hn
  have cellLive : ∀ nm c, X.env.cells.lookup nm = some c → ∀ (k : Nat) (mo : Mo), loc[k]? = some c → st[k]? ≠ some (some mo) := fun nm c hc k mo e1 e2 => by
    obtain ⟨o, ho, hd⟩ := p2 nm c hc
    have ho' : s.heap.get? c = some o := ho
    have h4 := I.par.mrep k c mo e1 e2
    cases mo with
    | list l => obtain ⟨o₁, vs, q1, ⟨j, q2⟩, _⟩ := h4; rw [ho'] at q1; cases q1; rw [q2] at hd; cases hd
    | dict l => obtain ⟨kvs, ⟨o₁, es, ep, q1, _, q2, _⟩, _⟩ := h4; rw [ho'] at q1; cases q1; rw [q2] at hd; cases hd
  have baseLive : ∀ (k : Nat) (a : Addr) (mo : Mo), loc'[k]? = some a → st'[k]? = some (some mo) → X.base a = none ∧ a ∉ fp := fun k a mo e1 e2 => by
    have h1 := S'.baseLoc k a mo e1 e2
    by_cases q : a = cenv.locals ∨ (∃ nm ∈ ownOf scope, cenv.cells.lookup nm = some a) ∨ (∃ (k : Nat) (mo : Mo), loc[k]? = some a ∧ st[k]? = some (some mo))
    · rcases q with q | ⟨nm, hnm, q⟩ | ⟨k', mo', q1, q2⟩
      · exact absurd (mem_of_get e1) (by rw [q]; exact S'.lLoc)
      · exact absurd (mem_of_get e1) (S'.oF nm hnm a q).2.1
      · exact ⟨I.par.baseLoc k' a mo' q1 q2, I.ap.live k' a mo' q1 q2⟩
    · rw [block_some q] at h1
      refine ⟨?_, fun hb => ?_⟩
      · cases e : X.base a with
        | none => rfl
        | some o => have := I.par.base a o e; rw [h1] at this; cases this
      · obtain ⟨o, e⟩ := I.ap.ex a hb
        rw [h1] at e; cases e
  refine ⟨⟨S'.toHSim, ⟨m, cm, ?_, fun nm c e => ?_, fun j nm d e1 e2 => let ⟨v, hv, r⟩ := p3 j nm d e1 e2; ⟨v, hv.mono x, r⟩⟩, freeF _ B.lt.1 I.par.lF I.par.lLoc, freeL _ B.lt.1 I.par.lF I.par.lLoc, I.par.lB, I.par.l0, fun nm hnm c hc => ?_, I.par.oInj, fun a o e => ?_, fun k a mo e1 e2 => (baseLive k a mo e1 e2).1, fun a h => ?_, fun a h => ?_, I.par.limW, I.par.witE, I.par.limH⟩,
    hfr i _ _ I.stt fpKeep, ⟨fun b hb => ?_, I.ap.fpL, I.ap.fpC, fun k a mo e1 e2 => (baseLive k a mo e1 e2).2, fun b hb => stay b (Nat.lt_of_le_of_lt (htop b hb) B.lt.2.2.1) (I.ap.free b hb)⟩, ?_, ?_, fun nm hnm c hc => ?_, stay D B.lt.2.2.2.1 I.nD, stayC C (by have := S'.lF; rw [show (X.block cenv (childN scope.names N tn) (ownOf scope) F loc st s.heap).env.locals = C from hCl] at this; exact this) (by have := S'.lLoc; rw [show (X.block cenv (childN scope.names N tn) (ownOf scope) F loc st s.heap).env.locals = C from hCl] at this; exact this) I.nC,
    fun nm hnm c hc => stayC c (S'.oF nm hnm c hc).1 (S'.oF nm hnm c hc).2.1 (I.nO nm hnm c hc), fun b hb hw o e => fpKeep b hb o (I.kept b hb hw o e)⟩
  · refine hide fun hn => ?_
    obtain ⟨o, es, ep, ho, r⟩ := p1
    refine hn ?_; clear hn
    exact ⟨o, es, ep, keepLow _ o B.lt.1 (notLive _ I.par.lLoc) ho, r⟩
  · obtain ⟨o, ho, r⟩ := p2 nm c e
    exact ⟨o, keepLow c o (B.lt.2.1 nm c e) (cellLive nm c e) ho, r⟩
  · obtain ⟨h1, h2, h3⟩ := I.par.oF nm hnm c hc
    exact ⟨freeF c (B.lt.2.1 nm c hc) h1 h2, freeL c (B.lt.2.1 nm c hc) h1 h2, h3⟩
  · refine keep a o (fun q => ?_) (fun nm hnm q => ?_) (fun k mo e1 e2 => ?_) (I.par.base a o e)
    · exact I.nC (by right; right; right; left; rw [← q, e]; exact nofun)
    · exact I.nO nm hnm a q (by right; right; right; left; rw [e]; exact nofun)
    · rw [I.par.baseLoc k a mo e1 e2] at e; cases e
  · rcases S'.newF a h with (q | q) | q
    · exact I.par.newF a q
    · exact I.par.newLoc a q
    · right
      have q' : cenv.locals + 1 ≤ a := q
      rw [hCl] at q'
      exact Nat.le_trans B.low.2 (Nat.le_of_succ_le q')
  · rcases S'.newLoc a h with (q | q) | q
    · exact I.par.newF a q
    · exact I.par.newLoc a q
    · right
      have q' : cenv.locals + 1 ≤ a := q
      rw [hCl] at q'
      exact Nat.le_trans B.low.2 (Nat.le_of_succ_le q')
  · obtain ⟨o, e⟩ := I.ap.ex b hb; exact ⟨o, fpKeep b hb o e⟩
  · refine hide fun hn => ?_
    obtain ⟨vs, ⟨k, e⟩, r⟩ := I.accs
    refine hn ?_; clear hn
    exact ⟨vs, ⟨k, keepLow D _ B.lt.2.2.2.1 (notLive D fun q => I.nD (.inr (.inl q))) e⟩, r.mono x⟩
  · obtain ⟨mc, cc, q1, _⟩ := S'.frm
    exact ⟨mc, by have q1' : s'.heap.Ns cenv.locals mc := q1; rw [hCl] at q1'; exact q1'⟩
  · refine hide fun hn => ?_
    obtain ⟨mc, cc, _, q2, _⟩ := S'.frm
    refine hn ?_; clear hn
    exact ⟨_, q2 nm c hc⟩
end
end Mine
end

section
open PySem PySem.W PyProof.Rows PySem.Spec PySem.SeqAt PySem.Calls
set_option Elab.async false
set_option maxRecDepth 100000
set_option maxHeartbeats 1000000
set_option autoImplicit false
set_option linter.unusedVariables false
namespace Mine

noncomputable def SndC (P : PG) (n : Nat) (G : List Str) : MTs → Prop
  | .cons t .nil => SndT P n G t
  | _ => True

section
variable {P : PG} {X : Cx} {F : Gm} {loc : List Addr} {st : St} {fr : Frm} {s : Shared} {A : Around} {n : Nat} {G : List Str}
variable {sc : Nms} {N : Slots} {tg : Tg} {tn : List (Nat × Str)} {scope : Scope} {cenv : Env} {C D : Addr} {fp wr : List Addr} {top : Addr} {Stt : Nat → Heap → Prop} {h₀ : Heap} {i : Nat} {acc : List Dv} {target : Expr}

theorem tests_snd {conds : MTs} {ifs : List Expr} (he : encTs G conds sc N ifs = true) (hl : ifs.length ≤ 1) (hc : SndC P n G conds) (hX : Cxx X sc N) (hA : AOk n A) (S : Sim P X F loc st fr s) {K : Bool → St → Prop} (hw : wpTs (CallOK P n) .And conds fr st K) :
    wpAny (model P.prog P.w) A (forIn ifs true fun c r => if r = true then do let ok ← isTrue c X.env (eval c X.env); pure (ForInStep.yield ok) else pure (ForInStep.yield r))
      (TP P X F loc fr K) NoE s := by
  cases conds with
  | nil =>
    obtain rfl := i_tnil he
    rw [wpTs_r1] at hw
    exact wpAny_tests_nil ⟨F, loc, st, Ext.refl F loc, S, hw⟩
  | cons t r =>
    cases r with
    | nil =>
      have hx := i_tcons he; clear he; obtain ⟨c, es, rfl, he⟩ := hx
      · obtain rfl := i_tnil he.2
        rw [wpTs_r2] at hw
        refine wpAny_tests_one (wpAny_mono (hc sc N _ he.1 X hX fr st _ hw A F loc s hA S) (fun b s₁ ⟨F₁, loc₁, st₁, e₁, S₁, q₁⟩ => ?_) fun _ _ x => x)
        cases b with
        | false => exact ⟨F₁, loc₁, st₁, e₁, S₁, q₁⟩
        | true => exact ⟨F₁, loc₁, st₁, e₁, S₁, q₁⟩
    | cons t' r' =>
      have hx := i_tcons he; clear he; obtain ⟨c, es, rfl, he⟩ := hx
      obtain ⟨c', es, rfl, _⟩ := i_tcons he.2
      simp at hl

theorem tv_mono {fa : Nat → Addr} {F F' : Gm} {loc loc' : List Addr} {h : Heap} {d : Dv} {v : Value} (x : Ext F loc F' loc') (r : TV fa F loc tg h d v) : TV fa F' loc' tg h d v := by
  cases tg with
  | one y => exact VRep.mono x r
  | two y z =>
    intro d1 d2 e
    refine hide fun hn => ?_
    obtain ⟨T, v1, v2, h1, h2, r1, r2⟩ := r d1 d2 e
    refine hn ?_; clear hn
    exact ⟨T, v1, v2, h1, h2, r1.mono x, r2.mono x⟩

theorem tn_lookup (ht : tgNames tg target = some tn) : ∀ p ∈ tn, tn.lookup p.1 = some p.2 := by
  cases tg with
  | one x =>
    obtain ⟨id, _, rfl, rfl⟩ := i_tg1' ht
    intro p hp
    rw [List.mem_singleton.mp hp]; simp
  | two x y =>
    obtain ⟨a, pa, b, pb, k, pos, hxy, rfl, rfl⟩ := i_tg2' ht
    · skip
      have hxy' : x ≠ y := by simpa using hxy
      intro p hp
      rcases List.mem_cons.mp hp with rfl | hp
      · simp
      · rw [List.mem_singleton.mp hp]
        rw [List.lookup_cons]
        have : (y == x) = false := beq_eq_false_iff_ne.mpr (Ne.symm hxy')
        simp [this]

/-- a CInv when only what it does not hold has been changed -/
theorem CInv.move (I : CInv P X scope cenv C D fp wr Stt h₀ i acc F loc st fr s) {s' : Shared} {j : Nat} {acc' : List Dv} (hg : s'.gens = s.gens) (ho : s'.os = s.os)
    (hk : ∀ a o, X.held P F loc a → s.heap.get? a = some o → s'.heap.get? a = some o) (hst : Stt j s'.heap) (hex : ∀ b ∈ fp, ∃ o, s'.heap.get? b = some o)
    (hacc : ∃ vs : List Value, s'.heap.PlainList D vs.toArray ∧ VReps P.fa F loc acc' vs) (hC : ∀ o, s.heap.get? C = some o → s'.heap.get? C = some o)
    (hO : ∀ nm ∈ ownOf scope, ∀ c, cenv.cells.lookup nm = some c → ∀ o, s.heap.get? c = some o → s'.heap.get? c = some o) (hfp : ∀ b ∈ fp, b ∉ wr → ∀ o, s.heap.get? b = some o → s'.heap.get? b = some o) :
    CInv P X scope cenv C D fp wr Stt h₀ j acc' F loc st fr s' where
  par := I.par.keepsIn hk hg ho
  stt := hst
  ap := I.ap.step hex
  accs := hacc
  ns := let ⟨m, hm⟩ := I.ns; ⟨m, hm.at' hC⟩
  cel := fun nm hnm c hc => let ⟨v, o, e, d⟩ := I.cel nm hnm c hc; ⟨v, o, hO nm hnm c hc o e, d⟩
  nD := I.nD
  nC := I.nC
  nO := I.nO
  kept := fun b hb hw o e => hfp b hb hw o (I.kept b hb hw o e)

/-- the turns -/
theorem comp_loop (hX : Cxx X sc N) (hs : scopeOk sc N tn scope = true) (B : Blk P X sc N tg tn scope cenv C D fp wr top) (ht : tgNames tg target = some tn) (hf : tgFree tg fr) (hA : AOk n A)
    {elt : ME} {conds : MTs} {el : Expr} {ifs : List Expr} (he1 : encE G elt (renm sc scope.names) (childN scope.names N tn) el = true) (he2 : encTs G conds (renm sc scope.names) (childN scope.names N tn) ifs = true) (hl : ifs.length ≤ 1)
    (h1 : SndE P n G elt) (h2 : SndC P n G conds) {l : List Dv} (hlen : l.length ≤ 2 ^ 24) {I : Addr} {F₁ : Gm} {loc₁ : List Addr} (Z : Itr P A target tg F₁ loc₁ l I fp wr top Stt)
    {Qend : List Dv → St → Prop} {R : Result → Shared → Prop} {iter : Expr} {pos : Pos}
    (hR : ∀ F' loc' st' acc s', Ext F₁ loc₁ F' loc' → Sim P X F' loc' st' fr s' → (∃ vs : List Value, s'.heap.PlainList D vs.toArray ∧ VReps P.fa F' loc' acc vs) → (∃ m, s'.heap.Ns C m) →
      ¬ X.held P F' loc' D → ¬ X.held P F' loc' C → (∀ b ∈ fp, b ∉ wr → ∀ o, h₀.get? b = some o → s'.heap.get? b = some o) → Qend acc st' → R (.ok .next) s')
    (I0 : CInv P X scope cenv C D fp wr Stt h₀ 0 [] F₁ loc₁ st fr s)
    (hw : compL (fun x st2 K => setTg tg x fr fun fr' => wpTs (CallOK P n) .And conds fr' st2 fun b st3 => match b with
        | true => wpE (CallOK P n) elt fr' st3 fun d st4 => K (some d) st4
        | false => K none st3) l [] st Qend) :
    codeAny (model P.prog P.w) A (.compLoop (.ListComp el [⟨target, iter, ifs, 0⟩] scope pos) 0 (.ref I) (.ref D) cenv) R s := by
  obtain ⟨Pk, Md, W, hitem⟩ := Z.turns
  have wlt : ∀ b ∈ wr, b < C := fun b hb => Nat.lt_of_le_of_lt (Z.top.2.2 b hb) B.lt.2.2.1
  have Dw : D ∉ wr := fun h => B.dfp (W.sub _ h)
  have Cw : C ∉ wr := fun h => Nat.lt_irrefl _ (wlt _ h)
  refine hide fun hn => ?_
  obtain ⟨k1, k2, k3, k4, k5⟩ := scope_facts hs
  refine hn ?_; clear hn
  have ownC : ∀ nm ∈ ownOf scope, ∀ c, cenv.cells.lookup nm = some c → C < c := fun nm hnm c hc => by
    rcases B.own nm c hc with ⟨_, h⟩ | ⟨h, _⟩
    · exact h
    · have h1 := nodupNames_lookup k2 h
      have h2 := nodupNames_lookup k2 (ownOf_mem.mp hnm)
      rw [h1] at h2; cases h2
  have Ow : ∀ nm ∈ ownOf scope, ∀ c, cenv.cells.lookup nm = some c → c ∉ wr := fun nm hnm c hc h => Nat.lt_asymm (wlt c h) (ownC nm hnm c hc)
  refine compLoop_any (fun k s' => ∃ i acc F' loc' st', k = l.length - i ∧ i ≤ l.length ∧ acc.length ≤ i ∧ Ext F₁ loc₁ F' loc' ∧ CInv P X scope cenv C D fp wr Stt h₀ i acc F' loc' st' fr s' ∧
    compL (fun x st2 K => setTg tg x fr fun fr' => wpTs (CallOK P n) .And conds fr' st2 fun b st3 => match b with
        | true => wpE (CallOK P n) elt fr' st3 fun d st4 => K (some d) st4
        | false => K none st3) (l.drop i) acc st' Qend) ?_ l.length
    ⟨0, [], F₁, loc₁, st, rfl, Nat.zero_le _, Nat.le_refl _, Ext.refl F₁ loc₁, I0, by simpa using hw⟩
  rintro k s' ⟨i, acc, F', loc', st', rfl, hi, hacc, x, Iv, hc⟩
  by_cases hlt : i < l.length
  · -- a turn
    refine W.item i s' _ _ hlt Iv.stt fun v h' tk hMd hk1 => ?_
    refine W.go i v _ _ _ hMd fun h'' hPk hst hk2 => ?_
    have hk : ∀ b o, b ∉ wr → s'.heap.get? b = some o → h''.get? b = some o := fun b o hb e => hk2 b o hb (hk1 b o hb e)
    have I2 : CInv P X scope cenv C D fp wr Stt h₀ (i + 1) acc F' loc' st' fr { s' with heap := h'', toks := tk } := Iv.move rfl rfl (fun a o hh e => hk a o (fun hb => Iv.ap.free a hb hh) e) hst (Z.ex _ _ hst)
      (let ⟨vs, ⟨q, e⟩, r⟩ := Iv.accs; ⟨vs, ⟨q, hk _ _ Dw e⟩, r⟩) (fun o e => hk _ _ Cw e) (fun nm hnm c hc o e => hk _ _ (Ow nm hnm c hc) e) (fun b hb hbw o e => hk b o hbw e)
    have hdrop : l.drop i = l[i] :: l.drop (i + 1) := List.drop_eq_getElem_cons hlt
    rw [hdrop, compL_c] at hc
    obtain ⟨d, hd, hTV⟩ := hitem i v h'' hlt hPk (fun a o e => I2.par.keepF a o (x.1 a o e))
    rw [List.getElem?_eq_getElem hlt] at hd; cases hd
    have hXc := block_cxx hX hs B F' loc' st' h''
    have Sc := block_enter hX hs B ht hf I2
    have hslot : ∀ p ∈ tn, (X.block cenv (childN scope.names N tn) (ownOf scope) F' loc' st' h'').N[p.1]? = some (some p.2) := fun p hp => childN_tg (tn_lookup ht p hp) (k4 p hp).1
    have hown : ∀ p ∈ tn, (X.block cenv (childN scope.names N tn) (ownOf scope) F' loc' st' h'').env.kindOf p.2 = some .cell → p.2 ∈ (X.block cenv (childN scope.names N tn) (ownOf scope) F' loc' st' h'').own := fun p hp hk => by
      have hk' : cenv.scope.names.lookup p.2 = some .cell := hk
      rw [B.names, renm_lookup] at hk'
      rcases (k4 p hp).2.1 with q | q
      · rw [q] at hk'; simp at hk'
      · exact ownOf_mem.mpr (lookup_mem q)
    refine wpAny_mono (assign_snd hA Sc hXc.ok ht hslot hown (fun nm hk => hXc.cells nm (by unfold Env.kindOf at hk; rw [hXc.names] at hk; exact hk)) (tv_mono x hTV) hc) (fun _ s3 ⟨fr', S3, q3⟩ => ?_) fun _ _ x => x
    refine wpAny_mono (tests_snd he2 hl h2 hXc hA S3 q3) (fun ok s4 ⟨F4, loc4, st4, x4, S4, q4⟩ => ?_) fun _ _ x => x
    cases ok with
    | false =>
      rw [if_neg (by decide)]
      have I5 := block_leave hX hs B Z.top.2.2 W.sub W.frame I2 x4 S4
      exact ⟨l.length - (i + 1), n_left hlt, i + 1, acc, F4, loc4, st4, rfl, hlt, Nat.le_succ_of_le hacc, x.trans x4, I5, q4⟩
    | true =>
      rw [if_pos rfl]
      refine ep_bind (h1 _ _ el he1 _ hXc fr' st4 _ q4 A F4 loc4 s4 hA S4) fun F5 loc5 st5 d5 v5 s5 x5 S5 r5 q5 => ?_
      have I5 := block_leave hX hs B Z.top.2.2 W.sub W.frame I2 (x4.trans x5) S5
      obtain ⟨vs, hpl, rvs⟩ := I5.accs
      have hvl : vs.toArray.size ≤ sizeLine := by rw [List.size_toArray, ← rvs.length, sizeLine_eq]; omega
      refine wpAny_list_append_plain hpl (fun h6 hp6 hs6 => ?_) hvl
      have hk6 : ∀ b o, b ≠ D → s5.heap.get? b = some o → h6.get? b = some o := fun b o hb e => (hs6.2 b hb).trans e
      have CD : C ≠ D := Nat.ne_of_gt B.lt.2.2.2.1
      have I6 : CInv P X scope cenv C D fp wr Stt h₀ (i + 1) (acc ++ [d5]) F5 loc5 st5 fr { s5 with heap := h6 } := I5.move rfl rfl (fun a o hh e => hk6 a o (fun q => I5.nD (q ▸ hh)) e)
        (W.frame _ _ _ I5.stt fun b hb o e => hk6 b o (fun q => B.dfp (q ▸ hb)) e) (fun b hb => let ⟨o, e⟩ := I5.ap.ex b hb; ⟨o, hk6 b o (fun q => B.dfp (q ▸ hb)) e⟩)
        ⟨vs ++ [v5], by simpa using hp6, rvs.append (.cons r5 .nil)⟩ (fun o e => hk6 C o CD e)
        (fun nm hnm c hc o e => hk6 c o (fun q => Nat.lt_asymm (ownC nm hnm c hc) (q ▸ B.lt.2.2.2.1)) e) (fun b hb hbw o e => hk6 b o (fun q => B.dfp (q ▸ hb)) e)
      exact ⟨l.length - (i + 1), n_left hlt, i + 1, acc ++ [d5], F5, loc5, st5, rfl, hlt, by simp; exact hacc, (x.trans x4).trans x5, I6, q5⟩
  · -- the end
    have hin : i = l.length := by omega
    subst hin
    rw [List.drop_length, compL_n] at hc
    refine W.done s' _ _ Iv.stt fun h' tk hk => ?_
    refine hide fun hn => ?_
    obtain ⟨vs, ⟨q, e⟩, r⟩ := Iv.accs
    obtain ⟨m, hm⟩ := Iv.ns
    refine hn ?_; clear hn
    exact hR F' loc' st' acc { s' with heap := h', toks := tk } x (Iv.par.keepsIn (fun a o hh e => hk a o (fun hb => Iv.ap.free a hb hh) e) rfl rfl) ⟨vs, ⟨q, hk _ _ Dw e⟩, r⟩ ⟨m, hm.at' fun o e => hk _ _ Cw e⟩ Iv.nD Iv.nC
      (fun b hb hbw o e => hk b o hbw (Iv.kept b hb hbw o e)) hc
end
end Mine
end

section
open PySem PySem.W PyProof.Rows PySem.Spec PySem.SeqAt PySem.Calls
set_option Elab.async false
set_option maxRecDepth 100000
set_option maxHeartbeats 1000000
set_option autoImplicit false
set_option linter.unusedVariables false
namespace Mine
section
variable {P : PG} {X : Cx} {F : Gm} {loc : List Addr} {st : St} {fr : Frm} {s : Shared} {A : Around} {n : Nat} {G : List Str}
variable {sc : Nms} {N : Slots} {tg : Tg} {tn : List (Nat × Str)} {scope : Scope} {target : Expr}

theorem encI_fold {m : MI} {e : Expr} (h : encI G m sc N e = true) (env : Env) : ∀ x, foldedSetIterable e env x = pure x := by
  cases m with
  | lst a => exact (enc_noSet (show encE G a sc N e = true from h) .In env).2.1
  | range1 => exact i_range1 (e := e) (R := fun e => ∀ x, foldedSetIterable e env x = pure x) h fun _ _ _ _ _ _ => rfl
  | range2 => exact i_range2 (e := e) (R := fun e => ∀ x, foldedSetIterable e env x = pure x) h fun _ _ _ _ _ _ _ => rfl
  | range3 => exact i_range3 (e := e) (R := fun e => ∀ x, foldedSetIterable e env x = pure x) h fun _ _ _ _ _ _ _ _ => rfl
  | enum => exact i_enum (e := e) (R := fun e => ∀ x, foldedSetIterable e env x = pure x) h fun _ _ _ _ _ _ => rfl
  | zip => exact i_zip (e := e) (R := fun e => ∀ x, foldedSetIterable e env x = pure x) h fun _ _ _ _ _ _ _ => rfl

theorem lookup_append' {α : Type} : ∀ {l m : List (Str × α)} {nm : Str}, (l ++ m).lookup nm = (l.lookup nm).or (m.lookup nm)
  | [], m, nm => rfl
  | (a, b) :: r, m, nm => by
    rw [List.cons_append, List.lookup_cons, List.lookup_cons]
    cases nm == a with
    | true => rfl
    | false => exact lookup_append'

/-- a comprehension runs -/
theorem comp_run {elt : ME} {it : MI} {conds : MTs} {el iter : Expr} {ifs : List Expr} {pos p : Pos} (hX : Cxx X sc N) (ht : tgNames tg target = some tn) (hs : scopeOk sc N tn scope = true) (hpr : it.pairs = true → tg.isTwo = true)
    (hi : encI G it sc N iter = true) (he1 : encE G elt (renm sc scope.names) (childN scope.names N tn) el = true) (he2 : encTs G conds (renm sc scope.names) (childN scope.names N tn) ifs = true) (hl : ifs.length ≤ 1)
    (h0 : SndI P n G it) (h1 : SndE P n G elt) (h2 : SndC P n G conds) {Q : Dv → St → Prop} (hw : wpE (CallOK P n) (.comp elt tg it conds) fr st Q) (hA : AOk n A) (S : Sim P X F loc st fr s)
    {use : Option (Value → Sem Unit)} {QQ : Value → Shared → Prop}
    (hRR : ∀ F' loc' st' r D C m s', Ext F loc F' loc' → Sim P X F' loc' st' fr s' → VRep P.fa F' loc' (.list r) (.ref D) → Q (.list r) st' → s'.heap.Ns C m → ¬ X.held P F' loc' C → compPost (model P.prog P.w) A NoE use QQ (.ref D) C (.ok .next) s') :
    wpAny (model P.prog P.w) A (comprehension (.ListComp el [⟨target, iter, ifs, 0⟩] scope pos) scope X.env p (newList []) false (eval iter X.env) use) QQ NoE s := by
  refine hide fun hn => ?_
  obtain ⟨k1, k2, k3, k4, k5⟩ := scope_facts hs
  refine hn ?_; clear hn
  rw [wpE_r19] at hw
  refine hide fun hn => ?_
  obtain ⟨hf, hw⟩ := hw
  obtain ⟨cl, hcl, cl1, cl2⟩ := closure_is (env := X.env) (scope := scope) fun x hx hfr => hX.cells x.1 (k3 x hx hfr)
  refine hn ?_; clear hn
  have htgt : it.pairs = true → ∃ elts k pos x y, target = .Tuple elts k pos ∧ tg = .two x y := fun h => by
    have h3 := hpr h
    cases tg with
    | one x => cases h3
    | two x y =>
      refine hide fun hn => ?_
      obtain ⟨a, pa, b, pb, k, pos, hxy, rfl, rfl⟩ := i_tg2' ht
      refine hn ?_; clear hn
      exact ⟨_, _, _, x, y, rfl, rfl⟩
  refine wpAny_comprehension_free (g := ⟨target, iter, ifs, 0⟩) (gs := []) rfl (encI_fold hi X.env) hcl k1 (fun x hx hloc => by
    have := nodupNames_lookup k2 (nm := x.1) (k := x.2) (by exact hx); rw [this, hloc]) ?_
  refine wpAny_mono (h0 sc N iter hi X hX fr st _ hw A F loc s target tg htgt hA S) (fun xv s₁ hx => wpAny_mono hx (fun itv s₂ hy => ?_) fun _ _ y => y) fun _ _ y => y
  refine hide fun hn => ?_
  obtain ⟨F₁, loc₁, st₁, l, g, I, fp, wr, top, Stt, rfl, x₁, S₁, Z, hlen, hc⟩ := hy
  refine hn ?_; clear hn
  refine wpAny_newObj_type (newEnv_block ?_) (by show ([] : List Value).toArray.size ≤ sizeLine; exact Nat.zero_le _)
  -- the block's ground
  generalize hD : s₂.heap.objs.size = D
  generalize hH2 : s₂.heap.push { cls := .type "list", dict := none, data := .seq ([] : List Value).toArray } = H2
  have hC : H2.objs.size = D + 1 := by rw [← hH2, Heap.size_push, hD]
  generalize hCC : H2.objs.size = C at *
  generalize hH3 : H2.push { cls := .type "dict", data := .dict #[] } = H3
  have hz3 : H3.objs.size = C + 1 := by rw [← hH3, Heap.size_push, hCC]
  have ok := cellsFrom_ok scope.names H3 (C + 1) [] ⟨fun _ _ hm => (nomatch hm), List.Pairwise.nil⟩ (by rw [hz3]; exact Nat.le_refl _)
  rw [hz3] at ok
  have kp : ∀ b o, s₂.heap.get? b = some o → (pushCells H3 scope.names).get? b = some o := fun b o e => pushCells_keeps _ _ _ _ (hH3 ▸ Heap.get?_push_of_some _ (hH2 ▸ Heap.get?_push_of_some _ e))
  have gD : (pushCells H3 scope.names).get? D = some { cls := .type "list", dict := none, data := .seq ([] : List Value).toArray } := pushCells_keeps _ _ _ _ (hH3 ▸ Heap.get?_push_of_some _ (hH2 ▸ hD ▸ Heap.get?_push_size _ rfl))
  have nsC : (pushCells H3 scope.names).Ns C (fun _ => none) := by
    have := Heap.Ns.new H2 (.type "dict")
    rw [hCC, hH3] at this
    exact this.keeps (pushCells_keeps _ _)
  have DC : D < C := by rw [hC]; exact Nat.lt_succ_self _
  have lt2 : ∀ {a : Addr} {o : Obj}, s₂.heap.get? a = some o → a < D := fun e => hD ▸ Heap.lt_size e
  have heldD : ∀ a, X.held P F₁ loc₁ a → a < D := fun a h => hD ▸ S₁.held_lt h
  have nh : ∀ a, D ≤ a → ¬ X.held P F₁ loc₁ a := fun a h q => Nat.lt_irrefl _ (Nat.lt_of_lt_of_le (heldD a q) h)
  have fpD : ∀ b ∈ fp, b < D := fun b hb => let ⟨o, e⟩ := Z.apart.ex b hb; lt2 e
  have limD : X.lim ≤ D := hD ▸ S₁.lim_le
  have cells_eq : cellsFrom (C + 1) scope.names cl = cellsFrom (C + 1) scope.names [] ++ cl := cellsFrom_acc _ _ _
  have own_low : ∀ nm c, (nm, c) ∈ cellsFrom (C + 1) scope.names [] → C < c := fun nm c h => (ok.empty nm c h).2
  have look_own : ∀ nm c, (cellsFrom (C + 1) scope.names cl).lookup nm = some c → ((nm, c) ∈ cellsFrom (C + 1) scope.names [] ∧ (nm, NameKind.cell) ∈ scope.names) ∨ ((nm, NameKind.free) ∈ scope.names ∧ X.env.cells.lookup nm = some c) := fun nm c e => by
    rw [cells_eq, lookup_append'] at e
    cases q : (cellsFrom (C + 1) scope.names []).lookup nm with
    | some c' => rw [q] at e; cases e; exact .inl ⟨lookup_mem q, cellsFrom_mem _ _ _ (lookup_mem q)⟩
    | none => rw [q] at e; exact .inr ⟨(cl1 nm c (lookup_mem e)).2, (cl1 nm c (lookup_mem e)).1⟩
  have B : Blk P X sc N tg tn scope { scope := relabel scope X.env, locals := C, globals := X.env.globals, cells := cellsFrom (C + 1) scope.names cl, qual := X.env.qual, func := none, code := X.env.code, frame := X.env.frame, builtins := X.env.builtins } C D fp wr top := by
    refine ⟨rfl, ?_, k1, hX.ok.glob, hX.ok.blt, fun nm c e => ?_, fun nm h => ?_, fun nm nm' c hm h h' => ?_, ⟨?_, Nat.le_trans limD (Nat.le_of_lt DC)⟩, ⟨?_, fun nm c hc => ?_, ?_, DC, fun b hb => Nat.lt_trans (fpD b hb) DC⟩, fun hb => Nat.lt_irrefl _ (fpD D hb)⟩
    · show (relabel scope X.env).names = renm sc scope.names
      unfold relabel renm
      have hk : (X.env.scope.kind == ScopeKind.function) = true := by rw [hX.ok.kind]; rfl
      simp only [hk, Bool.and_true]
      unfold Env.kindOf
      rw [hX.names]
    · rcases look_own nm c e with ⟨h1, h2⟩ | h
      · exact .inl ⟨h2, own_low nm c h1⟩
      · exact .inr h
    · show ∃ c, (cellsFrom (C + 1) scope.names cl).lookup nm = some c
      rw [cells_eq]
      rcases h with h | h
      · obtain ⟨c, hc⟩ := cellsFrom_has scope.names (C + 1) nm h
        exact mem_lookup_some (List.mem_append_left _ hc)
      · obtain ⟨c, hc⟩ := cl2 nm h
        exact mem_lookup_some (List.mem_append_right _ hc)
    · rcases look_own nm c h with ⟨h1, h2⟩ | ⟨h1, h2⟩
      · rcases look_own nm' c h' with ⟨h3, h4⟩ | ⟨h3, h4⟩
        · exact name_of_addr ok.apart h1 h3
        · have q1 := own_low nm c h1
          have q2 := heldD c (by right; right; right; right; right; exact ⟨nm', h4⟩)
          exact absurd (Nat.lt_trans q2 DC) (Nat.lt_asymm q1)
      · have q1 := nodupNames_lookup k2 hm
        have q2 := nodupNames_lookup k2 h1
        rw [q1] at q2; cases q2
    · exact Nat.le_trans S₁.limH (Nat.le_trans limD (Nat.le_of_lt DC))
    · exact Nat.lt_trans (heldD _ (by right; right; right; right; left; rfl)) DC
    · exact Nat.lt_trans (heldD c (by right; right; right; right; right; exact ⟨nm, hc⟩)) DC
    · exact Nat.lt_trans (fpD top Z.itr.top.2.1) DC
  have S4 : Sim P X F₁ loc₁ st₁ fr { s₂ with heap := pushCells H3 scope.names } := S₁.keeps kp rfl rfl
  obtain ⟨Pk, Md, W, hitem⟩ := Z.itr.turns
  have I0 : CInv P X scope { scope := relabel scope X.env, locals := C, globals := X.env.globals, cells := cellsFrom (C + 1) scope.names cl, qual := X.env.qual, func := none, code := X.env.code, frame := X.env.frame, builtins := X.env.builtins } C D fp wr Stt s₂.heap 0 [] F₁ loc₁ st₁ fr { s₂ with heap := pushCells H3 scope.names } := by
    refine ⟨S4, W.frame _ _ _ Z.st0 fun b _ o e => kp b o e, Z.apart.step fun b hb => let ⟨o, e⟩ := Z.apart.ex b hb; ⟨o, kp b o e⟩, ⟨[], ⟨0, gD⟩, .nil⟩, ⟨_, nsC⟩, fun nm hnm c hc => ?_, nh D (Nat.le_refl _), nh C (Nat.le_of_lt DC), fun nm hnm c hc => ?_, fun b _ _ o e => kp b o e⟩
    · rcases look_own nm c hc with ⟨h1, _⟩ | ⟨h1, _⟩
      · exact ⟨none, (ok.empty nm c h1).1⟩
      · have q1 := nodupNames_lookup k2 (ownOf_mem.mp hnm)
        have q2 := nodupNames_lookup k2 h1
        rw [q1] at q2; cases q2
    · rcases look_own nm c hc with ⟨h1, _⟩ | ⟨h1, _⟩
      · exact nh c (Nat.le_of_lt (Nat.lt_trans DC (own_low nm c h1)))
      · have q1 := nodupNames_lookup k2 (ownOf_mem.mp hnm)
        have q2 := nodupNames_lookup k2 h1
        rw [q1] at q2; cases q2
  have loop := comp_loop (R := compPost (model P.prog P.w) A NoE use QQ (.ref D) C) (iter := iter) (pos := pos) hX hs B ht hf hA he1 he2 hl h1 h2 hlen Z.itr (fun F' loc' st' acc s' x Sf ⟨vs, ⟨q, e⟩, r⟩ ⟨m, hm⟩ nD nC hkept hQ => ?_) I0 hc
  · exact codeAny_compStart_list loop (Z.itr.self 0 _ _ _ I0.stt loop)
  · -- behind the last turn
    have hb : ∃ st6, Sim P X F' loc' st6 fr s' ∧ Q (.list acc) st6 := by
      cases g with
      | none => exact ⟨st', Sf, hQ⟩
      | some kl =>
        refine hide fun hn => ?_
        obtain ⟨k, l'⟩ := kl
        obtain ⟨h3, h4⟩ := hQ
        obtain ⟨ax, o, us, g1, g2, g3, g4, g5, g6, g7⟩ := Z.gone k l' rfl
        refine hn ?_; clear hn
        exact ⟨_, Sf.undrop (prefix_get x.2 g1) g4 (hkept ax g2 g3 o g5) g6 (g7.mono ⟨x.1, List.prefix_refl _⟩), h4⟩
    refine hide fun hn => ?_
    obtain ⟨st6, S6, hQ6⟩ := hb
    obtain ⟨x7, S7⟩ := S6.putF e nD limD
    refine hn ?_; clear hn
    refine hRR _ loc' st6 acc D C m s' (x₁.trans (x.trans x7)) S7 (.list Gm.put_same ⟨q, rfl⟩ (r.mono x7)) hQ6 hm fun hh => ?_
    rcases hh with hh | hh
    · by_cases hq : C = D
      · exact Nat.lt_irrefl _ (hq ▸ DC)
      · rw [Gm.put_ne hq] at hh; exact nC (.inl hh)
    · exact nC (.inr hh)
end
end Mine
end

section
open PySem PySem.W PyProof.Rows PySem.Spec PySem.SeqAt PySem.Calls
set_option Elab.async false
set_option maxRecDepth 100000
set_option maxHeartbeats 1000000
set_option autoImplicit false
set_option linter.unusedVariables false
namespace Mine
section
variable {P : PG} {X : Cx} {F : Gm} {loc : List Addr} {st : St} {fr : Frm} {s : Shared} {A : Around} {n : Nat} {G : List Str}

theorem snd_comp {elt : ME} {tg : Tg} {it : MI} {conds : MTs} (h0 : SndI P n G it) (h1 : SndE P n G elt) (h2 : SndC P n G conds) : SndE P n G (.comp elt tg it conds) := by
  intro sc N e he X hX fr st Q hw A F loc s hA S
  refine i_comp (R := fun e => wpAny (model P.prog P.w) A (eval e X.env) (EP P X F loc fr Q) NoE s) he fun el target iter ifs scope pos tn ht he => ?_
  simp only [Bool.and_eq_true, Bool.or_eq_true, Bool.not_eq_true', decide_eq_true_eq] at he
  refine hide fun hn => ?_
  obtain ⟨⟨⟨⟨⟨a1, a2⟩, a3⟩, a4⟩, a5⟩, a6⟩ := he
  refine hn ?_; clear hn
  rw [eval_ListComp]
  refine comp_run (use := none) hX ht a1 (fun h => a2.resolve_left (by rw [h]; decide)) a3 a4 a6 a5 h0 h1 h2 hw hA S fun F' loc' st' r D C m s' x S' rep q hm nC => ?_
  refine ⟨m, hm, fun h' hb => ⟨F', loc', st', .list r, x, S'.keepsIn (fun a o hh e => (hb.2 a fun hq => nC (hq ▸ hh)).trans e) rfl rfl, rep, q⟩⟩

variable (hP : P.Ok) (hG : ∀ (k : Nat) (id : Str), G[k]? = some id → P.fname k = id)
include hP hG
mutual
theorem allE : (m : ME) → SndE P n G m
  | .int i => snd_int i
  | .none => snd_none
  | .bool b => snd_bool b
  | .var x => snd_var x
  | .fn k => snd_fn hP hG k
  | .bin _ _ a b => snd_bin (allE a) (allE b)
  | .neg a => snd_neg (allE a)
  | .ife t a b => snd_ife (allT t) (allE a) (allE b)
  | .cmp _ a b => snd_cmp hP (allE a) (allE b)
  | .and3 a b c => snd_and3 (allE a) (allE b) (allE c)
  | .call f args => snd_call hP (allE f) (allEs args)
  | .bi _ args => snd_bi hP (allEs args)
  | .bitlen a => snd_bitlen (allE a)
  | .item a i => snd_item hP (allE a) (allE i)
  | .slice a lo hi stp => snd_slice (allE a) (allEo lo) (allEo hi) (allEo stp)
  | .list _ l => snd_list (allEs l)
  | .tup l => snd_tup (allEs l)
  | .dict0 => snd_dict0
  | .comp elt _ it conds => snd_comp (allI it) (allE elt) (allC conds)
theorem allT : (m : MT) → SndT P n G m
  | .not t => sndT_not (allT t)
  | .and l => sndT_and (allTs l)
  | .or l => sndT_or (allTs l)
  | .cmp _ a b => sndT_cmp hP (allE a) (allE b)
  | .val e => sndT_val (allE e)
theorem allTs : (m : MTs) → SndTs P n G m
  | .nil => sndTs_nil
  | .cons t r => sndTs_cons (allT t) (allTs r)
theorem allC : (m : MTs) → SndC P n G m
  | .nil => trivial
  | .cons t .nil => allT t
  | .cons _ (.cons _ _) => trivial
theorem allEo : (m : MEo) → SndEo P n G m
  | .no => sndEo_no
  | .yes e => sndEo_yes (allE e)
theorem allEs : (m : MEs) → SndEs P n G m
  | .nil => sndEs_nil
  | .cons m r => sndEs_cons (allE m) (allEs r)
theorem allI : (m : MI) → SndI P n G m
  | .lst e => sndI_lst (allE e)
  | .range1 a => sndI_range1 hP (allE a)
  | .range2 a b => sndI_range2 hP (allE a) (allE b)
  | .range3 a b c => sndI_range3 hP (allE a) (allE b) (allE c)
  | .enum e => sndI_enum hP (allE e)
  | .zip a b => sndI_zip hP (allE a) (allE b)
end
end
end Mine
end

section
open PySem PySem.W PyProof.Rows PySem.Spec PySem.SeqAt PySem.Calls
set_option Elab.async false
set_option maxRecDepth 100000
set_option maxHeartbeats 1000000
set_option autoImplicit false
set_option linter.unusedVariables false
namespace Mine

/-- behind a statement -/
inductive SP (P : PG) (X : Cx) (F : Gm) (loc : List Addr) (Q : Option Dv → Frm → St → Prop) (f : Flow) (s' : Shared) : Prop where
  | mk (F' : Gm) (loc' : List Addr) (st' : St) (fr' : Frm) (o : Option Dv) : Ext F loc F' loc' → Sim P X F' loc' st' fr' s' → (match o with | none => f = .next | some d => ∃ v, f = .ret v ∧ VRep P.fa F' loc' d v) → Q o fr' st' → SP P X F loc Q f s'

/-- the frame owns its cells -/
noncomputable def OwnsAll (X : Cx) : Prop := ∀ nm, X.env.kindOf nm = some .cell → nm ∈ X.own

noncomputable def SndS (P : PG) (n : Nat) (G : List Str) (m : MS) : Prop := ∀ sc N t, encS G sc N m t = true → ∀ X, Cxx X sc N → OwnsAll X → ∀ fr st Q, wpS (CallOK P n) m fr st Q → ∀ A F loc s, AOk n A → Sim P X F loc st fr s →
  wpAny (model P.prog P.w) A (exec t X.env) (SP P X F loc Q) NoE s
noncomputable def SndSs (P : PG) (n : Nat) (G : List Str) (m : MSs) : Prop := ∀ sc N t, encSs G sc N m t = true → ∀ X, Cxx X sc N → OwnsAll X → ∀ fr st Q, wpSs (CallOK P n) m fr st Q → ∀ A F loc s, AOk n A → Sim P X F loc st fr s →
  wpAny (model P.prog P.w) A (execs t X.env) (SP P X F loc Q) NoE s

section
variable {P : PG} {X : Cx} {F : Gm} {loc : List Addr} {st : St} {fr : Frm} {s : Shared} {A : Around} {n : Nat} {G : List Str} {sc : Nms} {N : Slots}

theorem SP.next {Q : Option Dv → Frm → St → Prop} {F' : Gm} {loc' : List Addr} {st' : St} {fr' : Frm} {s' : Shared} (x : Ext F loc F' loc') (S : Sim P X F' loc' st' fr' s') (q : Q none fr' st') : SP P X F loc Q .next s' :=
  ⟨F', loc', st', fr', none, x, S, rfl, q⟩
theorem SP.ext {Q : Option Dv → Frm → St → Prop} {f : Flow} {F₁ : Gm} {loc₁ : List Addr} {s' : Shared} (x : Ext F loc F₁ loc₁) (h : SP P X F₁ loc₁ Q f s') : SP P X F loc Q f s' := by
  obtain ⟨F', loc', st', fr', o, y, S, r, q⟩ := h
  exact ⟨F', loc', st', fr', o, x.trans y, S, r, q⟩

theorem Cxx.cell' (hX : Cxx X sc N) {nm : Str} (h : X.env.kindOf nm = some .cell) : ∃ c, X.env.cells.lookup nm = some c :=
  hX.cells nm (by unfold Env.kindOf at h; rw [hX.names] at h; exact h)

theorem enc_setcomp {m : ME} {a b c d} : encE G m sc N (.SetComp a b c d) = false := by cases m <;> rfl
theorem enc_dictcomp {m : ME} {a b c d e} : encE G m sc N (.DictComp a b c d e) = false := by cases m <;> rfl
theorem enc_listcomp {m : ME} {a b c d} (h : encE G m sc N (.ListComp a b c d) = true) : ∃ elt tg it conds, m = .comp elt tg it conds := by
  cases m with
  | comp elt tg it conds => exact ⟨_, _, _, _, rfl⟩
  | int => exact absurd h Bool.false_ne_true
  | none => exact absurd h Bool.false_ne_true
  | bool => exact absurd h Bool.false_ne_true
  | var => exact absurd h Bool.false_ne_true
  | fn => exact absurd h Bool.false_ne_true
  | bin => exact absurd h Bool.false_ne_true
  | neg => exact absurd h Bool.false_ne_true
  | ife => exact absurd h Bool.false_ne_true
  | cmp => exact absurd h Bool.false_ne_true
  | and3 => exact absurd h Bool.false_ne_true
  | call => exact absurd h Bool.false_ne_true
  | bi => exact absurd h Bool.false_ne_true
  | bitlen => exact absurd h Bool.false_ne_true
  | item => exact absurd h Bool.false_ne_true
  | slice => exact absurd h Bool.false_ne_true
  | list => exact absurd h Bool.false_ne_true
  | tup => exact absurd h Bool.false_ne_true
  | dict0 => exact absurd h Bool.false_ne_true

theorem noswap {m : ME} {e : Expr} (h : encE G m sc N e = true) (hn : ∀ a b c d, e ≠ .ListComp a b c d) (tgt : Option Expr) (line : Nat) (env : Env) : swapsWith e tgt line env = pure false := by
  cases e <;> first
    | rfl
    | exact absurd rfl (hn _ _ _ _)
    | (rw [enc_setcomp] at h; cases h; done)
    | (rw [enc_dictcomp] at h; cases h; done)

theorem sndS_ret {m : ME} (hm : SndE P n G m) : SndS P n G (.ret m) := by
  intro sc N t he X hX hown fr st Q hw A F loc s hA S
  refine i_ret (R := fun t => wpAny (model P.prog P.w) A (exec t X.env) (SP P X F loc Q) NoE s) he fun v p he => ?_
  · rw [wpS_r8] at hw
    refine wpAny_Return_some (ep_bind (hm sc N _ he X hX fr st _ hw A F loc s hA S) fun F₁ loc₁ st₁ d₁ v₁ s₁ e₁ S₁ r₁ q₁ => ?_)
    exact ⟨F₁, loc₁, st₁, fr, some d₁, e₁, S₁, ⟨v₁, rfl, r₁⟩, q₁⟩

theorem sndS_raise : SndS P n G .raise := by
  intro sc N t he X hX hown fr st Q hw
  rw [wpS_r10] at hw; exact hw.elim

theorem sndS_iff {t : MT} {a b : MSs} (ht : SndT P n G t) (ha : SndSs P n G a) (hb : SndSs P n G b) : SndS P n G (.iff t a b) := by
  intro sc N tt he X hX hown fr st Q hw A F loc s hA S
  refine i_iff (R := fun t => wpAny (model P.prog P.w) A (exec t X.env) (SP P X F loc Q) NoE s) he fun c x y p he => ?_
  · simp only [Bool.and_eq_true] at he
    obtain ⟨⟨h1, h2⟩, h3⟩ := he
    rw [wpS_r5] at hw
    refine wpAny_If (wpAny_mono (ht sc N _ h1 X hX fr st _ hw A F loc s hA S) (fun c s₁ ⟨F₁, loc₁, st₁, e₁, S₁, q₁⟩ => ?_) fun _ _ x => x)
    cases c with
    | true => rw [if_pos rfl]; exact wpAny_mono (ha sc N _ h2 X hX hown fr st₁ _ q₁ A F₁ loc₁ s₁ hA S₁) (fun f s' h => h.ext e₁) fun _ _ x => x
    | false => rw [if_neg (by decide)]; exact wpAny_mono (hb sc N _ h3 X hX hown fr st₁ _ q₁ A F₁ loc₁ s₁ hA S₁) (fun f s' h => h.ext e₁) fun _ _ x => x

theorem sndSs_nil : SndSs P n G .nil := by
  intro sc N t he X hX hown fr st Q hw A F loc s hA S
  obtain rfl := i_snil he
  rw [wpSs_r1] at hw
  exact wpAny_execs_nil (SP.next (Ext.refl F loc) S hw)
theorem sndSs_cons {m : MS} {r : MSs} (hm : SndS P n G m) (hr : SndSs P n G r) : SndSs P n G (.cons m r) := by
  intro sc N t he X hX hown fr st Q hw A F loc s hA S
  have hx := i_scons he; clear he; obtain ⟨e, es', rfl, he⟩ := hx
  · rw [wpSs_r2] at hw
    refine wpAny_execs_cons (wpAny_mono (hm sc N _ he.1 X hX hown fr st _ hw A F loc s hA S) (fun f s₁ ⟨F₁, loc₁, st₁, fr₁, o, e₁, S₁, hf, q₁⟩ => ?_) fun _ _ x => x)
    cases o with
    | none =>
      subst hf
      exact wpAny_mono (hr sc N _ he.2 X hX hown fr₁ st₁ _ q₁ A F₁ loc₁ s₁ hA S₁) (fun f s' h => h.ext e₁) fun _ _ x => x
    | some d =>
      obtain ⟨v, rfl, rv⟩ := hf
      exact ⟨F₁, loc₁, st₁, fr₁, some d, e₁, S₁, ⟨v, rfl, rv⟩, q₁⟩

theorem sndS_whil {t : MT} {b : MSs} (ht : SndT P n G t) (hb : SndSs P n G b) : SndS P n G (.whil t b) := by
  intro sc N tt he X hX hown fr st Q hw A F loc s hA S
  refine i_whil (R := fun t => wpAny (model P.prog P.w) A (exec t X.env) (SP P X F loc Q) NoE s) he fun c x p he => ?_
  · simp only [Bool.and_eq_true] at he
    rw [wpS_r6] at hw
    obtain ⟨k, hw⟩ := hw
    refine wpAny_While (codeAny_whileLoop (fun k s' => ∃ F' loc' st' fr', Ext F loc F' loc' ∧ Sim P X F' loc' st' fr' s' ∧ whL (fun fr st K => wpT (CallOK P n) t fr st K) (fun fr st K => wpSs (CallOK P n) b fr st K) k fr' st' Q) ?_ k ⟨F, loc, st, fr, Ext.refl F loc, S, hw⟩)
    rintro k s' ⟨F', loc', st', fr', x, S', hk⟩
    cases k with
    | zero => exact hk.elim
    | succ k =>
      rw [whL_s] at hk
      refine noE' (ht sc N _ he.1 X hX fr' st' _ hk A F' loc' s' hA S') fun c s₁ ⟨F₁, loc₁, st₁, e₁, S₁, q₁⟩ => ?_
      cases c with
      | true =>
        rw [if_pos rfl]
        refine noE' (hb sc N _ he.2 X hX hown fr' st₁ _ q₁ A F₁ loc₁ s₁ hA S₁) fun f s₂ ⟨F₂, loc₂, st₂, fr₂, o, e₂, S₂, hf, q₂⟩ => ?_
        cases o with
        | none =>
          subst hf
          exact ⟨k, Nat.lt_succ_self k, F₂, loc₂, st₂, fr₂, (x.trans e₁).trans e₂, S₂, q₂⟩
        | some d =>
          obtain ⟨v, rfl, rv⟩ := hf
          exact ⟨F₂, loc₂, st₂, fr₂, some d, (x.trans e₁).trans e₂, S₂, ⟨v, rfl, rv⟩, q₂⟩
      | false =>
        rw [if_neg (by decide)]
        exact wpAny_execs_nil (SP.next (x.trans e₁) S₁ q₁)

/-- the iterator's side of a turn -/
theorem sndS_forr {tg : Tg} {it : MI} {b : MSs} (hi : SndI P n G it) (hb : SndSs P n G b) : SndS P n G (.forr tg it b) := by
  intro sc N tt he X hX hown fr st Q hw A F loc s hA S
  refine i_forr (R := fun t => wpAny (model P.prog P.w) A (exec t X.env) (SP P X F loc Q) NoE s) he fun target iter body pos tn ht h1 h2 h3 h4 => ?_
  · · have h2 : it.pairs = false ∨ tg.isTwo = true := by simpa using h2
      have hslot : ∀ p ∈ tn, X.N[p.1]? = some (some p.2) := fun p hp => by rw [hX.slots]; exact slot_of (List.all_eq_true.mp h1 p hp)
      rw [wpS_r7] at hw
      have htgt : it.pairs = true → ∃ elts k pos x y, target = .Tuple elts k pos ∧ tg = .two x y := fun h => by
        have h5 := h2.resolve_left (by rw [h]; decide)
        cases tg with
        | one x => cases h5
        | two x y =>
          exact i_tg2 (e := target) (R := fun e _ => ∃ elts k pos x' y', e = .Tuple elts k pos ∧ Tg.two x y = .two x' y') ht fun a b p q kk r _ => ⟨_, _, _, x, y, rfl, rfl⟩
      refine wpAny_For (wpAny_mono (hi sc N iter h3 X hX fr st _ hw A F loc s target tg htgt hA S) (fun xv s₁ hx => wpAny_mono hx (fun itv s₂ hy => ?_) fun _ _ y => y) fun _ _ y => y) (encI_fold h3 X.env)
      refine hide fun hn => ?_
      obtain ⟨F₁, loc₁, st₁, l, g, I, fp, wr, top, Stt, rfl, x₁, S₁, Z, hc⟩ := hy
      refine hn ?_; clear hn
      split at hc
      · obtain ⟨Pk, Md, W, hitem⟩ := Z.itr.turns
        refine codeAny_forLoop_any (fun k s' => ∃ i F' loc' st' fr', k = l.length - i ∧ i ≤ l.length ∧ Ext F₁ loc₁ F' loc' ∧ Sim P X F' loc' st' fr' s' ∧ Stt i s'.heap ∧ Apart P X F' loc' st' s' fp wr ∧
          forL (fun x fr st K => setTg tg x fr fun fr' => wpSs (CallOK P n) b fr' st K) (l.drop i) fr' st' Q) ?_ l.length ⟨0, F₁, loc₁, st₁, fr, rfl, Nat.zero_le _, Ext.refl F₁ loc₁, S₁, Z.st0, Z.apart, by simpa using hc⟩
        rintro k s' ⟨i, F', loc', st', fr', rfl, hil, x, S', hst, ap, hl⟩
        by_cases hlt : i < l.length
        · refine W.item i s' _ _ hlt hst fun v h' tk hMd hk1 => ?_
          refine W.go i v _ _ _ hMd fun h'' hPk hst2 hk2 => ?_
          have hk : ∀ b o, b ∉ wr → s'.heap.get? b = some o → h''.get? b = some o := fun b o hb e => hk2 b o hb (hk1 b o hb e)
          have S2 : Sim P X F' loc' st' fr' { s' with heap := h'', toks := tk } := S'.keepsIn (fun a o hh e => hk a o (fun hb => ap.free a hb hh) e) rfl rfl
          have ap2 : Apart P X F' loc' st' { s' with heap := h'', toks := tk } fp wr := ap.step (Z.itr.ex _ _ hst2)
          have hdrop : l.drop i = l[i] :: l.drop (i + 1) := List.drop_eq_getElem_cons hlt
          rw [hdrop, forL_c] at hl
          obtain ⟨d, hd, hTV⟩ := hitem i v h'' hlt hPk (fun a o e => S2.keepF a o (x.1 a o e))
          rw [List.getElem?_eq_getElem hlt] at hd; cases hd
          have S3 := S2.enter ap2 Z.itr.top.2.1 Z.itr.top.1 Z.lim
          have hX3 := hX.loop (F := F') (loc := loc') fp h'' top
          refine noE' (assign_snd hA S3 hX3.ok ht hslot (fun p hp hk => hown _ hk) (fun nm hk => hX.cell' hk) (tv_mono x hTV) hl) fun _ s4 ⟨fr4, S4, q4⟩ => ?_
          refine noE' (hb sc N _ h4 _ hX3 hown fr4 st' _ q4 A F' loc' s4 hA S4) fun f s5 ⟨F5, loc5, st5, fr5, o, x5, S5, hf, q5⟩ => ?_
          obtain ⟨S6, ap6, hkept⟩ := S2.leave ap2 Z.itr.top.2.2 Z.lim S5
          cases o with
          | none =>
            subst hf
            exact ⟨l.length - (i + 1), n_left hlt, i + 1, F5, loc5, st5, fr5, rfl, hlt, x.trans x5, S6, W.frame _ _ _ hst2 hkept, ap6, q5⟩
          | some d =>
            obtain ⟨v5, rfl, rv⟩ := hf
            exact ⟨F5, loc5, st5, fr5, some d, x₁.trans (x.trans x5), S6, ⟨v5, rfl, rv⟩, q5⟩
        · have hin : i = l.length := by omega
          subst hin
          rw [List.drop_length, forL_n] at hl
          refine W.done s' _ _ hst fun h' tk hk => wpAny_execs_nil ?_
          exact SP.next (x₁.trans x) (S'.keepsIn (s' := { s' with heap := h', toks := tk }) (fun a o hh e => hk a o (fun hb => ap.free a hb hh) e) rfl rfl) hl
      · exact hc.elim
end
end Mine
end

section
open PySem PySem.W PyProof.Rows PySem.Spec PySem.SeqAt PySem.Calls
set_option Elab.async false
set_option maxRecDepth 100000
set_option maxHeartbeats 1000000
set_option autoImplicit false
set_option linter.unusedVariables false
namespace Mine
section
variable {P : PG} {X : Cx} {F : Gm} {loc : List Addr} {st : St} {fr : Frm} {s : Shared} {A : Around} {n : Nat} {G : List Str} {sc : Nms} {N : Slots}

theorem sndS_asg {x : Nat} {m : ME} (hm : SndE P n G m) (hc : ∀ elt tg it conds, m = .comp elt tg it conds → SndI P n G it ∧ SndE P n G elt ∧ SndC P n G conds) : SndS P n G (.asg x m) := by
  intro sc N t he X hX hown fr st Q hw A F loc s hA S
  refine i_asg (R := fun t => wpAny (model P.prog P.w) A (exec t X.env) (SP P X F loc Q) NoE s) he fun id p v pos he => ?_
  · simp only [Bool.and_eq_true] at he
    have hN : X.N[x]? = some (some id) := by rw [hX.slots]; exact slot_of he.1
    rw [wpS_r1] at hw
    have plain : swapsWith v (some (.Name id p)) pos.line X.env = pure false → wpAny (model P.prog P.w) A (exec (.Assign [.Name id p] v pos) X.env) (SP P X F loc Q) NoE s := fun hs =>
      wpAny_Assign_Name (ep_bind (hm sc N v he.2 X hX fr st _ hw A F loc s hA S) fun F₁ loc₁ st₁ d₁ v₁ s₁ e₁ S₁ r₁ q₁ =>
        S₁.store hX.ok hN (hown id) (hX.cell') r₁ fun s' S' => SP.next e₁ S' q₁) hs
    by_cases hv : ∀ a b c d, v ≠ .ListComp a b c d
    · exact plain (noswap he.2 hv _ _ _)
    · have hv' : ∃ a b c d, v = .ListComp a b c d := by
        refine Classical.byContradiction fun h => hv fun a b c d e => h ⟨a, b, c, d, e⟩
      refine hide fun hn => ?_
      obtain ⟨el, gens, scope, lp, rfl⟩ := hv'
      refine hn ?_; clear hn
      have hb : ∃ b, swapsWith (.ListComp el gens scope lp) (some (.Name id p)) pos.line X.env = pure b := ⟨_, rfl⟩
      obtain ⟨b, hb⟩ := hb
      cases b with
      | false => exact plain hb
      | true =>
        refine hide fun hn => ?_
        obtain ⟨elt, tg, it, conds, rfl⟩ := enc_listcomp he.2
        obtain ⟨c0, c1, c2⟩ := hc elt tg it conds rfl
        refine hn ?_; clear hn
        have he2 := he.2
        refine i_comp (e := .ListComp el gens scope lp) (R := fun e' => e' = .ListComp el gens scope lp → _) he2 (fun el' target iter ifs scope' lp' tn ht he2 heq => ?_) rfl
        · cases heq
          · simp only [Bool.and_eq_true, Bool.or_eq_true, Bool.not_eq_true', decide_eq_true_eq] at he2
            refine hide fun hn => ?_
            obtain ⟨⟨⟨⟨⟨a1, a2⟩, a3⟩, a4⟩, a5⟩, a6⟩ := he2
            refine hn ?_; clear hn
            rw [exec_Assign]
            refine wpAny_bind (wpAny_standAt ?_)
            have hb' : swapsWithSole [.Name id p] (.ListComp el [⟨target, iter, ifs, 0⟩] scope lp) pos.line X.env = pure true := hb
            rw [hb']
            refine wpAny_bind (wpAny_pure ?_)
            rw [if_pos rfl]
            refine wpAny_bind ?_
            show wpAny _ A (do let _ ← comprehension (.ListComp el [⟨target, iter, ifs, 0⟩] scope lp) scope X.env (firstIterPos [⟨target, iter, ifs, 0⟩] lp) (newList []) (firstAsync [⟨target, iter, ifs, 0⟩]) (firstIter [⟨target, iter, ifs, 0⟩] X.env) (some fun v => assign (.Name id p) X.env v)) _ _ s
            refine wpAny_bind ?_
            refine comp_run (use := some fun v => assign (.Name id p) X.env v) hX ht a1 (fun h => a2.resolve_left (by rw [h]; decide)) a3 a4 a6 a5 c0 c1 c2 hw hA S fun F' loc' st' r D C mC s' xe S' rep q hmC nC => ?_
            -- the store, while the block's dict is held
            refine hide fun hn => ?_
            obtain ⟨oC, esC, epC, hoC, hrC⟩ := hmC
            refine hn ?_; clear hn
            have nB : X.base C = none := by
              cases e : X.base C with
              | none => rfl
              | some o => exact absurd (by right; right; right; left; rw [e]; exact nofun) nC
            have nL : C ≠ X.env.locals := fun q => nC (by right; right; right; right; left; exact q)
            have nCell : ∀ nm c, X.env.cells.lookup nm = some c → c ≠ C := fun nm c h q => nC (by right; right; right; right; right; exact ⟨nm, q ▸ h⟩)
            have nLoc : C ∉ loc' := fun q => nC (.inr (.inl q))
            let X' : Cx := { X with base := fun a => if a = C then some oC else X.base a }
            have hX' : X'.Ok := ⟨hX.ok.kind, hX.ok.glob, hX.ok.blt, hX.ok.inj, hX.ok.nodeb, hX.ok.own⟩
            have S2 : Sim P X' F' loc' st' fr s' := by
              refine ⟨S'.toHSim, S'.frm, S'.lF, S'.lLoc, ?_, S'.l0, fun nm hnm c hc => ?_, S'.oInj, fun a o e => ?_, fun k a mo e1 e2 => ?_, S'.newF, S'.newLoc, S'.limW, ?_, S'.limH⟩
              · show (if X.env.locals = C then some oC else X.base X.env.locals) = none
                rw [if_neg (Ne.symm nL)]; exact S'.lB
              · obtain ⟨h1, h2, h3, h4⟩ := S'.oF nm hnm c hc
                refine ⟨h1, h2, ?_, h4⟩
                show (if c = C then some oC else X.base c) = none
                rw [if_neg (nCell nm c hc)]; exact h3
              · have e' : (if a = C then some oC else X.base a) = some o := e
                by_cases q : a = C
                · rw [if_pos q] at e'; cases e'; rw [q]; exact hoC
                · rw [if_neg q] at e'; exact S'.base a o e'
              · show (if a = C then some oC else X.base a) = none
                rw [if_neg (fun q : a = C => nLoc (q ▸ mem_of_get e1))]; exact S'.baseLoc k a mo e1 e2
              · rcases S'.witE with h | h
                · exact .inl h
                · right
                  show (if X.wit = C then some oC else X.base X.wit) ≠ none
                  split
                  · exact nofun
                  · exact h
            refine wpAny_assign_Name (S2.store hX' hN (hown id) (fun h => hX.cell' h) rep fun s'' S3 => ?_)
            have hC3 : s''.heap.get? C = some oC := S3.base C oC (by show (if C = C then some oC else X.base C) = _; rw [if_pos rfl])
            refine ⟨mC, ⟨oC, esC, epC, hC3, hrC⟩, fun h' hb => ?_⟩
            have S4 : Sim P X F' loc' st' (fr.set x (some (.list r))) s'' := by
              refine ⟨S3.toHSim, S3.frm, S3.lF, S3.lLoc, S'.lB, S3.l0, fun nm hnm c hc => ?_, S3.oInj, fun a o e => S3.base a o ?_, fun k a mo e1 e2 => ?_, S3.newF, S3.newLoc, S'.limW, S'.witE, S'.limH⟩
              · obtain ⟨h1, h2, h3, h4⟩ := S3.oF nm hnm c hc
                exact ⟨h1, h2, (S'.oF nm hnm c hc).2.2.1, h4⟩
              · show (if a = C then some oC else X.base a) = some o
                rw [if_neg (fun q => by rw [q, nB] at e; cases e)]; exact e
              · have h3 : (if a = C then some oC else X.base a) = none := S3.baseLoc k a mo e1 e2
                rw [if_neg (fun q : a = C => nLoc (q ▸ mem_of_get e1))] at h3; exact h3
            refine wpAny_pure ?_
            exact wpAny_pure (SP.next xe (S4.keepsIn (s' := { s'' with heap := h' }) (fun a o hh e => (hb.2 a fun hq => nC (hq ▸ hh)).trans e) rfl rfl) q)
end
end Mine
end

section
open PySem PySem.W PyProof.Rows PySem.Spec PySem.SeqAt PySem.Calls
set_option Elab.async false
set_option maxRecDepth 100000
set_option maxHeartbeats 1000000
set_option autoImplicit false
set_option linter.unusedVariables false
namespace Mine
section
variable {P : PG} {X : Cx} {F : Gm} {loc : List Addr} {st : St} {fr : Frm} {s : Shared} {A : Around} {n : Nat} {G : List Str} {sc : Nms} {N : Slots}

/-- the slots of names in order -/
noncomputable def NamesAre (N : Slots) : List Nat → List Str → Prop
  | [], [] => True
  | x :: xs, a :: as => N[x]? = some (some a) ∧ NamesAre N xs as
  | _, _ => False

noncomputable def pickName (env : Env) (line : Nat) : Expr → Option Str
  | .Name id pos => if env.kindOf id == some .local && pos.line == line then some id else none
  | _ => none

theorem pick_len (env : Env) (line : Nat) : ∀ ts : List Expr, (ts.filterMap (pickName env line)).length ≤ ts.length := fun ts => List.length_filterMap_le _ _

theorem pick_names (env : Env) (line : Nat) : ∀ {xs : List Nat} {ts : List Expr}, namesOf N xs ts = true → (ts.filterMap (pickName env line)).length = ts.length → NamesAre N xs (ts.filterMap (pickName env line))
  | [], [], _, _ => trivial
  | [], _ :: _, h, _ => by simp [namesOf] at h
  | _ :: _, [], h, _ => by simp [namesOf] at h
  | x :: xs, t :: ts, h, hl => by
    obtain ⟨id, p, rfl, hh⟩ := i_names h
    rw [List.filterMap_cons] at hl ⊢
    cases e : pickName env line (.Name id p) with
    | none =>
      rw [e] at hl
      have := pick_len env line ts
      simp only [List.length_cons] at hl
      omega
    | some nm =>
      rw [e] at hl
      have hnm : nm = id := by
        have e' : (if env.kindOf id == some .local && p.line == line then some id else none) = some nm := e
        split at e'
        · cases e'; rfl
        · cases e'
      subst hnm
      refine ⟨slot_of hh.1, pick_names env line hh.2 ?_⟩
      simp only [List.length_cons] at hl
      exact Nat.succ.inj hl

theorem names_len : ∀ {xs : List Nat} {ts : List Expr}, namesOf N xs ts = true → ts.length = xs.length
  | [], [], _ => rfl
  | [], _ :: _, h => by simp [namesOf] at h
  | _ :: _, [], h => by simp [namesOf] at h
  | x :: xs, t :: ts, h => by
    obtain ⟨id, p, rfl, hh⟩ := i_names h
    simp [names_len hh.2]

theorem namesAre_len : ∀ {xs : List Nat} {ns : List Str}, NamesAre N xs ns → ns.length = xs.length
  | [], [], _ => rfl
  | [], _ :: _, h => h.elim
  | _ :: _, [], h => h.elim
  | _ :: _, _ :: _, h => by simp [namesAre_len h.2]

theorem swapped_any {xs : List Nat} {ts : List Expr} {k : Nat} {p : Pos} {v : Expr} {env : Env} (h : namesOf N xs ts = true) (hc : notConsts v = true) :
    swappedStores [.Tuple ts k p] v env = pure none ∨ ∃ names, swappedStores [.Tuple ts k p] v env = pure (some names) ∧ NamesAre N xs names ∧ (xs.length = 2 ∨ xs.length = 3) := by
  cases v with
  | Tuple vs k' p' =>
    have hc' : (vs.all (constantsAlone 8)) = false := by
      have hc : (!(vs.all (constantsAlone 8))) = true := hc
      simpa using hc
    have key : swappedStores [.Tuple ts k p] (.Tuple vs k' p') env = (
        if !(ts.length == 2 || ts.length == 3) || vs.length != ts.length || env.blockKind != .function then pure none else
        if vs.any (fun | .Starred .. => true | _ => false) then pure none else
        if (ts.filterMap (pickName env ((ts.head?.map (·.pos.line)).getD 0))).length != ts.length || (ts.filterMap (pickName env ((ts.head?.map (·.pos.line)).getD 0))).eraseDups.length != (ts.filterMap (pickName env ((ts.head?.map (·.pos.line)).getD 0))).length then pure none else
        if vs.all (foldedForSure 8) then pure none else
        if vs.all (constantsAlone 8) then (do unsupported "assign.tuple-of-constant-expressions:order-of-the-stores"; pure (some (ts.filterMap (pickName env ((ts.head?.map (·.pos.line)).getD 0))))) else
        pure (some (ts.filterMap (pickName env ((ts.head?.map (·.pos.line)).getD 0))))) := by
      rfl
    rw [key, hc']
    split
    · exact .inl rfl
    · rename_i h1
      split
      · exact .inl rfl
      · split
        · exact .inl rfl
        · rename_i h3
          split
          · exact .inl rfl
          · refine .inr ⟨_, rfl, pick_names env _ h ?_, ?_⟩
            · simp only [Bool.or_eq_true, not_or, bne_iff_ne, ne_eq, Decidable.not_not] at h3
              exact h3.1
            · rw [← names_len h]
              simp only [Bool.or_eq_true, not_or, Bool.not_eq_true', Bool.or_eq_false_iff, beq_eq_false_iff_ne, bne_iff_ne, ne_eq, Decidable.not_not] at h1
              exact Decidable.byContradiction fun h => h1.1.1 ⟨fun e => h (.inl e), fun e => h (.inr e)⟩
  | _ => exact .inl rfl

theorem swapsSole_tuple {ts : List Expr} {k : Nat} {p : Pos} {v : Expr} {l : Nat} {env : Env} : swapsWithSole [.Tuple ts k p] v l env = pure false := by
  cases v <;> rfl
theorem swaps_sub {o i : Expr} {p : Pos} {v : Expr} {l : Nat} {env : Env} : swapsWith v (some (.Subscript o i p)) l env = pure false := by
  cases v <;> rfl

theorem each_facts (env : Env) : ∀ {xs : List Nat} {ts : List Expr}, namesOf N xs ts = true → (assignEach ts env).length = xs.length ∧ (assignEach ts env).findIdx? (·.1) = none
  | [], [], _ => ⟨rfl, rfl⟩
  | [], _ :: _, h => by simp [namesOf] at h
  | _ :: _, [], h => by simp [namesOf] at h
  | x :: xs, t :: ts, h => by
    refine hide fun hn => ?_
    obtain ⟨id, p, rfl, hh⟩ := i_names h
    obtain ⟨h1, h2⟩ := each_facts env hh.2
    refine hn ?_; clear hn
    have hs : assignEach (.Name id p :: ts) env = (false, assign (.Name id p) env) :: assignEach ts env := rfl
    rw [hs]
    refine ⟨by simp [h1], ?_⟩
    rw [List.findIdx?_cons, h2]
    rfl

theorem each_snd {M : Model} (hX : X.Ok) (hown : OwnsAll X) (hcell : ∀ nm, X.env.kindOf nm = some .cell → ∃ c, X.env.cells.lookup nm = some c) :
    ∀ {xs : List Nat} {ts : List Expr}, namesOf X.N xs ts = true → ∀ {ds : List Dv} {vs : List Value} {fr : Frm} {s : Shared}, VReps P.fa F loc ds vs → ds.length = xs.length → Sim P X F loc st fr s →
    wpAny M A (assignInOrder ((assignEach ts X.env).map (·.2)) vs) (fun _ s' => Sim P X F loc st (setAll xs ds fr) s') NoE s
  | [], [], _, ds, vs, fr, s, r, hl, S => by
    cases ds with
    | nil => cases r; exact wpAny_pure S
    | cons _ _ => simp at hl
  | [], _ :: _, h, _, _, _, _, _, _, _ => by simp [namesOf] at h
  | _ :: _, [], h, _, _, _, _, _, _, _ => by simp [namesOf] at h
  | x :: xs, t :: ts, h, ds, vs, fr, s, r, hl, S => by
    obtain ⟨id, p, rfl, hh⟩ := i_names h
    cases ds with
    | nil => simp at hl
    | cons d ds =>
      cases r with
      | cons rv rs =>
      have hs : (assignEach (.Name id p :: ts) X.env).map (·.2) = assign (.Name id p) X.env :: (assignEach ts X.env).map (·.2) := rfl
      rw [hs]
      refine assignInOrder_cons (wpAny_assign_Name (S.store hX (slot_of hh.1) (hown id) (hcell id) rv fun s' S' => ?_))
      exact each_snd hX hown hcell hh.2 rs (by simpa using hl) S'

theorem names_snd {M : Model} (hX : X.Ok) (hown : OwnsAll X) (hcell : ∀ nm, X.env.kindOf nm = some .cell → ∃ c, X.env.cells.lookup nm = some c) :
    ∀ {xs : List Nat} {ns : List Str}, NamesAre X.N xs ns → ∀ {ds : List Dv} {vs : List Value} {fr : Frm} {s : Shared}, VReps P.fa F loc ds vs → ds.length = xs.length → Sim P X F loc st fr s →
    wpAny M A (assignInOrder (ns.map fun n => bindName X.env n) vs) (fun _ s' => Sim P X F loc st (setAll xs ds fr) s') NoE s
  | [], [], _, ds, vs, fr, s, r, hl, S => by
    cases ds with
    | nil => cases r; exact wpAny_pure S
    | cons _ _ => simp at hl
  | [], _ :: _, h, _, _, _, _, _, _, _ => h.elim
  | _ :: _, [], h, _, _, _, _, _, _, _ => h.elim
  | x :: xs, a :: as, h, ds, vs, fr, s, r, hl, S => by
      cases ds with
      | nil => simp at hl
      | cons d ds =>
        cases r with
        | cons rv rs =>
        refine assignInOrder_cons (bindName_ (S.store hX h.1 (hown a) (hcell a) rv fun s' S' => ?_))
        exact names_snd hX hown hcell h.2 rs (by simpa using hl) S'

theorem len_two {α : Type} {l : List α} (h : l.length = 2) : ∃ a b, l = [a, b] := by
  cases l with
  | nil => cases h
  | cons a l =>
    cases l with
    | nil => exact absurd h (by simp)
    | cons b l => exact ⟨a, b, by rw [List.eq_nil_of_length_eq_zero (Nat.succ.inj (Nat.succ.inj h))]⟩
theorem len_three {α : Type} {l : List α} (h : l.length = 3) : ∃ a b c, l = [a, b, c] := by
  cases l with
  | nil => cases h
  | cons a l =>
    obtain ⟨b, c, rfl⟩ := len_two (Nat.succ.inj h)
    exact ⟨a, b, c, rfl⟩
theorem setAll_rev {xs : List Nat} (hn : nodupNat xs = true) (h23 : xs.length = 2 ∨ xs.length = 3) {ds : List Dv} (hl : ds.length = xs.length) (fr : Frm) : setAll xs.reverse ds.reverse fr = setAll xs ds fr := by
  rcases h23 with h | h
  · obtain ⟨d1, d2, rfl⟩ := len_two (hl.trans h)
    obtain ⟨x, y, rfl⟩ := len_two h
    exact List.set_comm _ _ fun e => by subst e; simp [nodupNat] at hn
  · obtain ⟨d1, d2, d3, rfl⟩ := len_three (hl.trans h)
    obtain ⟨x, y, z, rfl⟩ := len_three h
    have hn : (x ≠ y ∧ x ≠ z) ∧ y ≠ z := by simpa [nodupNat] using hn
    show ((fr.set z (some d3)).set y (some d2)).set x (some d1) = ((fr.set x (some d1)).set y (some d2)).set z (some d3)
    rw [List.set_comm _ _ (Ne.symm hn.2), List.set_comm _ _ (Ne.symm hn.1.2), List.set_comm (i := y) _ _ (Ne.symm hn.1.1)]

theorem namesAre_rev {xs : List Nat} {ns : List Str} (h : NamesAre N xs ns) (h23 : xs.length = 2 ∨ xs.length = 3) : NamesAre N xs.reverse ns.reverse := by
  have hl := namesAre_len h
  rcases h23 with h2 | h2
  · obtain ⟨d1, d2, rfl⟩ := len_two (hl.trans h2)
    obtain ⟨x, y, rfl⟩ := len_two h2
    exact ⟨h.2.1, h.1, trivial⟩
  · obtain ⟨d1, d2, d3, rfl⟩ := len_three (hl.trans h2)
    obtain ⟨x, y, z, rfl⟩ := len_three h2
    exact ⟨h.2.2.1, h.2.1, h.1, trivial⟩

theorem sndS_unp {xs : List Nat} {m : ME} (hm : SndE P n G m) : SndS P n G (.unp xs m) := by
  intro sc N t he X hX hown fr st Q hw A F loc s hA S
  refine i_unp (R := fun t => wpAny (model P.prog P.w) A (exec t X.env) (SP P X F loc Q) NoE s) he fun ts k tp v pos he => ?_
  · simp only [Bool.and_eq_true] at he
    refine hide fun hn => ?_
    obtain ⟨⟨⟨h1, h2⟩, h3⟩, h4⟩ := he
    refine hn ?_; clear hn
    rw [wpS_r2] at hw
    have h1X : namesOf X.N xs ts = true := by rw [hX.slots]; exact h1
    rcases swapped_any (env := X.env) (k := k) (p := tp) h1X h3 with hs | ⟨names, hs, hnm, h23⟩
    · refine Assign_Tuple (ep_bind (hm sc N v h4 X hX fr st _ hw A F loc s hA S) fun F₁ loc₁ st₁ d₁ v₁ s₁ e₁ S₁ r₁ q₁ => ?_) swapsSole_tuple hs
      split at q₁
      · rename_i l
        cases r₁
        rename_i a o vs e hl r
        have ht : s₁.heap.IsTuple a vs.toArray := tup_isTup (S₁.keepF _ _ e) hl
        have hlen := r.length
        refine wpAny_assign_Tuple hA.1 ht (by rw [(each_facts X.env h1).1, ← q₁.1, hlen]; simp) (each_facts X.env h1).2 fun h' he => ?_
        have S2 : Sim P X F₁ loc₁ st₁ fr { s₁ with heap := h' } := S₁.keeps (fun a o e => he a o (Nat.ne_of_lt (Heap.lt_size e)) e) rfl rfl
        exact wpAny_mono (each_snd hX.ok hown (fun nm h => hX.cell' h) h1X r q₁.1 S2) (fun _ s' S' => SP.next e₁ S' q₁.2) fun _ _ x => x
      · exact q₁.elim
    · refine Assign_Tuple_swapped (ep_bind (hm sc N v h4 X hX fr st _ hw A F loc s hA S) fun F₁ loc₁ st₁ d₁ v₁ s₁ e₁ S₁ r₁ q₁ => ?_) swapsSole_tuple hs
      split at q₁
      · rename_i l
        cases r₁
        rename_i a o vs e hl r
        have ht : s₁.heap.IsTuple a vs.toArray := tup_isTup (S₁.keepF _ _ e) hl
        have hlen := r.length
        have hsz : names.length = vs.toArray.size := by rw [namesAre_len hnm, ← q₁.1, hlen]; simp
        rw [hsz]
        refine wpAny_unpackItems_tuple hA.1 ht fun h' he => ?_
        have S2 : Sim P X F₁ loc₁ st₁ fr { s₁ with heap := h' } := S₁.keeps (fun a o e => he a o (Nat.ne_of_lt (Heap.lt_size e)) e) rfl rfl
        refine wpAny_mono (names_snd hX.ok hown (fun nm h => hX.cell' h) (namesAre_rev hnm h23) r.reverse (by simp [q₁.1]) S2) (fun _ s' S' => SP.next e₁ ?_ q₁.2) fun _ _ x => x
        rw [setAll_rev h2 h23 q₁.1] at S'
        exact S'
      · exact q₁.elim
end
end Mine
end

section
open PySem PySem.W PyProof.Rows PySem.Spec PySem.SeqAt PySem.Calls
set_option Elab.async false
set_option maxRecDepth 100000
set_option maxHeartbeats 1000000
set_option autoImplicit false
set_option linter.unusedVariables false
namespace Mine
section
variable {P : PG} {X : Cx} {F : Gm} {loc : List Addr} {st : St} {fr : Frm} {s : Shared} {A : Around} {n : Nat} {G : List Str} {sc : Nms} {N : Slots}

theorem seti_snd {M : Prop} (S : Sim P X F loc st fr s) {od di d : Dv} {ov iv v : Value} (ro : VRep P.fa F loc od ov) (ri : VRep P.fa F loc di iv) (rv : VRep P.fa F loc d v) {Q : St → Prop} (h : setOk st od di d Q) :
    wpAny (model P.prog P.w) A (setItem ov iv v) (fun _ s' => ∃ st', Sim P X F loc st' fr s' ∧ Q st') NoE s := by
  unfold setOk at h
  split at h
  · rename_i m k
    cases ro with
    | @ref _ a e =>
    cases ri
    split at h
    · rename_i l q
      refine hide fun hn => ?_
      obtain ⟨h0, h1, h2, hp, hQ⟩ := h
      obtain ⟨o, vs, ho, ⟨c, rfl⟩, r⟩ := S.mrep _ _ _ e q
      refine hn ?_; clear hn
      have hlen := r.length
      refine ki_setAt (n := c) ho h0 (by omega) (by simp; omega) ?_
      have hq := PySem.IsL.update (n := c) ho (fun x => x.setIfInBounds k.toNat v)
      refine ⟨_, S.write e q (Heap.SameBut.update ..) rfl rfl (mo' := .list (l.set k.toNat d)) ?_, hQ⟩
      refine ⟨_, vs.set k.toNat v, hq, ⟨(if ((vs.toArray.setIfInBounds k.toNat v).size == vs.toArray.size) = true then c else c + 1), ?_⟩, VReps.set (rv.purify [] hp) r _⟩
      simp
    · rename_i kvs q
      refine hide fun hn => ?_
      obtain ⟨h0, hp, hQ⟩ := h
      obtain ⟨kvs', hd, hkv⟩ := S.mrep _ _ _ e q
      refine hn ?_; clear hn
      refine wpAny_setItem_pairs (intKind_is P.prog P.w k _) hd (fun h' hd' hs => ?_) (by rw [← hkv.length]; exact Nat.le_trans h0 (by decide))
      refine ⟨_, S.write e q hs rfl rfl (mo' := .dict (dput kvs k d)) ⟨_, hd', dput_snd (rv.purify [] hp) hkv⟩, hQ⟩
    · exact h.elim
  · exact h.elim

theorem sndS_seti {o i m : ME} (ho : SndE P n G o) (hi : SndE P n G i) (hm : SndE P n G m) : SndS P n G (.seti o i m) := by
  intro sc N t he X hX hown fr st Q hw A F loc s hA S
  refine i_seti (R := fun t => wpAny (model P.prog P.w) A (exec t X.env) (SP P X F loc Q) NoE s) he fun ovx ivx sp v pos he => ?_
  · simp only [Bool.and_eq_true] at he
    obtain ⟨⟨h1, h2⟩, h3⟩ := he
    rw [wpS_r3] at hw
    refine wpAny_Assign_Subscript (ep_bind (hm sc N v h1 X hX fr st _ hw A F loc s hA S) fun F₁ loc₁ st₁ d₁ v₁ s₁ e₁ S₁ r₁ q₁ => ?_) swaps_sub
    refine ep_bind (ho sc N _ h2 X hX fr st₁ _ q₁ A F₁ loc₁ s₁ hA S₁) fun F₂ loc₂ st₂ d₂ v₂ s₂ e₂ S₂ r₂ q₂ => ?_
    refine ep_bind (hi sc N _ h3 X hX fr st₂ _ q₂ A F₂ loc₂ s₂ hA S₂) fun F₃ loc₃ st₃ d₃ v₃ s₃ e₃ S₃ r₃ q₃ => ?_
    refine wpAny_mono (seti_snd (M := True) S₃ (r₂.mono e₃) r₃ (r₁.mono (e₂.trans e₃)) q₃) (fun _ s' ⟨st', S', q⟩ => SP.next ((e₁.trans e₂).trans e₃) S' q) fun _ _ x => x

theorem iop_snd {E : Value → Shared → Prop} {op : Operator} {i j : Int} {t u : Tok} {Q : Dv → St → Prop} {R : Value → Shared → Prop} (ho : ([.Add, .Sub, .Mod, .BitOr, .RShift] : List Operator).contains op = true) (h : binOk op false st (.int i) (.int j) Q)
    (hR : ∀ k t' tk, Q (.int k) st → R (.int k t') { s with toks := tk }) : wpAny (model P.prog P.w) A (inplaceOp op (.int i t) (.int j u)) R E s := by
  cases op with
  | Add => exact PySem.P.iadd_int (hR _ _ _ h)
  | Sub => exact PySem.P.isub_int (hR _ _ _ h)
  | Mod => exact imod_int h.1 (hR _ _ _ h.2)
  | BitOr => exact ior_int (hR _ _ _ h)
  | RShift => exact irshift_int h.1 (hR _ _ _ h.2.2)
  | _ => exact absurd ho (by decide)

theorem sndS_aug {x : Nat} {op : Operator} {m : ME} (hm : SndE P n G m) : SndS P n G (.aug x op m) := by
  intro sc N t he X hX hown fr st Q hw A F loc s hA S
  refine i_aug (R := fun t => wpAny (model P.prog P.w) A (exec t X.env) (SP P X F loc Q) NoE s) he fun id p op' v pos he => ?_
  · simp only [Bool.and_eq_true, beq_iff_eq] at he
    refine hide fun hn => ?_
    obtain ⟨⟨⟨h1, rfl⟩, h3⟩, h4⟩ := he
    refine hn ?_; clear hn
    have hN : X.N[x]? = some (some id) := by rw [hX.slots]; exact slot_of h1
    rw [wpS_r4] at hw
    split at hw
    · rename_i i hi
      refine wpAny_AugAssign_Name (S.read hX.ok hN hi fun w r => ?_)
      refine ep_bind (hm sc N v h4 X hX fr st _ hw A F loc s hA S) fun F₁ loc₁ st₁ d₁ v₁ s₁ e₁ S₁ r₁ q₁ => ?_
      split at q₁
      · cases r; cases r₁
        refine iop_snd h3 q₁ fun k t' tk q => ?_
        exact (S₁.toks tk).store hX.ok hN (hown id) (hX.cell') (.int k t') fun s' S' => SP.next e₁ S' q
      · exact q₁.elim
    · exact hw.elim

theorem sndS_app {o m : ME} (ho : SndE P n G o) (hm : SndE P n G m) : SndS P n G (.app o m) := by
  intro sc N t he X hX hown fr st Q hw A F loc s hA S
  refine i_app (R := fun t => wpAny (model P.prog P.w) A (exec t X.env) (SP P X F loc Q) NoE s) he fun id p nm apos v pos pos' he => ?_
  · simp only [Bool.and_eq_true, beq_iff_eq] at he
    refine hide fun hn => ?_
    obtain ⟨⟨⟨rfl, h1⟩, h2⟩, h3⟩ := he
    refine hn ?_; clear hn
    rw [wpS_r9] at hw
    have hint : interactive X.env = false := by
      unfold interactive; rw [hX.ok.kind]; rfl
    have hstar := (enc_noSet h3 .In X.env).2.2 []
    refine wpAny_Expr ?_ hint rfl
    refine wpAny_Call_append (by rfl) ?_ (by simpa using h1) ?_ ?_
    · rw [hstar]; rfl
    · rw [hstar]; rfl
    refine ep_bind (ho sc N _ h2 X hX fr st _ hw A F loc s hA S) fun F₁ loc₁ st₁ d₁ v₁ s₁ e₁ S₁ r₁ q₁ => ?_
    refine hide fun hn => ?_
    obtain ⟨⟨m', l, rfl, hl⟩, q₁⟩ := q₁
    refine hn ?_; clear hn
    cases r₁ with
    | @ref _ a e =>
    refine hide fun hn => ?_
    obtain ⟨o', vs, ho', ⟨c, rfl⟩, rvs⟩ := S₁.mrep _ _ _ e hl
    refine hn ?_; clear hn
    refine ⟨a, vs.toArray, rfl, ⟨_, c, ho', rfl, rfl, rfl⟩, ?_⟩
    refine ep_bind (hm sc N _ h3 X hX fr st₁ _ q₁ A F₁ loc₁ s₁ hA S₁) fun F₂ loc₂ st₂ d₂ v₂ s₂ e₂ S₂ r₂ q₂ => ?_
    simp only [appOk] at q₂
    split at q₂
    · rename_i l2 q
      obtain ⟨h0, hp, hQ⟩ := q₂
      have e' := prefix_get e₂.2 e
      refine hide fun hn => ?_
      obtain ⟨o2, vs2, ho2, ⟨c2, rfl⟩, rvs2⟩ := S₂.mrep _ _ _ e' q
      refine hn ?_; clear hn
      have hlen := rvs2.length
      refine wpAny_list_append_plain ⟨c2, ho2⟩ (fun h' hp' hs => ?_) (by simp; rw [← hlen]; exact Nat.le_trans h0 (by decide))
      obtain ⟨c3, ho3⟩ := hp'
      refine SP.next (e₁.trans e₂) (S₂.write e' q hs rfl rfl (mo' := .list (l2 ++ [d₂])) ⟨_, vs2 ++ [v₂], ho3, ⟨c3, by simp⟩, rvs2.append (.cons (r₂.purify [] hp) .nil)⟩) hQ
    · exact q₂.elim

variable (hP : P.Ok) (hG : ∀ (k : Nat) (id : Str), G[k]? = some id → P.fname k = id)
include hP hG in
mutual
theorem allS : ∀ m : MS, SndS P n G m
  | .asg x (.comp elt tg it conds) => sndS_asg (allE hP hG (.comp elt tg it conds)) (by rintro e' t' i' c' ⟨⟩; exact ⟨allI hP hG it, allE hP hG elt, allC hP hG conds⟩)
  | .asg x e => sndS_asg (allE hP hG e) (by intro elt tg it conds h; subst h; exact ⟨allI hP hG it, allE hP hG elt, allC hP hG conds⟩)
  | .unp xs e => sndS_unp (allE hP hG e)
  | .seti o i e => sndS_seti (allE hP hG o) (allE hP hG i) (allE hP hG e)
  | .aug x op e => sndS_aug (allE hP hG e)
  | .iff t a b => sndS_iff (allT hP hG t) (allSs a) (allSs b)
  | .whil t b => sndS_whil (allT hP hG t) (allSs b)
  | .forr tg it b => sndS_forr (allI hP hG it) (allSs b)
  | .ret e => sndS_ret (allE hP hG e)
  | .app o e => sndS_app (allE hP hG o) (allE hP hG e)
  | .raise => sndS_raise
theorem allSs : ∀ m : MSs, SndSs P n G m
  | .nil => sndSs_nil
  | .cons s r => sndSs_cons (allS s) (allSs r)
end
end
end Mine
end

section
open PySem PySem.W PyProof.Rows PySem.Spec PySem.SeqAt PySem.Calls
set_option Elab.async false
set_option maxRecDepth 100000
set_option maxHeartbeats 1000000
set_option autoImplicit false
set_option linter.unusedVariables false
namespace Mine

/-- what a def's function object says -/
structure FnIs (fd : FuncData) (sc : Nms) (ps : List Str) (body : List Stmt) : Prop where
  body : fd.body = .stmts body
  clo : fd.closure = []
  names : fd.scope.names = sc
  kind : fd.scope.kind = .function
  co : fd.scope.isCoroutine = false
  gen : fd.scope.isGenerator = false
  glob : fd.globals = mainGlobals
  blt : fd.builtins = builtinsNs
  bind : ∀ vs : List Value, vs.length = ps.length → bindArgs fd ⟨vs, []⟩ = pure (ps.zip vs)

noncomputable def fnOk (sc : Nms) (ps : List Str) (N : Slots) : Bool :=
  nodupB N && N.all (fun o => match o with | none => true | some nm => (sc.lookup nm == some .local || sc.lookup nm == some .cell) && !(nm == ("__debug__" : Str))) && (N.take ps.length == ps.map some)

noncomputable def initFr (N : Slots) (ds : List Dv) : Frm := ds.map some ++ List.replicate (N.length - ds.length) none

theorem bindL_notin (kindOf : Str → Option NameKind) : ∀ (binds : List (Str × Value)) (m : Str → Option Value) (nm : Str), (∀ p ∈ binds, p.1 ≠ nm) → bindL kindOf binds m nm = m nm
  | [], _, _, _ => rfl
  | (a, v) :: r, m, nm, h => by
    unfold bindL
    rw [bindL_notin kindOf r _ nm fun p hp => h p (.tail _ hp)]
    split
    · exact if_neg (Ne.symm (h (a, v) (.head _)))
    · rfl
theorem bindC_notin (kindOf : Str → Option NameKind) : ∀ (binds : List (Str × Value)) (m : Str → Option Value) (nm : Str), (∀ p ∈ binds, p.1 ≠ nm) → bindC kindOf binds m nm = m nm
  | [], _, _, _ => rfl
  | (a, v) :: r, m, nm, h => by
    unfold bindC
    rw [bindC_notin kindOf r _ nm fun p hp => h p (.tail _ hp)]
    split
    · rfl
    · exact if_neg (Ne.symm (h (a, v) (.head _)))

theorem bindL_get (kindOf : Str → Option NameKind) : ∀ (ps : List Str) (vs : List Value) (m : Str → Option Value) (i : Nat) (nm : Str) (v : Value), (∀ (i j : Nat) (nm : Str), ps[i]? = some nm → ps[j]? = some nm → i = j) → ps[i]? = some nm → vs[i]? = some v →
    kindOf nm = some .local → bindL kindOf (ps.zip vs) m nm = some v
  | [], _, _, i, _, _, _, h, _, _ => by simp at h
  | _ :: _, [], _, i, _, _, _, _, h, _ => by simp at h
  | p :: ps, u :: vs, m, 0, nm, v, inj, h1, h2, hk => by
    simp at h1 h2; subst h1; subst h2
    rw [List.zip_cons_cons]
    unfold bindL
    rw [if_pos hk, bindL_notin]
    · rw [if_pos rfl]
    · intro q hq e
      have := (List.of_mem_zip (a := q.1) (b := q.2) hq).1
      obtain ⟨j, hj⟩ := List.mem_iff_getElem?.mp this
      have := inj 0 (j + 1) p rfl (by rw [List.getElem?_cons_succ, hj, e])
      omega
  | p :: ps, u :: vs, m, i + 1, nm, v, inj, h1, h2, hk => by
    simp at h1 h2
    rw [List.zip_cons_cons]
    unfold bindL
    exact bindL_get kindOf ps vs _ i nm v (fun i j nm e1 e2 => by have := inj (i + 1) (j + 1) nm (by simpa using e1) (by simpa using e2); omega) h1 h2 hk
theorem bindC_get (kindOf : Str → Option NameKind) : ∀ (ps : List Str) (vs : List Value) (m : Str → Option Value) (i : Nat) (nm : Str) (v : Value), (∀ (i j : Nat) (nm : Str), ps[i]? = some nm → ps[j]? = some nm → i = j) → ps[i]? = some nm → vs[i]? = some v →
    kindOf nm = some .cell → bindC kindOf (ps.zip vs) m nm = some v
  | [], _, _, i, _, _, _, h, _, _ => by simp at h
  | _ :: _, [], _, i, _, _, _, _, h, _ => by simp at h
  | p :: ps, u :: vs, m, 0, nm, v, inj, h1, h2, hk => by
    simp at h1 h2; subst h1; subst h2
    rw [List.zip_cons_cons]
    unfold bindC
    rw [if_neg (by rw [hk]; decide), bindC_notin]
    · rw [if_pos rfl]
    · intro q hq e
      have := (List.of_mem_zip (a := q.1) (b := q.2) hq).1
      obtain ⟨j, hj⟩ := List.mem_iff_getElem?.mp this
      have := inj 0 (j + 1) p rfl (by rw [List.getElem?_cons_succ, hj, e])
      omega
  | p :: ps, u :: vs, m, i + 1, nm, v, inj, h1, h2, hk => by
    simp at h1 h2
    rw [List.zip_cons_cons]
    unfold bindC
    exact bindC_get kindOf ps vs _ i nm v (fun i j nm e1 e2 => by have := inj (i + 1) (j + 1) nm (by simpa using e1) (by simpa using e2); omega) h1 h2 hk

/-- what the call's store looks like from outside: live entries -/
noncomputable def live (loc : List Addr) (st : St) (a : Addr) : Prop := ∃ (i : Nat) (mo : Mo), loc[i]? = some a ∧ st[i]? = some (some mo)

open Classical in
noncomputable def callCx (fd : FuncData) (sc : Nms) (N : Slots) (F : Gm) (loc : List Addr) (st : St) (s : Shared) (a : Addr) : Cx where
  env := callEnvC fd s.heap.objs.size a
  N := N
  own := sc.map (·.1)
  base := fun b => if live loc st b then none else s.heap.get? b
  old := fun b => F b ≠ none ∨ b ∈ loc
  lim := s.heap.objs.size
  wit := s.heap.objs.size

section
variable {P : PG} {F : Gm} {loc : List Addr} {st : St} {s : Shared} {A : Around} {n : Nat} {G : List Str} {sc : Nms} {N : Slots}

theorem fnOk_facts {ps : List Str} (h : fnOk sc ps N = true) : (∀ (i j : Nat) (nm : Str), N[i]? = some (some nm) → N[j]? = some (some nm) → i = j) ∧
    (∀ (i : Nat) (nm : Str), N[i]? = some (some nm) → (sc.lookup nm = some .local ∨ sc.lookup nm = some .cell) ∧ (nm == ("__debug__" : Str)) = false) ∧
    (∀ (i : Nat) (nm : Str), ps[i]? = some nm → N[i]? = some (some nm)) ∧ ps.length ≤ N.length := by
  unfold fnOk at h
  simp only [Bool.and_eq_true, beq_iff_eq] at h
  obtain ⟨⟨h1, h2⟩, h3⟩ := h
  refine ⟨nodupB_inj h1, fun i nm e => ?_, fun i nm e => ?_, ?_⟩
  · have := List.all_eq_true.mp h2 _ (List.mem_of_getElem? e)
    simp only [Bool.and_eq_true, Bool.or_eq_true, beq_iff_eq, Bool.not_eq_true'] at this
    exact this
  · have hlt : i < ps.length := by
      rcases Nat.lt_or_ge i ps.length with h | h
      · exact h
      · rw [List.getElem?_eq_none h] at e; cases e
    have : (N.take ps.length)[i]? = some (some nm) := by rw [h3]; simp [e]
    rw [List.getElem?_take] at this
    simpa [hlt] using this
  · have := congrArg List.length h3
    rw [List.length_take, List.length_map] at this
    rw [← this]; exact Nat.min_le_right _ _

theorem callCx_cxx {fd : FuncData} {ps : List Str} {body : List Stmt} (hf : FnIs fd sc ps body) (hok : fnOk sc ps N = true) (a : Addr) : Cxx (callCx fd sc N F loc st s a) sc N := by
  obtain ⟨h1, h2, h3, _⟩ := fnOk_facts hok
  have hk : ∀ nm, (callCx fd sc N F loc st s a).env.kindOf nm = sc.lookup nm := fun nm => by
    show fd.scope.names.lookup nm = _
    rw [hf.names]
  refine ⟨⟨hf.kind, hf.glob, hf.blt, h1, fun i nm e => (h2 i nm e).2, fun i nm e => ?_⟩, hf.names, rfl, fun nm e => ?_⟩
  · rw [hk]; exact (h2 i nm e).1
  · show ∃ c, (cellsFrom (s.heap.objs.size + 1) fd.scope.names []).lookup nm = some c
    rw [hf.names]
    obtain ⟨c, hc⟩ := cellsFrom_has sc (s.heap.objs.size + 1) nm (lookup_mem e)
    exact mem_lookup_some hc

theorem callCx_owns {fd : FuncData} {ps : List Str} {body : List Stmt} (hf : FnIs fd sc ps body) (a : Addr) : OwnsAll (callCx fd sc N F loc st s a) := fun nm h => by
  have h' : fd.scope.names.lookup nm = some .cell := h
  rw [hf.names] at h'
  exact List.mem_map.mpr ⟨_, lookup_mem h', rfl⟩

theorem call_start {fd : FuncData} {ps : List Str} {body : List Stmt} (hf : FnIs fd sc ps body) (hok : fnOk sc ps N = true) {a : Addr} (S : HSim P F loc st s) (hsz : P.H0.objs.size ≤ s.heap.objs.size) {ds : List Dv} {vs : List Value} (r : VReps P.fa F loc ds vs) (hl : ds.length = ps.length)
    {s₁ : Shared} (I : InCallC s (callEnvC fd s.heap.objs.size a).locals (bindL (callEnvC fd s.heap.objs.size a).kindOf (ps.zip vs) fun _ => none) (callEnvC fd s.heap.objs.size a).cells
        (bindC (callEnvC fd s.heap.objs.size a).kindOf (ps.zip vs) fun _ => none) s₁) : Sim P (callCx fd sc N F loc st s a) F loc st (initFr N ds) s₁ := by
  classical
  obtain ⟨h1, h2, h3, h4⟩ := fnOk_facts hok
  have top : s.heap.get? s.heap.objs.size = none := by
    cases e : s.heap.get? s.heap.objs.size with
    | none => rfl
    | some o => exact absurd (Heap.lt_size e) (Nat.lt_irrefl _)
  have above : ∀ b, s.heap.objs.size ≤ b → s.heap.get? b = none := fun b hb => by
    cases e : s.heap.get? b with
    | none => rfl
    | some o => exact absurd (Heap.lt_size e) (Nat.not_lt.mpr hb)
  have noF : ∀ b, s.heap.get? b = none → F b = none ∧ b ∉ loc ∧ P.H0.get? b = none := fun b hb => by
    refine ⟨?_, fun h => ?_, ?_⟩
    · cases e : F b with
      | none => rfl
      | some o => rw [S.keepF b o e] at hb; cases hb
    · obtain ⟨o, e⟩ := S.ex b h; rw [e] at hb; cases hb
    · cases e : P.H0.get? b with
      | none => rfl
      | some o => rw [S.h0 b o e] at hb; cases hb
  have noB : ∀ b, s.heap.get? b = none → (callCx fd sc N F loc st s a).base b = none := fun b hb => by
    show (if live loc st b then none else s.heap.get? b) = none
    split
    · rfl
    · exact hb
  have hk : ∀ nm, (callEnvC fd s.heap.objs.size a).kindOf nm = sc.lookup nm := fun nm => by
    show fd.scope.names.lookup nm = _
    rw [hf.names]
  obtain ⟨h₁, tk, hs₁⟩ := I.toInCall.same
  have hab : ∀ nm c, (callEnvC fd s.heap.objs.size a).cells.lookup nm = some c → s.heap.objs.size < c := fun nm c hc => I.above nm c (lookup_mem hc)
  refine ⟨S.keeps I.toInCall.keep (by rw [hs₁]) (by rw [hs₁]), ?_, (noF _ top).1, (noF _ top).2.1, noB _ top, (noF _ top).2.2, fun nm hnm c hc => ?_, fun nm hnm nm' c e e' => name_of_addr I.apart (lookup_mem e) (lookup_mem e'), fun b o e => ?_, fun i b mo e1 e2 => ?_, fun b hb => .inl (.inl hb), fun b hb => .inl (.inr hb), Nat.le_succ _, .inl rfl, hsz⟩
  · refine ⟨_, _, I.toInCall.ns, I.cell, fun i nm d e1 e2 => ?_⟩
    have e1' : N[i]? = some (some nm) := e1
    have hi : i < ds.length := by
      rcases Nat.lt_or_ge i ds.length with h | h
      · exact h
      · unfold initFr at e2
        rw [List.getElem?_append_right (by simpa using h), List.getElem?_replicate] at e2
        split at e2
        · cases e2
        · cases e2
    have e2' : ds[i]? = some d := by
      unfold initFr at e2
      rw [List.getElem?_append_left (by simpa using hi), List.getElem?_map] at e2
      cases q : ds[i]? with
      | none => rw [q] at e2; cases e2
      | some d' => rw [q] at e2; simpa using e2
    obtain ⟨v, hv, rv⟩ := r.get e2'
    have hip : i < ps.length := hl ▸ hi
    have hp : ps[i]? = some nm := by
      have hp := h3 i ps[i] (List.getElem?_eq_getElem hip)
      rw [e1'] at hp
      rw [List.getElem?_eq_getElem hip]
      simpa using hp.symm
    have inj : ∀ (i j : Nat) (nm : Str), ps[i]? = some nm → ps[j]? = some nm → i = j := fun i j nm q1 q2 => h1 i j nm (h3 i nm q1) (h3 j nm q2)
    refine ⟨v, rv, ?_⟩
    rcases (h2 i nm e1').1 with hloc | hcell
    · exact .inl ⟨(hk nm).trans hloc, bindL_get _ _ _ _ i nm v inj hp hv ((hk nm).trans hloc)⟩
    · refine .inr ⟨(hk nm).trans hcell, bindC_get _ _ _ _ i nm v inj hp hv ((hk nm).trans hcell), (callCx_cxx hf hok a).cells nm hcell⟩
  · have hc' := hab nm c hc
    have hn := above c (Nat.le_of_lt hc')
    obtain ⟨q1, q2, q3⟩ := noF c hn
    exact ⟨q1, q2, noB c hn, q3, Nat.ne_of_gt hc'⟩
  · have e' : (if live loc st b then none else s.heap.get? b) = some o := e
    split at e'
    · cases e'
    · exact I.toInCall.keep b o e'
  · show (if live loc st b then none else s.heap.get? b) = none
    rw [if_pos ⟨i, mo, e1, e2⟩]
end
end Mine
end

section
open PySem PySem.W PyProof.Rows PySem.Spec PySem.SeqAt PySem.Calls
set_option Elab.async false
set_option maxRecDepth 100000
set_option maxHeartbeats 1000000
set_option autoImplicit false
set_option linter.unusedVariables false
namespace Mine
section
variable {P : PG} {F : Gm} {loc : List Addr} {st : St} {s : Shared} {A : Around} {n : Nat} {G : List Str} {sc : Nms} {N : Slots}

theorem HSim.takeSt {F' : Gm} {loc' : List Addr} {st' : St} {s' : Shared} (H : HSim P F' loc' st' s') (hp : loc <+: loc') : HSim P F' loc (st'.take loc.length) s' := by
  have hg : ∀ {i : Nat} {a : Addr}, loc[i]? = some a → loc'[i]? = some a := fun e => prefix_get hp e
  have hm : ∀ {a : Addr}, a ∈ loc → a ∈ loc' := fun h => hp.subset h
  refine ⟨H.keepF, ?_, fun i a mo e1 e2 => ?_, fun i j a e1 e2 => H.nodup i j a (hg e1) (hg e2), fun a h => H.ex a (hm h), fun a h => H.apart a (hm h), fun a h => H.low a (hm h), H.h0, H.gens, H.os⟩
  · have h1 := hp.length_le
    have h2 := H.len
    rw [List.length_take]; exact (Nat.min_eq_left (h2 ▸ h1)).symm
  · refine H.mrep i a mo (hg e1) ?_
    rw [List.getElem?_take] at e2
    split at e2
    · exact e2
    · cases e2

theorem HSim.putF {F' : Gm} {loc' : List Addr} {st' : St} {s' : Shared} (H : HSim P F' loc' st' s') {a : Addr} {o : Obj} (ho : s'.heap.get? a = some o) (hF : F' a = none) (hl : a ∉ loc') : Gsub F' (F'.put a o) ∧ HSim P (F'.put a o) loc' st' s' := by
  have hs : Gsub F' (F'.put a o) := Gsub.put hF
  refine ⟨hs, ⟨fun b ob e => ?_, H.len, fun i b mo e1 e2 => (H.mrep i b mo e1 e2).mono hs, H.nodup, H.ex, fun b h => ?_, H.low, H.h0, H.gens, H.os⟩⟩
  · by_cases hb : b = a
    · subst hb; rw [Gm.put_same] at e; cases e; exact ho
    · rw [Gm.put_ne hb] at e; exact H.keepF b ob e
  · rw [Gm.put_ne (fun q : b = a => hl (q ▸ h))]; exact H.apart b h

noncomputable def flowVal : Flow → Value
  | .ret v => v
  | _ => .none

theorem call_end {fd : FuncData} {a : Addr} (S : HSim P F loc st s) {Q : Dv → St → Prop} {f : Flow} {s' : Shared}
    (h : SP P (callCx fd sc N F loc st s a) F loc (fun o _ st' => fin st.length o st' Q) f s') :
    CallP P F loc st s Q (flowVal f) s' := by
  classical
  refine hide fun hn => ?_
  obtain ⟨F', loc', st', fr', o, x, S', hf, hfin⟩ := h
  refine hn ?_; clear hn
  have H' := S'.toHSim
  have hnew : ∀ a, F' a ≠ none → F a ≠ none ∨ s.heap.objs.size ≤ a := fun b hb => by
    rcases S'.newF b hb with (q | q) | q
    · exact .inl q
    · exact absurd (H'.apart b (x.2.subset q)) hb
    · exact .inr q
  have hkeep : ∀ b ob, s.heap.get? b = some ob → (∀ (i : Nat) (mo : Mo), loc[i]? = some b → st[i]? ≠ some (some mo)) → s'.heap.get? b = some ob := fun b ob e hn => by
    refine S'.base b ob ?_
    show (if live loc st b then none else s.heap.get? b) = some ob
    rw [if_neg (by rintro ⟨i, mo, e1, e2⟩; exact hn i mo e1 e2)]; exact e
  have hlive : ∀ (i : Nat) (mo : Mo), (st'.take loc.length)[i]? = some (some mo) → ∃ mo', st[i]? = some (some mo') := fun i mo e => by
    rw [List.getElem?_take] at e
    split at e
    · rename_i hi
      have e1 : loc[i]? = some loc[i] := List.getElem?_eq_getElem hi
      have hb := S'.baseLoc i loc[i] mo (prefix_get x.2 e1) e
      have hb' : (if live loc st loc[i] then none else s.heap.get? loc[i]) = none := hb
      split at hb'
      · rename_i hl
        obtain ⟨j, mo', e2, e3⟩ := hl
        exact ⟨mo', by rw [S.nodup i j _ e1 e2]; exact e3⟩
      · obtain ⟨ob, eo⟩ := S.ex loc[i] (List.getElem_mem hi)
        rw [eo] at hb'; cases hb'
    · cases e
  have hT := H'.takeSt x.2
  have hlen : st.length = loc.length := S.len.symm
  cases o with
  | none =>
    subst hf
    refine ⟨F', st'.take loc.length, .none, x.1, hnew, hT, hkeep, hlive, .none, ?_⟩
    unfold fin at hfin
    rw [hlen] at hfin; exact hfin
  | some d =>
    obtain ⟨v, rfl, rv⟩ := hf
    have pureCase : d.pure = true → Q d (st'.take st.length) → CallP P F loc st s Q v s' := fun hp hq => by
      rw [hlen] at hq
      exact ⟨F', st'.take loc.length, d, x.1, hnew, hT, hkeep, hlive, rv.purify [] hp, hq⟩
    cases d with
    | ref k =>
      unfold fin at hfin
      obtain ⟨hk, hq⟩ := hfin
      cases rv with
      | @ref _ b e =>
      generalize hx : st'[k]? = x' at hq
      split at hq
      · rename_i l
        have hl := hx
        refine hide fun hn => ?_
        obtain ⟨ob, vs, ho, hlo, rs⟩ := H'.mrep k b (.list l) e hl
        refine hn ?_; clear hn
        have hb : b ∈ loc' := mem_of_get e
        have hbl : b ∉ loc := fun q => by
          obtain ⟨j, hj⟩ := get_of_mem q
          have hjl : j < loc.length := by
            rcases Nat.lt_or_ge j loc.length with h | h
            · exact h
            · rw [List.getElem?_eq_none h] at hj; cases hj
          have := H'.nodup j k b (prefix_get x.2 hj) e
          omega
        obtain ⟨hs, HP⟩ := hT.putF ho (H'.apart b hb) hbl
        refine ⟨F'.put b ob, st'.take loc.length, .list l, x.1.trans hs, fun c hc => ?_, HP, hkeep, hlive, .list Gm.put_same hlo (rs.mono ⟨hs, List.prefix_refl _⟩), ?_⟩
        · by_cases hcb : c = b
          · subst hcb
            rcases S'.newLoc c hb with (q | q) | q
            · have h1 := H'.apart c hb
              cases e3 : F c with
              | none => exact absurd e3 q
              | some o3 => rw [x.1 c o3 e3] at h1; cases h1
            · exact absurd q hbl
            · exact .inr q
          · rw [Gm.put_ne hcb] at hc; exact hnew c hc
        · rw [hlen] at hq; exact hq
      · exact hq.elim
    | none => exact pureCase hfin.1 hfin.2
    | bool b => exact pureCase hfin.1 hfin.2
    | int i => exact pureCase hfin.1 hfin.2
    | list l => exact pureCase hfin.1 hfin.2
    | tup l => exact pureCase hfin.1 hfin.2
    | fn k => exact pureCase hfin.1 hfin.2

variable (hP : P.Ok) (hG : ∀ (k : Nat) (id : Str), G[k]? = some id → P.fname k = id)
include hP hG

/-- the walk: a def's contract from its text's weakest precondition -/
theorem code_of_body {k : Nat} {ps : List Str} {body : List Stmt} {m : MSs} (hf : FnIs (P.fd k) sc ps body) (hok : fnOk sc ps N = true) (he : encSs G sc N m body = true)
    {ds : List Dv} {Q : Dv → St → Prop} (hl : ds.length = ps.length) (hw : wpSs (CallOK P n) m (initFr N ds) st fun o _ st' => fin st.length o st' Q)
    {vs : List Value} (hA : AOk (n + 1) A) (S : HSim P F loc st s) (r : VReps P.fa F loc ds vs) (hsz : P.H0.objs.size ≤ s.heap.objs.size) {R : Result → Shared → Prop}
    (hR : ∀ v s', CallP P F loc st s Q v s' → R (.ok (.ret v)) s') :
    codeAny (model P.prog P.w) A (.call (.ref (P.fa k)) ⟨vs, []⟩) R s := by
  refine hide fun hn => ?_
  obtain ⟨_, ⟨o, ho, hdat⟩, hcr⟩ := hP.hfn k
  refine hn ?_; clear hn
  refine codeAny_call_cells (a := P.fa k) (o := o) (fd := P.fd k) (body := body) (binds := ps.zip vs) (Nat.lt_of_le_of_lt (Nat.le_add_right _ _) hA.2.1) (S.h0 _ _ ho) hdat (hP.hlim.keeps S.h0) (hcr.keeps S.h0) hf.body (hf.bind vs (by rw [← hl]; exact r.length.symm)) hf.clo ?_ ?_ hf.co hf.gen hf.kind
  · intro y hy
    obtain ⟨h1, h2, h3, h4⟩ := fnOk_facts hok
    have hm := (List.of_mem_zip (a := y.1) (b := y.2) hy).1
    obtain ⟨i, hi⟩ := List.mem_iff_getElem?.mp hm
    rw [hf.names]
    rcases (h2 i y.1 (h3 i y.1 hi)).1 with q | q
    · exact .inl q
    · refine .inr ⟨q, ?_⟩
      obtain ⟨c, hc⟩ := cellsFrom_has sc (s.heap.objs.size + 1) y.1 (lookup_mem q)
      obtain ⟨c', hc'⟩ := mem_lookup_some hc
      rw [hc']; rfl
  · intro s₁ I
    have S₁ := call_start (st := st) hf hok S hsz r hl I
    refine wpAny_mono (allSs hP hG m sc N body he _ (callCx_cxx hf hok _) (callCx_owns hf _) _ _ _ hw _ F loc s₁ (hA.deeper _) S₁) (fun f s' h => ?_) fun _ _ x => x.elim
    have h2 := call_end S h
    cases f <;> exact hR _ s' h2

theorem callOK_of_body {k : Nat} {ps : List Str} {body : List Stmt} {m : MSs} (hf : FnIs (P.fd k) sc ps body) (hok : fnOk sc ps N = true) (he : encSs G sc N m body = true)
    {ds : List Dv} {Q : Dv → St → Prop} (hl : ds.length = ps.length) (hw : wpSs (CallOK P n) m (initFr N ds) st fun o _ st' => fin st.length o st' Q) : CallOK P (n + 1) k ds st Q := by
  intro A F loc s vs hA S r hsz
  exact wpAny_call (code_of_body hP hG hf hok he hl hw hA S r hsz fun v s' h => h)
end
end Mine
end

section
open PySem PySem.W PyProof.Rows PySem.Spec PySem.SeqAt PySem.Calls
set_option Elab.async false
set_option maxRecDepth 100000
set_option maxHeartbeats 1000000
set_option autoImplicit false
set_option linter.unusedVariables false
namespace Mine
noncomputable def fnNames : List Str := ["first_one", "sum_of_rows", "cleared", "without_sum", "normal", "compare", "divrem_limb", "shift_left", "shift_right", "bits", "mul_school", "divrem_small", "guessed_limb", "take_away", "put_back", "divide_rows", "divrem_school", "exponents", "two_roots", "_law_strung", "_law_limbs", "_law_number", "_law_parted", "_law_whole", "_law_are_told", "_law_left", "_law_goes_on", "law"]

noncomputable def m_first_one : MSs := (.cons (.forr (.two 1 2) (.enum (.var 0)) (.cons (.iff (.cmp .Eq (.var 2) (.int 1)) (.cons (.ret (.var 1)) .nil) .nil) .nil)) (.cons (.ret (.neg (.int 1))) .nil))
noncomputable def n_first_one : Slots := [some (Str.ofString "row"), some (Str.ofString "place"), some (Str.ofString "one")]
noncomputable def p_first_one : List Str := ["row"]

noncomputable def m_sum_of_rows : MSs := (.cons (.ret (.comp (.bin .BitXor false (.var 2) (.var 3)) (.two 2 3) (.zip (.var 0) (.var 1)) .nil)) .nil)
noncomputable def n_sum_of_rows : Slots := [some (Str.ofString "one"), some (Str.ofString "other"), none, none]
noncomputable def p_sum_of_rows : List Str := ["one", "other"]

noncomputable def m_cleared : MSs := (.cons (.asg 2 (.call (.fn 0) (.cons (.var 0) .nil))) (.cons (.whil (.cmp .In (.var 2) (.var 1)) (.cons (.asg 0 (.call (.fn 1) (.cons (.var 0) (.cons (.item (.var 1) (.var 2)) .nil)))) (.cons (.asg 2 (.call (.fn 0) (.cons (.var 0) .nil))) .nil))) (.cons (.ret (.var 0)) .nil)))
noncomputable def n_cleared : Slots := [some (Str.ofString "row"), some (Str.ofString "kept"), some (Str.ofString "place")]
noncomputable def p_cleared : List Str := ["row", "kept"]

noncomputable def m_without_sum : MSs := (.cons (.unp [1, 2, 3] (.tup (.cons .dict0 (.cons (.list true .nil) (.cons (.bi .len (.cons (.var 0) .nil)) .nil))))) (.cons (.forr (.two 4 5) (.enum (.var 0)) (.cons (.asg 6 (.bi .len (.cons (.var 5) .nil))) (.cons (.asg 7 (.bin .Add false (.var 5) (.comp (.ife (.cmp .Eq (.var 9) (.var 4)) (.int 1) (.int 0)) (.one 9) (.range1 (.var 3)) .nil))) (.cons (.asg 7 (.call (.fn 2) (.cons (.var 7) (.cons (.var 1) .nil)))) (.cons (.asg 8 (.call (.fn 0) (.cons (.var 7) .nil))) (.cons (.iff (.cmp .Lt (.var 8) (.var 6)) (.cons (.seti (.var 1) (.var 8) (.var 7)) .nil) (.cons (.app (.var 2) (.comp (.var 10) (.one 10) (.range1 (.var 3)) (.cons (.cmp .Eq (.item (.var 7) (.bin .Add false (.var 6) (.var 10))) (.int 1)) .nil))) .nil)) .nil)))))) (.cons (.ret (.var 2)) .nil)))
noncomputable def n_without_sum : Slots := [some (Str.ofString "rows"), some (Str.ofString "kept"), some (Str.ofString "found"), some (Str.ofString "many"), some (Str.ofString "number"), some (Str.ofString "row"), some (Str.ofString "width"), some (Str.ofString "whole"), some (Str.ofString "place"), none, none]
noncomputable def p_without_sum : List Str := ["rows"]

noncomputable def m_normal : MSs := (.cons (.asg 1 (.bi .len (.cons (.var 0) .nil))) (.cons (.whil (.and (.cons (.cmp .Gt (.var 1) (.int 0)) (.cons (.cmp .Eq (.item (.var 0) (.bin .Sub false (.var 1) (.int 1))) (.int 0)) .nil))) (.cons (.aug 1 .Sub (.int 1)) .nil)) (.cons (.ret (.slice (.var 0) .no (.yes (.var 1)) .no)) .nil)))
noncomputable def n_normal : Slots := [some (Str.ofString "a"), some (Str.ofString "end")]
noncomputable def p_normal : List Str := ["a"]

noncomputable def m_compare : MSs := (.cons (.iff (.cmp .NotEq (.bi .len (.cons (.var 0) .nil)) (.bi .len (.cons (.var 1) .nil))) (.cons (.ret (.ife (.cmp .Lt (.bi .len (.cons (.var 0) .nil)) (.bi .len (.cons (.var 1) .nil))) (.neg (.int 1)) (.int 1))) .nil) .nil) (.cons (.forr (.one 2) (.range3 (.bin .Sub false (.bi .len (.cons (.var 0) .nil)) (.int 1)) (.neg (.int 1)) (.neg (.int 1))) (.cons (.iff (.cmp .NotEq (.item (.var 0) (.var 2)) (.item (.var 1) (.var 2))) (.cons (.ret (.ife (.cmp .Lt (.item (.var 0) (.var 2)) (.item (.var 1) (.var 2))) (.neg (.int 1)) (.int 1))) .nil) .nil) .nil)) (.cons (.ret (.int 0)) .nil)))
noncomputable def n_compare : Slots := [some (Str.ofString "a"), some (Str.ofString "b"), some (Str.ofString "at")]
noncomputable def p_compare : List Str := ["a", "b"]

noncomputable def m_divrem_limb : MSs := (.cons (.iff (.cmp .Eq (.var 1) (.int 0)) (.cons .raise .nil) .nil) (.cons (.unp [3, 4] (.tup (.cons (.bin .Mult true (.list false (.cons (.int 0) .nil)) (.bi .len (.cons (.var 0) .nil))) (.cons (.int 0) .nil)))) (.cons (.forr (.one 5) (.range3 (.bin .Sub false (.bi .len (.cons (.var 0) .nil)) (.int 1)) (.neg (.int 1)) (.neg (.int 1))) (.cons (.asg 4 (.bin .BitOr false (.bin .LShift false (.var 4) (.var 2)) (.item (.var 0) (.var 5)))) (.cons (.seti (.var 3) (.var 5) (.bin .FloorDiv false (.var 4) (.var 1))) (.cons (.aug 4 .Mod (.var 1)) .nil)))) (.cons (.ret (.tup (.cons (.call (.fn 4) (.cons (.var 3) .nil)) (.cons (.var 4) .nil)))) .nil))))
noncomputable def n_divrem_limb : Slots := [some (Str.ofString "a"), some (Str.ofString "limb"), some (Str.ofString "w"), some (Str.ofString "found"), some (Str.ofString "rest"), some (Str.ofString "at")]
noncomputable def p_divrem_limb : List Str := ["a", "limb", "w"]

noncomputable def m_shift_left : MSs := (.cons (.iff (.cmp .Eq (.bi .len (.cons (.var 0) .nil)) (.int 0)) (.cons (.ret (.list false .nil)) .nil) .nil) (.cons (.unp [3, 4] (.tup (.cons (.bin .FloorDiv false (.var 1) (.var 2)) (.cons (.bin .Mod false (.var 1) (.var 2)) .nil)))) (.cons (.unp [5, 6, 7] (.tup (.cons (.bin .Mult true (.list false (.cons (.int 0) .nil)) (.var 3)) (.cons (.int 0) (.cons (.bin .Sub false (.bin .LShift false (.int 1) (.var 2)) (.int 1)) .nil))))) (.cons (.forr (.one 8) (.lst (.var 0)) (.cons (.aug 6 .BitOr (.bin .LShift false (.var 8) (.var 4))) (.cons (.app (.var 5) (.bin .BitAnd false (.var 6) (.var 7))) (.cons (.aug 6 .RShift (.var 2)) .nil)))) (.cons (.iff (.cmp .Gt (.var 6) (.int 0)) (.cons (.app (.var 5) (.var 6)) .nil) .nil) (.cons (.ret (.var 5)) .nil))))))
noncomputable def n_shift_left : Slots := [some (Str.ofString "a"), some (Str.ofString "n"), some (Str.ofString "w"), some (Str.ofString "spots"), some (Str.ofString "few"), some (Str.ofString "found"), some (Str.ofString "carry"), some (Str.ofString "mask"), some (Str.ofString "one")]
noncomputable def p_shift_left : List Str := ["a", "n", "w"]

noncomputable def m_shift_right : MSs := (.cons (.unp [3, 4] (.tup (.cons (.bin .FloorDiv false (.var 1) (.var 2)) (.cons (.bin .Mod false (.var 1) (.var 2)) .nil)))) (.cons (.unp [5, 6] (.tup (.cons (.list true .nil) (.cons (.bin .Sub false (.bin .LShift false (.int 1) (.var 2)) (.int 1)) .nil)))) (.cons (.forr (.one 7) (.range2 (.var 3) (.bi .len (.cons (.var 0) .nil))) (.cons (.asg 8 (.ife (.cmp .Lt (.bin .Add false (.var 7) (.int 1)) (.bi .len (.cons (.var 0) .nil))) (.item (.var 0) (.bin .Add false (.var 7) (.int 1))) (.int 0))) (.cons (.app (.var 5) (.bin .BitAnd false (.bin .BitOr false (.bin .RShift false (.item (.var 0) (.var 7)) (.var 4)) (.bin .LShift false (.var 8) (.bin .Sub false (.var 2) (.var 4)))) (.var 6))) .nil))) (.cons (.ret (.call (.fn 4) (.cons (.var 5) .nil))) .nil))))
noncomputable def n_shift_right : Slots := [some (Str.ofString "a"), some (Str.ofString "n"), some (Str.ofString "w"), some (Str.ofString "spots"), some (Str.ofString "few"), some (Str.ofString "found"), some (Str.ofString "mask"), some (Str.ofString "at"), some (Str.ofString "above")]
noncomputable def p_shift_right : List Str := ["a", "n", "w"]

noncomputable def m_bits : MSs := (.cons (.ret (.ife (.cmp .Gt (.bi .len (.cons (.var 0) .nil)) (.int 0)) (.bin .Add false (.bin .Mult false (.bin .Sub false (.bi .len (.cons (.var 0) .nil)) (.int 1)) (.var 1)) (.bitlen (.item (.var 0) (.neg (.int 1))))) (.int 0))) .nil)
noncomputable def n_bits : Slots := [some (Str.ofString "a"), some (Str.ofString "w")]
noncomputable def p_bits : List Str := ["a", "w"]

noncomputable def m_mul_school : MSs := (.cons (.unp [3, 4] (.tup (.cons (.bin .Mult true (.list false (.cons (.int 0) .nil)) (.bin .Add false (.bi .len (.cons (.var 0) .nil)) (.bi .len (.cons (.var 1) .nil)))) (.cons (.bin .Sub false (.bin .LShift false (.int 1) (.var 2)) (.int 1)) .nil)))) (.cons (.forr (.two 5 6) (.enum (.var 0)) (.cons (.asg 7 (.int 0)) (.cons (.forr (.two 8 9) (.enum (.var 1)) (.cons (.aug 7 .Add (.bin .Add false (.item (.var 3) (.bin .Add false (.var 5) (.var 8))) (.bin .Mult false (.var 6) (.var 9)))) (.cons (.seti (.var 3) (.bin .Add false (.var 5) (.var 8)) (.bin .BitAnd false (.var 7) (.var 4))) (.cons (.aug 7 .RShift (.var 2)) .nil)))) (.cons (.seti (.var 3) (.bin .Add false (.var 5) (.bi .len (.cons (.var 1) .nil))) (.var 7)) .nil)))) (.cons (.ret (.call (.fn 4) (.cons (.var 3) .nil))) .nil)))
noncomputable def n_mul_school : Slots := [some (Str.ofString "a"), some (Str.ofString "b"), some (Str.ofString "w"), some (Str.ofString "found"), some (Str.ofString "mask"), some (Str.ofString "at"), some (Str.ofString "limb"), some (Str.ofString "carry"), some (Str.ofString "spot"), some (Str.ofString "other")]
noncomputable def p_mul_school : List Str := ["a", "b", "w"]

noncomputable def m_divrem_small : MSs := (.cons (.unp [3, 4] (.call (.fn 6) (.cons (.var 0) (.cons (.item (.var 1) (.int 0)) (.cons (.var 2) .nil))))) (.cons (.ret (.tup (.cons (.var 3) (.cons (.ife (.cmp .Gt (.var 4) (.int 0)) (.list false (.cons (.var 4) .nil)) (.list false .nil)) .nil)))) .nil))
noncomputable def n_divrem_small : Slots := [some (Str.ofString "a"), some (Str.ofString "b"), some (Str.ofString "w"), some (Str.ofString "quotient"), some (Str.ofString "rest")]
noncomputable def p_divrem_small : List Str := ["a", "b", "w"]

noncomputable def m_guessed_limb : MSs := (.cons (.unp [4, 5] (.tup (.cons (.bin .BitOr false (.bin .LShift false (.item (.var 0) (.int 2)) (.var 3)) (.item (.var 0) (.int 1))) (.cons (.bin .LShift false (.int 1) (.var 3)) .nil)))) (.cons (.asg 6 (.bi .min (.cons (.bin .FloorDiv false (.var 4) (.var 1)) (.cons (.bin .Sub false (.var 5) (.int 1)) .nil)))) (.cons (.asg 7 (.bin .Sub false (.var 4) (.bin .Mult false (.var 6) (.var 1)))) (.cons (.whil (.and (.cons (.cmp .Lt (.var 7) (.var 5)) (.cons (.cmp .Gt (.bin .Mult false (.var 6) (.var 2)) (.bin .BitOr false (.bin .LShift false (.var 7) (.var 3)) (.item (.var 0) (.int 0)))) .nil))) (.cons (.aug 6 .Sub (.int 1)) (.cons (.aug 7 .Add (.var 1)) .nil))) (.cons (.ret (.var 6)) .nil)))))
noncomputable def n_guessed_limb : Slots := [some (Str.ofString "top"), some (Str.ofString "first"), some (Str.ofString "second"), some (Str.ofString "w"), some (Str.ofString "high"), some (Str.ofString "base"), some (Str.ofString "limb"), some (Str.ofString "rest")]
noncomputable def p_guessed_limb : List Str := ["top", "first", "second", "w"]

noncomputable def m_take_away : MSs := (.cons (.unp [5, 6] (.tup (.cons (.int 0) (.cons (.bin .LShift false (.int 1) (.var 4)) .nil)))) (.cons (.forr (.two 7 8) (.enum (.var 1)) (.cons (.asg 9 (.bin .Sub false (.item (.var 0) (.bin .Add false (.var 3) (.var 7))) (.bin .Mod false (.bin .Add false (.bin .Mult false (.var 2) (.var 8)) (.var 5)) (.var 6)))) (.cons (.asg 5 (.bin .Add false (.bin .FloorDiv false (.bin .Add false (.bin .Mult false (.var 2) (.var 8)) (.var 5)) (.var 6)) (.ife (.cmp .Lt (.var 9) (.int 0)) (.int 1) (.int 0)))) (.cons (.seti (.var 0) (.bin .Add false (.var 3) (.var 7)) (.ife (.cmp .Lt (.var 9) (.int 0)) (.bin .Add false (.var 9) (.var 6)) (.var 9))) .nil)))) (.cons (.asg 9 (.bin .Sub false (.item (.var 0) (.bin .Add false (.var 3) (.bi .len (.cons (.var 1) .nil)))) (.var 5))) (.cons (.seti (.var 0) (.bin .Add false (.var 3) (.bi .len (.cons (.var 1) .nil))) (.ife (.cmp .Lt (.var 9) (.int 0)) (.bin .Add false (.var 9) (.var 6)) (.var 9))) (.cons (.ret (.ife (.cmp .Lt (.var 9) (.int 0)) (.int 1) (.int 0))) .nil)))))
noncomputable def n_take_away : Slots := [some (Str.ofString "rest"), some (Str.ofString "b"), some (Str.ofString "limb"), some (Str.ofString "at"), some (Str.ofString "w"), some (Str.ofString "carry"), some (Str.ofString "base"), some (Str.ofString "spot"), some (Str.ofString "other"), some (Str.ofString "here")]
noncomputable def p_take_away : List Str := ["rest", "b", "limb", "at", "w"]

noncomputable def m_divide_rows : MSs := (.cons (.asg 3 (.bi .len (.cons (.var 1) .nil))) (.cons (.asg 4 (.bin .Mult true (.list false (.cons (.int 0) .nil)) (.bin .Sub false (.bi .len (.cons (.var 0) .nil)) (.var 3)))) (.cons (.forr (.one 5) (.range3 (.bin .Sub false (.bin .Sub false (.bi .len (.cons (.var 0) .nil)) (.var 3)) (.int 1)) (.neg (.int 1)) (.neg (.int 1))) (.cons (.asg 6 (.call (.fn 12) (.cons (.slice (.var 0) (.yes (.bin .Sub false (.bin .Add false (.var 5) (.var 3)) (.int 2))) (.yes (.bin .Add false (.bin .Add false (.var 5) (.var 3)) (.int 1))) .no) (.cons (.item (.var 1) (.bin .Sub false (.var 3) (.int 1))) (.cons (.item (.var 1) (.bin .Sub false (.var 3) (.int 2))) (.cons (.var 2) .nil)))))) (.cons (.iff (.cmp .Eq (.call (.fn 13) (.cons (.var 0) (.cons (.var 1) (.cons (.var 6) (.cons (.var 5) (.cons (.var 2) .nil)))))) (.int 1)) (.cons (.aug 6 .Sub (.int 1)) (.cons .raise .nil)) .nil) (.cons (.seti (.var 4) (.var 5) (.var 6)) .nil)))) (.cons (.ret (.var 4)) .nil))))
noncomputable def n_divide_rows : Slots := [some (Str.ofString "rest"), some (Str.ofString "b"), some (Str.ofString "w"), some (Str.ofString "size"), some (Str.ofString "quotient"), some (Str.ofString "at"), some (Str.ofString "limb")]
noncomputable def p_divide_rows : List Str := ["rest", "b", "w"]

noncomputable def m_divrem_school : MSs := (.cons (.iff (.cmp .Eq (.bi .len (.cons (.var 1) .nil)) (.int 0)) (.cons .raise .nil) .nil) (.cons (.iff (.cmp .Lt (.call (.fn 5) (.cons (.var 0) (.cons (.var 1) .nil))) (.int 0)) (.cons (.ret (.tup (.cons (.list false .nil) (.cons (.slice (.var 0) .no .no .no) .nil)))) .nil) .nil) (.cons (.iff (.cmp .Eq (.bi .len (.cons (.var 1) .nil)) (.int 1)) (.cons (.ret (.call (.fn 11) (.cons (.var 0) (.cons (.var 1) (.cons (.var 2) .nil))))) .nil) .nil) (.cons (.asg 3 (.bin .Sub false (.var 2) (.call (.fn 9) (.cons (.list false (.cons (.item (.var 1) (.neg (.int 1))) .nil)) (.cons (.var 2) .nil))))) (.cons (.asg 4 (.call (.fn 7) (.cons (.var 1) (.cons (.var 3) (.cons (.var 2) .nil))))) (.cons (.asg 5 (.call (.fn 7) (.cons (.var 0) (.cons (.var 3) (.cons (.var 2) .nil))))) (.cons (.asg 5 (.bin .Add true (.var 5) (.bin .Mult false (.list false (.cons (.int 0) .nil)) (.bin .Sub false (.bin .Add false (.bi .len (.cons (.var 0) .nil)) (.int 1)) (.bi .len (.cons (.var 5) .nil)))))) (.cons (.asg 6 (.call (.fn 15) (.cons (.var 5) (.cons (.var 4) (.cons (.var 2) .nil))))) (.cons (.ret (.tup (.cons (.call (.fn 4) (.cons (.var 6) .nil)) (.cons (.call (.fn 8) (.cons (.call (.fn 4) (.cons (.var 5) .nil)) (.cons (.var 3) (.cons (.var 2) .nil)))) .nil)))) .nil)))))))))
noncomputable def n_divrem_school : Slots := [some (Str.ofString "a"), some (Str.ofString "b"), some (Str.ofString "w"), some (Str.ofString "shift"), some (Str.ofString "divisor"), some (Str.ofString "rest"), some (Str.ofString "quotient")]
noncomputable def p_divrem_school : List Str := ["a", "b", "w"]

noncomputable def m_exponents : MSs := (.cons (.asg 3 (.list true .nil)) (.cons (.forr (.one 4) (.lst (.var 1)) (.cons (.asg 5 (.int 0)) (.cons (.unp [6, 7] (.call (.fn 6) (.cons (.var 0) (.cons (.var 4) (.cons (.var 2) .nil))))) (.cons (.whil (.cmp .Eq (.var 7) (.int 0)) (.cons (.unp [0, 5] (.tup (.cons (.var 6) (.cons (.bin .Add false (.var 5) (.int 1)) .nil)))) (.cons (.unp [6, 7] (.call (.fn 6) (.cons (.var 0) (.cons (.var 4) (.cons (.var 2) .nil))))) .nil))) (.cons (.app (.var 3) (.var 5)) .nil))))) (.cons (.ret (.ife (.cmp .Eq (.call (.fn 5) (.cons (.var 0) (.cons (.list false (.cons (.int 1) .nil)) .nil))) (.int 0)) (.var 3) .none)) .nil)))
noncomputable def n_exponents : Slots := [some (Str.ofString "a"), some (Str.ofString "base"), some (Str.ofString "w"), some (Str.ofString "found"), some (Str.ofString "p"), some (Str.ofString "many"), some (Str.ofString "quotient"), some (Str.ofString "rest")]
noncomputable def p_exponents : List Str := ["a", "base", "w"]

noncomputable def m_two_roots : MSs := (.cons (.unp [6, 7] (.tup (.cons (.list false (.cons (.int 1) .nil)) (.cons (.list false (.cons (.int 1) .nil)) .nil)))) (.cons (.asg 8 (.comp (.bi .sum (.cons (.comp (.item (.var 16) (.var 14)) (.two 15 16) (.lst (.var 1)) .nil) .nil)) (.one 14) (.range1 (.bi .len (.cons (.var 2) .nil))) .nil)) (.cons (.forr (.two 9 10) (.lst (.var 1)) (.cons (.asg 6 (.item (.call (.var 5) (.cons (.call (.var 4) (.cons (.var 6) (.cons (.var 9) (.cons (.var 3) .nil)))) (.cons (.var 0) (.cons (.var 3) .nil)))) (.int 1))) .nil)) (.cons (.forr (.two 11 12) (.zip (.var 2) (.var 8)) (.cons (.forr (.one 13) (.range1 (.bin .FloorDiv false (.var 12) (.int 2))) (.cons (.asg 7 (.item (.call (.var 5) (.cons (.call (.var 4) (.cons (.var 7) (.cons (.list false (.cons (.var 11) .nil)) (.cons (.var 3) .nil)))) (.cons (.var 0) (.cons (.var 3) .nil)))) (.int 1))) .nil)) .nil)) (.cons (.ret (.tup (.cons (.var 6) (.cons (.var 7) .nil)))) .nil)))))
noncomputable def n_two_roots : Slots := [some (Str.ofString "n"), some (Str.ofString "some"), some (Str.ofString "base"), some (Str.ofString "w"), some (Str.ofString "mul"), some (Str.ofString "divrem"), some (Str.ofString "x"), some (Str.ofString "y"), some (Str.ofString "sums"), some (Str.ofString "root"), some (Str.ofString "told"), some (Str.ofString "p"), some (Str.ofString "many"), some (Str.ofString "turn"), none, none, none]
noncomputable def p_two_roots : List Str := ["n", "some", "base", "w", "mul", "divrem"]

noncomputable def m_law_strung : MSs := (.cons (.seti (.var 0) (.int 0) (.bin .Add false (.item (.var 0) (.int 0)) (.int 1))) (.cons (.iff (.cmp .LtE (.item (.var 0) (.int 0)) (.bi .len (.cons (.item (.var 0) (.int 1)) .nil))) (.cons (.ret (.bin .Mod false (.item (.item (.var 0) (.int 1)) (.bin .Sub false (.item (.var 0) (.int 0)) (.int 1))) (.var 1))) .nil) .nil) (.cons (.ret (.bin .Mod false (.bin .Add false (.bin .Add false (.bin .Mult false (.int 4) (.item (.var 0) (.int 0))) (.bin .FloorDiv false (.item (.var 0) (.int 0)) (.int 2))) (.int 5)) (.var 1))) .nil)))
noncomputable def n_law_strung : Slots := [some (Str.ofString "strand"), some (Str.ofString "many")]
noncomputable def p_law_strung : List Str := ["strand", "many"]

noncomputable def m_law_limbs : MSs := (.cons (.asg 2 (.list true .nil)) (.cons (.whil (.cmp .Gt (.var 0) (.int 0)) (.cons (.app (.var 2) (.bin .Mod false (.var 0) (.bin .Pow false (.int 2) (.var 1)))) (.cons (.asg 0 (.bin .FloorDiv false (.var 0) (.bin .Pow false (.int 2) (.var 1)))) .nil))) (.cons (.ret (.var 2)) .nil)))
noncomputable def n_law_limbs : Slots := [some (Str.ofString "number"), some (Str.ofString "w"), some (Str.ofString "found")]
noncomputable def p_law_limbs : List Str := ["number", "w"]

noncomputable def m_law_number : MSs := (.cons (.asg 1 (.bin .Mult false (.bin .Mult false (.bin .Pow false (.int 2) (.bin .Mod false (.var 0) (.int 4))) (.bin .Pow false (.int 3) (.bin .Mod false (.bin .FloorDiv false (.var 0) (.int 4)) (.int 3)))) (.bin .Pow false (.int 5) (.bin .Mod false (.bin .FloorDiv false (.var 0) (.int 12)) (.int 3))))) (.cons (.ret (.bin .Mult false (.bin .Mult false (.bin .Mult false (.var 1) (.bin .Pow false (.int 7) (.bin .Mod false (.bin .FloorDiv false (.var 0) (.int 36)) (.int 2)))) (.bin .Pow false (.int 11) (.bin .Mod false (.bin .FloorDiv false (.var 0) (.int 72)) (.int 2)))) (.bin .Pow false (.int 13) (.bin .Mod false (.bin .FloorDiv false (.var 0) (.int 144)) (.int 2))))) .nil))
noncomputable def n_law_number : Slots := [some (Str.ofString "code"), some (Str.ofString "found")]
noncomputable def p_law_number : List Str := ["code"]

noncomputable def m_law_parted : MSs := (.cons (.asg 1 (.list false (.cons (.int 2) (.cons (.int 3) (.cons (.int 5) (.cons (.int 7) (.cons (.int 11) (.cons (.int 13) .nil)))))))) (.cons (.asg 2 (.int 1)) (.cons (.forr (.one 3) (.lst (.var 1)) (.cons (.whil (.cmp .Eq (.bin .Mod false (.var 0) (.bin .Mult false (.var 3) (.var 3))) (.int 0)) (.cons (.unp [0, 2] (.tup (.cons (.bin .FloorDiv false (.var 0) (.bin .Mult false (.var 3) (.var 3))) (.cons (.bin .Mult false (.var 2) (.var 3)) .nil)))) .nil)) .nil)) (.cons (.ret (.tup (.cons (.var 0) (.cons (.var 2) .nil)))) .nil))))
noncomputable def n_law_parted : Slots := [some (Str.ofString "number"), some (Str.ofString "_law_primes"), some (Str.ofString "root"), some (Str.ofString "p")]
noncomputable def p_law_parted : List Str := ["number"]

noncomputable def m_law_whole : MSs := (.cons (.asg 1 (.int 1)) (.cons (.forr (.one 2) (.lst (.var 0)) (.cons (.asg 1 (.bin .Mult false (.var 1) (.var 2))) .nil)) (.cons (.ret (.var 1)) .nil)))
noncomputable def n_law_whole : Slots := [some (Str.ofString "some"), some (Str.ofString "found"), some (Str.ofString "number")]
noncomputable def p_law_whole : List Str := ["some"]

noncomputable def m_law_are_told : MSs := (.cons (.asg 3 (.list false (.cons (.int 2) (.cons (.int 3) (.cons (.int 5) (.cons (.int 7) (.cons (.int 11) (.cons (.int 13) .nil)))))))) (.cons (.iff (.cmp .NotEq (.comp (.var 4) (.one 4) (.lst (.slice (.var 3) (.yes (.var 2)) .no .no)) (.cons (.cmp .Eq (.bin .Mod false (.var 0) (.var 4)) (.int 0)) .nil)) (.list false .nil)) (.cons (.ret (.cmp .Is (.var 1) .none)) .nil) .nil) (.cons (.iff (.or (.cons (.cmp .Is (.var 1) .none) (.cons (.cmp .NotEq (.bi .len (.cons (.var 1) .nil)) (.var 2)) .nil))) (.cons (.ret (.bool false)) .nil) .nil) (.cons (.ret (.cmp .Eq (.call (.fn 23) (.cons (.comp (.bin .Pow false (.item (.var 3) (.var 5)) (.var 6)) (.two 5 6) (.enum (.var 1)) .nil) .nil)) (.var 0))) .nil))))
noncomputable def n_law_are_told : Slots := [some (Str.ofString "number"), some (Str.ofString "told"), some (Str.ofString "size"), some (Str.ofString "_law_primes"), none, none, none]
noncomputable def p_law_are_told : List Str := ["number", "told", "size"]

noncomputable def m_law_left : MSs := (.cons (.asg 2 (.var 0)) (.cons (.forr (.one 3) (.lst (.slice (.var 1) .no .no (.yes (.bin .Sub false (.int 0) (.int 1))))) (.cons (.iff (.and (.cons (.cmp .NotEq (.var 2) (.list false .nil)) (.cons (.cmp .Eq (.item (.var 3) (.neg (.int 1))) (.item (.var 2) (.neg (.int 1)))) .nil))) (.cons (.asg 2 (.comp (.var 4) (.one 4) (.range1 (.item (.var 2) (.neg (.int 1)))) (.cons (.cmp .NotEq (.cmp .In (.var 4) (.var 2)) (.cmp .In (.var 4) (.var 3))) .nil))) .nil) .nil) .nil)) (.cons (.ret (.var 2)) .nil)))
noncomputable def n_law_left : Slots := [some (Str.ofString "places"), some (Str.ofString "lots"), some (Str.ofString "left"), some (Str.ofString "lot"), none]
noncomputable def p_law_left : List Str := ["places", "lots"]

noncomputable def m_law_goes_on : MSs := (.cons (.asg 6 (.cmp .In (.item (.call (.fn 22) (.cons (.item (.var 0) (.neg (.int 1))) .nil)) (.int 0)) (.var 4))) (.cons (.iff (.or (.cons (.cmp .NotEq (.slice (.var 3) .no (.yes (.bi .len (.cons (.var 2) .nil))) .no) (.var 2)) (.cons (.cmp .NotEq (.bi .len (.cons (.var 3) .nil)) (.bin .Add false (.bi .len (.cons (.var 2) .nil)) (.bi .int (.cons (.var 6) .nil)))) .nil))) (.cons (.ret (.bool false)) .nil) .nil) (.cons (.iff (.and (.cons (.val (.var 6)) (.cons (.or (.cons (.cmp .NotEq (.item (.item (.var 3) (.neg (.int 1))) (.neg (.int 1))) (.bin .Sub false (.bi .len (.cons (.var 1) .nil)) (.int 1))) (.cons (.cmp .NotEq (.item (.call (.fn 22) (.cons (.call (.fn 23) (.cons (.comp (.item (.var 0) (.var 8)) (.one 8) (.lst (.item (.var 3) (.neg (.int 1)))) .nil) .nil)) .nil)) (.int 0)) (.int 1)) .nil))) .nil))) (.cons (.ret (.bool false)) .nil) .nil) (.cons (.asg 7 (.comp (.var 9) (.one 9) (.range1 (.bi .len (.cons (.var 1) .nil))) (.cons (.cmp .Eq (.bin .Mod false (.bin .FloorDiv false (.var 5) (.bin .Pow false (.int 2) (.var 9))) (.int 2)) (.int 1)) .nil))) (.cons (.iff (.cmp .NotEq (.cmp .Eq (.call (.fn 25) (.cons (.var 7) (.cons (.var 3) .nil))) (.list false .nil)) (.cmp .Eq (.item (.call (.fn 22) (.cons (.call (.fn 23) (.cons (.comp (.item (.var 0) (.var 10)) (.one 10) (.lst (.var 7)) .nil) .nil)) .nil)) (.int 0)) (.int 1))) (.cons (.ret (.bool false)) .nil) .nil) (.cons (.ret (.cmp .Eq (.bi .len (.cons (.call (.fn 3) (.cons (.slice (.var 1) .no .no (.yes (.bin .Sub false (.int 0) (.int 1)))) .nil)) .nil)) (.bi .len (.cons (.var 3) .nil)))) .nil))))))
noncomputable def n_law_goes_on : Slots := [some (Str.ofString "some"), some (Str.ofString "rows"), some (Str.ofString "before"), some (Str.ofString "lots"), some (Str.ofString "parts"), some (Str.ofString "form"), some (Str.ofString "is_made"), some (Str.ofString "places"), none, none, none]
noncomputable def p_law_goes_on : List Str := ["some", "rows", "before", "lots", "parts", "form"]

noncomputable def m_law : MSs := (.cons (.asg 1 (.list false (.cons (.int 2) (.cons (.int 3) (.cons (.int 5) (.cons (.int 7) (.cons (.int 11) (.cons (.int 13) .nil)))))))) (.cons (.asg 2 (.list true (.cons (.int 0) (.cons (.comp (.bi .abs (.cons (.bi .int (.cons (.var 26) .nil)) .nil)) (.one 26) (.lst (.slice (.var 0) .no (.yes (.int 15)) .no)) .nil) .nil)))) (.cons (.unp [3, 4] (.tup (.cons (.bin .Add false (.int 4) (.call (.fn 19) (.cons (.var 2) (.cons (.int 6) .nil)))) (.cons (.bin .Add false (.int 2) (.call (.fn 19) (.cons (.var 2) (.cons (.int 4) .nil)))) .nil)))) (.cons (.unp [5, 6] (.tup (.cons (.bin .Add false (.int 2) (.call (.fn 19) (.cons (.var 2) (.cons (.int 4) .nil)))) (.cons (.bin .Add false (.int 3) (.call (.fn 19) (.cons (.var 2) (.cons (.int 200) .nil)))) .nil)))) (.cons (.unp [7, 8, 9, 10] (.tup (.cons (.list true .nil) (.cons (.list true .nil) (.cons (.list false .nil) (.cons (.list false (.cons (.int 1) .nil)) .nil)))))) (.cons (.forr (.one 11) (.range1 (.var 5)) (.cons (.unp [12, 13] (.tup (.cons (.call (.fn 21) (.cons (.call (.fn 19) (.cons (.var 2) (.cons (.int 288) .nil))) .nil)) (.cons (.call (.fn 19) (.cons (.var 2) (.cons (.int 32) .nil))) .nil)))) (.cons (.asg 14 (.call (.fn 17) (.cons (.call (.fn 20) (.cons (.var 12) (.cons (.var 3) .nil))) (.cons (.slice (.var 1) .no (.yes (.var 4)) .no) (.cons (.var 3) .nil))))) (.cons (.iff (.not (.val (.call (.fn 24) (.cons (.var 12) (.cons (.var 14) (.cons (.var 4) .nil)))))) (.cons (.ret (.bool false)) .nil) .nil) (.cons (.iff (.cmp .IsNot (.var 14) .none) (.cons (.app (.var 7) (.var 12)) (.cons (.app (.var 8) (.var 14)) (.cons (.asg 15 (.comp (.comp (.bin .Mod false (.var 28) (.int 2)) (.one 28) (.lst (.var 27)) .nil) (.one 27) (.lst (.var 8)) .nil)) (.cons (.asg 16 (.call (.fn 3) (.cons (.var 15) .nil))) (.cons (.iff (.not (.val (.call (.fn 26) (.cons (.var 7) (.cons (.var 15) (.cons (.var 9) (.cons (.var 16) (.cons (.var 10) (.cons (.var 13) .nil))))))))) (.cons (.ret (.bool false)) .nil) .nil) (.cons (.iff (.cmp .Eq (.bi .len (.cons (.var 16) .nil)) (.bi .len (.cons (.var 9) .nil))) (.cons (.asg 10 (.bin .Add false (.var 10) (.comp (.item (.call (.fn 22) (.cons (.bin .Mult false (.var 12) (.var 29)) .nil)) (.int 0)) (.one 29) (.lst (.var 10)) .nil))) .nil) .nil) (.cons (.asg 9 (.var 16)) .nil))))))) .nil) .nil))))) (.cons (.iff (.cmp .Eq (.var 7) (.list false .nil)) (.cons (.ret (.cmp .Eq (.call (.fn 3) (.cons (.list false .nil) .nil)) (.list false .nil))) .nil) .nil) (.cons (.unp [15, 17] (.tup (.cons (.comp (.comp (.bin .Mod false (.var 31) (.int 2)) (.one 31) (.lst (.var 30)) .nil) (.one 30) (.lst (.var 8)) .nil) (.cons (.call (.fn 19) (.cons (.var 2) (.cons (.bi .len (.cons (.var 7) .nil)) .nil))) .nil)))) (.cons (.asg 18 (.call (.fn 3) (.cons (.bin .Add false (.var 15) (.list false (.cons (.item (.var 15) (.var 17)) .nil))) .nil))) (.cons (.iff (.or (.cons (.cmp .NotEq (.slice (.var 18) .no (.yes (.bi .len (.cons (.var 9) .nil))) .no) (.var 9)) (.cons (.cmp .NotEq (.bi .len (.cons (.var 18) .nil)) (.bin .Add false (.bi .len (.cons (.var 9) .nil)) (.int 1))) (.cons (.cmp .NotEq (.item (.item (.var 18) (.neg (.int 1))) (.neg (.int 1))) (.bi .len (.cons (.var 15) .nil))) .nil)))) (.cons (.ret (.bool false)) .nil) .nil) (.cons (.asg 19 (.item (.var 18) (.neg (.int 1)))) (.cons (.asg 20 (.call (.fn 23) (.cons (.comp (.item (.bin .Add false (.var 7) (.list false (.cons (.item (.var 7) (.var 17)) .nil))) (.var 32)) (.one 32) (.lst (.var 19)) .nil) .nil))) (.cons (.asg 21 (.comp (.tup (.cons (.call (.fn 20) (.cons (.item (.bin .Add false (.var 7) (.list false (.cons (.item (.var 7) (.var 17)) .nil))) (.var 33)) (.cons (.var 3) .nil))) (.cons (.item (.bin .Add false (.var 8) (.list false (.cons (.item (.var 8) (.var 17)) .nil))) (.var 33)) .nil))) (.one 33) (.lst (.var 19)) .nil)) (.cons (.unp [22, 23] (.call (.fn 18) (.cons (.call (.fn 20) (.cons (.var 6) (.cons (.var 3) .nil))) (.cons (.var 21) (.cons (.slice (.var 1) .no (.yes (.var 4)) .no) (.cons (.var 3) (.cons (.fn 10) (.cons (.fn 16) .nil)))))))) (.cons (.unp [24, 25] (.call (.fn 22) (.cons (.var 20) .nil))) (.cons (.ret (.and3 (.cmp .Eq (.var 24) (.int 1)) (.cmp .Eq (.var 22) (.call (.fn 20) (.cons (.bin .Mod false (.var 20) (.var 6)) (.cons (.var 3) .nil)))) (.cmp .Eq (.var 23) (.call (.fn 20) (.cons (.bin .Mod false (.var 25) (.var 6)) (.cons (.var 3) .nil)))))) .nil))))))))))))))))
noncomputable def n_law : Slots := [some (Str.ofString "script"), some (Str.ofString "_law_primes"), some (Str.ofString "strand"), some (Str.ofString "w"), some (Str.ofString "size"), some (Str.ofString "turns"), some (Str.ofString "modulus"), some (Str.ofString "some"), some (Str.ofString "powers"), some (Str.ofString "lots"), some (Str.ofString "parts"), some (Str.ofString "turn"), some (Str.ofString "number"), some (Str.ofString "form"), some (Str.ofString "told"), some (Str.ofString "rows"), some (Str.ofString "found"), some (Str.ofString "spot"), some (Str.ofString "again"), some (Str.ofString "lot"), some (Str.ofString "total"), some (Str.ofString "given"), some (Str.ofString "x"), some (Str.ofString "y"), some (Str.ofString "odd"), some (Str.ofString "root"), none, none, none, none, none, none, none, none]
noncomputable def p_law : List Str := ["script"]

end Mine
end

section
open PySem PySem.W PyProof.Rows PySem.Spec PySem.SeqAt PySem.Calls
set_option Elab.async false
set_option maxRecDepth 100000
set_option maxHeartbeats 1000000
set_option autoImplicit false
set_option linter.unusedVariables false
namespace Mine

/-- def number k has this text -/
noncomputable def Tx (P : PG) (k : Nat) (ps : List Str) (N : Slots) (m : MSs) : Prop :=
  ∃ sc body, FnIs (P.fd k) sc ps body ∧ fnOk sc ps N = true ∧ encSs fnNames sc N m body = true

structure Txs (P : PG) : Prop where
  ok : P.Ok
  hG : ∀ (k : Nat) (id : Str), fnNames[k]? = some id → P.fname k = id
  t0 : Tx P 0 p_first_one n_first_one m_first_one
  t1 : Tx P 1 p_sum_of_rows n_sum_of_rows m_sum_of_rows
  t2 : Tx P 2 p_cleared n_cleared m_cleared
  t3 : Tx P 3 p_without_sum n_without_sum m_without_sum
  t4 : Tx P 4 p_normal n_normal m_normal
  t5 : Tx P 5 p_compare n_compare m_compare
  t6 : Tx P 6 p_divrem_limb n_divrem_limb m_divrem_limb
  t7 : Tx P 7 p_shift_left n_shift_left m_shift_left
  t8 : Tx P 8 p_shift_right n_shift_right m_shift_right
  t9 : Tx P 9 p_bits n_bits m_bits
  t10 : Tx P 10 p_mul_school n_mul_school m_mul_school
  t11 : Tx P 11 p_divrem_small n_divrem_small m_divrem_small
  t12 : Tx P 12 p_guessed_limb n_guessed_limb m_guessed_limb
  t13 : Tx P 13 p_take_away n_take_away m_take_away
  t15 : Tx P 15 p_divide_rows n_divide_rows m_divide_rows
  t16 : Tx P 16 p_divrem_school n_divrem_school m_divrem_school
  t17 : Tx P 17 p_exponents n_exponents m_exponents
  t18 : Tx P 18 p_two_roots n_two_roots m_two_roots
  t19 : Tx P 19 p_law_strung n_law_strung m_law_strung
  t20 : Tx P 20 p_law_limbs n_law_limbs m_law_limbs
  t21 : Tx P 21 p_law_number n_law_number m_law_number
  t22 : Tx P 22 p_law_parted n_law_parted m_law_parted
  t23 : Tx P 23 p_law_whole n_law_whole m_law_whole
  t24 : Tx P 24 p_law_are_told n_law_are_told m_law_are_told
  t25 : Tx P 25 p_law_left n_law_left m_law_left
  t26 : Tx P 26 p_law_goes_on n_law_goes_on m_law_goes_on
  t27 : Tx P 27 p_law n_law m_law

section
variable {P : PG} {n : Nat} {st : St}

theorem ctr (T : Txs P) {k : Nat} {ps : List Str} {N : Slots} {m : MSs} (t : Tx P k ps N m) {ds : List Dv} {Q : Dv → St → Prop} (hl : ds.length = ps.length)
    (hw : wpSs (CallOK P n) m (initFr N ds) st fun o _ st' => fin st.length o st' Q) : CallOK P (n + 1) k ds st Q := by
  obtain ⟨sc, body, h1, h2, h3⟩ := t
  exact callOK_of_body T.ok T.hG h1 h2 h3 hl hw

/-- a def that gives r and leaves the store alone, at d levels of room -/
noncomputable def Gives (P : PG) (d k : Nat) (ds : List Dv) (r : Dv) : Prop := ∀ n st Q, Q r st → CallOK P (n + d) k ds st Q

theorem Gives.at {d k : Nat} {ds : List Dv} {r : Dv} (h : Gives P d k ds r) (hd : d ≤ n) {Q : Dv → St → Prop} (q : Q r st) : CallOK P n k ds st Q := by
  have := h (n - d) st Q q
  rwa [Nat.sub_add_cancel hd] at this

theorem Gives.up {d k j : Nat} {ds : List Dv} {r : Dv} (h : Gives P d k ds r) (hd : d ≤ j) {Q : Dv → St → Prop} (q : Q r st) : CallOK P (n + j) k ds st Q :=
  h.at (Nat.le_trans hd (Nat.le_add_left j n)) q

theorem forL_inv {turn : Dv → Frm → St → (Option Dv → Frm → St → Prop) → Prop} {Q : Option Dv → Frm → St → Prop} (Inv : List Dv → Frm → St → Prop)
    (step : ∀ x rest fr st K, Inv (x :: rest) fr st → (∀ fr' st', Inv rest fr' st' → K none fr' st') → (∀ d fr' st', Q (some d) fr' st' → K (some d) fr' st') → turn x fr st K)
    (done : ∀ fr st, Inv [] fr st → Q none fr st) : ∀ l fr st, Inv l fr st → forL turn l fr st Q
  | [], fr, st, h => done fr st h
  | x :: rest, fr, st, h => by
    rw [forL_c]
    exact step x rest fr st _ h (fun fr' st' h' => forL_inv Inv step done rest fr' st' h') fun d fr' st' q => q

theorem whL_inv {test : Frm → St → (Bool → St → Prop) → Prop} {body : Frm → St → (Option Dv → Frm → St → Prop) → Prop} {Q : Option Dv → Frm → St → Prop} (Inv : Nat → Frm → St → Prop)
    (step : ∀ n fr st R, Inv n fr st → (∀ m fr' st', m < n → Inv m fr' st' → R none fr' st') → (∀ d fr' st', Q (some d) fr' st' → R (some d) fr' st') →
      test fr st fun b st' => match b with | true => body fr st' R | false => Q none fr st') :
    ∀ f n fr st, n < f → Inv n fr st → whL test body f fr st Q
  | 0, n, fr, st, h, _ => absurd h (Nat.not_lt_zero _)
  | f + 1, n, fr, st, h, hi => by
    rw [whL_s]
    have := step n fr st (fun r fr' st'' => match r with | none => whL test body f fr' st'' Q | some d => Q (some d) fr' st'') hi (fun m fr' st' hm hi' => whL_inv Inv step f m fr' st' (by omega) hi') fun d fr' st' q => q
    exact this

theorem compL_pure {turn : Dv → St → (Option Dv → St → Prop) → Prop} {Q : List Dv → St → Prop} (g : Dv → Option Dv) (st : St) :
    ∀ (l acc : List Dv), (∀ x ∈ l, ∀ K : Option Dv → St → Prop, K (g x) st → turn x st K) → Q (acc ++ l.filterMap g) st → compL turn l acc st Q
  | [], acc, _, q => by
    rw [compL_n]; simpa using q
  | x :: l, acc, h, q => by
    rw [compL_c]
    refine h x (.head _) _ (compL_pure g st l _ (fun y hy => h y (.tail _ hy)) ?_)
    rw [List.filterMap_cons] at q
    cases e : g x with
    | none => rw [e] at q; exact q
    | some d => rw [e] at q; rw [List.append_assoc]; exact q

theorem pures_iL (l : List Int) : pures (iL l) = true := pures_iff.mpr fun d hd => by
  obtain ⟨i, _, rfl⟩ := List.mem_map.mp hd; rfl
end
end Mine
end

section
open PySem PySem.W PyProof.Rows PySem.Spec PySem.SeqAt PySem.Calls
set_option Elab.async false
set_option maxRecDepth 100000
set_option maxHeartbeats 1000000
set_option autoImplicit false
set_option linter.all false
namespace Mine
section
variable {P : PG} {n : Nat} {st : St}

/-! ## the rows: first_one, sum_of_rows, cleared, without_sum -/
noncomputable def firstFrom : List Int → Nat → Int
  | [], _ => -1
  | x :: r, k => if x = 1 then k else firstFrom r (k + 1)

theorem c_first_one (T : Txs P) (l : List Int) (hl : l.length < big) : Gives P 1 0 [.list (iL l)] (.int (firstFrom l 0)) := by
  intro n st Q q
  refine ctr T T.t0 rfl ?_
  show wpSs (CallOK P n) m_first_one [some (.list (iL l)), none, none] st _
  simp only [m_first_one, wpE_r1, wpE_r2, wpE_r3, wpE_r4, wpE_r5, wpE_r6, wpE_r7, wpE_r8, wpE_r9, wpE_r10, wpE_r11, wpE_r12, wpE_r13, wpE_r14, wpE_r15, wpE_r16, wpE_r17, wpE_r18, wpE_r19, wpT_r1, wpT_r2, wpT_r3, wpT_r4, wpT_r5, wpTs_r1, wpEo_r1, wpEo_r2, wpEs_r1, wpEs_r2, wpI_r1, wpI_r2, wpI_r3, wpI_r4, wpI_r5, wpI_r6, wpS_r1, wpS_r2, wpS_r3, wpS_r4, wpS_r5, wpS_w, wpS_r7, wpS_r8, wpS_r9, wpS_r10, wpSs_n, wpSs_c, wpTs_r2, setAll_r1, setAll_r2, List.set_cons_succ, List.set_cons_zero, List.getElem?_cons_zero, List.getElem?_cons_succ, s_eq, s_ne, s_lt, s_le, s_gt, s_ge, s_is1, s_is2, s_isn1, s_isn2, s_neb, s_add, s_sub, s_mul, s_fdiv, s_mod, s_pow, s_lsh, s_rsh, s_and, s_or, s_xor, s_addL, s_mulL, s_backN, s_mkT, s_mkF, s_getL, s_getT, s_tg1, s_tg2, s_len, s_min, s_abs, s_int, s_intb, s_inR, s_getR]
  refine ⟨by simpa [iL] using hl, forL_inv (fun rest fr st' => st' = st ∧ ∃ (r : List Int) (k : Nat) (a b : Option Dv), rest = ((iL r).zipIdx k).map (fun p => Dv.tup [.int p.2, p.1]) ∧ firstFrom r k = firstFrom l 0 ∧ fr = [some (.list (iL l)), a, b]) ?_ ?_ _ _ _ ⟨rfl, l, 0, none, none, rfl, rfl, rfl⟩⟩
  · rintro x rest fr st' K ⟨rfl, r, k, a, b, e, hf, rfl⟩ hn hs
    cases r with
    | nil => simp [iL] at e
    | cons y r =>
      simp only [iL, List.map_cons, List.zipIdx_cons, List.cons.injEq] at e
      obtain ⟨rfl, rfl⟩ := e
      simp only [wpE_r1, wpE_r2, wpE_r3, wpE_r4, wpE_r5, wpE_r6, wpE_r7, wpE_r8, wpE_r9, wpE_r10, wpE_r11, wpE_r12, wpE_r13, wpE_r14, wpE_r15, wpE_r16, wpE_r17, wpE_r18, wpE_r19, wpT_r1, wpT_r2, wpT_r3, wpT_r4, wpT_r5, wpTs_r1, wpEo_r1, wpEo_r2, wpEs_r1, wpEs_r2, wpI_r1, wpI_r2, wpI_r3, wpI_r4, wpI_r5, wpI_r6, wpS_r1, wpS_r2, wpS_r3, wpS_r4, wpS_r5, wpS_w, wpS_r7, wpS_r8, wpS_r9, wpS_r10, wpSs_n, wpSs_c, wpTs_r2, setAll_r1, setAll_r2, List.set_cons_succ, List.set_cons_zero, List.getElem?_cons_zero, List.getElem?_cons_succ, s_eq, s_ne, s_lt, s_le, s_gt, s_ge, s_is1, s_is2, s_isn1, s_isn2, s_neb, s_add, s_sub, s_mul, s_fdiv, s_mod, s_pow, s_lsh, s_rsh, s_and, s_or, s_xor, s_addL, s_mulL, s_backN, s_mkT, s_mkF, s_getL, s_getT, s_tg1, s_tg2, s_len, s_min, s_abs, s_int, s_intb, s_inR, s_getR]
      rw [show firstFrom (y :: r) k = if y = 1 then (k : Int) else firstFrom r (k + 1) from rfl] at hf
      by_cases hy : y = 1
      · rw [if_pos hy] at hf
        subst hy
        refine hs _ _ _ ?_
        show fin _ (some (Dv.int k)) _ Q
        exact ⟨rfl, by rw [hf, List.take_length]; exact q⟩
      · rw [if_neg hy] at hf
        rw [show (y == 1) = false by simpa using hy]
        exact hn _ _ ⟨rfl, r, k + 1, _, _, rfl, hf, rfl⟩
  · rintro fr st' ⟨rfl, r, k, a, b, e, hf, rfl⟩
    cases r with
    | nil =>
      have hf' : (-1 : Int) = firstFrom l 0 := hf
      exact ⟨rfl, by rw [List.take_length]; show Q (.int (-1)) _; rw [hf']; exact q⟩
    | cons y r => simp [iL] at e

noncomputable def sumRows (a b : List Int) : List Int := List.zipWith Builtin.bitXor a b

theorem c_sum_of_rows (T : Txs P) (a b : List Int) (ha : a.length ≤ 2 ^ 20) (hb : b.length ≤ 2 ^ 20) : Gives P 1 1 [.list (iL a), .list (iL b)] (.list (iL (sumRows a b))) := by
  intro n st Q q
  refine ctr T T.t1 rfl ?_
  show wpSs (CallOK P n) m_sum_of_rows [some (.list (iL a)), some (.list (iL b)), none, none] st _
  simp only [m_sum_of_rows, wpE_r1, wpE_r2, wpE_r3, wpE_r4, wpE_r5, wpE_r6, wpE_r7, wpE_r8, wpE_r9, wpE_r10, wpE_r11, wpE_r12, wpE_r13, wpE_r14, wpE_r15, wpE_r16, wpE_r17, wpE_r18, wpE_r19, wpT_r1, wpT_r2, wpT_r3, wpT_r4, wpT_r5, wpTs_r1, wpEo_r1, wpEo_r2, wpEs_r1, wpEs_r2, wpI_r1, wpI_r2, wpI_r3, wpI_r4, wpI_r5, wpI_r6, wpS_r1, wpS_r2, wpS_r3, wpS_r4, wpS_r5, wpS_w, wpS_r7, wpS_r8, wpS_r9, wpS_r10, wpSs_n, wpSs_c, wpTs_r2, setAll_r1, setAll_r2, List.set_cons_succ, List.set_cons_zero, List.getElem?_cons_zero, List.getElem?_cons_succ, s_eq, s_ne, s_lt, s_le, s_gt, s_ge, s_is1, s_is2, s_isn1, s_isn2, s_neb, s_add, s_sub, s_mul, s_fdiv, s_mod, s_pow, s_lsh, s_rsh, s_and, s_or, s_xor, s_addL, s_mulL, s_backN, s_mkT, s_mkF, s_getL, s_getT, s_tg1, s_tg2, s_len, s_min, s_abs, s_int, s_intb, s_inR, s_getR, tgFree]
  refine ⟨⟨trivial, trivial⟩, by simp [iL, big]; omega, by simp [iL, big]; omega, by simp [iL]; omega, ?_⟩
  have hz : List.zipWith (fun x y => Dv.tup [x, y]) (iL a) (iL b) = List.zipWith (fun x y => Dv.tup [.int x, .int y]) a b := by
    unfold iL; rw [List.zipWith_map]
  rw [hz]
  refine compL_pure (fun d => match d with | .tup [.int x, .int y] => some (.int (Builtin.bitXor x y)) | _ => none) st _ _ ?_ ?_
  · intro x hx K hK
    obtain ⟨i, hi, rfl⟩ := List.mem_iff_getElem.mp hx
    rw [List.getElem_zipWith] at hK ⊢
    simp only [wpE_r1, wpE_r2, wpE_r3, wpE_r4, wpE_r5, wpE_r6, wpE_r7, wpE_r8, wpE_r9, wpE_r10, wpE_r11, wpE_r12, wpE_r13, wpE_r14, wpE_r15, wpE_r16, wpE_r17, wpE_r18, wpE_r19, wpT_r1, wpT_r2, wpT_r3, wpT_r4, wpT_r5, wpTs_r1, wpEo_r1, wpEo_r2, wpEs_r1, wpEs_r2, wpI_r1, wpI_r2, wpI_r3, wpI_r4, wpI_r5, wpI_r6, wpS_r1, wpS_r2, wpS_r3, wpS_r4, wpS_r5, wpS_w, wpS_r7, wpS_r8, wpS_r9, wpS_r10, wpSs_n, wpSs_c, wpTs_r2, setAll_r1, setAll_r2, List.set_cons_succ, List.set_cons_zero, List.getElem?_cons_zero, List.getElem?_cons_succ, s_eq, s_ne, s_lt, s_le, s_gt, s_ge, s_is1, s_is2, s_isn1, s_isn2, s_neb, s_add, s_sub, s_mul, s_fdiv, s_mod, s_pow, s_lsh, s_rsh, s_and, s_or, s_xor, s_addL, s_mulL, s_backN, s_mkT, s_mkF, s_getL, s_getT, s_tg1, s_tg2, s_len, s_min, s_abs, s_int, s_intb, s_inR, s_getR]
    exact hK
  · have hm : ∀ a b : List Int, (List.zipWith (fun x y => Dv.tup [.int x, .int y]) a b).filterMap (fun d => match d with | .tup [.int x, .int y] => some (.int (Builtin.bitXor x y)) | _ => none) = iL (sumRows a b) := by
      intro a
      induction a with
      | nil => intro b; rfl
      | cons x a ih =>
        intro b
        cases b with
        | nil => rfl
        | cons y b =>
          rw [List.zipWith_cons_cons, List.filterMap_cons]
          simp only [ih b]
          rfl
    rw [hm]
    show pures _ = true ∧ Q _ (st.take st.length)
    rw [List.take_length, List.nil_append]
    exact ⟨pures_iL _, q⟩
end
end Mine
end

section
open PySem PySem.W PyProof.Rows PySem.Spec PySem.SeqAt PySem.Calls
set_option Elab.async false
set_option maxRecDepth 100000
set_option maxHeartbeats 1000000
set_option autoImplicit false
set_option linter.all false
namespace Mine

/-! rows as masks -/
noncomputable def bitI (z i : Nat) : Int := if z.testBit i then 1 else 0
noncomputable def bits (L z : Nat) : List Int := (List.range L).map (bitI z)

theorem bits_length (L z : Nat) : (bits L z).length = L := by simp [bits]

theorem bitXor_bit (a b : Bool) : Builtin.bitXor (if a then 1 else 0) (if b then 1 else 0) = if (a ^^ b) then 1 else 0 := by
  cases a <;> cases b <;> decide

theorem sumRows_bits (L a b : Nat) : sumRows (bits L a) (bits L b) = bits L (a ^^^ b) := by
  unfold sumRows bits
  rw [List.zipWith_map, List.zipWith_self]
  refine List.map_congr_left fun i _ => ?_
  unfold bitI
  rw [Nat.testBit_xor]
  exact bitXor_bit _ _

/-- the lowest bit -/
noncomputable def IsLow (z p : Nat) : Prop := z.testBit p = true ∧ ∀ q, q < p → z.testBit q = false

theorem IsLow.unique {z p q : Nat} (h : IsLow z p) (h' : IsLow z q) : p = q := by
  rcases Nat.lt_trichotomy p q with e | e | e
  · have := h'.2 p e; rw [h.1] at this; cases this
  · exact e
  · have := h.2 q e; rw [h'.1] at this; cases this

theorem low_exists {z : Nat} (h : z ≠ 0) : ∃ p, IsLow z p := by
  obtain ⟨i, hi⟩ := Nat.exists_testBit_of_ne_zero h
  induction i using Nat.strongRecOn with
  | ind i ih =>
    by_cases hq : ∃ q, q < i ∧ z.testBit q = true
    · obtain ⟨q, h1, h2⟩ := hq
      exact ih q h1 h2
    · refine ⟨i, hi, fun q hq' => ?_⟩
      cases e : z.testBit q with
      | false => rfl
      | true => exact absurd ⟨q, hq', e⟩ hq

theorem firstFrom_map (f : Nat → Int) : ∀ (L k p : Nat), p < L → f (k + p) = 1 → (∀ q, q < p → f (k + q) ≠ 1) → firstFrom ((List.range' k L).map f) k = ((k + p : Nat) : Int)
  | 0, _, _, h, _, _ => absurd h (Nat.not_lt_zero _)
  | L + 1, k, p, h, h1, h2 => by
    rw [List.range'_succ, List.map_cons]
    unfold firstFrom
    cases p with
    | zero => rw [if_pos (show f k = 1 from h1)]; rfl
    | succ p =>
      rw [if_neg (show ¬ f k = 1 from h2 0 (Nat.succ_pos _)), firstFrom_map f L (k + 1) p (by omega) (by rw [show k + 1 + p = k + (p + 1) by omega]; exact h1) (fun q hq => by rw [show k + 1 + q = k + (q + 1) by omega]; exact h2 (q + 1) (by omega))]
      congr 1; omega
theorem first_low {L z p : Nat} (h : IsLow z p) (hp : p < L) : firstFrom (bits L z) 0 = (p : Int) := by
  unfold bits
  rw [List.range_eq_range', firstFrom_map (bitI z) L 0 p hp (by rw [Nat.zero_add]; unfold bitI; rw [h.1]; rfl) fun q hq => by rw [Nat.zero_add]; unfold bitI; rw [h.2 q hq]; decide]
  simp

/-- clearing by the kept ones, in m steps -/
inductive Clr (kept : List (Nat × Nat)) : Nat → Nat → Nat → Prop
  | done {z p : Nat} : IsLow z p → (∀ k ∈ kept, k.1 ≠ p) → Clr kept 0 z z
  | step {m z p k z' : Nat} : IsLow z p → kept.lookup p = some k → Clr kept m (z ^^^ k) z' → Clr kept (m + 1) z z'

noncomputable def encK (L : Nat) (kept : List (Nat × Nat)) : List (Int × Dv) := kept.map fun p => ((p.1 : Int), .list (iL (bits L p.2)))

theorem dlook_encK (L : Nat) : ∀ (kept : List (Nat × Nat)) (p : Nat), dlook (encK L kept) (p : Int) = (kept.lookup p).map fun k => .list (iL (bits L k))
  | [], _ => rfl
  | (q, k) :: r, p => by
    unfold encK dlook
    rw [List.map_cons, List.find?_cons, List.lookup_cons]
    by_cases h : p = q
    · subst h
      simp
    · have h' : ¬ ((q : Int) = p) := by omega
      have h2 : (p == q) = false := by simpa using h
      simp only [h', decide_false, h2]
      exact dlook_encK L r p

section
variable {P : PG} {n : Nat} {st : St}

theorem c_cleared (T : Txs P) {L : Nat} (hL : L ≤ 2 ^ 20) {kept : List (Nat × Nat)} {m z z' : Nat} (hz : Clr kept m z z') {j : Nat} (hst : st[j]? = some (some (.dict (encK L kept))))
    (hb : ∀ m x, Clr kept m x z' → ∃ p, IsLow x p ∧ p < L) {Q : Dv → St → Prop} (q : Q (.list (iL (bits L z'))) st) : CallOK P (n + 2) 2 [.list (iL (bits L z)), .ref j] st Q := by
  refine ctr T T.t2 rfl ?_
  have big1 : ∀ x, (bits L x).length < big := fun x => by rw [bits_length]; unfold big; omega
  have len1 : ∀ x, (bits L x).length ≤ 2 ^ 20 := fun x => by rw [bits_length]; exact hL
  show wpSs (CallOK P (n + 1)) m_cleared [some (.list (iL (bits L z))), some (.ref j), none] st _
  simp only [m_cleared, wpE_r1, wpE_r2, wpE_r3, wpE_r4, wpE_r5, wpE_r6, wpE_r7, wpE_r8, wpE_r9, wpE_r10, wpE_r11, wpE_r12, wpE_r13, wpE_r14, wpE_r15, wpE_r16, wpE_r17, wpE_r18, wpE_r19, wpT_r1, wpT_r2, wpT_r3, wpT_r4, wpT_r5, wpTs_r1, wpEo_r1, wpEo_r2, wpEs_r1, wpEs_r2, wpI_r1, wpI_r2, wpI_r3, wpI_r4, wpI_r5, wpI_r6, wpS_r1, wpS_r2, wpS_r3, wpS_r4, wpS_r5, wpS_w, wpS_r7, wpS_r8, wpS_r9, wpS_r10, wpSs_n, wpSs_c, wpTs_r2, setAll_r1, setAll_r2, List.set_cons_succ, List.set_cons_zero, List.getElem?_cons_zero, List.getElem?_cons_succ, s_eq, s_ne, s_lt, s_le, s_gt, s_ge, s_is1, s_is2, s_isn1, s_isn2, s_neb, s_add, s_sub, s_mul, s_fdiv, s_mod, s_pow, s_lsh, s_rsh, s_and, s_or, s_xor, s_addL, s_mulL, s_backN, s_mkT, s_mkF, s_getL, s_getT, s_tg1, s_tg2, s_len, s_min, s_abs, s_int, s_intb, s_inR, s_getR]
  refine (c_first_one T _ (big1 z)).up (by decide) ?_
  refine ⟨m + 1, whL_inv (fun k fr st' => st' = st ∧ ∃ x, Clr kept k x z' ∧ fr = [some (.list (iL (bits L x))), some (.ref j), some (.int (firstFrom (bits L x) 0))]) ?_ _ m _ _ (Nat.lt_succ_self _) ⟨rfl, z, hz, rfl⟩⟩
  rintro k fr st' R ⟨rfl, x, hx, rfl⟩ hn hs
  simp only [wpE_r1, wpE_r2, wpE_r3, wpE_r4, wpE_r5, wpE_r6, wpE_r7, wpE_r8, wpE_r9, wpE_r10, wpE_r11, wpE_r12, wpE_r13, wpE_r14, wpE_r15, wpE_r16, wpE_r17, wpE_r18, wpE_r19, wpT_r1, wpT_r2, wpT_r3, wpT_r4, wpT_r5, wpTs_r1, wpEo_r1, wpEo_r2, wpEs_r1, wpEs_r2, wpI_r1, wpI_r2, wpI_r3, wpI_r4, wpI_r5, wpI_r6, wpS_r1, wpS_r2, wpS_r3, wpS_r4, wpS_r5, wpS_w, wpS_r7, wpS_r8, wpS_r9, wpS_r10, wpSs_n, wpSs_c, wpTs_r2, setAll_r1, setAll_r2, List.set_cons_succ, List.set_cons_zero, List.getElem?_cons_zero, List.getElem?_cons_succ, s_eq, s_ne, s_lt, s_le, s_gt, s_ge, s_is1, s_is2, s_isn1, s_isn2, s_neb, s_add, s_sub, s_mul, s_fdiv, s_mod, s_pow, s_lsh, s_rsh, s_and, s_or, s_xor, s_addL, s_mulL, s_backN, s_mkT, s_mkF, s_getL, s_getT, s_tg1, s_tg2, s_len, s_min, s_abs, s_int, s_intb, s_inR, s_getR, hst]
  obtain ⟨p, hp, hpL⟩ := hb k x hx
  rw [first_low hp hpL, dlook_encK]
  cases hx with
  | done h1 h2 =>
    have e : kept.lookup p = none := by
      cases e : kept.lookup p with
      | none => rfl
      | some k => exact absurd (h1.unique hp).symm (by intro h; exact h2 (p, k) (lookup_mem e) h)
    rw [e]
    show pures _ = true ∧ Q _ (st'.take st'.length)
    rw [List.take_length]
    exact ⟨pures_iL _, q⟩
  | step h1 h2 h3 =>
    obtain rfl := h1.unique hp
    rw [h2]
    show CallOK _ _ _ _ _ _
    refine (c_sum_of_rows T _ _ (len1 _) (len1 _)).up (by decide) ?_
    rw [sumRows_bits]
    refine (c_first_one T _ (big1 _)).up (by decide) ?_
    exact hn _ _ _ (Nat.lt_succ_self _) ⟨rfl, _, h3, rfl⟩
end
end Mine
end

section
open PySem PySem.W PyProof.Rows PySem.Spec PySem.SeqAt PySem.Calls
set_option Elab.async false
set_option maxRecDepth 100000
set_option maxHeartbeats 1000000
set_option autoImplicit false
set_option linter.all false
namespace Mine

/-- one turn of the elimination: row x, number i -/
noncomputable def StepR (c i x : Nat) (kept : List (Nat × Nat)) (found : List Nat) (kept' : List (Nat × Nat)) (found' : List Nat) : Prop :=
  ∃ m z', Clr kept m (2 ^ c * 2 ^ i + x) z' ∧ ((∃ p, IsLow z' p ∧ p < c ∧ kept' = kept ++ [(p, z')] ∧ found' = found) ∨ (z' % 2 ^ c = 0 ∧ kept' = kept ∧ found' = found ++ [z' / 2 ^ c]))

noncomputable def RunR (c : Nat) : Nat → List Nat → List (Nat × Nat) → List Nat → List (Nat × Nat) → List Nat → Prop
  | _, [], k, f, k', f' => k' = k ∧ f' = f
  | i, x :: xs, k, f, k', f' => ∃ k1 f1, StepR c i x k f k1 f1 ∧ RunR c (i + 1) xs k1 f1 k' f'

noncomputable def lotL (many s : Nat) : List Int := ((List.range many).filter fun i => s.testBit i).map fun i : Nat => (i : Int)

theorem clr_bit {kept : List (Nat × Nat)} {b : Nat} (hk : ∀ k ∈ kept, k.2 < 2 ^ b) {m z z' : Nat} (h : Clr kept m z z') : z.testBit b = z'.testBit b := by
  induction h with
  | done _ _ => rfl
  | step h1 h2 _ ih =>
    rw [← ih, Nat.testBit_xor, Nat.testBit_lt_two_pow (hk _ (lookup_mem h2))]
    simp
theorem clr_lt {kept : List (Nat × Nat)} {b : Nat} (hk : ∀ k ∈ kept, k.2 < 2 ^ b) {m z z' : Nat} (h : Clr kept m z z') (hz : z < 2 ^ b) : z' < 2 ^ b := by
  induction h with
  | done _ _ => exact hz
  | step h1 h2 _ ih => exact ih (Nat.xor_lt_two_pow hz (hk _ (lookup_mem h2)))
theorem clr_low {kept : List (Nat × Nat)} {m z z' : Nat} (h : Clr kept m z z') : ∃ p, IsLow z' p ∧ ∀ k ∈ kept, k.1 ≠ p := by
  induction h with
  | done h1 h2 => exact ⟨_, h1, h2⟩
  | step _ _ _ ih => exact ih

theorem zbit (c s x j : Nat) (hx : x < 2 ^ c) : (2 ^ c * s + x).testBit j = if j < c then x.testBit j else s.testBit (j - c) := Nat.testBit_two_pow_mul_add s hx j

theorem bits_whole {c i x many : Nat} (hx : x < 2 ^ c) : bits c x ++ (List.range many).map (fun a : Nat => if a = i then (1 : Int) else 0) = bits (c + many) (2 ^ c * 2 ^ i + x) := by
  unfold bits
  apply List.ext_getElem
  · simp
  · intro j h1 h2
    simp only [List.length_map, List.length_range] at h2
    simp only [List.getElem_map, List.getElem_range]
    rw [List.getElem_append]
    unfold bitI
    rw [zbit c _ x j hx]
    simp only [List.length_map, List.length_range]
    by_cases h : j < c
    · simp [h]
    · simp only [h, dite_false, if_false, List.getElem_map, List.getElem_range]
      rw [Nat.testBit_two_pow]
      by_cases h' : j - c = i
      · simp [h']
      · have : ¬ (i = j - c) := fun e => h' e.symm
        simp [h', this]

theorem dput_new (L : Nat) {kept : List (Nat × Nat)} {p z : Nat} (h : ∀ k ∈ kept, k.1 ≠ p) : dput (encK L kept) (p : Int) (.list (iL (bits L z))) = encK L (kept ++ [(p, z)]) := by
  unfold dput
  have : (encK L kept).any (fun q => decide (q.1 = (p : Int))) = false := by
    rw [List.any_eq_false]
    intro q hq
    obtain ⟨k, hk, rfl⟩ := List.mem_map.mp hq
    have := h k hk
    simp
    omega
  rw [this, if_neg (by decide)]
  unfold encK
  rw [List.map_append]; rfl

section
variable {P : PG} {n : Nat} {st : St}

theorem comp_range {turn : Dv → St → (Option Dv → St → Prop) → Prop} {Q : List Dv → St → Prop} (many : Nat) (g : Nat → Option Dv)
    (h : ∀ i : Nat, i < many → ∀ K : Option Dv → St → Prop, K (g i) st → turn (.int (i : Int)) st K) (q : Q ((List.range many).filterMap g) st) : compL turn ((List.range many).map fun i : Nat => .int (i : Int)) [] st Q := by
  refine compL_pure (fun d => match d with | .int a => g a.toNat | _ => none) st _ _ ?_ ?_
  · intro x hx K hK
    obtain ⟨i, hi, rfl⟩ := List.mem_map.mp hx
    exact h i (List.mem_range.mp hi) K hK
  · rw [List.nil_append, List.filterMap_map]
    exact q

theorem st0 (a b : Option Mo) : (st ++ [a, b])[st.length]? = some a := by simp
theorem st1 (a b : Option Mo) : (st ++ [a, b])[st.length + 1]? = some b := by
  rw [List.getElem?_append_right (by omega)]; simp
theorem set0 (a b x : Option Mo) : (st ++ [a, b]).set st.length x = st ++ [x, b] := by
  rw [List.set_append_right _ _ (Nat.le_refl _)]; simp
theorem set1 (a b x : Option Mo) : (st ++ [a, b]).set (st.length + 1) x = st ++ [a, x] := by
  rw [List.set_append_right _ _ (by omega)]; simp

noncomputable def rowsL (c : Nat) (xs : List Nat) : List Dv := xs.map fun x => .list (iL (bits c x))
noncomputable def lotsL (many : Nat) (found : List Nat) : List Dv := found.map fun s => .list (iL (lotL many s))

theorem c_without_sum (T : Txs P) {c : Nat} (xs : List Nat) (hc : c ≤ 100) (hm : xs.length ≤ 100) (hx : ∀ x ∈ xs, x < 2 ^ c) {kept : List (Nat × Nat)} {found : List Nat} (hr : RunR c 0 xs [] [] kept found) :
    Gives P 3 3 [.list (rowsL c xs)] (.list (lotsL xs.length found)) := by
  intro n st Q q
  refine ctr T T.t3 rfl ?_
  show wpSs (CallOK P (n + 2)) m_without_sum [some (.list (rowsL c xs)), none, none, none, none, none, none, none, none, none, none] st _
  rw [m_without_sum]
  refine wp_consI ?_
  simp only [wpE_r1, wpE_r2, wpE_r3, wpE_r4, wpE_r5, wpE_r6, wpE_r7, wpE_r8, wpE_r9, wpE_r10, wpE_r11, wpE_r12, wpE_r13, wpE_r14, wpE_r15, wpE_r16, wpE_r17, wpE_r18, wpE_r19, wpT_r1, wpT_r2, wpT_r3, wpT_r4, wpT_r5, wpTs_r1, wpEo_r1, wpEo_r2, wpEs_r1, wpEs_r2, wpI_r1, wpI_r2, wpI_r3, wpI_r4, wpI_r5, wpI_r6, wpS_r1, wpS_r2, wpS_r3, wpS_r4, wpS_r5, wpS_w, wpS_r7, wpS_r8, wpS_r9, wpS_r10, wpTs_r2, setAll_r1, setAll_r2, List.set_cons_succ, List.set_cons_zero, List.getElem?_cons_zero, List.getElem?_cons_succ, s_eq, s_ne, s_lt, s_le, s_gt, s_ge, s_is1, s_is2, s_isn1, s_isn2, s_neb, s_add, s_sub, s_mul, s_fdiv, s_mod, s_pow, s_lsh, s_rsh, s_and, s_or, s_xor, s_addL, s_mulL, s_backN, s_mkT, s_mkF, s_getL, s_getT, s_tg1, s_tg2, s_len, s_min, s_abs, s_int, s_intb]
  refine ⟨by simp, rfl, by simp [rowsL, big]; omega, by simp, rfl, ?_⟩
  refine wp_consI ?_
  simp only [wpE_r1, wpE_r2, wpE_r3, wpE_r4, wpE_r5, wpE_r6, wpE_r7, wpE_r8, wpE_r9, wpE_r10, wpE_r11, wpE_r12, wpE_r13, wpE_r14, wpE_r15, wpE_r16, wpE_r17, wpE_r18, wpE_r19, wpT_r1, wpT_r2, wpT_r3, wpT_r4, wpT_r5, wpTs_r1, wpEo_r1, wpEo_r2, wpEs_r1, wpEs_r2, wpI_r1, wpI_r2, wpI_r3, wpI_r4, wpI_r5, wpI_r6, wpS_r1, wpS_r2, wpS_r3, wpS_r4, wpS_r5, wpS_w, wpS_r7, wpS_r8, wpS_r9, wpS_r10, wpTs_r2, setAll_r1, setAll_r2, List.set_cons_succ, List.set_cons_zero, List.getElem?_cons_zero, List.getElem?_cons_succ, s_eq, s_ne, s_lt, s_le, s_gt, s_ge, s_is1, s_is2, s_isn1, s_isn2, s_neb, s_add, s_sub, s_mul, s_fdiv, s_mod, s_pow, s_lsh, s_rsh, s_and, s_or, s_xor, s_addL, s_mulL, s_backN, s_mkT, s_mkF, s_getL, s_getT, s_tg1, s_tg2, s_len, s_min, s_abs, s_int, s_intb]
  refine ⟨by simp [rowsL, big]; omega, ?_⟩
  have hmany : (rowsL c xs).length = xs.length := by simp [rowsL]
  have hst : (st ++ [some (Mo.dict [])] ++ [some (Mo.list [])] : St) = st ++ [some (.dict (encK (c + xs.length) [])), some (.list (lotsL xs.length []))] := by simp [encK, lotsL]
  rw [hst, hmany]
  have hl1 : (st ++ [some (Mo.dict [])] : St).length = st.length + 1 := by simp
  rw [hl1]
  refine forL_inv (fun rest fr st' => ∃ (i : Nat) (ys : List Nat) (k : List (Nat × Nat)) (f : List Nat) (a4 a5 a6 a7 a8 : Option Dv), rest = ((rowsL c ys).zipIdx i).map (fun p => Dv.tup [.int p.2, p.1]) ∧ i + ys.length = xs.length ∧ (∀ y ∈ ys, y < 2 ^ c) ∧ RunR c i ys k f kept found ∧
      k.length ≤ i ∧ f.length ≤ i ∧ (∀ q ∈ k, q.2 < 2 ^ (c + i)) ∧ st' = st ++ [some (.dict (encK (c + xs.length) k)), some (.list (lotsL xs.length f))] ∧
      fr = [some (.list (rowsL c xs)), some (.ref st.length), some (.ref (st.length + 1)), some (.int xs.length), a4, a5, a6, a7, a8, none, none]) ?_ ?_ _ _ _
    ⟨0, xs, [], [], none, none, none, none, none, rfl, by simp, hx, hr, by simp, by simp, nofun, rfl, rfl⟩
  · rintro x rest fr st' K ⟨i, ys, k, f, a4, a5, a6, a7, a8, e, hi, hys, hrun, hkl, hfl, hk, rfl, rfl⟩ hn hs
    cases ys with
    | nil => simp [rowsL] at e
    | cons y ys =>
      simp only [rowsL, List.map_cons, List.zipIdx_cons, List.cons.injEq] at e
      obtain ⟨rfl, rfl⟩ := e
      obtain ⟨k1, f1, ⟨m, z', hclr, hstep⟩, hrun'⟩ := hrun
      simp only [List.length_cons] at hi
      have hy : y < 2 ^ c := hys y (.head _)
      simp only [wpE_r1, wpE_r2, wpE_r3, wpE_r4, wpE_r5, wpE_r6, wpE_r7, wpE_r8, wpE_r9, wpE_r10, wpE_r11, wpE_r12, wpE_r13, wpE_r14, wpE_r15, wpE_r16, wpE_r17, wpE_r18, wpE_r19, wpT_r1, wpT_r2, wpT_r3, wpT_r4, wpT_r5, wpTs_r1, wpEo_r1, wpEo_r2, wpEs_r1, wpEs_r2, wpI_r1, wpI_r2, wpI_r3, wpI_r4, wpI_r5, wpI_r6, wpS_r1, wpS_r2, wpS_r3, wpS_r4, wpS_r5, wpS_w, wpS_r7, wpS_r8, wpS_r9, wpS_r10, wpTs_r2, setAll_r1, setAll_r2, List.set_cons_succ, List.set_cons_zero, List.getElem?_cons_zero, List.getElem?_cons_succ, s_eq, s_ne, s_lt, s_le, s_gt, s_ge, s_is1, s_is2, s_isn1, s_isn2, s_neb, s_add, s_sub, s_mul, s_fdiv, s_mod, s_pow, s_lsh, s_rsh, s_and, s_or, s_xor, s_addL, s_mulL, s_backN, s_mkT, s_mkF, s_getL, s_getT, s_tg1, s_tg2, s_len, s_min, s_abs, s_int, s_intb]
      refine wp_consI ?_
      simp only [wpE_r1, wpE_r2, wpE_r3, wpE_r4, wpE_r5, wpE_r6, wpE_r7, wpE_r8, wpE_r9, wpE_r10, wpE_r11, wpE_r12, wpE_r13, wpE_r14, wpE_r15, wpE_r16, wpE_r17, wpE_r18, wpE_r19, wpT_r1, wpT_r2, wpT_r3, wpT_r4, wpT_r5, wpTs_r1, wpEo_r1, wpEo_r2, wpEs_r1, wpEs_r2, wpI_r1, wpI_r2, wpI_r3, wpI_r4, wpI_r5, wpI_r6, wpS_r1, wpS_r2, wpS_r3, wpS_r4, wpS_r5, wpS_w, wpS_r7, wpS_r8, wpS_r9, wpS_r10, wpTs_r2, setAll_r1, setAll_r2, List.set_cons_succ, List.set_cons_zero, List.getElem?_cons_zero, List.getElem?_cons_succ, s_eq, s_ne, s_lt, s_le, s_gt, s_ge, s_is1, s_is2, s_isn1, s_isn2, s_neb, s_add, s_sub, s_mul, s_fdiv, s_mod, s_pow, s_lsh, s_rsh, s_and, s_or, s_xor, s_addL, s_mulL, s_backN, s_mkT, s_mkF, s_getL, s_getT, s_tg1, s_tg2, s_len, s_min, s_abs, s_int, s_intb]
      refine ⟨by simp [iL, bits, big]; omega, ?_⟩
      refine wp_consI ?_
      simp only [wpE_r1, wpE_r2, wpE_r3, wpE_r4, wpE_r5, wpE_r6, wpE_r7, wpE_r8, wpE_r9, wpE_r10, wpE_r11, wpE_r12, wpE_r13, wpE_r14, wpE_r15, wpE_r16, wpE_r17, wpE_r18, wpE_r19, wpT_r1, wpT_r2, wpT_r3, wpT_r4, wpT_r5, wpTs_r1, wpEo_r1, wpEo_r2, wpEs_r1, wpEs_r2, wpI_r1, wpI_r2, wpI_r3, wpI_r4, wpI_r5, wpI_r6, wpS_r1, wpS_r2, wpS_r3, wpS_r4, wpS_r5, wpS_w, wpS_r7, wpS_r8, wpS_r9, wpS_r10, wpTs_r2, setAll_r1, setAll_r2, List.set_cons_succ, List.set_cons_zero, List.getElem?_cons_zero, List.getElem?_cons_succ, s_eq, s_ne, s_lt, s_le, s_gt, s_ge, s_is1, s_is2, s_isn1, s_isn2, s_neb, s_add, s_sub, s_mul, s_fdiv, s_mod, s_pow, s_lsh, s_rsh, s_and, s_or, s_xor, s_addL, s_mulL, s_backN, s_mkT, s_mkF, s_getL, s_getT, s_tg1, s_tg2, s_len, s_min, s_abs, s_int, s_intb]
      refine ⟨rfl, by simp; omega, by simp; omega, ?_⟩
      refine comp_range xs.length (fun a => some (.int (if a = i then 1 else 0))) (fun a ha K hK => ?_) ?_
      · simp only [wpE_r1, wpE_r2, wpE_r3, wpE_r4, wpE_r5, wpE_r6, wpE_r7, wpE_r8, wpE_r9, wpE_r10, wpE_r11, wpE_r12, wpE_r13, wpE_r14, wpE_r15, wpE_r16, wpE_r17, wpE_r18, wpE_r19, wpT_r1, wpT_r2, wpT_r3, wpT_r4, wpT_r5, wpTs_r1, wpEo_r1, wpEo_r2, wpEs_r1, wpEs_r2, wpI_r1, wpI_r2, wpI_r3, wpI_r4, wpI_r5, wpI_r6, wpS_r1, wpS_r2, wpS_r3, wpS_r4, wpS_r5, wpS_w, wpS_r7, wpS_r8, wpS_r9, wpS_r10, wpTs_r2, setAll_r1, setAll_r2, List.set_cons_succ, List.set_cons_zero, List.getElem?_cons_zero, List.getElem?_cons_succ, s_eq, s_ne, s_lt, s_le, s_gt, s_ge, s_is1, s_is2, s_isn1, s_isn2, s_neb, s_add, s_sub, s_mul, s_fdiv, s_mod, s_pow, s_lsh, s_rsh, s_and, s_or, s_xor, s_addL, s_mulL, s_backN, s_mkT, s_mkF, s_getL, s_getT, s_tg1, s_tg2, s_len, s_min, s_abs, s_int, s_intb]
        by_cases h : a = i
        · subst h; simpa using hK
        · have h' : ((a : Int) == (i : Int)) = false := by simp; omega
          rw [h']
          rw [if_neg h] at hK
          simpa using hK
      have hwh : (iL (bits c y) ++ (List.range xs.length).filterMap (fun a => some (Dv.int (if a = i then 1 else 0)))) = iL (bits (c + xs.length) (2 ^ c * 2 ^ i + y)) := by
        rw [← bits_whole hy]
        unfold iL
        rw [List.map_append, List.map_map]
        congr 1
        exact congrFun List.filterMap_eq_map _
      refine ⟨by simp [iL, bits]; omega, ?_⟩
      rw [hwh]
      refine wp_consI ?_
      simp only [wpE_r1, wpE_r2, wpE_r3, wpE_r4, wpE_r5, wpE_r6, wpE_r7, wpE_r8, wpE_r9, wpE_r10, wpE_r11, wpE_r12, wpE_r13, wpE_r14, wpE_r15, wpE_r16, wpE_r17, wpE_r18, wpE_r19, wpT_r1, wpT_r2, wpT_r3, wpT_r4, wpT_r5, wpTs_r1, wpEo_r1, wpEo_r2, wpEs_r1, wpEs_r2, wpI_r1, wpI_r2, wpI_r3, wpI_r4, wpI_r5, wpI_r6, wpS_r1, wpS_r2, wpS_r3, wpS_r4, wpS_r5, wpS_w, wpS_r7, wpS_r8, wpS_r9, wpS_r10, wpTs_r2, setAll_r1, setAll_r2, List.set_cons_succ, List.set_cons_zero, List.getElem?_cons_zero, List.getElem?_cons_succ, s_eq, s_ne, s_lt, s_le, s_gt, s_ge, s_is1, s_is2, s_isn1, s_isn2, s_neb, s_add, s_sub, s_mul, s_fdiv, s_mod, s_pow, s_lsh, s_rsh, s_and, s_or, s_xor, s_addL, s_mulL, s_backN, s_mkT, s_mkF, s_getL, s_getT, s_tg1, s_tg2, s_len, s_min, s_abs, s_int, s_intb]
      have hz0 : (2 ^ c * 2 ^ i + y).testBit (c + i) = true := by
        rw [zbit c _ y _ hy, if_neg (by omega), show c + i - c = i by omega, Nat.testBit_two_pow_self]
      have hbz : z'.testBit (c + i) = true := by rw [← clr_bit hk hclr]; exact hz0
      have hlow : ∀ m x, Clr k m x z' → ∃ p, IsLow x p ∧ p < c + xs.length := fun m x hcx => by
        have hbx : x.testBit (c + i) = true := by rw [clr_bit hk hcx]; exact hbz
        have hx0 : x ≠ 0 := by rintro rfl; simp at hbx
        obtain ⟨p, hp⟩ := low_exists hx0
        refine ⟨p, hp, ?_⟩
        rcases Nat.lt_or_ge (c + i) p with h | h
        · have := hp.2 _ h; rw [hbx] at this; cases this
        · omega
      refine (c_cleared T (L := c + xs.length) (by omega) hclr (st0 _ _) hlow (n := n) ?_)
      try dsimp only
      refine wp_consI ?_
      simp only [wpE_r1, wpE_r2, wpE_r3, wpE_r4, wpE_r5, wpE_r6, wpE_r7, wpE_r8, wpE_r9, wpE_r10, wpE_r11, wpE_r12, wpE_r13, wpE_r14, wpE_r15, wpE_r16, wpE_r17, wpE_r18, wpE_r19, wpT_r1, wpT_r2, wpT_r3, wpT_r4, wpT_r5, wpTs_r1, wpEo_r1, wpEo_r2, wpEs_r1, wpEs_r2, wpI_r1, wpI_r2, wpI_r3, wpI_r4, wpI_r5, wpI_r6, wpS_r1, wpS_r2, wpS_r3, wpS_r4, wpS_r5, wpS_w, wpS_r7, wpS_r8, wpS_r9, wpS_r10, wpTs_r2, setAll_r1, setAll_r2, List.set_cons_succ, List.set_cons_zero, List.getElem?_cons_zero, List.getElem?_cons_succ, s_eq, s_ne, s_lt, s_le, s_gt, s_ge, s_is1, s_is2, s_isn1, s_isn2, s_neb, s_add, s_sub, s_mul, s_fdiv, s_mod, s_pow, s_lsh, s_rsh, s_and, s_or, s_xor, s_addL, s_mulL, s_backN, s_mkT, s_mkF, s_getL, s_getT, s_tg1, s_tg2, s_len, s_min, s_abs, s_int, s_intb]
      obtain ⟨p, hp, hpk⟩ := clr_low hclr
      obtain ⟨p', hp', hpL⟩ := hlow 0 z' (.done hp hpk)
      obtain rfl := hp.unique hp'
      refine (c_first_one T _ (by rw [bits_length]; unfold big; omega)).up (by decide) ?_
      rw [first_low hp hpL]
      have hwl : ((iL (bits c y)).length : Int) = c := by simp [iL, bits]
      rw [hwl]
      try dsimp only
      refine wp_consI ?_
      simp only [wpE_r1, wpE_r2, wpE_r3, wpE_r4, wpE_r5, wpE_r6, wpE_r7, wpE_r8, wpE_r9, wpE_r10, wpE_r11, wpE_r12, wpE_r13, wpE_r14, wpE_r15, wpE_r16, wpE_r17, wpE_r18, wpE_r19, wpT_r1, wpT_r2, wpT_r3, wpT_r4, wpT_r5, wpTs_r1, wpEo_r1, wpEo_r2, wpEs_r1, wpEs_r2, wpI_r1, wpI_r2, wpI_r3, wpI_r4, wpI_r5, wpI_r6, wpS_r1, wpS_r2, wpS_r3, wpS_r4, wpS_r5, wpS_w, wpS_r7, wpS_r8, wpS_r9, wpS_r10, wpTs_r2, setAll_r1, setAll_r2, List.set_cons_succ, List.set_cons_zero, List.getElem?_cons_zero, List.getElem?_cons_succ, s_eq, s_ne, s_lt, s_le, s_gt, s_ge, s_is1, s_is2, s_isn1, s_isn2, s_neb, s_add, s_sub, s_mul, s_fdiv, s_mod, s_pow, s_lsh, s_rsh, s_and, s_or, s_xor, s_addL, s_mulL, s_backN, s_mkT, s_mkF, s_getL, s_getT, s_tg1, s_tg2, s_len, s_min, s_abs, s_int, s_intb]
      have hz'lt : z' < 2 ^ (c + (i + 1)) := clr_lt (b := c + (i + 1)) (fun q hq => Nat.lt_of_lt_of_le (hk q hq) (Nat.pow_le_pow_right (by decide) (by omega))) hclr (by
        have h1 : (2 : Nat) ^ (c + (i + 1)) = 2 ^ c * 2 ^ i + 2 ^ c * 2 ^ i := by rw [← Nat.pow_add, show c + (i + 1) = (c + i) + 1 by omega, Nat.pow_succ]; omega
        have h2 : 2 ^ c ≤ 2 ^ c * 2 ^ i := Nat.le_mul_of_pos_right _ (Nat.two_pow_pos i)
        omega)
      rcases hstep with ⟨p2, hp2, hpc, rfl, rfl⟩ | ⟨hz0', rfl, rfl⟩
      · obtain rfl := hp.unique hp2
        rw [show (decide ((p : Int) < (c : Int))) = true by simp; exact hpc]
        simp only [wpE_r1, wpE_r2, wpE_r3, wpE_r4, wpE_r5, wpE_r6, wpE_r7, wpE_r8, wpE_r9, wpE_r10, wpE_r11, wpE_r12, wpE_r13, wpE_r14, wpE_r15, wpE_r16, wpE_r17, wpE_r18, wpE_r19, wpT_r1, wpT_r2, wpT_r3, wpT_r4, wpT_r5, wpTs_r1, wpEo_r1, wpEo_r2, wpEs_r1, wpEs_r2, wpI_r1, wpI_r2, wpI_r3, wpI_r4, wpI_r5, wpI_r6, wpS_r1, wpS_r2, wpS_r3, wpS_r4, wpS_r5, wpS_w, wpS_r7, wpS_r8, wpS_r9, wpS_r10, wpSs_n, wpSs_c, wpTs_r2, setAll_r1, setAll_r2, List.set_cons_succ, List.set_cons_zero, List.getElem?_cons_zero, List.getElem?_cons_succ, s_eq, s_ne, s_lt, s_le, s_gt, s_ge, s_is1, s_is2, s_isn1, s_isn2, s_neb, s_add, s_sub, s_mul, s_fdiv, s_mod, s_pow, s_lsh, s_rsh, s_and, s_or, s_xor, s_addL, s_mulL, s_backN, s_mkT, s_mkF, s_getL, s_getT, s_tg1, s_tg2, s_len, s_min, s_abs, s_int, s_intb]
        refine setOk_dict (st0 _ _) (by simp [encK]; omega) (pures_iL _) ?_
        rw [dput_new _ hpk, set0]
        refine hn _ _ ⟨i + 1, ys, _, f1, _, _, _, _, _, rfl, by omega, fun q hq => hys q (.tail _ hq), hrun', by simp; omega, by omega, fun q hq => ?_, rfl, rfl⟩
        rcases List.mem_append.mp hq with hq | hq
        · exact Nat.lt_of_lt_of_le (hk q hq) (Nat.pow_le_pow_right (by decide) (by omega))
        · rw [List.mem_singleton.mp hq]; exact hz'lt
      · have hpc : c ≤ p := by
          rcases Nat.lt_or_ge p c with h | h
          · have h1 := hp.1
            have h2 : (z' % 2 ^ c).testBit p = z'.testBit p := by rw [Nat.testBit_mod_two_pow]; simp [h]
            rw [hz0', h1] at h2
            simp at h2
          · exact h
        rw [show (decide ((p : Int) < (c : Int))) = false by simp; exact hpc]
        simp only [wpE_r1, wpE_r2, wpE_r3, wpE_r4, wpE_r5, wpE_r6, wpE_r7, wpE_r8, wpE_r9, wpE_r10, wpE_r11, wpE_r12, wpE_r13, wpE_r14, wpE_r15, wpE_r16, wpE_r17, wpE_r18, wpE_r19, wpT_r1, wpT_r2, wpT_r3, wpT_r4, wpT_r5, wpTs_r1, wpEo_r1, wpEo_r2, wpEs_r1, wpEs_r2, wpI_r1, wpI_r2, wpI_r3, wpI_r4, wpI_r5, wpI_r6, wpS_r1, wpS_r2, wpS_r3, wpS_r4, wpS_r5, wpS_w, wpS_r7, wpS_r8, wpS_r9, wpS_r10, wpSs_n, wpSs_c, wpTs_r2, setAll_r1, setAll_r2, List.set_cons_succ, List.set_cons_zero, List.getElem?_cons_zero, List.getElem?_cons_succ, s_eq, s_ne, s_lt, s_le, s_gt, s_ge, s_is1, s_is2, s_isn1, s_isn2, s_neb, s_add, s_sub, s_mul, s_fdiv, s_mod, s_pow, s_lsh, s_rsh, s_and, s_or, s_xor, s_addL, s_mulL, s_backN, s_mkT, s_mkF, s_getL, s_getT, s_tg1, s_tg2, s_len, s_min, s_abs, s_int, s_intb]
        refine ⟨⟨_, _, rfl, st1 _ _⟩, rfl, by simp; omega, by simp; omega, ?_⟩
        refine comp_range xs.length (fun a => if (z' / 2 ^ c).testBit a then some (.int (a : Int)) else none) (fun a ha K hK => ?_) ?_
        · simp only [wpE_r1, wpE_r2, wpE_r3, wpE_r4, wpE_r5, wpE_r6, wpE_r7, wpE_r8, wpE_r9, wpE_r10, wpE_r11, wpE_r12, wpE_r13, wpE_r14, wpE_r15, wpE_r16, wpE_r17, wpE_r18, wpE_r19, wpT_r1, wpT_r2, wpT_r3, wpT_r4, wpT_r5, wpTs_r1, wpEo_r1, wpEo_r2, wpEs_r1, wpEs_r2, wpI_r1, wpI_r2, wpI_r3, wpI_r4, wpI_r5, wpI_r6, wpS_r1, wpS_r2, wpS_r3, wpS_r4, wpS_r5, wpS_w, wpS_r7, wpS_r8, wpS_r9, wpS_r10, wpSs_n, wpSs_c, wpTs_r2, setAll_r1, setAll_r2, List.set_cons_succ, List.set_cons_zero, List.getElem?_cons_zero, List.getElem?_cons_succ, s_eq, s_ne, s_lt, s_le, s_gt, s_ge, s_is1, s_is2, s_isn1, s_isn2, s_neb, s_add, s_sub, s_mul, s_fdiv, s_mod, s_pow, s_lsh, s_rsh, s_and, s_or, s_xor, s_addL, s_mulL, s_backN, s_mkT, s_mkF, s_getL, s_getT, s_tg1, s_tg2, s_len, s_min, s_abs, s_int, s_intb]
          refine ⟨c + a, .int (bitI z' (c + a)), .inl (by omega), ?_, by simp [iL, bits, big]; omega, ?_⟩
          · unfold iL bits
            rw [List.map_map, List.getElem?_map, List.getElem?_range (by omega)]
            rfl
          · have hbb : z'.testBit (c + a) = (z' / 2 ^ c).testBit a := by rw [Nat.testBit_div_two_pow, Nat.add_comm]
            dsimp only [bitI]
            rw [hbb]
            cases hb : (z' / 2 ^ c).testBit a with
            | true => rw [hb] at hK; exact hK
            | false => rw [hb] at hK; exact hK
        have hlot : (List.range xs.length).filterMap (fun a => if (z' / 2 ^ c).testBit a = true then some (Dv.int (a : Int)) else none) = iL (lotL xs.length (z' / 2 ^ c)) := by
          unfold iL lotL
          rw [List.map_map]
          generalize List.range xs.length = R
          induction R with
          | nil => rfl
          | cons a R ih =>
            rw [List.filterMap_cons, List.filter_cons]
            cases (z' / 2 ^ c).testBit a <;> simp [ih]
        rw [hlot]
        refine appOk_list (st1 _ _) (by simp [lotsL]; omega) (pures_iL _) ?_
        rw [set1]
        refine hn _ _ ⟨i + 1, ys, k1, _, _, _, _, _, _, rfl, by omega, fun q hq => hys q (.tail _ hq), hrun', by omega, by simp; omega, fun q hq => ?_, ?_, rfl⟩
        · exact Nat.lt_of_lt_of_le (hk q hq) (Nat.pow_le_pow_right (by decide) (by omega))
        · simp [lotsL]
  · rintro fr st' ⟨i, ys, k, f, a4, a5, a6, a7, a8, e, hi, hys, hrun, hkl, hfl, hk, rfl, rfl⟩
    cases ys with
    | nil =>
      obtain ⟨rfl, rfl⟩ := hrun
      simp only [wpE_r1, wpE_r2, wpE_r3, wpE_r4, wpE_r5, wpE_r6, wpE_r7, wpE_r8, wpE_r9, wpE_r10, wpE_r11, wpE_r12, wpE_r13, wpE_r14, wpE_r15, wpE_r16, wpE_r17, wpE_r18, wpE_r19, wpT_r1, wpT_r2, wpT_r3, wpT_r4, wpT_r5, wpTs_r1, wpEo_r1, wpEo_r2, wpEs_r1, wpEs_r2, wpI_r1, wpI_r2, wpI_r3, wpI_r4, wpI_r5, wpI_r6, wpS_r1, wpS_r2, wpS_r3, wpS_r4, wpS_r5, wpS_w, wpS_r7, wpS_r8, wpS_r9, wpS_r10, wpSs_n, wpSs_c, wpTs_r2, setAll_r1, setAll_r2, List.set_cons_succ, List.set_cons_zero, List.getElem?_cons_zero, List.getElem?_cons_succ, s_eq, s_ne, s_lt, s_le, s_gt, s_ge, s_is1, s_is2, s_isn1, s_isn2, s_neb, s_add, s_sub, s_mul, s_fdiv, s_mod, s_pow, s_lsh, s_rsh, s_and, s_or, s_xor, s_addL, s_mulL, s_backN, s_mkT, s_mkF, s_getL, s_getT, s_tg1, s_tg2, s_len, s_min, s_abs, s_int, s_intb, fin, st1]
      refine ⟨by omega, ?_⟩
      rw [List.take_left']
      · exact q
      · rfl
    | cons y ys => simp [rowsL] at e
end
end Mine
end

section
open PySem PySem.W PyProof.Rows PySem.Spec PySem.SeqAt PySem.Calls
set_option Elab.async false
set_option maxRecDepth 100000
set_option maxHeartbeats 1000000
set_option autoImplicit false
set_option linter.all false
namespace Mine

/-! loops over ranges -/
theorem forL_up {turn : Dv → Frm → St → (Option Dv → Frm → St → Prop) → Prop} {Q : Option Dv → Frm → St → Prop} (f : Nat → Dv) (Inv : Nat → Frm → St → Prop) (b : Nat)
    (step : ∀ i fr st K, i < b → Inv i fr st → (∀ fr' st', Inv (i + 1) fr' st' → K none fr' st') → (∀ d fr' st', Q (some d) fr' st' → K (some d) fr' st') → turn (f i) fr st K)
    (done : ∀ fr st, Inv b fr st → Q none fr st) : ∀ (k a : Nat) fr st, a + k = b → Inv a fr st → forL turn ((List.range' a k).map f) fr st Q
  | 0, a, fr, st, e, h => by
    rw [List.range'_zero, List.map_nil, forL]
    exact done fr st (by rw [← e]; exact h)
  | k + 1, a, fr, st, e, h => by
    rw [List.range'_succ, List.map_cons, forL]
    exact step a fr st _ (by omega) h (fun fr' st' h' => forL_up f Inv b step done k (a + 1) fr' st' (by omega) h') fun d fr' st' q => q

theorem forL_range {turn : Dv → Frm → St → (Option Dv → Frm → St → Prop) → Prop} {Q : Option Dv → Frm → St → Prop} (Inv : Nat → Frm → St → Prop) (b : Nat)
    (step : ∀ i fr st K, i < b → Inv i fr st → (∀ fr' st', Inv (i + 1) fr' st' → K none fr' st') → (∀ d fr' st', Q (some d) fr' st' → K (some d) fr' st') → turn (.int (i : Int)) fr st K)
    (done : ∀ fr st, Inv b fr st → Q none fr st) {fr : Frm} {st : St} (h : Inv 0 fr st) : forL turn ((List.range b).map fun i : Nat => .int (i : Int)) fr st Q := by
  rw [List.range_eq_range']
  exact forL_up (fun i : Nat => .int (i : Int)) Inv b step done b 0 fr st (Nat.zero_add b) h

theorem forL_down {turn : Dv → Frm → St → (Option Dv → Frm → St → Prop) → Prop} {Q : Option Dv → Frm → St → Prop} (Inv : Nat → Frm → St → Prop) (b : Nat)
    (step : ∀ i fr st K, i < b → Inv (i + 1) fr st → (∀ fr' st', Inv i fr' st' → K none fr' st') → (∀ d fr' st', Q (some d) fr' st' → K (some d) fr' st') → turn (.int (i : Int)) fr st K)
    (done : ∀ fr st, Inv 0 fr st → Q none fr st) {fr : Frm} {st : St} {a : Int} (ha : a = (b : Int) - 1) (h : Inv b fr st) : forL turn ((List.range (a - (-1)).toNat).map fun i : Nat => .int (a - (i : Int))) fr st Q := by
  have hb : (a - (-1)).toNat = b := by rw [ha, Int.sub_neg, Int.sub_add_cancel, Int.toNat_natCast]
  rw [hb]
  have hl : (List.range b).map (fun i : Nat => Dv.int (a - (i : Int))) = (List.range' 0 b).map fun i : Nat => Dv.int (((b - 1 - i : Nat) : Int)) := by
    rw [← List.range_eq_range']
    refine List.map_congr_left fun i hi => ?_
    rw [ha]
    exact congrArg Dv.int (i_down (List.mem_range.mp hi))
  rw [hl]
  refine forL_up (fun i : Nat => .int (((b - 1 - i : Nat) : Int))) (fun i fr st => Inv (b - i) fr st) b ?_ ?_ b 0 fr st (Nat.zero_add b) h
  · intro i fr st K hi hinv hn hs
    refine step (b - 1 - i) fr st K (Nat.lt_of_le_of_lt (Nat.sub_le _ _) (Nat.sub_one_lt_of_lt hi)) (by rw [n_down hi]; exact hinv) (fun fr' st' h' => hn fr' st' ?_) hs
    rw [n_down2]; exact h'
  · intro fr st h'
    exact done fr st (by rw [Nat.sub_self] at h'; exact h')

/-! small facts, often asked -/
theorem w_lt {w : Nat} (h : w ≤ 20) : (w : Int) < 10000 := Int.ofNat_lt.mpr (Nat.lt_of_le_of_lt h (by decide))
theorem nn {w : Nat} : (0 : Int) ≤ (w : Int) := Int.natCast_nonneg w

/-! limbs -/
noncomputable def lbF (B : Nat) : Nat → Nat → List Nat
  | 0, _ => []
  | k + 1, n => if n = 0 then [] else n % B :: lbF B k (n / B)
noncomputable def lb (B n : Nat) : List Nat := lbF B n n
theorem lbF_s {B k n : Nat} (h : n ≠ 0) : lbF B (k + 1) n = n % B :: lbF B k (n / B) := if_neg h
theorem lbF_0 {B k : Nat} : lbF B k 0 = [] := by
  cases k with
  | zero => rfl
  | succ k => exact if_pos rfl

noncomputable def dg (B L n : Nat) : List Nat := (List.range L).map fun i => n / B ^ i % B
noncomputable def nL (l : List Nat) : List Dv := l.map fun n : Nat => .int (n : Int)
theorem nL_iL (l : List Nat) : nL l = iL (l.map fun n : Nat => (n : Int)) := by
  unfold nL iL; rw [List.map_map]; rfl
theorem pures_nL (l : List Nat) : pures (nL l) = true := by rw [nL_iL]; exact pures_iL _
theorem nL_length (l : List Nat) : (nL l).length = l.length := by simp [nL]
theorem dg_length (B L n : Nat) : (dg B L n).length = L := by simp [dg]
theorem dg_get (B : Nat) {L n i : Nat} (h : i < L) : (dg B L n)[i]? = some (n / B ^ i % B) := by
  unfold dg; rw [List.getElem?_map, List.getElem?_range h]; rfl
theorem dg_succ (B L n : Nat) : dg B (L + 1) n = n % B :: dg B L (n / B) := by
  unfold dg
  rw [List.range_succ_eq_map, List.map_cons, List.map_map]
  congr 1
  · simp
  · refine List.map_congr_left fun i _ => ?_
    show n / B ^ (i + 1) % B = n / B / B ^ i % B
    rw [Nat.div_div_eq_div_mul, Nat.pow_succ, Nat.mul_comm B]
theorem dg_take (B : Nat) {L e n : Nat} (h : e ≤ L) : (dg B L n).take e = dg B e n := by
  unfold dg
  rw [← List.map_take, List.take_range, Nat.min_eq_left h]
theorem lbF_dg {B : Nat} (hB : 2 ≤ B) : ∀ {k e n : Nat}, e ≤ k → n < B ^ e → (e = 0 ∨ B ^ (e - 1) ≤ n) → lbF B k n = dg B e n
  | k, 0, n, _, h, _ => by
    have : n = 0 := by simpa using h
    subst this
    exact lbF_0
  | 0, e + 1, n, hk, _, _ => absurd hk (Nat.not_succ_le_zero e)
  | k + 1, e + 1, n, hk, h, h' => by
    have h1 : B ^ e ≤ n := by simpa using h'
    have hpos : 0 < B ^ e := Nat.pow_pos (by omega)
    rw [lbF_s (by omega), dg_succ]
    congr 1
    refine lbF_dg hB (Nat.le_of_succ_le_succ hk) ?_ ?_
    · rw [Nat.pow_succ] at h
      exact Nat.div_lt_of_lt_mul (by rw [Nat.mul_comm]; exact h)
    · cases e with
      | zero => exact .inl rfl
      | succ e =>
        right
        simp only [Nat.add_sub_cancel]
        rw [Nat.le_div_iff_mul_le (by omega)]
        rw [Nat.pow_succ] at h1; exact h1
theorem exp_le {B e n : Nat} (hB : 2 ≤ B) (h : e = 0 ∨ B ^ (e - 1) ≤ n) : e ≤ n := by
  rcases h with rfl | h
  · exact Nat.zero_le _
  · have : e - 1 < B ^ (e - 1) := Nat.lt_pow_self (by omega)
    omega
theorem lb_dg {B : Nat} (hB : 2 ≤ B) {e n : Nat} (h : n < B ^ e) (h' : e = 0 ∨ B ^ (e - 1) ≤ n) : lb B n = dg B e n := lbF_dg hB (exp_le hB h') h h'
theorem lb_len_exists {B : Nat} (hB : 2 ≤ B) (n : Nat) : ∃ e, n < B ^ e ∧ (e = 0 ∨ B ^ (e - 1) ≤ n) := by
  have hn : n < B ^ n := Nat.lt_pow_self (by omega)
  have : ∀ k, n < B ^ k → ∃ e, n < B ^ e ∧ (e = 0 ∨ B ^ (e - 1) ≤ n) := by
    intro k
    induction k with
    | zero => exact fun h => ⟨0, h, .inl rfl⟩
    | succ k ih =>
      intro h
      by_cases h' : n < B ^ k
      · exact ih h'
      · exact ⟨k + 1, h, .inr (by simpa using Nat.le_of_not_lt h')⟩
  exact this n hn
/-- the canonical form: its length and digits -/
theorem lb_form {B : Nat} (hB : 2 ≤ B) (n : Nat) : ∃ e, lb B n = dg B e n ∧ n < B ^ e ∧ (e = 0 ∨ B ^ (e - 1) ≤ n) := by
  obtain ⟨e, h1, h2⟩ := lb_len_exists hB n
  exact ⟨e, lb_dg hB h1 h2, h1, h2⟩
theorem dg_high {B L n i : Nat} (h : n < B ^ L) (hi : L ≤ i) (hB : 2 ≤ B) : n / B ^ i = 0 :=
  Nat.div_eq_of_lt (Nat.lt_of_lt_of_le h (Nat.pow_le_pow_right (by omega) hi))

section
variable {P : PG} {n : Nat} {st : St}

theorem nth_nL {l : List Nat} {i x : Nat} {Q : Dv → Prop} (h : l[i]? = some x) (hb : l.length < big) (q : Q (.int (x : Int))) : nth (nL l) (i : Int) Q :=
  ⟨i, .int (x : Int), .inl rfl, by unfold nL; rw [List.getElem?_map, h]; rfl, by rw [nL_length]; exact hb, q⟩
theorem nth_dg {B L x i : Nat} {Q : Dv → Prop} (h : i < L) (hb : L < big) (q : Q (.int ((x / B ^ i % B : Nat) : Int))) : nth (nL (dg B L x)) (i : Int) Q :=
  nth_nL (dg_get B h) (by rw [dg_length]; exact hb) q

/-- a list, frozen or not -/
noncomputable def IsS (st : St) (d : Dv) (l : List Dv) : Prop := d = .list l ∨ ∃ j, d = .ref j ∧ st[j]? = some (some (.list l))
theorem IsS.its {d : Dv} {l : List Dv} (h : IsS st d l) : Mine.its st d = some l := by
  rcases h with rfl | ⟨j, rfl, e⟩
  · rfl
  · unfold Mine.its; simp only [e]
theorem IsS.get {d : Dv} {l : List Dv} (h : IsS st d l) (k : Int) (R : Dv → Prop) : getOk st d (.int k) R = nth l k R := by
  rcases h with rfl | ⟨j, rfl, e⟩
  · rfl
  · unfold getOk; simp only [e]
theorem IsS.len {d : Dv} {l : List Dv} (h : IsS st d l) (R : Dv → Prop) : biOk .len st [d] R = (l.length < big ∧ R (.int l.length)) := by
  refine propext ⟨?_, fun q => ⟨l, h.its, q⟩⟩
  rintro ⟨la, e1, q⟩
  rw [h.its] at e1; cases e1; exact q

/-- normal: the leading noughts off -/
theorem c_normal (T : Txs P) {B : Nat} (hB : 2 ≤ B) {L x : Nat} (hx : x < B ^ L) (hL : L ≤ 2 ^ 20) {d : Dv} (hd : IsS st d (nL (dg B L x))) {Q : Dv → St → Prop} (q : Q (.list (nL (lb B x))) st) : CallOK P (n + 1) 4 [d] st Q := by
  refine ctr T T.t4 rfl ?_
  show wpSs (CallOK P n) m_normal [some d, none] st _
  have hbig : L < big := Nat.lt_of_le_of_lt hL (by unfold big; decide)
  simp only [m_normal, wpE_r1, wpE_r2, wpE_r3, wpE_r4, wpE_r5, wpE_r6, wpE_r7, wpE_r8, wpE_r9, wpE_r10, wpE_r11, wpE_r12, wpE_r13, wpE_r14, wpE_r15, wpE_r16, wpE_r17, wpE_r18, wpE_r19, wpT_r1, wpT_r2, wpT_r3, wpT_r4, wpT_r5, wpTs_r1, wpEo_r1, wpEo_r2, wpEs_r1, wpEs_r2, wpI_r1, wpI_r2, wpI_r3, wpI_r4, wpI_r5, wpI_r6, wpS_r1, wpS_r2, wpS_r3, wpS_r4, wpS_r5, wpS_w, wpS_r7, wpS_r8, wpS_r9, wpS_r10, wpSs_n, wpSs_c, wpTs_r2, setAll_r1, setAll_r2, List.set_cons_succ, List.set_cons_zero, List.getElem?_cons_zero, List.getElem?_cons_succ, s_eq, s_ne, s_lt, s_le, s_gt, s_ge, s_is1, s_is2, s_isn1, s_isn2, s_neb, s_add, s_sub, s_mul, s_fdiv, s_mod, s_pow, s_lsh, s_rsh, s_and, s_or, s_xor, s_addL, s_mulL, s_backN, s_mkT, s_mkF, s_getL, s_getT, s_tg1, s_tg2, s_len, s_min, s_abs, s_int, s_intb]
  rw [hd.len]
  simp only [nL_length, dg_length]
  refine ⟨hbig, ?_⟩
  refine ⟨L + 1, whL_inv (fun k fr st' => st' = st ∧ x < B ^ k ∧ k ≤ L ∧ fr = [some d, some (.int k)]) ?_ _ L _ _ (Nat.lt_succ_self _) ⟨rfl, hx, Nat.le_refl _, rfl⟩⟩
  rintro k fr st' R ⟨rfl, hk, hkL, rfl⟩ hn hs
  simp only [wpE_r1, wpE_r2, wpE_r3, wpE_r4, wpE_r5, wpE_r6, wpE_r7, wpE_r8, wpE_r9, wpE_r10, wpE_r11, wpE_r12, wpE_r13, wpE_r14, wpE_r15, wpE_r16, wpE_r17, wpE_r18, wpE_r19, wpT_r1, wpT_r2, wpT_r3, wpT_r4, wpT_r5, wpTs_r1, wpEo_r1, wpEo_r2, wpEs_r1, wpEs_r2, wpI_r1, wpI_r2, wpI_r3, wpI_r4, wpI_r5, wpI_r6, wpS_r1, wpS_r2, wpS_r3, wpS_r4, wpS_r5, wpS_w, wpS_r7, wpS_r8, wpS_r9, wpS_r10, wpSs_n, wpSs_c, wpTs_r2, setAll_r1, setAll_r2, List.set_cons_succ, List.set_cons_zero, List.getElem?_cons_zero, List.getElem?_cons_succ, s_eq, s_ne, s_lt, s_le, s_gt, s_ge, s_is1, s_is2, s_isn1, s_isn2, s_neb, s_add, s_sub, s_mul, s_fdiv, s_mod, s_pow, s_lsh, s_rsh, s_and, s_or, s_xor, s_addL, s_mulL, s_backN, s_mkT, s_mkF, s_getL, s_getT, s_tg1, s_tg2, s_len, s_min, s_abs, s_int, s_intb]
  have fin' : (k = 0 ∨ B ^ (k - 1) ≤ x) → ∃ l r, its st' d = some l ∧ sliceL l .none (.int k) .none = some r ∧ l.length ≤ 2 ^ 24 ∧ fin st'.length (some (.list r)) st' Q := fun h => by
    refine ⟨_, (nL (dg B L x)).take k, hd.its, by rw [sl_to, if_pos (Int.natCast_nonneg _), Int.toNat_natCast], by rw [nL_length, dg_length]; exact Nat.le_trans hL (by decide), ?_⟩
    have e : (nL (dg B L x)).take k = nL (lb B x) := by
      unfold nL
      rw [← List.map_take, dg_take B hkL, lb_dg hB hk h]
    rw [e]
    exact ⟨pures_nL _, by rw [List.take_length]; exact q⟩
  cases k with
  | zero =>
    have e : decide ((((0 : Nat) : Int)) > 0) = false := by decide
    rw [e]
    exact fin' (.inl rfl)
  | succ k =>
    have e : decide ((((k + 1 : Nat) : Int)) > 0) = true := by simp
    rw [e]
    dsimp only
    have e2 : ((k + 1 : Nat) : Int) - 1 = (k : Int) := i_pred (Nat.succ_pos k)
    rw [e2, hd.get]
    refine nth_dg (by omega) hbig ?_
    rw [s_eq]
    by_cases h : x / B ^ k % B = 0
    · rw [h]
      have e3 : ((((0 : Nat) : Int)) == 0) = true := by decide
      rw [e3]
      dsimp only
      refine hn k _ _ (Nat.lt_succ_self _) ⟨rfl, ?_, by omega, by simp [e2]⟩
      have h1 : x / B ^ k < B := Nat.div_lt_of_lt_mul (by rw [← Nat.pow_succ]; exact hk)
      rw [Nat.mod_eq_of_lt h1] at h
      exact Nat.lt_of_div_eq_zero (Nat.pow_pos (by omega)) h
    · have e3 : ((((x / B ^ k % B : Nat) : Int)) == 0) = false := by
        rw [beq_eq_false_iff_ne]
        intro e
        exact h (by exact_mod_cast e)
      rw [e3]
      refine fin' (.inr ?_)
      simp only [Nat.add_sub_cancel]
      refine Nat.le_of_not_lt fun h' => h ?_
      rw [Nat.div_eq_of_lt h']; simp
end
end Mine
end

section
open PySem PySem.W PyProof.Rows PySem.Spec PySem.SeqAt PySem.Calls
set_option Elab.async false
set_option maxRecDepth 100000
set_option maxHeartbeats 1000000
set_option autoImplicit false
set_option linter.all false
namespace Mine

/-! numbers that are naturals -/
theorem and_nat (a b : Nat) : Builtin.bitAnd (a : Int) (b : Int) = ((a &&& b : Nat) : Int) := by
  unfold Builtin.bitAnd
  rw [show decide (0 ≤ (a : Int)) = true by simp, show decide (0 ≤ (b : Int)) = true by simp]
  rfl
theorem or_nat (a b : Nat) : Builtin.bitOr (a : Int) (b : Int) = ((a ||| b : Nat) : Int) := by
  unfold Builtin.bitOr Builtin.bitAnd
  have h : ∀ a : Nat, decide (0 ≤ Builtin.bitNot (a : Int)) = false := fun a => by
    unfold Builtin.bitNot; simp; omega
  have h2 : ∀ a : Int, Builtin.bitNot (Builtin.bitNot a) = a := fun a => by
    unfold Builtin.bitNot; omega
  rw [h a, h b]
  dsimp only
  rw [h2, h2, h2]
  rfl
theorem mask_nat (a w : Nat) : Builtin.bitAnd (a : Int) (((2 ^ w - 1 : Nat) : Int)) = ((a % 2 ^ w : Nat) : Int) := by
  rw [and_nat, Nat.and_two_pow_sub_one_eq_mod]
theorem shl_or (a b w : Nat) (h : b < 2 ^ w) : Builtin.bitOr ((a : Int) * 2 ^ w) (b : Int) = ((a * 2 ^ w + b : Nat) : Int) := by
  have e : (a : Int) * 2 ^ w = ((a * 2 ^ w : Nat) : Int) := by simp
  rw [e, or_nat, Nat.mul_comm a, Nat.two_pow_add_eq_or_of_lt h]
theorem fdiv_nat (a b : Nat) : Int.fdiv (a : Int) (b : Int) = ((a / b : Nat) : Int) := by
  rw [Int.fdiv_eq_ediv_of_nonneg _ (Int.natCast_nonneg b)]; rfl
theorem fmod_nat (a b : Nat) : Int.fmod (a : Int) (b : Int) = ((a % b : Nat) : Int) := by
  rw [Int.fmod_eq_emod_of_nonneg _ (Int.natCast_nonneg b)]; rfl

section
variable {P : PG} {n : Nat} {st : St}

/-! compare -/
noncomputable def cmpI (x y : Nat) : Int := if x < y then -1 else if y < x then 1 else 0

theorem c_compare (T : Txs P) {B : Nat} (hB : 2 ≤ B) {x y : Nat} (hx : (lb B x).length ≤ 2 ^ 20) (hy : (lb B y).length ≤ 2 ^ 20) : Gives P 1 5 [.list (nL (lb B x)), .list (nL (lb B y))] (.int (cmpI x y)) := by
  intro n st Q q
  refine ctr T T.t5 rfl ?_
  obtain ⟨e1, h1, hx1, hx2⟩ := lb_form hB x
  obtain ⟨e2, h2, hy1, hy2⟩ := lb_form hB y
  rw [h1, dg_length] at hx
  rw [h2, dg_length] at hy
  rw [h1, h2]
  show wpSs (CallOK P n) m_compare [some (.list (nL (dg B e1 x))), some (.list (nL (dg B e2 y))), none] st _
  have big1 : e1 < big := by unfold big; omega
  have big2 : e2 < big := by unfold big; omega
  have ret : ∀ i : Int, i = cmpI x y → fin st.length (some (.int i)) st Q := fun i e => ⟨rfl, by rw [List.take_length, e]; exact q⟩
  have pw : ∀ {a b : Nat}, a < b → B ^ a ≤ B ^ (b - 1) := fun h => Nat.pow_le_pow_right (by omega) (by omega)
  simp only [m_compare, wpE_r1, wpE_r2, wpE_r3, wpE_r4, wpE_r5, wpE_r6, wpE_r7, wpE_r8, wpE_r9, wpE_r10, wpE_r11, wpE_r12, wpE_r13, wpE_r14, wpE_r15, wpE_r16, wpE_r17, wpE_r18, wpE_r19, wpT_r1, wpT_r2, wpT_r3, wpT_r4, wpT_r5, wpTs_r1, wpEo_r1, wpEo_r2, wpEs_r1, wpEs_r2, wpI_r1, wpI_r2, wpI_r3, wpI_r4, wpI_r5, wpI_r6, wpS_r1, wpS_r2, wpS_r3, wpS_r4, wpS_r5, wpS_w, wpS_r7, wpS_r8, wpS_r9, wpS_r10, wpSs_n, wpSs_c, wpTs_r2, setAll_r1, setAll_r2, List.set_cons_succ, List.set_cons_zero, List.getElem?_cons_zero, List.getElem?_cons_succ, s_eq, s_ne, s_lt, s_le, s_gt, s_ge, s_is1, s_is2, s_isn1, s_isn2, s_neb, s_add, s_sub, s_mul, s_fdiv, s_mod, s_pow, s_lsh, s_rsh, s_and, s_or, s_xor, s_addL, s_mulL, s_backN, s_mkT, s_mkF, s_getL, s_getT, s_tg1, s_tg2, s_len, s_min, s_abs, s_int, s_intb, nL_length, dg_length]
  refine ⟨big1, big2, ?_⟩
  by_cases he : e1 = e2
  · subst he
    rw [show ((e1 : Int) != (e1 : Int)) = false by simp]
    dsimp only
    refine ⟨big1, trivial, by omega, by decide, ?_⟩
    refine forL_down (fun i fr st' => st' = st ∧ x / B ^ i = y / B ^ i ∧ ∃ o, fr = [some (.list (nL (dg B e1 x))), some (.list (nL (dg B e1 y))), o]) e1 ?_ ?_ rfl ⟨rfl, by rw [Nat.div_eq_of_lt hx1, Nat.div_eq_of_lt hy1], _, rfl⟩
    · rintro i fr st' K hi ⟨rfl, heq, o, rfl⟩ hn hs
      simp only [wpE_r1, wpE_r2, wpE_r3, wpE_r4, wpE_r5, wpE_r6, wpE_r7, wpE_r8, wpE_r9, wpE_r10, wpE_r11, wpE_r12, wpE_r13, wpE_r14, wpE_r15, wpE_r16, wpE_r17, wpE_r18, wpE_r19, wpT_r1, wpT_r2, wpT_r3, wpT_r4, wpT_r5, wpTs_r1, wpEo_r1, wpEo_r2, wpEs_r1, wpEs_r2, wpI_r1, wpI_r2, wpI_r3, wpI_r4, wpI_r5, wpI_r6, wpS_r1, wpS_r2, wpS_r3, wpS_r4, wpS_r5, wpS_w, wpS_r7, wpS_r8, wpS_r9, wpS_r10, wpSs_n, wpSs_c, wpTs_r2, setAll_r1, setAll_r2, List.set_cons_succ, List.set_cons_zero, List.getElem?_cons_zero, List.getElem?_cons_succ, s_eq, s_ne, s_lt, s_le, s_gt, s_ge, s_is1, s_is2, s_isn1, s_isn2, s_neb, s_add, s_sub, s_mul, s_fdiv, s_mod, s_pow, s_lsh, s_rsh, s_and, s_or, s_xor, s_addL, s_mulL, s_backN, s_mkT, s_mkF, s_getL, s_getT, s_tg1, s_tg2, s_len, s_min, s_abs, s_int, s_intb]
      refine nth_dg hi big1 (nth_dg hi big1 ?_)
      rw [s_ne]
      have hxd : x / B ^ i = x / B ^ (i + 1) * B + x / B ^ i % B := by
        have := Nat.div_add_mod (x / B ^ i) B
        rw [Nat.div_div_eq_div_mul, ← Nat.pow_succ, Nat.mul_comm] at this
        exact this.symm
      have hyd : y / B ^ i = y / B ^ (i + 1) * B + y / B ^ i % B := by
        have := Nat.div_add_mod (y / B ^ i) B
        rw [Nat.div_div_eq_div_mul, ← Nat.pow_succ, Nat.mul_comm] at this
        exact this.symm
      by_cases hd : x / B ^ i % B = y / B ^ i % B
      · rw [hd, show (((y / B ^ i % B : Nat) : Int) != ((y / B ^ i % B : Nat) : Int)) = false by simp]
        exact hn _ _ ⟨rfl, by rw [hxd, hyd, heq, hd], _, rfl⟩
      · rw [show (((x / B ^ i % B : Nat) : Int) != ((y / B ^ i % B : Nat) : Int)) = true by
          rw [bne_iff_ne]; intro e; exact hd (by exact_mod_cast e)]
        dsimp only
        refine nth_dg hi big1 (nth_dg hi big1 ?_)
        rw [s_lt]
        have lt_of : ∀ {a b : Nat}, a / B ^ i < b / B ^ i → a < b := fun {a b} h => by
          refine Nat.lt_of_not_le fun h' => ?_
          exact absurd h (Nat.not_lt.mpr (Nat.div_le_div_right h'))
        rcases Nat.lt_or_gt_of_ne hd with h | h
        · rw [show decide ((((x / B ^ i % B : Nat) : Int)) < ((y / B ^ i % B : Nat) : Int)) = true by
            rw [decide_eq_true_iff]; exact_mod_cast h]
          refine hs _ _ _ (ret _ ?_)
          have : x < y := lt_of (by rw [hxd, hyd, heq]; omega)
          unfold cmpI; rw [if_pos this]
        · rw [show decide ((((x / B ^ i % B : Nat) : Int)) < ((y / B ^ i % B : Nat) : Int)) = false by
            rw [decide_eq_false_iff_not]; intro h'; exact absurd (by exact_mod_cast h' : x / B ^ i % B < y / B ^ i % B) (by omega)]
          refine hs _ _ _ (ret _ ?_)
          have : y < x := lt_of (by rw [hxd, hyd, heq]; omega)
          unfold cmpI; rw [if_neg (by omega), if_pos this]
    · rintro fr st' ⟨rfl, heq, o, rfl⟩
      have : x = y := by simpa using heq
      refine ret _ ?_
      unfold cmpI; rw [if_neg (by omega), if_neg (by omega)]
  · rw [show ((e1 : Int) != (e2 : Int)) = true by rw [bne_iff_ne]; omega]
    dsimp only
    refine ⟨big1, big2, ?_⟩
    rcases Nat.lt_or_gt_of_ne he with h | h
    · rw [show decide ((e1 : Int) < (e2 : Int)) = true by rw [decide_eq_true_iff]; omega]
      refine ret _ ?_
      have h3 := hy2.resolve_left (by omega)
      have : x < y := Nat.lt_of_lt_of_le hx1 (Nat.le_trans (pw h) h3)
      unfold cmpI; rw [if_pos this]
    · rw [show decide ((e1 : Int) < (e2 : Int)) = false by rw [decide_eq_false_iff_not]; omega]
      refine ret _ ?_
      have h3 := hx2.resolve_left (by omega)
      have : y < x := Nat.lt_of_lt_of_le hy1 (Nat.le_trans (pw h) h3)
      unfold cmpI; rw [if_neg (by omega), if_pos this]
end
end Mine
end

section
open PySem PySem.W PyProof.Rows PySem.Spec PySem.SeqAt PySem.Calls
set_option Elab.async false
set_option maxRecDepth 100000
set_option maxHeartbeats 1000000
set_option autoImplicit false
set_option linter.all false
namespace Mine

/-- a list that is filled from the top -/
noncomputable def fl (B L q m : Nat) : List Nat := (List.range L).map fun i => if m ≤ i then q / B ^ i % B else 0
theorem fl_length (B L q m : Nat) : (fl B L q m).length = L := by simp [fl]
theorem fl_zero (B L q : Nat) : fl B L q 0 = dg B L q := by
  unfold fl dg; exact List.map_congr_left fun i _ => by rw [if_pos (Nat.zero_le i)]
theorem fl_top (B L q : Nat) : fl B L q L = List.replicate L 0 := by
  rw [List.eq_replicate_iff]
  refine ⟨fl_length _ _ _ _, fun b hb => ?_⟩
  obtain ⟨i, hi, rfl⟩ := List.mem_map.mp hb
  have := List.mem_range.mp hi
  rw [if_neg (by omega)]
theorem fl_get {B L q m i : Nat} (h : i < (fl B L q m).length) : (fl B L q m)[i] = if m ≤ i then q / B ^ i % B else 0 := by
  simp only [fl, List.getElem_map, List.getElem_range]
theorem fl_set {B L q m : Nat} (h : m < L) : (fl B L q (m + 1)).set m (q / B ^ m % B) = fl B L q m := by
  apply List.ext_getElem
  · simp [fl]
  · intro i h1 h2
    rw [List.getElem_set, fl_get, fl_get]
    by_cases e : m = i
    · subst e; simp
    · rw [if_neg e]
      by_cases e2 : m ≤ i
      · rw [if_pos e2, if_pos (by omega)]
      · rw [if_neg e2, if_neg (by omega)]
theorem zeros (L : Nat) : (List.replicate (L : Int).toNat [Dv.int 0]).flatten = nL (List.replicate L 0) := by
  rw [Int.toNat_natCast]
  induction L with
  | zero => rfl
  | succ L ih => rw [List.replicate_succ, List.flatten_cons, ih, List.replicate_succ]; rfl

section
variable {P : PG} {n : Nat} {st : St}
theorem stA (a : Option Mo) : (st ++ [a])[st.length]? = some a := by simp
theorem setA (a x : Option Mo) : (st ++ [a]).set st.length x = st ++ [x] := by
  rw [List.set_append_right _ _ (Nat.le_refl _)]; simp
theorem takeA (a : List (Option Mo)) : (st ++ a).take st.length = st := by simp

theorem nL_set (l : List Nat) (i x : Nat) : (nL l).set i (.int (x : Int)) = nL (l.set i x) := by
  unfold nL; rw [List.map_set]

theorem pure_tup2 {a b : Dv} (h : a.pure = true) (h' : b.pure = true) : (Dv.tup [a, b]).pure = true := by
  show (a.pure && (b.pure && true)) = true
  rw [h, h']; rfl
theorem pure_nL (l : List Nat) : (Dv.list (nL l)).pure = true := pures_nL l

/-! divrem_limb -/
theorem c_divrem_limb (T : Txs P) {w d x : Nat} (hw : 1 ≤ w) (hw2 : w ≤ 64) (hd : 0 < d) (hd2 : d < 2 ^ 32) (hx : (lb (2 ^ w) x).length ≤ 2 ^ 20) (hwd : 2 ^ w ≤ 2 ^ 20) :
    Gives P 2 6 [.list (nL (lb (2 ^ w) x)), .int (d : Int), .int (w : Int)] (.tup [.list (nL (lb (2 ^ w) (x / d))), .int ((x % d : Nat) : Int)]) := by
  intro n st Q q
  refine ctr T T.t6 rfl ?_
  have hB : 2 ≤ 2 ^ w := by
    have := Nat.pow_le_pow_right (n := 2) (by decide) hw
    simpa using this
  obtain ⟨L, h1, hx1, hx2⟩ := lb_form hB x
  rw [h1, dg_length] at hx
  rw [h1]
  generalize hBd : 2 ^ w = B at *
  have bigL : L < big := Nat.lt_of_le_of_lt hx (by unfold big; decide)
  show wpSs (CallOK P (n + 1)) m_divrem_limb [some (.list (nL (dg B L x))), some (.int d), some (.int w), none, none, none] st _
  simp only [m_divrem_limb, wpE_r1, wpE_r2, wpE_r3, wpE_r4, wpE_r5, wpE_r6, wpE_r7, wpE_r8, wpE_r9, wpE_r10, wpE_r11, wpE_r12, wpE_r13, wpE_r14, wpE_r15, wpE_r16, wpE_r17, wpE_r18, wpE_r19, wpT_r1, wpT_r2, wpT_r3, wpT_r4, wpT_r5, wpTs_r1, wpEo_r1, wpEo_r2, wpEs_r1, wpEs_r2, wpI_r1, wpI_r2, wpI_r3, wpI_r4, wpI_r5, wpI_r6, wpS_r1, wpS_r2, wpS_r3, wpS_r4, wpS_r5, wpS_w, wpS_r7, wpS_r8, wpS_r9, wpS_r10, wpSs_n, wpSs_c, wpTs_r2, setAll_r1, setAll_r2, List.set_cons_succ, List.set_cons_zero, List.getElem?_cons_zero, List.getElem?_cons_succ, s_eq, s_ne, s_lt, s_le, s_gt, s_ge, s_is1, s_is2, s_isn1, s_isn2, s_neb, s_add, s_sub, s_mul, s_fdiv, s_mod, s_pow, s_lsh, s_rsh, s_and, s_or, s_xor, s_addL, s_mulL, s_backN, s_mkT, s_mkF, s_getL, s_getT, s_tg1, s_tg2, s_len, s_min, s_abs, s_int, s_intb, nL_length, dg_length]
  rw [show ((d : Int) == 0) = false by rw [beq_eq_false_iff_ne]; exact i_ne hd]
  dsimp only
  refine ⟨by simp, bigL, by omega, by omega, by simp; omega, ?_, by simp, rfl, bigL, ?_⟩
  · rw [zeros]; exact pures_nL _
  rw [zeros, ← fl_top B L (x / d)]
  refine ⟨trivial, i_small hx, by decide, ?_⟩
  refine forL_down (fun i fr st' => st' = st ++ [some (.list (nL (fl B L (x / d) i)))] ∧ ∃ o, fr = [some (.list (nL (dg B L x))), some (.int d), some (.int w), some (.ref st.length), some (.int ((x / B ^ i % d : Nat) : Int)), o]) L ?_ ?_ rfl
    ⟨rfl, _, by rw [Nat.div_eq_of_lt hx1, Nat.zero_mod]; rfl⟩
  · rintro i fr st' K hi ⟨rfl, o, rfl⟩ hn hs
    simp only [wpE_r1, wpE_r2, wpE_r3, wpE_r4, wpE_r5, wpE_r6, wpE_r7, wpE_r8, wpE_r9, wpE_r10, wpE_r11, wpE_r12, wpE_r13, wpE_r14, wpE_r15, wpE_r16, wpE_r17, wpE_r18, wpE_r19, wpT_r1, wpT_r2, wpT_r3, wpT_r4, wpT_r5, wpTs_r1, wpEo_r1, wpEo_r2, wpEs_r1, wpEs_r2, wpI_r1, wpI_r2, wpI_r3, wpI_r4, wpI_r5, wpI_r6, wpS_r1, wpS_r2, wpS_r3, wpS_r4, wpS_r5, wpS_w, wpS_r7, wpS_r8, wpS_r9, wpS_r10, wpSs_n, wpSs_c, wpTs_r2, setAll_r1, setAll_r2, List.set_cons_succ, List.set_cons_zero, List.getElem?_cons_zero, List.getElem?_cons_succ, s_eq, s_ne, s_lt, s_le, s_gt, s_ge, s_is1, s_is2, s_isn1, s_isn2, s_neb, s_add, s_sub, s_mul, s_fdiv, s_mod, s_pow, s_lsh, s_rsh, s_and, s_or, s_xor, s_addL, s_mulL, s_backN, s_mkT, s_mkF, s_getL, s_getT, s_tg1, s_tg2, s_len, s_min, s_abs, s_int, s_intb]
    have hr : x / B ^ (i + 1) % d < d := Nat.mod_lt _ hd
    refine ⟨by omega, by omega, by rw [Int.natAbs_natCast]; omega, ?_⟩
    refine nth_dg hi bigL ?_
    rw [s_or, Int.toNat_natCast]
    have hdg : x / B ^ i % B < 2 ^ w := by rw [hBd]; exact Nat.mod_lt _ (by omega)
    rw [shl_or _ _ _ hdg, hBd]
    have hxi : x / B ^ i = x / B ^ (i + 1) * B + x / B ^ i % B := by
      have := Nat.div_add_mod (x / B ^ i) B
      rw [Nat.div_div_eq_div_mul, ← Nat.pow_succ, Nat.mul_comm] at this
      exact this.symm
    generalize hdi : x / B ^ i % B = dgt at *
    generalize hyi : x / B ^ (i + 1) = y at *
    have ht : x / B ^ i = y / d * B * d + (y % d * B + dgt) := by
      have h3 : y = y / d * d + y % d := by rw [Nat.mul_comm]; exact (Nat.div_add_mod y d).symm
      calc x / B ^ i = y * B + dgt := hxi
        _ = (y / d * d + y % d) * B + dgt := by rw [← h3]
        _ = y / d * B * d + (y % d * B + dgt) := by rw [Nat.add_mul, Nat.mul_right_comm, Nat.add_assoc]
    generalize htt : y % d * B + dgt = t at *
    have htB : t < d * B := by
      have : (y % d + 1) * B ≤ d * B := Nat.mul_le_mul_right B hr
      rw [Nat.add_mul] at this
      exact n_dlt htt (hBd ▸ hdg) this
    have hq : x / d / B ^ i % B = t / d := by
      rw [Nat.div_div_eq_div_mul, Nat.mul_comm, ← Nat.div_div_eq_div_mul, ht, Nat.mul_comm (y / d * B) d, Nat.mul_add_div hd]
      have hlt : t / d < B := Nat.div_lt_of_lt_mul htB
      rw [Nat.mul_comm, Nat.mul_add_mod, Nat.mod_eq_of_lt hlt]
    have hm : x / B ^ i % d = t % d := by rw [ht, Nat.mul_comm, Nat.mul_add_mod]
    refine ⟨by omega, by rw [Int.natAbs_natCast]; omega, ?_⟩
    rw [fdiv_nat]
    simp only [setOk, stA, setA]
    refine ⟨nn, by rw [nL_length, fl_length]; exact i_lt hi, ii62 (Nat.lt_of_lt_of_le hi (Nat.le_trans hx (by decide))), rfl, ?_⟩
    rw [Int.toNat_natCast, nL_set, ← hq, fl_set hi]
    refine ⟨i_ne hd, ?_⟩
    rw [fmod_nat, ← hm]
    exact hn _ _ ⟨rfl, _, rfl⟩
  · rintro fr st' ⟨rfl, o, rfl⟩
    simp only [wpE_r1, wpE_r2, wpE_r3, wpE_r4, wpE_r5, wpE_r6, wpE_r7, wpE_r8, wpE_r9, wpE_r10, wpE_r11, wpE_r12, wpE_r13, wpE_r14, wpE_r15, wpE_r16, wpE_r17, wpE_r18, wpE_r19, wpT_r1, wpT_r2, wpT_r3, wpT_r4, wpT_r5, wpTs_r1, wpEo_r1, wpEo_r2, wpEs_r1, wpEs_r2, wpI_r1, wpI_r2, wpI_r3, wpI_r4, wpI_r5, wpI_r6, wpS_r1, wpS_r2, wpS_r3, wpS_r4, wpS_r5, wpS_w, wpS_r7, wpS_r8, wpS_r9, wpS_r10, wpSs_n, wpSs_c, wpTs_r2, setAll_r1, setAll_r2, List.set_cons_succ, List.set_cons_zero, List.getElem?_cons_zero, List.getElem?_cons_succ, s_eq, s_ne, s_lt, s_le, s_gt, s_ge, s_is1, s_is2, s_isn1, s_isn2, s_neb, s_add, s_sub, s_mul, s_fdiv, s_mod, s_pow, s_lsh, s_rsh, s_and, s_or, s_xor, s_addL, s_mulL, s_backN, s_mkT, s_mkF, s_getL, s_getT, s_tg1, s_tg2, s_len, s_min, s_abs, s_int, s_intb]
    rw [fl_zero]
    have hq : x / d < B ^ L := Nat.lt_of_le_of_lt (Nat.div_le_self _ _) hx1
    refine (c_normal (n := n) T hB hq hx (.inr ⟨_, rfl, stA _⟩) ?_)
    refine ⟨by simp, pure_tup2 (pures_nL _) rfl, ?_⟩
    rw [takeA]
    have hx0 : x / B ^ 0 % d = x % d := by rw [Nat.pow_zero, Nat.div_one]
    rw [hx0]
    exact q
end
end Mine
end

section
open PySem PySem.W PyProof.Rows PySem.Spec PySem.SeqAt PySem.Calls
set_option Elab.async false
set_option maxRecDepth 100000
set_option maxHeartbeats 1000000
set_option autoImplicit false
set_option linter.all false
namespace Mine

theorem lb_pos {B x : Nat} (hB : 2 ≤ B) (hx : 0 < x) : lb B x = x % B :: lb B (x / B) := by
  obtain ⟨e, h1, h2⟩ := lb_len_exists hB (x / B)
  cases x with
  | zero => cases hx
  | succ k =>
    show lbF B (k + 1) (k + 1) = _
    rw [lbF_s (Nat.succ_ne_zero k), lbF_dg hB (k := k) (Nat.le_trans (exp_le hB h2) (Nat.le_of_lt_succ (Nat.div_lt_self hx hB))) h1 h2, lb_dg hB h1 h2]
theorem lb_nil (B : Nat) : lb B 0 = [] := rfl
theorem lb_small {B x : Nat} (hB : 2 ≤ B) (hx : 0 < x) (h : x < B) : lb B x = [x] := by
  rw [lb_pos hB hx, Nat.mod_eq_of_lt h, Nat.div_eq_of_lt h, lb_nil]
theorem powI (w : Nat) : (2 : Int) ^ ((w : Int)).toNat = ((2 ^ w : Nat) : Int) := by simp
theorem two_le_pow {w : Nat} (hw : 1 ≤ w) : 2 ≤ 2 ^ w := by
  have := Nat.pow_le_pow_right (n := 2) (by decide) hw
  simpa using this

section
variable {P : PG} {n : Nat} {st : St}

/-! the law's own limbs -/
theorem c_law_limbs (T : Txs P) {w x : Nat} (hw : 1 ≤ w) (hw2 : w ≤ 20) (hx : (lb (2 ^ w) x).length ≤ 2 ^ 20) : Gives P 1 20 [.int (x : Int), .int (w : Int)] (.list (nL (lb (2 ^ w) x))) := by
  intro n st Q q
  refine ctr T T.t20 rfl ?_
  have hB := two_le_pow hw
  have hBu : 2 ^ w ≤ 2 ^ 20 := Nat.pow_le_pow_right (by decide) hw2
  show wpSs (CallOK P n) m_law_limbs [some (.int x), some (.int w), none] st _
  simp only [m_law_limbs, wpE_r1, wpE_r2, wpE_r3, wpE_r4, wpE_r5, wpE_r6, wpE_r7, wpE_r8, wpE_r9, wpE_r10, wpE_r11, wpE_r12, wpE_r13, wpE_r14, wpE_r15, wpE_r16, wpE_r17, wpE_r18, wpE_r19, wpT_r1, wpT_r2, wpT_r3, wpT_r4, wpT_r5, wpTs_r1, wpEo_r1, wpEo_r2, wpEs_r1, wpEs_r2, wpI_r1, wpI_r2, wpI_r3, wpI_r4, wpI_r5, wpI_r6, wpS_r1, wpS_r2, wpS_r3, wpS_r4, wpS_r5, wpS_w, wpS_r7, wpS_r8, wpS_r9, wpS_r10, wpSs_n, wpSs_c, wpTs_r2, setAll_r1, setAll_r2, List.set_cons_succ, List.set_cons_zero, List.getElem?_cons_zero, List.getElem?_cons_succ, s_eq, s_ne, s_lt, s_le, s_gt, s_ge, s_is1, s_is2, s_isn1, s_isn2, s_neb, s_add, s_sub, s_mul, s_fdiv, s_mod, s_pow, s_lsh, s_rsh, s_and, s_or, s_xor, s_addL, s_mulL, s_backN, s_mkT, s_mkF, s_getL, s_getT, s_tg1, s_tg2, s_len, s_min, s_abs, s_int, s_intb]
  refine ⟨by simp, rfl, x + 1, whL_inv (fun y fr st' => ∃ pre, pre ++ lb (2 ^ w) y = lb (2 ^ w) x ∧ st' = st ++ [some (.list (nL pre))] ∧ fr = [some (.int (y : Int)), some (.int w), some (.ref st.length)]) ?_ _ x _ _ (Nat.lt_succ_self _) ⟨[], rfl, rfl, rfl⟩⟩
  rintro y fr st' R ⟨pre, hpre, rfl, rfl⟩ hn hs
  simp only [wpE_r1, wpE_r2, wpE_r3, wpE_r4, wpE_r5, wpE_r6, wpE_r7, wpE_r8, wpE_r9, wpE_r10, wpE_r11, wpE_r12, wpE_r13, wpE_r14, wpE_r15, wpE_r16, wpE_r17, wpE_r18, wpE_r19, wpT_r1, wpT_r2, wpT_r3, wpT_r4, wpT_r5, wpTs_r1, wpEo_r1, wpEo_r2, wpEs_r1, wpEs_r2, wpI_r1, wpI_r2, wpI_r3, wpI_r4, wpI_r5, wpI_r6, wpS_r1, wpS_r2, wpS_r3, wpS_r4, wpS_r5, wpS_w, wpS_r7, wpS_r8, wpS_r9, wpS_r10, wpSs_n, wpSs_c, wpTs_r2, setAll_r1, setAll_r2, List.set_cons_succ, List.set_cons_zero, List.getElem?_cons_zero, List.getElem?_cons_succ, s_eq, s_ne, s_lt, s_le, s_gt, s_ge, s_is1, s_is2, s_isn1, s_isn2, s_neb, s_add, s_sub, s_mul, s_fdiv, s_mod, s_pow, s_lsh, s_rsh, s_and, s_or, s_xor, s_addL, s_mulL, s_backN, s_mkT, s_mkF, s_getL, s_getT, s_tg1, s_tg2, s_len, s_min, s_abs, s_int, s_intb]
  by_cases hy : 0 < y
  · rw [show decide ((y : Int) > 0) = true by rw [decide_eq_true_iff]; omega]
    dsimp only
    refine ⟨⟨_, _, rfl, stA _⟩, nn, w_lt hw2, by decide, ?_⟩
    rw [powI]
    have hpos : 0 < 2 ^ w := Nat.two_pow_pos w
    refine ⟨by omega, ?_⟩
    rw [fmod_nat]
    simp only [appOk, stA, setA]
    rw [lb_pos hB hy] at hpre
    have hlen : pre.length ≤ 2 ^ 20 := by
      have := congrArg List.length hpre
      simp at this
      omega
    refine ⟨by rw [nL_length]; exact hlen, rfl, nn, w_lt hw2, by decide, by omega, by rw [Int.natAbs_natCast]; omega, ?_⟩
    rw [fdiv_nat]
    refine hn (y / 2 ^ w) _ _ (Nat.div_lt_self hy (by omega)) ⟨pre ++ [y % 2 ^ w], by simpa using hpre, by simp [nL], rfl⟩
  · rw [show decide ((y : Int) > 0) = false by rw [decide_eq_false_iff_not]; omega]
    dsimp only
    have : y = 0 := by omega
    subst this
    rw [lb_nil, List.append_nil] at hpre
    subst hpre
    simp only [fin, stA]
    refine ⟨Nat.le_refl _, ?_⟩
    rw [takeA]; exact q

/-! bits, of one limb -/
theorem c_bits (T : Txs P) {w x : Nat} (hw : w ≤ 64) : Gives P 1 9 [.list (nL [x]), .int (w : Int)] (.int (bitLen x)) := by
  intro n st Q q
  refine ctr T T.t9 rfl ?_
  show wpSs (CallOK P n) m_bits [some (.list (nL [x])), some (.int w)] st _
  simp only [m_bits, wpE_r1, wpE_r2, wpE_r3, wpE_r4, wpE_r5, wpE_r6, wpE_r7, wpE_r8, wpE_r9, wpE_r10, wpE_r11, wpE_r12, wpE_r13, wpE_r14, wpE_r15, wpE_r16, wpE_r17, wpE_r18, wpE_r19, wpT_r1, wpT_r2, wpT_r3, wpT_r4, wpT_r5, wpTs_r1, wpEo_r1, wpEo_r2, wpEs_r1, wpEs_r2, wpI_r1, wpI_r2, wpI_r3, wpI_r4, wpI_r5, wpI_r6, wpS_r1, wpS_r2, wpS_r3, wpS_r4, wpS_r5, wpS_w, wpS_r7, wpS_r8, wpS_r9, wpS_r10, wpSs_n, wpSs_c, wpTs_r2, setAll_r1, setAll_r2, List.set_cons_succ, List.set_cons_zero, List.getElem?_cons_zero, List.getElem?_cons_succ, s_eq, s_ne, s_lt, s_le, s_gt, s_ge, s_is1, s_is2, s_isn1, s_isn2, s_neb, s_add, s_sub, s_mul, s_fdiv, s_mod, s_pow, s_lsh, s_rsh, s_and, s_or, s_xor, s_addL, s_mulL, s_backN, s_mkT, s_mkF, s_getL, s_getT, s_tg1, s_tg2, s_len, s_min, s_abs, s_int, s_intb, nL_length]
  refine ⟨by simp [big], ?_⟩
  rw [show decide (((([x] : List Nat).length : Nat) : Int) > 0) = true by simp]
  dsimp only
  refine ⟨by simp [big], by left; simp, ?_⟩
  refine ⟨0, .int (x : Int), .inr (by simp [nL]), rfl, by simp [nL, big], ?_⟩
  refine ⟨rfl, ?_⟩
  rw [List.take_length]
  have : ((([x] : List Nat).length : Int) - 1) * (w : Int) + bitLen (x : Int) = bitLen x := by simp
  rw [this]; exact q

/-! a one-limb divisor -/
theorem c_divrem_small (T : Txs P) {w d x : Nat} (hw : 1 ≤ w) (hw2 : w ≤ 20) (hd : 0 < d) (hd2 : d < 2 ^ w) (hx : (lb (2 ^ w) x).length ≤ 2 ^ 20) :
    Gives P 3 11 [.list (nL (lb (2 ^ w) x)), .list (nL (lb (2 ^ w) d)), .int (w : Int)] (.tup [.list (nL (lb (2 ^ w) (x / d))), .list (nL (lb (2 ^ w) (x % d)))]) := by
  intro n st Q q
  refine ctr T T.t11 rfl ?_
  have hB := two_le_pow hw
  have hBu : 2 ^ w ≤ 2 ^ 20 := Nat.pow_le_pow_right (by decide) hw2
  rw [lb_small hB hd hd2]
  show wpSs (CallOK P (n + 2)) m_divrem_small [some (.list (nL (lb (2 ^ w) x))), some (.list (nL [d])), some (.int w), none, none] st _
  simp only [m_divrem_small, wpE_r1, wpE_r2, wpE_r3, wpE_r4, wpE_r5, wpE_r6, wpE_r7, wpE_r8, wpE_r9, wpE_r10, wpE_r11, wpE_r12, wpE_r13, wpE_r14, wpE_r15, wpE_r16, wpE_r17, wpE_r18, wpE_r19, wpT_r1, wpT_r2, wpT_r3, wpT_r4, wpT_r5, wpTs_r1, wpEo_r1, wpEo_r2, wpEs_r1, wpEs_r2, wpI_r1, wpI_r2, wpI_r3, wpI_r4, wpI_r5, wpI_r6, wpS_r1, wpS_r2, wpS_r3, wpS_r4, wpS_r5, wpS_w, wpS_r7, wpS_r8, wpS_r9, wpS_r10, wpSs_n, wpSs_c, wpTs_r2, setAll_r1, setAll_r2, List.set_cons_succ, List.set_cons_zero, List.getElem?_cons_zero, List.getElem?_cons_succ, s_eq, s_ne, s_lt, s_le, s_gt, s_ge, s_is1, s_is2, s_isn1, s_isn2, s_neb, s_add, s_sub, s_mul, s_fdiv, s_mod, s_pow, s_lsh, s_rsh, s_and, s_or, s_xor, s_addL, s_mulL, s_backN, s_mkT, s_mkF, s_getL, s_getT, s_tg1, s_tg2, s_len, s_min, s_abs, s_int, s_intb]
  refine nth_nL (i := 0) (x := d) rfl (by simp [big]) ?_
  refine (c_divrem_limb T hw (by omega) hd (by omega) hx hBu).up (by decide) ?_
  dsimp only
  refine ⟨rfl, ?_⟩
  simp only [wpE_r1, wpE_r2, wpE_r3, wpE_r4, wpE_r5, wpE_r6, wpE_r7, wpE_r8, wpE_r9, wpE_r10, wpE_r11, wpE_r12, wpE_r13, wpE_r14, wpE_r15, wpE_r16, wpE_r17, wpE_r18, wpE_r19, wpT_r1, wpT_r2, wpT_r3, wpT_r4, wpT_r5, wpTs_r1, wpEo_r1, wpEo_r2, wpEs_r1, wpEs_r2, wpI_r1, wpI_r2, wpI_r3, wpI_r4, wpI_r5, wpI_r6, wpS_r1, wpS_r2, wpS_r3, wpS_r4, wpS_r5, wpS_w, wpS_r7, wpS_r8, wpS_r9, wpS_r10, wpSs_n, wpSs_c, wpTs_r2, setAll_r1, setAll_r2, List.set_cons_succ, List.set_cons_zero, List.getElem?_cons_zero, List.getElem?_cons_succ, s_eq, s_ne, s_lt, s_le, s_gt, s_ge, s_is1, s_is2, s_isn1, s_isn2, s_neb, s_add, s_sub, s_mul, s_fdiv, s_mod, s_pow, s_lsh, s_rsh, s_and, s_or, s_xor, s_addL, s_mulL, s_backN, s_mkT, s_mkF, s_getL, s_getT, s_tg1, s_tg2, s_len, s_min, s_abs, s_int, s_intb]
  have hr : x % d < 2 ^ w := Nat.lt_trans (Nat.mod_lt _ hd) hd2
  by_cases h : 0 < x % d
  · rw [show decide ((((x % d : Nat) : Int)) > 0) = true by rw [decide_eq_true_iff]; exact_mod_cast h]
    rw [lb_small hB h hr] at q
    refine ⟨by simp, by simp, pure_tup2 (pures_nL _) rfl, ?_⟩
    rw [List.take_length]
    exact q
  · rw [show decide ((((x % d : Nat) : Int)) > 0) = false by rw [decide_eq_false_iff_not]; intro h'; exact h (by exact_mod_cast h')]
    have h0 : x % d = 0 := by omega
    rw [h0, lb_nil] at q
    refine ⟨by simp, by simp, pure_tup2 (pures_nL _) rfl, ?_⟩
    rw [List.take_length]
    exact q
end
end Mine
end

section
open PySem PySem.W PyProof.Rows PySem.Spec PySem.SeqAt PySem.Calls
set_option Elab.async false
set_option maxRecDepth 100000
set_option maxHeartbeats 1000000
set_option autoImplicit false
set_option linter.all false
namespace Mine

theorem or_shl (a b w : Nat) (h : b < 2 ^ w) : Builtin.bitOr (b : Int) ((a : Int) * 2 ^ w) = ((a * 2 ^ w + b : Nat) : Int) := by
  have e : (a : Int) * 2 ^ w = ((a * 2 ^ w : Nat) : Int) := by simp
  rw [e, or_nat, Nat.or_comm, Nat.mul_comm a, Nat.two_pow_add_eq_or_of_lt h]
theorem maskI (w : Nat) : (1 : Int) * 2 ^ ((w : Int)).toNat - 1 = ((2 ^ w - 1 : Nat) : Int) := by
  have := Nat.two_pow_pos w
  rw [Int.toNat_natCast, Int.one_mul, Int.natCast_sub (by omega)]
  simp
theorem nL_dg_range (B L x : Nat) : nL (dg B L x) = (List.range' 0 L).map fun i => Dv.int ((x / B ^ i % B : Nat) : Int) := by
  unfold nL dg
  rw [List.map_map, List.range_eq_range']; rfl
theorem dg_snoc (B L x : Nat) : dg B L x ++ [x / B ^ L % B] = dg B (L + 1) x := by
  unfold dg
  rw [List.range_succ, List.map_append]; rfl

theorem sl_step {B x i s : Nat} (hB : 0 < B) :
    x / B ^ i % B * 2 ^ s + x % B ^ i * 2 ^ s / B ^ i = x % B ^ (i + 1) * 2 ^ s / B ^ i ∧
    (x % B ^ (i + 1) * 2 ^ s / B ^ i) % B = x * 2 ^ s / B ^ i % B ∧ (x % B ^ (i + 1) * 2 ^ s / B ^ i) / B = x % B ^ (i + 1) * 2 ^ s / B ^ (i + 1) := by
  have hp : 0 < B ^ i := Nat.pow_pos hB
  refine ⟨?_, ?_, ?_⟩
  · rw [Nat.mod_pow_succ, Nat.add_mul, Nat.mul_assoc, Nat.add_mul_div_left _ _ hp, Nat.add_comm]
  · have h := Nat.mod_add_div x (B ^ (i + 1))
    have h2 : x * 2 ^ s = x % B ^ (i + 1) * 2 ^ s + B ^ i * (B * (x / B ^ (i + 1) * 2 ^ s)) := by
      calc x * 2 ^ s = (x % B ^ (i + 1) + B ^ (i + 1) * (x / B ^ (i + 1))) * 2 ^ s := by rw [h]
        _ = _ := by rw [Nat.add_mul, Nat.pow_succ]; simp only [Nat.mul_assoc]
    rw [h2, Nat.add_mul_div_left _ _ hp, Nat.add_mul_mod_self_left]
  · rw [Nat.div_div_eq_div_mul, ← Nat.pow_succ]

theorem sr_step {w s y i : Nat} (hs : s ≤ w) :
    ((y / (2 ^ w) ^ i % 2 ^ w / 2 ^ s) ||| (y / (2 ^ w) ^ (i + 1) % 2 ^ w * 2 ^ (w - s))) % 2 ^ w = y / 2 ^ s / (2 ^ w) ^ i % 2 ^ w := by
  have hBs : 2 ^ w = 2 ^ s * 2 ^ (w - s) := by rw [← Nat.pow_add, Nat.add_sub_of_le hs]
  have hps : 0 < 2 ^ s := Nat.two_pow_pos s
  have hpB : 0 < 2 ^ w := Nat.two_pow_pos w
  rw [Nat.div_div_eq_div_mul y, Nat.mul_comm (2 ^ s), ← Nat.div_div_eq_div_mul]
  have hv : y / (2 ^ w) ^ (i + 1) = y / (2 ^ w) ^ i / 2 ^ w := by rw [Nat.pow_succ, Nat.div_div_eq_div_mul]
  rw [hv]
  generalize y / (2 ^ w) ^ i = u
  have h1 : u % 2 ^ w / 2 ^ s < 2 ^ (w - s) := Nat.div_lt_of_lt_mul (by rw [← hBs]; exact Nat.mod_lt _ hpB)
  rw [Nat.or_comm, Nat.mul_comm _ (2 ^ (w - s)), ← Nat.two_pow_add_eq_or_of_lt h1]
  have h2 : u / 2 ^ s = 2 ^ (w - s) * (u / 2 ^ w) + u % 2 ^ w / 2 ^ s := by
    have h3 := Nat.div_add_mod u (2 ^ w)
    calc u / 2 ^ s = (2 ^ w * (u / 2 ^ w) + u % 2 ^ w) / 2 ^ s := by rw [h3]
      _ = _ := by
        conv => lhs; rw [hBs, Nat.mul_assoc, Nat.mul_add_div hps]
        rw [← hBs]
  rw [h2]
  have h4 := Nat.div_add_mod (u / 2 ^ w) (2 ^ w)
  have h5 : 2 ^ (w - s) * (u / 2 ^ w) = 2 ^ (w - s) * (u / 2 ^ w % 2 ^ w) + 2 ^ w * (2 ^ (w - s) * (u / 2 ^ w / 2 ^ w)) := by
    conv => lhs; rw [← h4]
    rw [Nat.mul_add, Nat.add_comm]
    congr 1
    rw [Nat.mul_left_comm]
  rw [h5]
  rw [show ∀ a b c : Nat, a + b + c = a + c + b from Nat.add_right_comm, Nat.add_mul_mod_self_left]

section
variable {P : PG} {n : Nat} {st : St}

theorem c_shift_left (T : Txs P) {w s x : Nat} (hw : 1 ≤ w) (hw2 : w ≤ 20) (hs : s < w) (hx : (lb (2 ^ w) x).length < 2 ^ 20) :
    Gives P 1 7 [.list (nL (lb (2 ^ w) x)), .int (s : Int), .int (w : Int)] (.list (nL (lb (2 ^ w) (x * 2 ^ s)))) := by
  intro n st Q q
  refine ctr T T.t7 rfl ?_
  have hB := two_le_pow hw
  have hBu : 2 ^ w ≤ 2 ^ 20 := Nat.pow_le_pow_right (by decide) hw2
  have hsB : 2 ^ s < 2 ^ w := Nat.pow_lt_pow_right (by decide) hs
  obtain ⟨L, h1, hx1, hx2⟩ := lb_form hB x
  rw [h1, dg_length] at hx
  rw [h1]
  have bigL : L < big := Nat.lt_of_le_of_lt (by first | exact hx | exact Nat.le_of_lt hx) (show 2 ^ 20 < big by unfold big; decide)
  show wpSs (CallOK P n) m_shift_left [some (.list (nL (dg (2 ^ w) L x))), some (.int s), some (.int w), none, none, none, none, none, none] st _
  simp only [m_shift_left, wpE_r1, wpE_r2, wpE_r3, wpE_r4, wpE_r5, wpE_r6, wpE_r7, wpE_r8, wpE_r9, wpE_r10, wpE_r11, wpE_r12, wpE_r13, wpE_r14, wpE_r15, wpE_r16, wpE_r17, wpE_r18, wpE_r19, wpT_r1, wpT_r2, wpT_r3, wpT_r4, wpT_r5, wpTs_r1, wpEo_r1, wpEo_r2, wpEs_r1, wpEs_r2, wpI_r1, wpI_r2, wpI_r3, wpI_r4, wpI_r5, wpI_r6, wpS_r1, wpS_r2, wpS_r3, wpS_r4, wpS_r5, wpS_w, wpS_r7, wpS_r8, wpS_r9, wpS_r10, wpSs_n, wpSs_c, wpTs_r2, setAll_r1, setAll_r2, List.set_cons_succ, List.set_cons_zero, List.getElem?_cons_zero, List.getElem?_cons_succ, s_eq, s_ne, s_lt, s_le, s_gt, s_ge, s_is1, s_is2, s_isn1, s_isn2, s_neb, s_add, s_sub, s_mul, s_fdiv, s_mod, s_pow, s_lsh, s_rsh, s_and, s_or, s_xor, s_addL, s_mulL, s_backN, s_mkT, s_mkF, s_getL, s_getT, s_tg1, s_tg2, s_len, s_min, s_abs, s_int, s_intb, nL_length, dg_length]
  refine ⟨bigL, ?_⟩
  by_cases hL : L = 0
  · subst hL
    rw [show (((0 : Nat) : Int) == 0) = true by decide]
    have hx0 : x = 0 := by simpa using hx1
    subst hx0
    rw [Nat.zero_mul, lb_nil] at q
    refine ⟨by simp, rfl, ?_⟩
    rw [List.take_length]; exact q
  · rw [show ((L : Int) == 0) = false by rw [beq_eq_false_iff_ne]; omega]
    dsimp only
    refine ⟨by omega, by rw [Int.natAbs_natCast]; omega, by omega, by simp, rfl, ?_⟩
    rw [fdiv_nat, fmod_nat, Nat.div_eq_of_lt hs, Nat.mod_eq_of_lt hs]
    refine ⟨by simp, by decide, by decide, by simp, rfl, nn, w_lt hw2, by decide, by simp, rfl, ?_⟩
    rw [maskI, nL_dg_range]
    have hbase := hx2.resolve_left hL
    refine forL_up (fun i => Dv.int ((x / (2 ^ w) ^ i % 2 ^ w : Nat) : Int)) (fun i fr st' => st' = st ++ [some (.list (nL (dg (2 ^ w) i (x * 2 ^ s))))] ∧ ∃ o, fr = [some (.list ((List.range' 0 L).map fun i => Dv.int ((x / (2 ^ w) ^ i % 2 ^ w : Nat) : Int))), some (.int s), some (.int w), some (.int 0), some (.int s), some (.ref st.length), some (.int ((x % (2 ^ w) ^ i * 2 ^ s / (2 ^ w) ^ i : Nat) : Int)), some (.int ((2 ^ w - 1 : Nat) : Int)), o]) L ?_ ?_ L 0 _ _ (by omega) ⟨rfl, _, by simp [Nat.mod_one]; rfl⟩
    · rintro i fr st' K hi ⟨rfl, o, rfl⟩ hn hs'
      simp only [wpE_r1, wpE_r2, wpE_r3, wpE_r4, wpE_r5, wpE_r6, wpE_r7, wpE_r8, wpE_r9, wpE_r10, wpE_r11, wpE_r12, wpE_r13, wpE_r14, wpE_r15, wpE_r16, wpE_r17, wpE_r18, wpE_r19, wpT_r1, wpT_r2, wpT_r3, wpT_r4, wpT_r5, wpTs_r1, wpEo_r1, wpEo_r2, wpEs_r1, wpEs_r2, wpI_r1, wpI_r2, wpI_r3, wpI_r4, wpI_r5, wpI_r6, wpS_r1, wpS_r2, wpS_r3, wpS_r4, wpS_r5, wpS_w, wpS_r7, wpS_r8, wpS_r9, wpS_r10, wpSs_n, wpSs_c, wpTs_r2, setAll_r1, setAll_r2, List.set_cons_succ, List.set_cons_zero, List.getElem?_cons_zero, List.getElem?_cons_succ, s_eq, s_ne, s_lt, s_le, s_gt, s_ge, s_is1, s_is2, s_isn1, s_isn2, s_neb, s_add, s_sub, s_mul, s_fdiv, s_mod, s_pow, s_lsh, s_rsh, s_and, s_or, s_xor, s_addL, s_mulL, s_backN, s_mkT, s_mkF, s_getL, s_getT, s_tg1, s_tg2, s_len, s_min, s_abs, s_int, s_intb]
      obtain ⟨e1, e2, e3⟩ := sl_step (x := x) (i := i) (s := s) (B := 2 ^ w) (by omega)
      have hc : x % (2 ^ w) ^ i * 2 ^ s / (2 ^ w) ^ i < 2 ^ s := by
        refine Nat.div_lt_of_lt_mul ?_
        exact Nat.mul_lt_mul_of_pos_right (Nat.mod_lt _ (Nat.pow_pos (by omega))) (Nat.two_pow_pos s)
      have hdlt : x / (2 ^ w) ^ i % 2 ^ w < 2 ^ w := Nat.mod_lt _ (by omega)
      refine ⟨by omega, by omega, by rw [Int.natAbs_natCast]; omega, ?_⟩
      rw [Int.toNat_natCast, or_shl _ _ _ hc, e1]
      refine ⟨⟨_, _, rfl, stA _⟩, ?_⟩
      rw [mask_nat, e2]
      simp only [appOk, stA, setA]
      refine ⟨by rw [nL_length, dg_length]; omega, rfl, Int.natCast_nonneg _, Int.natCast_nonneg _, ?_⟩
      rw [powI, fdiv_nat, e3]
      refine hn _ _ ⟨?_, _, rfl⟩
      rw [← dg_snoc]; simp [nL]
    · rintro fr st' ⟨rfl, o, rfl⟩
      simp only [wpE_r1, wpE_r2, wpE_r3, wpE_r4, wpE_r5, wpE_r6, wpE_r7, wpE_r8, wpE_r9, wpE_r10, wpE_r11, wpE_r12, wpE_r13, wpE_r14, wpE_r15, wpE_r16, wpE_r17, wpE_r18, wpE_r19, wpT_r1, wpT_r2, wpT_r3, wpT_r4, wpT_r5, wpTs_r1, wpEo_r1, wpEo_r2, wpEs_r1, wpEs_r2, wpI_r1, wpI_r2, wpI_r3, wpI_r4, wpI_r5, wpI_r6, wpS_r1, wpS_r2, wpS_r3, wpS_r4, wpS_r5, wpS_w, wpS_r7, wpS_r8, wpS_r9, wpS_r10, wpSs_n, wpSs_c, wpTs_r2, setAll_r1, setAll_r2, List.set_cons_succ, List.set_cons_zero, List.getElem?_cons_zero, List.getElem?_cons_succ, s_eq, s_ne, s_lt, s_le, s_gt, s_ge, s_is1, s_is2, s_isn1, s_isn2, s_neb, s_add, s_sub, s_mul, s_fdiv, s_mod, s_pow, s_lsh, s_rsh, s_and, s_or, s_xor, s_addL, s_mulL, s_backN, s_mkT, s_mkF, s_getL, s_getT, s_tg1, s_tg2, s_len, s_min, s_abs, s_int, s_intb]
      rw [Nat.mod_eq_of_lt hx1]
      by_cases hc : 0 < x * 2 ^ s / (2 ^ w) ^ L
      · rw [show decide ((((x * 2 ^ s / (2 ^ w) ^ L : Nat) : Int)) > 0) = true by rw [decide_eq_true_iff]; exact_mod_cast hc]
        dsimp only
        refine ⟨⟨_, _, rfl, stA _⟩, ?_⟩
        simp only [appOk, stA, setA]
        refine ⟨by rw [nL_length, dg_length]; omega, rfl, ?_⟩
        have hclt : x * 2 ^ s / (2 ^ w) ^ L < 2 ^ w := by
          refine Nat.div_lt_of_lt_mul ?_
          exact Nat.lt_of_lt_of_le (Nat.mul_lt_mul_of_pos_right hx1 (Nat.two_pow_pos s)) (Nat.mul_le_mul_left _ (Nat.le_of_lt hsB))
        have e : nL (dg (2 ^ w) L (x * 2 ^ s)) ++ [Dv.int ((x * 2 ^ s / (2 ^ w) ^ L : Nat) : Int)] = nL (lb (2 ^ w) (x * 2 ^ s)) := by
          have h5 : lb (2 ^ w) (x * 2 ^ s) = dg (2 ^ w) (L + 1) (x * 2 ^ s) := by
            refine lb_dg hB ?_ (.inr ?_)
            · rw [Nat.pow_succ]
              exact Nat.lt_of_lt_of_le (Nat.mul_lt_mul_of_pos_right hx1 (Nat.two_pow_pos s)) (Nat.mul_le_mul_left _ (Nat.le_of_lt hsB))
            · rw [Nat.add_sub_cancel]
              exact Nat.le_of_not_lt fun h => by rw [Nat.div_eq_of_lt h] at hc; omega
          rw [h5, ← dg_snoc, Nat.mod_eq_of_lt hclt]; simp [nL]
        rw [e]
        simp only [fin, stA]
        refine ⟨Nat.le_refl _, ?_⟩
        rw [takeA]; exact q
      · rw [show decide ((((x * 2 ^ s / (2 ^ w) ^ L : Nat) : Int)) > 0) = false by rw [decide_eq_false_iff_not]; intro h; exact hc (by exact_mod_cast h)]
        dsimp only
        have h0 : x * 2 ^ s / (2 ^ w) ^ L = 0 := Nat.eq_zero_of_not_pos hc
        have h5 : lb (2 ^ w) (x * 2 ^ s) = dg (2 ^ w) L (x * 2 ^ s) := by
          refine lb_dg hB (Nat.lt_of_div_eq_zero (Nat.pow_pos (by omega)) h0) (.inr ?_)
          exact Nat.le_trans hbase (Nat.le_mul_of_pos_right _ (Nat.two_pow_pos s))
        rw [← h5]
        simp only [fin, stA]
        refine ⟨Nat.le_refl _, ?_⟩
        rw [takeA]; exact q

theorem c_shift_right (T : Txs P) {w s y : Nat} (hw : 1 ≤ w) (hw2 : w ≤ 20) (hs : s < w) (hx : (lb (2 ^ w) y).length ≤ 2 ^ 20) :
    Gives P 2 8 [.list (nL (lb (2 ^ w) y)), .int (s : Int), .int (w : Int)] (.list (nL (lb (2 ^ w) (y / 2 ^ s)))) := by
  intro n st Q q
  refine ctr T T.t8 rfl ?_
  have hB := two_le_pow hw
  have hBu : 2 ^ w ≤ 2 ^ 20 := Nat.pow_le_pow_right (by decide) hw2
  obtain ⟨L, h1, hx1, hx2⟩ := lb_form hB y
  rw [h1, dg_length] at hx
  rw [h1]
  have bigL : L < big := Nat.lt_of_le_of_lt (by first | exact hx | exact Nat.le_of_lt hx) (show 2 ^ 20 < big by unfold big; decide)
  show wpSs (CallOK P (n + 1)) m_shift_right [some (.list (nL (dg (2 ^ w) L y))), some (.int s), some (.int w), none, none, none, none, none, none] st _
  simp only [m_shift_right, wpE_r1, wpE_r2, wpE_r3, wpE_r4, wpE_r5, wpE_r6, wpE_r7, wpE_r8, wpE_r9, wpE_r10, wpE_r11, wpE_r12, wpE_r13, wpE_r14, wpE_r15, wpE_r16, wpE_r17, wpE_r18, wpE_r19, wpT_r1, wpT_r2, wpT_r3, wpT_r4, wpT_r5, wpTs_r1, wpEo_r1, wpEo_r2, wpEs_r1, wpEs_r2, wpI_r1, wpI_r2, wpI_r3, wpI_r4, wpI_r5, wpI_r6, wpS_r1, wpS_r2, wpS_r3, wpS_r4, wpS_r5, wpS_w, wpS_r7, wpS_r8, wpS_r9, wpS_r10, wpSs_n, wpSs_c, wpTs_r2, setAll_r1, setAll_r2, List.set_cons_succ, List.set_cons_zero, List.getElem?_cons_zero, List.getElem?_cons_succ, s_eq, s_ne, s_lt, s_le, s_gt, s_ge, s_is1, s_is2, s_isn1, s_isn2, s_neb, s_add, s_sub, s_mul, s_fdiv, s_mod, s_pow, s_lsh, s_rsh, s_and, s_or, s_xor, s_addL, s_mulL, s_backN, s_mkT, s_mkF, s_getL, s_getT, s_tg1, s_tg2, s_len, s_min, s_abs, s_int, s_intb, nL_length, dg_length]
  refine ⟨by omega, by rw [Int.natAbs_natCast]; omega, by omega, by simp, rfl, ?_⟩
  rw [fdiv_nat, fmod_nat, Nat.div_eq_of_lt hs, Nat.mod_eq_of_lt hs]
  refine ⟨by simp, rfl, nn, w_lt hw2, by decide, by simp, rfl, bigL, by decide, by rw [Int.natAbs_natCast]; omega, ?_⟩
  rw [maskI]
  have hitems : (List.range ((L : Int) - ((0 : Nat) : Int)).toNat).map (fun i : Nat => Dv.int (((0 : Nat) : Int) + (i : Int))) = (List.range L).map fun i : Nat => .int (i : Int) := by
    rw [show ((L : Int) - ((0 : Nat) : Int)).toNat = L from Int.toNat_sub L 0]
    refine List.map_congr_left fun i _ => ?_
    exact congrArg Dv.int (Int.zero_add _)
  rw [hitems]
  refine forL_range (fun i fr st' => st' = st ++ [some (.list (nL (dg (2 ^ w) i (y / 2 ^ s))))] ∧ ∃ o o2, fr = [some (.list (nL (dg (2 ^ w) L y))), some (.int s), some (.int w), some (.int ((0 : Nat) : Int)), some (.int s), some (.ref st.length), some (.int ((2 ^ w - 1 : Nat) : Int)), o, o2]) L ?_ ?_ ⟨rfl, _, _, rfl⟩
  · rintro i fr st' K hi ⟨rfl, o, o2, rfl⟩ hn hs'
    simp only [wpE_r1, wpE_r2, wpE_r3, wpE_r4, wpE_r5, wpE_r6, wpE_r7, wpE_r8, wpE_r9, wpE_r10, wpE_r11, wpE_r12, wpE_r13, wpE_r14, wpE_r15, wpE_r16, wpE_r17, wpE_r18, wpE_r19, wpT_r1, wpT_r2, wpT_r3, wpT_r4, wpT_r5, wpTs_r1, wpEo_r1, wpEo_r2, wpEs_r1, wpEs_r2, wpI_r1, wpI_r2, wpI_r3, wpI_r4, wpI_r5, wpI_r6, wpS_r1, wpS_r2, wpS_r3, wpS_r4, wpS_r5, wpS_w, wpS_r7, wpS_r8, wpS_r9, wpS_r10, wpSs_n, wpSs_c, wpTs_r2, setAll_r1, setAll_r2, List.set_cons_succ, List.set_cons_zero, List.getElem?_cons_zero, List.getElem?_cons_succ, s_eq, s_ne, s_lt, s_le, s_gt, s_ge, s_is1, s_is2, s_isn1, s_isn2, s_neb, s_add, s_sub, s_mul, s_fdiv, s_mod, s_pow, s_lsh, s_rsh, s_and, s_or, s_xor, s_addL, s_mulL, s_backN, s_mkT, s_mkF, s_getL, s_getT, s_tg1, s_tg2, s_len, s_min, s_abs, s_int, s_intb, nL_length, dg_length]
    refine ⟨bigL, ?_⟩
    have tail : ∀ ab : Nat, ab = y / (2 ^ w) ^ (i + 1) % 2 ^ w → (∃ m l, Dv.ref st.length = .ref m ∧ (st ++ [some (Mo.list (nL (dg (2 ^ w) i (y / 2 ^ s))))])[m]? = some (some (.list l))) ∧
        nth (nL (dg (2 ^ w) L y)) (i : Int) fun d => binOk .RShift false (st ++ [some (Mo.list (nL (dg (2 ^ w) i (y / 2 ^ s))))]) d (.int s) fun da st1 => (0 : Int) ≤ (w : Int) - s ∧ (w : Int) - s < 10000 ∧ (ab : Int).natAbs < 2 ^ 64 ∧
          binOk .BitOr false st1 da (.int ((ab : Int) * 2 ^ ((w : Int) - s).toNat)) fun da st1 => binOk .BitAnd false st1 da (.int ((2 ^ w - 1 : Nat) : Int)) fun d st2 => appOk st2 (.ref st.length) d fun st3 =>
            K none [some (.list (nL (dg (2 ^ w) L y))), some (.int s), some (.int w), some (.int ((0 : Nat) : Int)), some (.int s), some (.ref st.length), some (.int ((2 ^ w - 1 : Nat) : Int)), some (.int i), some (.int (ab : Int))] st3 := by
      rintro ab rfl
      refine ⟨⟨_, _, rfl, stA _⟩, nth_dg hi bigL ?_⟩
      have hablt : y / (2 ^ w) ^ (i + 1) % 2 ^ w < 2 ^ w := Nat.mod_lt _ (by omega)
      rw [s_rsh]
      refine ⟨by omega, by omega, by omega, by omega, by rw [Int.natAbs_natCast]; omega, ?_⟩
      rw [s_or, s_and, powI, fdiv_nat]
      have e1 : ((w : Int) - s).toNat = w - s := Int.toNat_sub w s
      have e2 : ((y / (2 ^ w) ^ (i + 1) % 2 ^ w : Nat) : Int) * 2 ^ (w - s) = ((y / (2 ^ w) ^ (i + 1) % 2 ^ w * 2 ^ (w - s) : Nat) : Int) := by simp
      rw [e1, e2, or_nat, mask_nat, sr_step (Nat.le_of_lt hs)]
      simp only [appOk, stA, setA]
      refine ⟨by rw [nL_length, dg_length]; omega, rfl, hn _ _ ⟨?_, _, _, rfl⟩⟩
      rw [← dg_snoc]; simp [nL]
    by_cases hi2 : i + 1 < L
    · rw [show decide (((i : Int) + 1) < (L : Int)) = true by rw [decide_eq_true_iff]; omega]
      dsimp only
      rw [show (i : Int) + 1 = ((i + 1 : Nat) : Int) from rfl]
      refine nth_dg hi2 bigL ?_
      exact tail _ rfl
    · rw [show decide (((i : Int) + 1) < (L : Int)) = false by rw [decide_eq_false_iff_not]; omega]
      refine tail 0 ?_
      rw [dg_high hx1 (by omega) hB, Nat.zero_mod]
  · rintro fr st' ⟨rfl, o, o2, rfl⟩
    simp only [wpE_r1, wpE_r2, wpE_r3, wpE_r4, wpE_r5, wpE_r6, wpE_r7, wpE_r8, wpE_r9, wpE_r10, wpE_r11, wpE_r12, wpE_r13, wpE_r14, wpE_r15, wpE_r16, wpE_r17, wpE_r18, wpE_r19, wpT_r1, wpT_r2, wpT_r3, wpT_r4, wpT_r5, wpTs_r1, wpEo_r1, wpEo_r2, wpEs_r1, wpEs_r2, wpI_r1, wpI_r2, wpI_r3, wpI_r4, wpI_r5, wpI_r6, wpS_r1, wpS_r2, wpS_r3, wpS_r4, wpS_r5, wpS_w, wpS_r7, wpS_r8, wpS_r9, wpS_r10, wpSs_n, wpSs_c, wpTs_r2, setAll_r1, setAll_r2, List.set_cons_succ, List.set_cons_zero, List.getElem?_cons_zero, List.getElem?_cons_succ, s_eq, s_ne, s_lt, s_le, s_gt, s_ge, s_is1, s_is2, s_isn1, s_isn2, s_neb, s_add, s_sub, s_mul, s_fdiv, s_mod, s_pow, s_lsh, s_rsh, s_and, s_or, s_xor, s_addL, s_mulL, s_backN, s_mkT, s_mkF, s_getL, s_getT, s_tg1, s_tg2, s_len, s_min, s_abs, s_int, s_intb]
    have hq : y / 2 ^ s < (2 ^ w) ^ L := Nat.lt_of_le_of_lt (Nat.div_le_self _ _) hx1
    refine (c_normal (n := n) T hB hq hx (.inr ⟨_, rfl, stA _⟩) ?_)
    refine ⟨pures_nL _, ?_⟩
    rw [takeA]; exact q
end
end Mine
end

section
open PySem PySem.W PyProof.Rows PySem.Spec PySem.SeqAt PySem.Calls
set_option Elab.async false
set_option maxRecDepth 100000
set_option maxHeartbeats 1000000
set_option autoImplicit false
set_option linter.all false
namespace Mine

noncomputable def mix (B L V V' m : Nat) : List Nat := (List.range L).map fun k => if k < m then V' / B ^ k % B else V / B ^ k % B
theorem mix_length (B L V V' m : Nat) : (mix B L V V' m).length = L := by simp [mix]
theorem mix_getE {B L V V' m i : Nat} (h : i < (mix B L V V' m).length) : (mix B L V V' m)[i] = if i < m then V' / B ^ i % B else V / B ^ i % B := by
  simp only [mix, List.getElem_map, List.getElem_range]
theorem mix_get {B L V V' m : Nat} (h : m < L) : (mix B L V V' m)[m]? = some (V / B ^ m % B) := by
  rw [List.getElem?_eq_getElem (by rw [mix_length]; exact h), mix_getE, if_neg (Nat.lt_irrefl _)]
theorem mix_set {B L V V' m : Nat} (h : m < L) : (mix B L V V' m).set m (V' / B ^ m % B) = mix B L V V' (m + 1) := by
  apply List.ext_getElem
  · simp [mix]
  · intro i h1 h2
    rw [List.getElem_set, mix_getE, mix_getE]
    by_cases e : m = i
    · subst e; simp
    · rw [if_neg e]
      by_cases e2 : i < m
      · rw [if_pos e2, if_pos (by omega)]
      · rw [if_neg e2, if_neg (by omega)]
theorem mix_start {B L V V' m : Nat} (h : ∀ k, k < m → V / B ^ k % B = V' / B ^ k % B) : mix B L V V' m = dg B L V := by
  unfold mix dg
  refine List.map_congr_left fun i _ => ?_
  by_cases e : i < m
  · rw [if_pos e, h i e]
  · rw [if_neg e]
theorem mix_end {B L V V' m : Nat} (h : ∀ k, m ≤ k → k < L → V / B ^ k % B = V' / B ^ k % B) : mix B L V V' m = dg B L V' := by
  unfold mix dg
  refine List.map_congr_left fun i hi => ?_
  by_cases e : i < m
  · rw [if_pos e]
  · rw [if_neg e, h i (by omega) (List.mem_range.mp hi)]

theorem enum_dg (B L x : Nat) : (nL (dg B L x)).zipIdx.map (fun p => Dv.tup [.int p.2, p.1]) = (List.range' 0 L).map fun i : Nat => Dv.tup [.int (i : Int), .int ((x / B ^ i % B : Nat) : Int)] := by
  rw [nL_dg_range]
  apply List.ext_getElem
  · simp
  · intro i h1 h2
    simp

theorem ms_step {B U b d j : Nat} (hB : 0 < B) :
    (U % B ^ j + d * (b % B ^ j)) / B ^ j + (U / B ^ j % B + d * (b / B ^ j % B)) = (U % B ^ (j + 1) + d * (b % B ^ (j + 1))) / B ^ j ∧
    (U % B ^ (j + 1) + d * (b % B ^ (j + 1))) / B ^ j % B = (U + d * b) / B ^ j % B ∧
    (U % B ^ (j + 1) + d * (b % B ^ (j + 1))) / B ^ j / B = (U % B ^ (j + 1) + d * (b % B ^ (j + 1))) / B ^ (j + 1) := by
  have hp : 0 < B ^ j := Nat.pow_pos hB
  refine ⟨?_, ?_, ?_⟩
  · rw [Nat.mod_pow_succ, Nat.mod_pow_succ]
    have : U % B ^ j + B ^ j * (U / B ^ j % B) + d * (b % B ^ j + B ^ j * (b / B ^ j % B)) = (U % B ^ j + d * (b % B ^ j)) + B ^ j * (U / B ^ j % B + d * (b / B ^ j % B)) := by
      rw [Nat.mul_add, Nat.mul_add, Nat.mul_left_comm d, Nat.add_add_add_comm]
    rw [this, Nat.add_mul_div_left _ _ hp]
  · have hU := Nat.mod_add_div U (B ^ (j + 1))
    have hb := Nat.mod_add_div b (B ^ (j + 1))
    have : U + d * b = (U % B ^ (j + 1) + d * (b % B ^ (j + 1))) + B ^ j * (B * (U / B ^ (j + 1) + d * (b / B ^ (j + 1)))) := by
      calc U + d * b = (U % B ^ (j + 1) + B ^ (j + 1) * (U / B ^ (j + 1))) + d * (b % B ^ (j + 1) + B ^ (j + 1) * (b / B ^ (j + 1))) := by rw [hU, hb]
        _ = _ := by
          rw [← Nat.mul_assoc (B ^ j) B, show B ^ j * B = B ^ (j + 1) from (Nat.pow_succ B j).symm, Nat.mul_add, Nat.mul_add, Nat.mul_left_comm d, Nat.add_add_add_comm]
    rw [this, Nat.add_mul_div_left _ _ hp, Nat.add_mul_mod_self_left]
  · rw [Nat.div_div_eq_div_mul, ← Nat.pow_succ]

section
variable {P : PG} {n : Nat} {st : St}

theorem c_mul_school (T : Txs P) {w x y : Nat} (hw : 1 ≤ w) (hw2 : w ≤ 20) (hx : (lb (2 ^ w) x).length ≤ 2 ^ 18) (hy : (lb (2 ^ w) y).length ≤ 2 ^ 18) :
    Gives P 2 10 [.list (nL (lb (2 ^ w) x)), .list (nL (lb (2 ^ w) y)), .int (w : Int)] (.list (nL (lb (2 ^ w) (x * y)))) := by
  intro n st Q q
  refine ctr T T.t10 rfl ?_
  have hB := two_le_pow hw
  have hBu : 2 ^ w ≤ 2 ^ 20 := Nat.pow_le_pow_right (by decide) hw2
  obtain ⟨La, h1, hx1, -⟩ := lb_form hB x
  obtain ⟨Lb, h2, hy1, -⟩ := lb_form hB y
  rw [h1, dg_length] at hx
  rw [h2, dg_length] at hy
  rw [h1, h2]
  have bigA : La < big := Nat.lt_of_le_of_lt hx (by unfold big; decide)
  have bigB : Lb < big := Nat.lt_of_le_of_lt hy (by unfold big; decide)
  have hLL : La + Lb ≤ 2 ^ 20 := Nat.le_trans (Nat.add_le_add hx hy) (by decide)
  have hLb : La + Lb < big := Nat.lt_of_le_of_lt hLL (by unfold big; decide)
  have hL62 : La + Lb < 2 ^ 62 := Nat.lt_of_le_of_lt hLL (by decide)
  show wpSs (CallOK P (n + 1)) m_mul_school [some (.list (nL (dg (2 ^ w) La x))), some (.list (nL (dg (2 ^ w) Lb y))), some (.int w), none, none, none, none, none, none, none] st _
  simp only [m_mul_school, wpE_r1, wpE_r2, wpE_r3, wpE_r4, wpE_r5, wpE_r6, wpE_r7, wpE_r8, wpE_r9, wpE_r10, wpE_r11, wpE_r12, wpE_r13, wpE_r14, wpE_r15, wpE_r16, wpE_r17, wpE_r18, wpE_r19, wpT_r1, wpT_r2, wpT_r3, wpT_r4, wpT_r5, wpTs_r1, wpEo_r1, wpEo_r2, wpEs_r1, wpEs_r2, wpI_r1, wpI_r2, wpI_r3, wpI_r4, wpI_r5, wpI_r6, wpS_r1, wpS_r2, wpS_r3, wpS_r4, wpS_r5, wpS_w, wpS_r7, wpS_r8, wpS_r9, wpS_r10, wpSs_n, wpSs_c, wpTs_r2, setAll_r1, setAll_r2, List.set_cons_succ, List.set_cons_zero, List.getElem?_cons_zero, List.getElem?_cons_succ, s_eq, s_ne, s_lt, s_le, s_gt, s_ge, s_is1, s_is2, s_isn1, s_isn2, s_neb, s_add, s_sub, s_mul, s_fdiv, s_mod, s_pow, s_lsh, s_rsh, s_and, s_or, s_xor, s_addL, s_mulL, s_backN, s_mkT, s_mkF, s_getL, s_getT, s_tg1, s_tg2, s_len, s_min, s_abs, s_int, s_intb, nL_length, dg_length]
  refine ⟨by simp, bigA, bigB, ii62 hL62, i62 (x := La + Lb), by simp; omega, ?_, nn, w_lt hw2, by decide, by simp, rfl, ?_⟩
  · rw [← Int.natCast_add, zeros]; exact pures_nL _
  rw [← Int.natCast_add, zeros, maskI]
  generalize hBd : 2 ^ w = B at *
  have hB0 : 0 < B := Nat.lt_of_lt_of_le (by decide) hB
  refine ⟨bigA, ?_⟩
  rw [enum_dg]
  refine forL_up (fun i : Nat => Dv.tup [.int (i : Int), .int ((x / B ^ i % B : Nat) : Int)]) (fun i fr st' => st' = st ++ [some (.list (nL (dg B (La + Lb) (x % B ^ i * y))))] ∧ ∃ a5 a6 a7 a8 a9, fr = [some (.list (nL (dg B La x))), some (.list (nL (dg B Lb y))), some (.int w), some (.ref st.length), some (.int ((B - 1 : Nat) : Int)), a5, a6, a7, a8, a9]) La ?_ ?_ La 0 _ _ (by omega)
    ⟨?_, _, _, _, _, _, rfl⟩
  · rintro i fr st' K hi ⟨rfl, a5, a6, a7, a8, a9, rfl⟩ hn hs'
    simp only [wpE_r1, wpE_r2, wpE_r3, wpE_r4, wpE_r5, wpE_r6, wpE_r7, wpE_r8, wpE_r9, wpE_r10, wpE_r11, wpE_r12, wpE_r13, wpE_r14, wpE_r15, wpE_r16, wpE_r17, wpE_r18, wpE_r19, wpT_r1, wpT_r2, wpT_r3, wpT_r4, wpT_r5, wpTs_r1, wpEo_r1, wpEo_r2, wpEs_r1, wpEs_r2, wpI_r1, wpI_r2, wpI_r3, wpI_r4, wpI_r5, wpI_r6, wpS_r1, wpS_r2, wpS_r3, wpS_r4, wpS_r5, wpS_w, wpS_r7, wpS_r8, wpS_r9, wpS_r10, wpSs_n, wpSs_c, wpTs_r2, setAll_r1, setAll_r2, List.set_cons_succ, List.set_cons_zero, List.getElem?_cons_zero, List.getElem?_cons_succ, s_eq, s_ne, s_lt, s_le, s_gt, s_ge, s_is1, s_is2, s_isn1, s_isn2, s_neb, s_add, s_sub, s_mul, s_fdiv, s_mod, s_pow, s_lsh, s_rsh, s_and, s_or, s_xor, s_addL, s_mulL, s_backN, s_mkT, s_mkF, s_getL, s_getT, s_tg1, s_tg2, s_len, s_min, s_abs, s_int, s_intb, nL_length, dg_length]
    refine ⟨bigB, ?_⟩
    rw [enum_dg]
    have hd : x / B ^ i % B < B := Nat.mod_lt _ hB0
    have hV : x % B ^ (i + 1) * y = x % B ^ i * y + B ^ i * (x / B ^ i % B * y) := by
      rw [Nat.mod_pow_succ, Nat.add_mul, Nat.mul_assoc]
    have hpi : 0 < B ^ i := Nat.pow_pos hB0
    have hVU : x % B ^ (i + 1) * y / B ^ i = x % B ^ i * y / B ^ i + x / B ^ i % B * y := by rw [hV, Nat.add_mul_div_left _ _ hpi]
    have hUlt : x % B ^ i * y / B ^ i < B ^ Lb := by
      refine Nat.div_lt_of_lt_mul ?_
      have h3 : x % B ^ i < B ^ i := Nat.mod_lt _ hpi
      rcases Nat.eq_zero_or_pos y with h0 | h0
      · rw [h0, Nat.mul_zero]; exact Nat.mul_pos hpi (Nat.pow_pos hB0)
      · exact Nat.lt_of_lt_of_le (Nat.mul_lt_mul_of_pos_right h3 h0) (Nat.mul_le_mul_left _ (Nat.le_of_lt hy1))
    have hlow : ∀ k, k < i → x % B ^ i * y / B ^ k % B = x % B ^ (i + 1) * y / B ^ k % B := fun k hk => by
      have : B ^ i = B ^ k * (B * B ^ (i - k - 1)) := by
        rw [← Nat.mul_assoc, ← Nat.pow_succ, ← Nat.pow_add, ← n_past hk]
      rw [hV]
      conv => rhs; rw [this, Nat.mul_assoc, Nat.add_mul_div_left _ _ (Nat.pow_pos hB0), Nat.mul_assoc, Nat.add_mul_mod_self_left]
      rw [← this]
    generalize hdd : x / B ^ i % B = d at *
    generalize hVV : x % B ^ i * y = V at *
    generalize hVV' : x % B ^ (i + 1) * y = V' at *
    have hst0 : st ++ [some (Mo.list (nL (dg B (La + Lb) V)))] = st ++ [some (.list (nL (mix B (La + Lb) V V' (i + 0))))] := by
      rw [mix_start (by simpa using hlow)]
    rw [hst0]
    refine forL_up (fun j : Nat => Dv.tup [.int (j : Int), .int ((y / B ^ j % B : Nat) : Int)]) (fun j fr st' => st' = st ++ [some (.list (nL (mix B (La + Lb) V V' (i + j))))] ∧ ∃ a8 a9, fr = [some (.list (nL (dg B La x))), some (.list (nL (dg B Lb y))), some (.int w), some (.ref st.length), some (.int ((B - 1 : Nat) : Int)), some (.int (i : Int)), some (.int (d : Int)), some (.int (((V / B ^ i % B ^ j + d * (y % B ^ j)) / B ^ j : Nat) : Int)), a8, a9]) Lb ?_ ?_ Lb 0 _ _ (by omega) ⟨rfl, _, _, by simp [Nat.mod_one]; exact ⟨rfl, rfl⟩⟩
    · rintro j fr st' K' hj ⟨rfl, a8, a9, rfl⟩ hn' hs2
      have isS : IsS (st ++ [some (.list (nL (mix B (La + Lb) V V' (i + j))))]) (.ref st.length) (nL (mix B (La + Lb) V V' (i + j))) := .inr ⟨_, rfl, stA _⟩
      simp only [wpE_r1, wpE_r2, wpE_r3, wpE_r4, wpE_r5, wpE_r6, wpE_r7, wpE_r8, wpE_r9, wpE_r10, wpE_r11, wpE_r12, wpE_r13, wpE_r14, wpE_r15, wpE_r16, wpE_r17, wpE_r18, wpE_r19, wpT_r1, wpT_r2, wpT_r3, wpT_r4, wpT_r5, wpTs_r1, wpEo_r1, wpEo_r2, wpEs_r1, wpEs_r2, wpI_r1, wpI_r2, wpI_r3, wpI_r4, wpI_r5, wpI_r6, wpS_r1, wpS_r2, wpS_r3, wpS_r4, wpS_r5, wpS_w, wpS_r7, wpS_r8, wpS_r9, wpS_r10, wpSs_n, wpSs_c, wpTs_r2, setAll_r1, setAll_r2, List.set_cons_succ, List.set_cons_zero, List.getElem?_cons_zero, List.getElem?_cons_succ, s_eq, s_ne, s_lt, s_le, s_gt, s_ge, s_is1, s_is2, s_isn1, s_isn2, s_neb, s_add, s_sub, s_mul, s_fdiv, s_mod, s_pow, s_lsh, s_rsh, s_and, s_or, s_xor, s_addL, s_mulL, s_backN, s_mkT, s_mkF, s_getL, s_getT, s_tg1, s_tg2, s_len, s_min, s_abs, s_int, s_intb]
      rw [← Int.natCast_add, isS.get]
      have hij : i + j < La + Lb := Nat.add_lt_add hi hj
      refine nth_nL (mix_get hij) (by rw [mix_length]; exact hLb) ?_
      refine ⟨.inl (by rw [Int.natAbs_natCast]; exact big64 hd hBu), ?_⟩
      obtain ⟨e1, e2, e3⟩ := ms_step (B := B) (U := V / B ^ i) (b := y) (d := d) (j := j) hB0
      have hdig : V / B ^ (i + j) % B = V / B ^ i / B ^ j % B := by rw [Nat.div_div_eq_div_mul, ← Nat.pow_add]
      have hdig' : V' / B ^ (i + j) % B = (V / B ^ i + d * y) / B ^ j % B := by rw [← hVU, Nat.div_div_eq_div_mul, ← Nat.pow_add]
      rw [s_add]
      dsimp only
      have hsum : (((V / B ^ i % B ^ j + d * (y % B ^ j)) / B ^ j : Nat) : Int) + (((V / B ^ (i + j) % B : Nat) : Int) + (d : Int) * ((y / B ^ j % B : Nat) : Int)) = (((V / B ^ i % B ^ (j + 1) + d * (y % B ^ (j + 1))) / B ^ j : Nat) : Int) := by
        rw [← e1, hdig]
        simp only [Int.natCast_add, Int.natCast_mul]
      rw [hsum]
      rw [show ((B - 1 : Nat) : Int) = ((2 ^ w - 1 : Nat) : Int) by rw [hBd], mask_nat, hBd, e2, ← hdig']
      simp only [setOk, stA, setA]
      refine ⟨nn, by rw [nL_length, mix_length]; exact i_lt hij, ii62 (Nat.lt_trans hij hL62), rfl, nn, Int.natCast_nonneg _, ?_⟩
      rw [powI, hBd, fdiv_nat, e3, Int.toNat_natCast, nL_set, mix_set hij]
      exact hn' _ _ ⟨rfl, _, _, rfl⟩
    · rintro fr st' ⟨rfl, a8, a9, rfl⟩
      simp only [wpE_r1, wpE_r2, wpE_r3, wpE_r4, wpE_r5, wpE_r6, wpE_r7, wpE_r8, wpE_r9, wpE_r10, wpE_r11, wpE_r12, wpE_r13, wpE_r14, wpE_r15, wpE_r16, wpE_r17, wpE_r18, wpE_r19, wpT_r1, wpT_r2, wpT_r3, wpT_r4, wpT_r5, wpTs_r1, wpEo_r1, wpEo_r2, wpEs_r1, wpEs_r2, wpI_r1, wpI_r2, wpI_r3, wpI_r4, wpI_r5, wpI_r6, wpS_r1, wpS_r2, wpS_r3, wpS_r4, wpS_r5, wpS_w, wpS_r7, wpS_r8, wpS_r9, wpS_r10, wpSs_n, wpSs_c, wpTs_r2, setAll_r1, setAll_r2, List.set_cons_succ, List.set_cons_zero, List.getElem?_cons_zero, List.getElem?_cons_succ, s_eq, s_ne, s_lt, s_le, s_gt, s_ge, s_is1, s_is2, s_isn1, s_isn2, s_neb, s_add, s_sub, s_mul, s_fdiv, s_mod, s_pow, s_lsh, s_rsh, s_and, s_or, s_xor, s_addL, s_mulL, s_backN, s_mkT, s_mkF, s_getL, s_getT, s_tg1, s_tg2, s_len, s_min, s_abs, s_int, s_intb, nL_length, dg_length]
      refine ⟨bigB, ?_⟩
      rw [← Int.natCast_add]
      simp only [setOk, stA, setA]
      have hV'lt : V' < B ^ (i + 1) * B ^ Lb := by
        rw [← hVV']
        have h3 : x % B ^ (i + 1) < B ^ (i + 1) := Nat.mod_lt _ (Nat.pow_pos hB0)
        rcases Nat.eq_zero_or_pos y with h0 | h0
        · rw [h0, Nat.mul_zero]; exact Nat.mul_pos (Nat.pow_pos hB0) (Nat.pow_pos hB0)
        · exact Nat.lt_of_lt_of_le (Nat.mul_lt_mul_of_pos_right h3 h0) (Nat.mul_le_mul_left _ (Nat.le_of_lt hy1))
      have hc : (V / B ^ i % B ^ Lb + d * (y % B ^ Lb)) / B ^ Lb = V' / B ^ (i + Lb) % B := by
        rw [Nat.mod_eq_of_lt hUlt, Nat.mod_eq_of_lt hy1, ← hVU, Nat.div_div_eq_div_mul, ← Nat.pow_add]
        refine (Nat.mod_eq_of_lt (Nat.div_lt_of_lt_mul ?_)).symm
        rw [← Nat.pow_succ]
        rw [← Nat.pow_add] at hV'lt
        rw [show (i + Lb).succ = i + 1 + Lb from (Nat.succ_add i Lb).symm]; exact hV'lt
      rw [hc]
      have hiL : i + Lb < La + Lb := Nat.add_lt_add_right hi Lb
      refine ⟨nn, by rw [nL_length, mix_length]; exact i_lt hiL, ii62 (Nat.lt_trans hiL hL62), rfl, ?_⟩
      rw [Int.toNat_natCast, nL_set, mix_set hiL]
      refine hn _ _ ⟨?_, _, _, _, _, _, rfl⟩
      rw [mix_end]
      intro k hk hkL
      have hVlt : V < B ^ (i + Lb) := by
        rw [Nat.pow_add]; exact (Nat.div_lt_iff_lt_mul hpi).mp hUlt |> fun h => by rw [Nat.mul_comm]; exact h
      rw [dg_high hVlt (by omega) hB, dg_high (L := i + 1 + Lb) (by rw [Nat.pow_add]; exact hV'lt) (by omega) hB]
  · rintro fr st' ⟨rfl, a5, a6, a7, a8, a9, rfl⟩
    simp only [wpE_r1, wpE_r2, wpE_r3, wpE_r4, wpE_r5, wpE_r6, wpE_r7, wpE_r8, wpE_r9, wpE_r10, wpE_r11, wpE_r12, wpE_r13, wpE_r14, wpE_r15, wpE_r16, wpE_r17, wpE_r18, wpE_r19, wpT_r1, wpT_r2, wpT_r3, wpT_r4, wpT_r5, wpTs_r1, wpEo_r1, wpEo_r2, wpEs_r1, wpEs_r2, wpI_r1, wpI_r2, wpI_r3, wpI_r4, wpI_r5, wpI_r6, wpS_r1, wpS_r2, wpS_r3, wpS_r4, wpS_r5, wpS_w, wpS_r7, wpS_r8, wpS_r9, wpS_r10, wpSs_n, wpSs_c, wpTs_r2, setAll_r1, setAll_r2, List.set_cons_succ, List.set_cons_zero, List.getElem?_cons_zero, List.getElem?_cons_succ, s_eq, s_ne, s_lt, s_le, s_gt, s_ge, s_is1, s_is2, s_isn1, s_isn2, s_neb, s_add, s_sub, s_mul, s_fdiv, s_mod, s_pow, s_lsh, s_rsh, s_and, s_or, s_xor, s_addL, s_mulL, s_backN, s_mkT, s_mkF, s_getL, s_getT, s_tg1, s_tg2, s_len, s_min, s_abs, s_int, s_intb]
    rw [Nat.mod_eq_of_lt hx1]
    have hxy : x * y < B ^ (La + Lb) := by
      rw [Nat.pow_add]
      rcases Nat.eq_zero_or_pos y with h0 | h0
      · rw [h0, Nat.mul_zero]; exact Nat.mul_pos (Nat.pow_pos hB0) (Nat.pow_pos hB0)
      · exact Nat.lt_of_lt_of_le (Nat.mul_lt_mul_of_pos_right hx1 h0) (Nat.mul_le_mul_left _ (Nat.le_of_lt hy1))
    refine (c_normal (n := n) T hB hxy hLL (.inr ⟨_, rfl, stA _⟩) ?_)
    refine ⟨pures_nL _, ?_⟩
    rw [takeA]; exact q
  · have : dg B (La + Lb) (x % B ^ 0 * y) = List.replicate (La + Lb) 0 := by
      rw [Nat.pow_zero, Nat.mod_one, Nat.zero_mul, List.eq_replicate_iff]
      refine ⟨dg_length _ _ _, fun b hb => ?_⟩
      obtain ⟨i, _, rfl⟩ := List.mem_map.mp hb
      simp
    rw [this]
end
end Mine
end

section
open PySem PySem.W PyProof.Rows PySem.Spec PySem.SeqAt PySem.Calls
set_option Elab.async false
set_option maxRecDepth 100000
set_option maxHeartbeats 1000000
set_option autoImplicit false
set_option linter.all false
namespace Mine

theorem ta_step {B U U' k D j c c' u' : Nat} (hB : 0 < B) (hU : U = U' + k * D) (hc : U % B ^ j + c * B ^ j = U' % B ^ j + k * (D % B ^ j))
    (hs : U / B ^ j % B + c' * B = u' + (k * (D / B ^ j % B) + c)) (hu : u' < B) :
    u' = U' / B ^ j % B ∧ U % B ^ (j + 1) + c' * B ^ (j + 1) = U' % B ^ (j + 1) + k * (D % B ^ (j + 1)) := by
  have hp : 0 < B ^ j := Nat.pow_pos hB
  have e1 : U % B ^ (j + 1) + c' * B ^ (j + 1) = (U' % B ^ j + B ^ j * u') + k * (D % B ^ (j + 1)) := by
    rw [Nat.mod_pow_succ, Nat.mod_pow_succ (x := D), Nat.pow_succ]
    have : B ^ j * (U / B ^ j % B + c' * B) = B ^ j * (u' + (k * (D / B ^ j % B) + c)) := by rw [hs]
    rw [Nat.mul_add, Nat.mul_add, Nat.mul_add] at this
    have h1 : c' * (B ^ j * B) = B ^ j * (c' * B) := by rw [Nat.mul_left_comm]
    have h2 : k * (D % B ^ j + B ^ j * (D / B ^ j % B)) = k * (D % B ^ j) + B ^ j * (k * (D / B ^ j % B)) := by rw [Nat.mul_add, Nat.mul_left_comm]
    have h3 : B ^ j * c = c * B ^ j := Nat.mul_comm _ _
    exact n_ta hc this h1 h2 h3
  have hX : U' % B ^ j + B ^ j * u' < B ^ (j + 1) := by
    have h1 : U' % B ^ j < B ^ j := Nat.mod_lt _ hp
    have h2 : B ^ j * (u' + 1) ≤ B ^ j * B := Nat.mul_le_mul_left _ hu
    rw [Nat.mul_add] at h2
    rw [Nat.pow_succ]; exact n_add_lt h1 h2
  have e2 : U' % B ^ j + B ^ j * u' = U' % B ^ (j + 1) := by
    generalize hM : B ^ (j + 1) = M at *
    have h1 : U' % B ^ j + B ^ j * u' + M * (U / M) = U' + M * (c' + k * (D / M)) := by
      have hUd := Nat.mod_add_div U M
      have hDd : k * D = k * (D % M) + M * (k * (D / M)) := by
        conv => lhs; rw [← Nat.mod_add_div D M]
        rw [Nat.mul_add, Nat.mul_left_comm]
      rw [Nat.mul_add, Nat.mul_comm M c']
      exact n_ta2 hU e1 hUd hDd
    have h2 := congrArg (· % M) h1
    simp only [Nat.add_mul_mod_self_left] at h2
    rw [Nat.mod_eq_of_lt hX] at h2
    exact h2
  refine ⟨?_, by rw [e1, e2]⟩
  rw [Nat.mod_pow_succ] at e2
  exact Nat.eq_of_mul_eq_mul_left hp (Nat.add_left_cancel e2)

section
variable {P : PG} {n : Nat} {st : St}

theorem c_guessed_limb (T : Txs P) {w t0 t1 t2 f s : Nat} (hw : 1 ≤ w) (hw2 : w ≤ 20) (h0 : t0 < 2 ^ w) (h1 : t1 < 2 ^ w) (h2 : t2 < 2 ^ w) (hf : 0 < f) (hf2 : f < 2 ^ w) (hs : s < 2 ^ w)
    (ht : (t2 * 2 ^ w + t1) * 2 ^ w + t0 < 2 ^ w * (f * 2 ^ w + s)) :
    Gives P 1 12 [.list (nL [t0, t1, t2]), .int (f : Int), .int (s : Int), .int (w : Int)] (.int ((((t2 * 2 ^ w + t1) * 2 ^ w + t0) / (f * 2 ^ w + s) : Nat) : Int)) := by
  intro n st Q q
  refine ctr T T.t12 rfl ?_
  have hB := two_le_pow hw
  have hBu : 2 ^ w ≤ 2 ^ 20 := Nat.pow_le_pow_right (by decide) hw2
  show wpSs (CallOK P n) m_guessed_limb [some (.list (nL [t0, t1, t2])), some (.int f), some (.int s), some (.int w), none, none, none, none] st _
  simp only [m_guessed_limb, wpE_r1, wpE_r2, wpE_r3, wpE_r4, wpE_r5, wpE_r6, wpE_r7, wpE_r8, wpE_r9, wpE_r10, wpE_r11, wpE_r12, wpE_r13, wpE_r14, wpE_r15, wpE_r16, wpE_r17, wpE_r18, wpE_r19, wpT_r1, wpT_r2, wpT_r3, wpT_r4, wpT_r5, wpTs_r1, wpEo_r1, wpEo_r2, wpEs_r1, wpEs_r2, wpI_r1, wpI_r2, wpI_r3, wpI_r4, wpI_r5, wpI_r6, wpS_r1, wpS_r2, wpS_r3, wpS_r4, wpS_r5, wpS_w, wpS_r7, wpS_r8, wpS_r9, wpS_r10, wpSs_n, wpSs_c, wpTs_r2, setAll_r1, setAll_r2, List.set_cons_succ, List.set_cons_zero, List.getElem?_cons_zero, List.getElem?_cons_succ, s_eq, s_ne, s_lt, s_le, s_gt, s_ge, s_is1, s_is2, s_isn1, s_isn2, s_neb, s_add, s_sub, s_mul, s_fdiv, s_mod, s_pow, s_lsh, s_rsh, s_and, s_or, s_xor, s_addL, s_mulL, s_backN, s_mkT, s_mkF, s_getL, s_getT, s_tg1, s_tg2, s_len, s_min, s_abs, s_int, s_intb]
  refine nth_nL (i := 2) (x := t2) rfl (by simp [big]) ?_
  refine ⟨nn, w_lt hw2, by rw [Int.natAbs_natCast]; exact big64 h2 hBu, ?_⟩
  refine nth_nL (i := 1) (x := t1) rfl (by simp [big]) ?_
  rw [s_or, Int.toNat_natCast, shl_or _ _ _ h1]
  refine ⟨nn, w_lt hw2, by decide, by simp, rfl, i_ne hf, by rw [Int.natAbs_natCast]; exact big64 hf2 hBu, ?_⟩
  rw [fdiv_nat]
  simp only [s_min, s_mul, s_sub]
  have hmask : (1 : Int) * 2 ^ w - 1 = ((2 ^ w - 1 : Nat) : Int) := by have := maskI w; rwa [Int.toNat_natCast] at this
  rw [hmask]
  have hone : (1 : Int) * 2 ^ w = ((2 ^ w : Nat) : Int) := by simp
  rw [hone]
  clear hone hmask
  have hsh : ∀ a b : Nat, b < 2 ^ w → Builtin.bitOr ((a : Int) * 2 ^ w) (b : Int) = ((a * 2 ^ w + b : Nat) : Int) := fun a b h => shl_or a b w h
  generalize hBd : 2 ^ w = B at *
  generalize hH : t2 * B + t1 = H at *
  have hmin : (if ((B - 1 : Nat) : Int) < ((H / f : Nat) : Int) then ((B - 1 : Nat) : Int) else ((H / f : Nat) : Int)) = ((min (H / f) (B - 1) : Nat) : Int) := by
    by_cases h : B - 1 < H / f
    · rw [if_pos (by exact_mod_cast h), Nat.min_eq_right (Nat.le_of_lt h)]
    · rw [if_neg (by intro h'; exact h (by exact_mod_cast h')), Nat.min_eq_left (Nat.le_of_not_lt h)]
  rw [hmin]
  have hD : 0 < f * B + s := Nat.lt_of_lt_of_le (Nat.mul_pos hf (Nat.lt_of_lt_of_le (by decide) hB)) (Nat.le_add_right _ _)
  generalize hq : (H * B + t0) / (f * B + s) = q0 at *
  have hqB : q0 < B := by rw [← hq]; exact Nat.div_lt_of_lt_mul (by rw [Nat.mul_comm (f * B + s)]; exact ht)
  have hqD : q0 * (f * B + s) ≤ H * B + t0 := by rw [← hq]; exact Nat.div_mul_le_self _ _
  have hqf : q0 ≤ H / f := by
    rw [Nat.le_div_iff_mul_le hf]
    have : q0 * f * B ≤ H * B + t0 := by
      refine Nat.le_trans ?_ hqD
      rw [Nat.mul_assoc]; exact Nat.mul_le_mul_left _ (Nat.le_add_right _ _)
    refine Nat.le_of_lt_succ (Nat.lt_of_mul_lt_mul_right (a := B) ?_)
    rw [Nat.succ_mul]; exact Nat.lt_of_le_of_lt this (Nat.add_lt_add_left h0 _)
  generalize hl0 : min (H / f) (B - 1) = l0
  have hl1 : q0 ≤ l0 := by rw [← hl0]; exact Nat.le_min.mpr ⟨hqf, Nat.le_sub_one_of_lt hqB⟩
  have hl2 : l0 < B := by rw [← hl0]; exact Nat.lt_of_le_of_lt (Nat.min_le_right _ _) (Nat.sub_one_lt_of_lt hqB)
  have hl3 : l0 * f ≤ H := Nat.le_trans (Nat.mul_le_mul_right _ (by rw [← hl0]; exact Nat.min_le_left _ _)) (Nat.div_mul_le_self _ _)
  refine ⟨.inl (by rw [Int.natAbs_natCast]; exact big64 hl2 hBu), B, ?_⟩
  clear hmin
  refine whL_inv (fun l fr st' => st' = st ∧ q0 ≤ l ∧ l < B ∧ l * f ≤ H ∧ fr = [some (.list (nL [t0, t1, t2])), some (.int f), some (.int s), some (.int w), some (.int (H : Int)), some (.int (B : Int)), some (.int (l : Int)), some (.int ((H - l * f : Nat) : Int))]) ?_ _ l0 _ _ hl2
    ⟨rfl, hl1, hl2, hl3, by rw [Int.natCast_sub hl3]; simp⟩
  rintro l fr st' R ⟨rfl, i1, i2, i3, rfl⟩ hn hs'
  simp only [wpE_r1, wpE_r2, wpE_r3, wpE_r4, wpE_r5, wpE_r6, wpE_r7, wpE_r8, wpE_r9, wpE_r10, wpE_r11, wpE_r12, wpE_r13, wpE_r14, wpE_r15, wpE_r16, wpE_r17, wpE_r18, wpE_r19, wpT_r1, wpT_r2, wpT_r3, wpT_r4, wpT_r5, wpTs_r1, wpEo_r1, wpEo_r2, wpEs_r1, wpEs_r2, wpI_r1, wpI_r2, wpI_r3, wpI_r4, wpI_r5, wpI_r6, wpS_r1, wpS_r2, wpS_r3, wpS_r4, wpS_r5, wpS_w, wpS_r7, wpS_r8, wpS_r9, wpS_r10, wpSs_n, wpSs_c, wpTs_r2, setAll_r1, setAll_r2, List.set_cons_succ, List.set_cons_zero, List.getElem?_cons_zero, List.getElem?_cons_succ, s_eq, s_ne, s_lt, s_le, s_gt, s_ge, s_is1, s_is2, s_isn1, s_isn2, s_neb, s_add, s_sub, s_mul, s_fdiv, s_mod, s_pow, s_lsh, s_rsh, s_and, s_or, s_xor, s_addL, s_mulL, s_backN, s_mkT, s_mkF, s_getL, s_getT, s_tg1, s_tg2, s_len, s_min, s_abs, s_int, s_intb]
  have ret : l = q0 → fin st'.length (some (.int (l : Int))) st' Q := fun e => ⟨rfl, by rw [List.take_length, e]; exact q⟩
  have key : l * (f * B + s) = l * f * B + l * s := by rw [Nat.mul_add, Nat.mul_assoc]
  have hHB : H * B = (H - l * f) * B + l * f * B := by rw [← Nat.add_mul, Nat.sub_add_cancel i3]
  have key2 : (H - l * f) * B + t0 < l * s ↔ q0 < l := by
    rw [← hq, Nat.div_lt_iff_lt_mul hD]; exact n_gl key hHB
  by_cases hr : H - l * f < B
  · rw [show decide ((((H - l * f : Nat) : Int)) < (B : Int)) = true by rw [decide_eq_true_iff]; exact_mod_cast hr]
    dsimp only
    refine ⟨.inl (by rw [Int.natAbs_natCast]; exact big64 i2 hBu), nn, w_lt hw2, by rw [Int.natAbs_natCast]; exact big64 hr hBu, ?_⟩
    refine nth_nL (i := 0) (x := t0) rfl (by simp [big]) ?_
    rw [s_or, Int.toNat_natCast, hsh _ _ h0]
    rw [← Int.natCast_mul]
    rw [s_gt]
    by_cases hc : (H - l * f) * B + t0 < l * s
    · rw [show decide (((l * s : Nat) : Int) > (((H - l * f) * B + t0 : Nat) : Int)) = true by rw [decide_eq_true_iff]; exact_mod_cast hc]
      dsimp only
      have hlt := key2.mp hc
      have hl' : 0 < l := Nat.lt_of_le_of_lt (Nat.zero_le _) hlt
      have e1 : (l : Int) - 1 = ((l - 1 : Nat) : Int) := i_pred hl'
      have e3 : (l - 1) * f + f = l * f := by rw [← Nat.succ_mul, n_succ_pred hl']
      have e2 : ((H - l * f : Nat) : Int) + (f : Int) = ((H - (l - 1) * f : Nat) : Int) := i_back e3 i3
      rw [e1, e2]
      refine hn (l - 1) _ _ (Nat.sub_one_lt_of_lt hlt) ⟨rfl, Nat.le_sub_one_of_lt hlt, Nat.lt_of_le_of_lt (Nat.sub_le _ _) i2, Nat.le_trans (Nat.mul_le_mul_right _ (Nat.sub_le _ _)) i3, rfl⟩
    · rw [show decide (((l * s : Nat) : Int) > (((H - l * f) * B + t0 : Nat) : Int)) = false by rw [decide_eq_false_iff_not]; intro h'; exact hc (by exact_mod_cast h')]
      exact ret (Nat.le_antisymm (Nat.le_of_not_lt (mt key2.mpr hc)) i1)
  · rw [show decide ((((H - l * f : Nat) : Int)) < (B : Int)) = false by rw [decide_eq_false_iff_not]; intro h'; exact hr (by exact_mod_cast h')]
    dsimp only
    refine ret ?_
    have : ¬ ((H - l * f) * B + t0 < l * s) := by
      have h5 : l * s ≤ B * B := Nat.mul_le_mul (Nat.le_of_lt i2) (Nat.le_of_lt hs)
      have h6 : B * B ≤ (H - l * f) * B := Nat.mul_le_mul_right _ (Nat.le_of_not_lt hr)
      exact Nat.not_lt.mpr (Nat.le_trans h5 (Nat.le_trans h6 (Nat.le_add_right _ _)))
    exact Nat.le_antisymm (Nat.le_of_not_lt (mt key2.mpr this)) i1

theorem c_take_away (T : Txs P) {w k D at' L V V' m r : Nat} (hw : 1 ≤ w) (hw2 : w ≤ 20) (hk : k < 2 ^ w) (hD : D < (2 ^ w) ^ m) (hL : at' + m < L) (hL2 : L < 2 ^ 20)
    (hV : V = V' + k * D * (2 ^ w) ^ at') (hVt : V < (2 ^ w) ^ (at' + m + 1)) (hr : st[r]? = some (some (.list (nL (dg (2 ^ w) L V)))))
    {Q : Dv → St → Prop} (q : Q (.int 0) (st.set r (some (.list (nL (dg (2 ^ w) L V')))))) :
    CallOK P (n + 1) 13 [.ref r, .list (nL (dg (2 ^ w) m D)), .int (k : Int), .int (at' : Int), .int (w : Int)] st Q := by
  refine ctr T T.t13 rfl ?_
  have hB := two_le_pow hw
  have hBu : 2 ^ w ≤ 2 ^ 20 := Nat.pow_le_pow_right (by decide) hw2
  show wpSs (CallOK P n) m_take_away [some (.ref r), some (.list (nL (dg (2 ^ w) m D))), some (.int k), some (.int at'), some (.int w), none, none, none, none, none] st _
  simp only [m_take_away, wpE_r1, wpE_r2, wpE_r3, wpE_r4, wpE_r5, wpE_r6, wpE_r7, wpE_r8, wpE_r9, wpE_r10, wpE_r11, wpE_r12, wpE_r13, wpE_r14, wpE_r15, wpE_r16, wpE_r17, wpE_r18, wpE_r19, wpT_r1, wpT_r2, wpT_r3, wpT_r4, wpT_r5, wpTs_r1, wpEo_r1, wpEo_r2, wpEs_r1, wpEs_r2, wpI_r1, wpI_r2, wpI_r3, wpI_r4, wpI_r5, wpI_r6, wpS_r1, wpS_r2, wpS_r3, wpS_r4, wpS_r5, wpS_w, wpS_r7, wpS_r8, wpS_r9, wpS_r10, wpSs_n, wpSs_c, wpTs_r2, setAll_r1, setAll_r2, List.set_cons_succ, List.set_cons_zero, List.getElem?_cons_zero, List.getElem?_cons_succ, s_eq, s_ne, s_lt, s_le, s_gt, s_ge, s_is1, s_is2, s_isn1, s_isn2, s_neb, s_add, s_sub, s_mul, s_fdiv, s_mod, s_pow, s_lsh, s_rsh, s_and, s_or, s_xor, s_addL, s_mulL, s_backN, s_mkT, s_mkF, s_getL, s_getT, s_tg1, s_tg2, s_len, s_min, s_abs, s_int, s_intb, nL_length, dg_length]
  have hone : (1 : Int) * 2 ^ ((w : Int)).toNat = ((2 ^ w : Nat) : Int) := by simp
  have hpos : 0 < 2 ^ w := Nat.two_pow_pos w
  refine ⟨nn, w_lt hw2, by decide, by simp, rfl, ?_⟩
  have bigL : L < big := Nat.lt_trans hL2 (by unfold big; decide)
  have bigm : m < big := Nat.lt_trans (Nat.lt_of_le_of_lt (Nat.le_add_left _ _) hL) bigL
  have big62 : ∀ j, j ≤ m → ((at' + j : Nat) : Int) < 2 ^ 62 := fun j hj => i_lt (b := 2 ^ 62) (Nat.lt_trans (Nat.lt_of_le_of_lt (Nat.add_le_add_left hj _) hL) (Nat.lt_trans hL2 (by decide)))
  refine ⟨bigm, ?_⟩
  rw [hone, enum_dg]
  clear hone
  generalize hBd : 2 ^ w = B at *
  have hrl : r < st.length := by
    rcases Nat.lt_or_ge r st.length with h | h
    · exact h
    · rw [List.getElem?_eq_none h] at hr; cases hr
  have stS : ∀ x : Option Mo, (st.set r x)[r]? = some x := fun x => by rw [List.getElem?_set_self hrl]
  have setS : ∀ x y : Option Mo, (st.set r x).set r y = st.set r y := fun x y => by rw [List.set_set]
  have lenS : ∀ x : Option Mo, (st.set r x).length = st.length := fun x => List.length_set
  have hpa : 0 < B ^ at' := Nat.pow_pos hpos
  have hlowd : ∀ i, i < at' → V / B ^ i % B = V' / B ^ i % B := fun i hi => by
    have : B ^ at' = B ^ i * (B * B ^ (at' - i - 1)) := by
      rw [← Nat.mul_assoc, ← Nat.pow_succ, ← Nat.pow_add, ← n_past hi]
    rw [hV, this, Nat.mul_left_comm, Nat.add_mul_div_left _ _ (Nat.pow_pos hpos), Nat.mul_left_comm, Nat.add_mul_mod_self_left]
  have hU : V / B ^ at' = V' / B ^ at' + k * D := by rw [hV, Nat.add_mul_div_right _ _ hpa]
  have hdig : ∀ X j, X / B ^ (at' + j) % B = X / B ^ at' / B ^ j % B := fun X j => by rw [Nat.div_div_eq_div_mul, ← Nat.pow_add]
  have hst0 : st = st.set r (some (.list (nL (mix B L V V' (at' + 0))))) := by
    rw [mix_start (by simpa using hlowd)]
    apply List.ext_getElem?
    intro i
    by_cases e : i = r
    · subst e; rw [stS, hr]
    · rw [List.getElem?_set_ne (Ne.symm e)]
  generalize hUU : V / B ^ at' = U at *
  generalize hUU' : V' / B ^ at' = U' at *
  rw [hst0]
  refine forL_up (fun i : Nat => Dv.tup [.int (i : Int), .int ((D / B ^ i % B : Nat) : Int)]) (fun j fr st' => st' = st.set r (some (.list (nL (mix B L V V' (at' + j))))) ∧ ∃ (c : Nat) (a7 a8 a9 : Option Dv), U % B ^ j + c * B ^ j = U' % B ^ j + k * (D % B ^ j) ∧
      fr = [some (.ref r), some (.list (nL (dg B m D))), some (.int k), some (.int at'), some (.int w), some (.int (c : Int)), some (.int (B : Int)), a7, a8, a9]) m ?_ ?_ m 0 _ _ (Nat.zero_add m) ⟨rfl, 0, _, _, _, by simp [Nat.mod_one], rfl⟩
  · rintro j fr st' K hj ⟨rfl, c, a7, a8, a9, hc, rfl⟩ hn hs'
    have isS : IsS (st.set r (some (.list (nL (mix B L V V' (at' + j)))))) (.ref r) (nL (mix B L V V' (at' + j))) := .inr ⟨_, rfl, stS _⟩
    have hjL : at' + j < L := Nat.lt_trans (Nat.add_lt_add_left hj _) hL
    have hk64 : ((k : Int)).natAbs < 2 ^ 64 := by rw [Int.natAbs_natCast]; exact big64 hk hBu
    simp only [wpE_r1, wpE_r2, wpE_r3, wpE_r4, wpE_r5, wpE_r6, wpE_r7, wpE_r8, wpE_r9, wpE_r10, wpE_r11, wpE_r12, wpE_r13, wpE_r14, wpE_r15, wpE_r16, wpE_r17, wpE_r18, wpE_r19, wpT_r1, wpT_r2, wpT_r3, wpT_r4, wpT_r5, wpTs_r1, wpEo_r1, wpEo_r2, wpEs_r1, wpEs_r2, wpI_r1, wpI_r2, wpI_r3, wpI_r4, wpI_r5, wpI_r6, wpS_r1, wpS_r2, wpS_r3, wpS_r4, wpS_r5, wpS_w, wpS_r7, wpS_r8, wpS_r9, wpS_r10, wpSs_n, wpSs_c, wpTs_r2, setAll_r1, setAll_r2, List.set_cons_succ, List.set_cons_zero, List.getElem?_cons_zero, List.getElem?_cons_succ, s_eq, s_ne, s_lt, s_le, s_gt, s_ge, s_is1, s_is2, s_isn1, s_isn2, s_neb, s_add, s_sub, s_mul, s_fdiv, s_mod, s_pow, s_lsh, s_rsh, s_and, s_or, s_xor, s_addL, s_mulL, s_backN, s_mkT, s_mkF, s_getL, s_getT, s_tg1, s_tg2, s_len, s_min, s_abs, s_int, s_intb]
    rw [← Int.natCast_add, isS.get]
    refine nth_nL (mix_get hjL) (by rw [mix_length]; exact bigL) ?_
    refine ⟨.inl hk64, i_ne hpos, ?_⟩
    rw [s_sub]
    rw [← Int.natCast_mul, ← Int.natCast_add, fmod_nat]
    refine ⟨.inl hk64, i_ne hpos, by rw [Int.natAbs_natCast]; exact Nat.lt_of_le_of_lt hBu (by decide), ?_⟩
    rw [fdiv_nat]
    rw [hdig V j, hUU]
    have hdd : D / B ^ j % B < B := Nat.mod_lt _ hpos
    have hu : U / B ^ j % B < B := Nat.mod_lt _ hpos
    generalize hd : D / B ^ j % B = d at *
    generalize hud : U / B ^ j % B = u at *
    generalize htt : k * d + c = t at *
    have htm : t % B < B := Nat.mod_lt _ hpos
    have htd := Nat.mod_add_div t B
    by_cases hlt : u < t % B
    · have hneg : decide (((u : Nat) : Int) - ((t % B : Nat) : Int) < 0) = true := decide_eq_true (i_sub_neg hlt)
      rw [s_lt, hneg]
      dsimp only
      rw [s_lt, hneg]
      dsimp only
      rw [s_add]
      obtain ⟨e1, e2⟩ := ta_step (c' := t / B + 1) (u' := u + B - t % B) hpos hU hc (by rw [hd, hud, htt, Nat.add_mul, Nat.mul_comm (t / B) B]; exact n_w1 htm htd) (n_w2 hlt htm)
      have e3 : ((u : Nat) : Int) - ((t % B : Nat) : Int) + (B : Int) = ((u + B - t % B : Nat) : Int) := i_wrap (Nat.le_of_lt htm)
      rw [e3]
      simp only [setOk, stS, setS]
      refine ⟨nn, by rw [nL_length, mix_length]; exact i_lt hjL, big62 j (Nat.le_of_lt hj), rfl, ?_⟩
      rw [Int.toNat_natCast, nL_set, e1, ← hUU', ← hdig, mix_set hjL]
      refine hn _ _ ⟨rfl, t / B + 1, _, _, _, e2, by first | rfl | (rw [Int.natCast_add]; rfl)⟩
    · have hneg : decide (((u : Nat) : Int) - ((t % B : Nat) : Int) < 0) = false := decide_eq_false (i_sub_nn hlt)
      rw [s_lt, hneg]
      dsimp only
      rw [s_lt, hneg]
      dsimp only
      obtain ⟨e1, e2⟩ := ta_step (c' := t / B) (u' := u - t % B) hpos hU hc (by rw [hd, hud, htt, Nat.mul_comm (t / B) B]; exact n_w3 hlt htd) (Nat.lt_of_le_of_lt (Nat.sub_le _ _) hu)
      have e3 : ((u : Nat) : Int) - ((t % B : Nat) : Int) = ((u - t % B : Nat) : Int) := i_sub (Nat.le_of_not_lt hlt)
      rw [e3]
      simp only [setOk, stS, setS]
      refine ⟨nn, by rw [nL_length, mix_length]; exact i_lt hjL, big62 j (Nat.le_of_lt hj), rfl, ?_⟩
      rw [Int.toNat_natCast, nL_set, e1, ← hUU', ← hdig, mix_set hjL]
      refine hn _ _ ⟨rfl, t / B, _, _, _, e2, by first | rfl | (rw [Int.natCast_add]; rfl)⟩
  · rintro fr st' ⟨rfl, c, a7, a8, a9, hc, rfl⟩
    have isS : IsS (st.set r (some (.list (nL (mix B L V V' (at' + m)))))) (.ref r) (nL (mix B L V V' (at' + m))) := .inr ⟨_, rfl, stS _⟩
    simp only [wpE_r1, wpE_r2, wpE_r3, wpE_r4, wpE_r5, wpE_r6, wpE_r7, wpE_r8, wpE_r9, wpE_r10, wpE_r11, wpE_r12, wpE_r13, wpE_r14, wpE_r15, wpE_r16, wpE_r17, wpE_r18, wpE_r19, wpT_r1, wpT_r2, wpT_r3, wpT_r4, wpT_r5, wpTs_r1, wpEo_r1, wpEo_r2, wpEs_r1, wpEs_r2, wpI_r1, wpI_r2, wpI_r3, wpI_r4, wpI_r5, wpI_r6, wpS_r1, wpS_r2, wpS_r3, wpS_r4, wpS_r5, wpS_w, wpS_r7, wpS_r8, wpS_r9, wpS_r10, wpSs_n, wpSs_c, wpTs_r2, setAll_r1, setAll_r2, List.set_cons_succ, List.set_cons_zero, List.getElem?_cons_zero, List.getElem?_cons_succ, s_eq, s_ne, s_lt, s_le, s_gt, s_ge, s_is1, s_is2, s_isn1, s_isn2, s_neb, s_add, s_sub, s_mul, s_fdiv, s_mod, s_pow, s_lsh, s_rsh, s_and, s_or, s_xor, s_addL, s_mulL, s_backN, s_mkT, s_mkF, s_getL, s_getT, s_tg1, s_tg2, s_len, s_min, s_abs, s_int, s_intb, nL_length, dg_length]
    refine ⟨bigm, ?_⟩
    rw [← Int.natCast_add, isS.get]
    refine nth_nL (mix_get hL) (by rw [mix_length]; exact bigL) ?_
    rw [s_sub]
    rw [hdig V m, hUU]
    have hUm : U / B ^ m = c + U' / B ^ m := by
      rw [Nat.mod_eq_of_lt hD] at hc
      have h1 := Nat.mod_add_div U (B ^ m)
      have h2 := Nat.mod_add_div U' (B ^ m)
      have h3 : B ^ m * (U / B ^ m) = B ^ m * (c + U' / B ^ m) := by
        rw [Nat.mul_add, Nat.mul_comm (B ^ m) c]; exact n_w4 hU hc h1 h2
      exact Nat.eq_of_mul_eq_mul_left (Nat.pow_pos hpos) h3
    have hUlt : U / B ^ m < B := by
      rw [← hUU, Nat.div_div_eq_div_mul, ← Nat.pow_add]
      exact Nat.div_lt_of_lt_mul (by rw [← Nat.pow_succ]; exact hVt)
    have hU'm : U' / B ^ m = V' / B ^ (at' + m) % B := by
      rw [hdig, hUU', Nat.mod_eq_of_lt (Nat.lt_of_le_of_lt (by rw [hUm]; exact Nat.le_add_left _ _) hUlt)]
    rw [Nat.mod_eq_of_lt hUlt, hUm]
    have e3 : ((c + U' / B ^ m : Nat) : Int) - (c : Int) = ((U' / B ^ m : Nat) : Int) := by rw [Int.natCast_add, Int.add_comm, Int.add_sub_cancel]
    rw [e3]
    have hneg : decide (((U' / B ^ m : Nat) : Int) < 0) = false := by
      rw [decide_eq_false_iff_not]; exact Int.not_lt.mpr (Int.natCast_nonneg _)
    rw [s_lt, hneg]
    dsimp only
    refine ⟨bigm, ?_⟩
    simp only [setOk, stS, setS]
    refine ⟨nn, by rw [nL_length, mix_length]; exact i_lt hL, big62 m (Nat.le_refl m), rfl, ?_⟩
    rw [s_lt, hneg]
    dsimp only
    refine ⟨rfl, ?_⟩
    have hme : mix B L V V' (at' + m + 1) = dg B L V' := by
      refine mix_end fun i hi hiL => ?_
      have hV'le : V' ≤ V := by rw [hV]; exact Nat.le_add_right _ _
      rw [dg_high hVt hi hB, dg_high (Nat.lt_of_le_of_lt hV'le hVt) hi hB]
    rw [Int.toNat_natCast, nL_set, hU'm, mix_set hL, hme, List.take_of_length_le (by rw [lenS, lenS]; exact Nat.le_refl _)]
    exact q
end
end Mine
end

section
open PySem PySem.W PyProof.Rows PySem.Spec PySem.SeqAt PySem.Calls
set_option Elab.async false
set_option maxRecDepth 100000
set_option maxHeartbeats 1000000
set_option autoImplicit false
set_option linter.all false
namespace Mine

theorem three_digits {B T : Nat} (h : T < B * B * B) : (T / B / B % B * B + T / B % B) * B + T % B = T := by
  have h1 : T / B / B < B := by
    rw [Nat.div_div_eq_div_mul]; exact Nat.div_lt_of_lt_mul h
  rw [Nat.mod_eq_of_lt h1]
  have h2 := Nat.div_add_mod' (T / B) B
  have h3 := Nat.div_add_mod' T B
  rw [h2, h3]

theorem dg_pad {B e L x : Nat} (hB : 2 ≤ B) (hx : x < B ^ e) (h : e ≤ L) : dg B e x ++ List.replicate (L - e) 0 = dg B L x := by
  apply List.ext_getElem
  · rw [List.length_append, dg_length, List.length_replicate, dg_length]; exact Nat.add_sub_of_le h
  · intro i h1 h2
    rw [dg_length] at h2
    rw [List.getElem_append]
    by_cases hi : i < e
    · rw [dif_pos (by rw [dg_length]; exact hi)]; simp [dg]
    · rw [dif_neg (by rw [dg_length]; exact hi)]
      simp only [List.getElem_replicate, dg, List.getElem_map, List.getElem_range]
      rw [dg_high hx (Nat.le_of_not_lt hi) hB, Nat.zero_mod]

theorem dr_step {B D V i : Nat} (hB : 0 < B) (hD : 0 < D) :
    V % (D * B ^ (i + 1)) / B ^ i / D = V / D / B ^ i % B ∧ V % (D * B ^ (i + 1)) = V % (D * B ^ i) + V / D / B ^ i % B * D * B ^ i ∧ V % (D * B ^ (i + 1)) / B ^ i < D * B := by
  have hp : 0 < B ^ i := Nat.pow_pos hB
  have e : D * B ^ (i + 1) = D * B ^ i * B := by rw [Nat.pow_succ, Nat.mul_assoc]
  refine ⟨?_, ?_, ?_⟩
  · rw [e, Nat.div_div_eq_div_mul, Nat.mul_comm (B ^ i) D, Nat.mod_mul_right_div_self, Nat.div_div_eq_div_mul]
  · rw [e, Nat.mod_mul, Nat.div_div_eq_div_mul]
    congr 1
    rw [Nat.mul_assoc (V / (D * B ^ i) % B), Nat.mul_comm (D * B ^ i)]
  · refine Nat.div_lt_of_lt_mul ?_
    have h := Nat.mod_lt V (show 0 < D * B ^ (i + 1) from Nat.mul_pos hD (Nat.pow_pos hB))
    rw [e] at h ⊢
    rw [show B ^ i * (D * B) = D * B ^ i * B by rw [← Nat.mul_assoc, Nat.mul_comm (B ^ i) D]]
    exact h

section
variable {P : PG} {n : Nat} {st : St}

theorem c_divide_rows (T : Txs P) {w D V L : Nat} (hw : 1 ≤ w) (hw2 : w ≤ 20) (hD1 : 2 ^ w ≤ D) (hD2 : D < 2 ^ w * 2 ^ w) (hL : 2 ≤ L) (hL2 : L < 2 ^ 18) (hV : V < D * (2 ^ w) ^ (L - 2))
    {Q : Dv → St → Prop} (q : Q (.list (nL (dg (2 ^ w) (L - 2) (V / D)))) (st ++ [some (.list (nL (dg (2 ^ w) L (V % D))))])) :
    CallOK P (n + 2) 15 [.ref st.length, .list (nL (dg (2 ^ w) 2 D)), .int (w : Int)] (st ++ [some (.list (nL (dg (2 ^ w) L V)))]) Q := by
  refine ctr T T.t15 rfl ?_
  have hB := two_le_pow hw
  have hBu : 2 ^ w ≤ 2 ^ 20 := Nat.pow_le_pow_right (by decide) hw2
  have hpos : 0 < 2 ^ w := Nat.two_pow_pos w
  have big2 : 2 < big := by unfold big; decide
  have bigL : L < big := Nat.lt_trans hL2 (by unfold big; decide)
  have hL62 : L - 2 < 2 ^ 62 := Nat.lt_of_le_of_lt (Nat.sub_le _ _) (Nat.lt_trans hL2 (by decide))
  show wpSs (CallOK P (n + 1)) m_divide_rows [some (.ref st.length), some (.list (nL (dg (2 ^ w) 2 D))), some (.int w), none, none, none, none] _ _
  simp only [m_divide_rows, wpE_r1, wpE_r2, wpE_r3, wpE_r4, wpE_r5, wpE_r6, wpE_r7, wpE_r8, wpE_r9, wpE_r10, wpE_r11, wpE_r12, wpE_r13, wpE_r14, wpE_r15, wpE_r16, wpE_r17, wpE_r18, wpE_r19, wpT_r1, wpT_r2, wpT_r3, wpT_r4, wpT_r5, wpTs_r1, wpEo_r1, wpEo_r2, wpEs_r1, wpEs_r2, wpI_r1, wpI_r2, wpI_r3, wpI_r4, wpI_r5, wpI_r6, wpS_r1, wpS_r2, wpS_r3, wpS_r4, wpS_r5, wpS_w, wpS_r7, wpS_r8, wpS_r9, wpS_r10, wpSs_n, wpSs_c, wpTs_r2, setAll_r1, setAll_r2, List.set_cons_succ, List.set_cons_zero, List.getElem?_cons_zero, List.getElem?_cons_succ, s_eq, s_ne, s_lt, s_le, s_gt, s_ge, s_is1, s_is2, s_isn1, s_isn2, s_neb, s_add, s_sub, s_mul, s_fdiv, s_mod, s_pow, s_lsh, s_rsh, s_and, s_or, s_xor, s_addL, s_mulL, s_backN, s_mkT, s_mkF, s_getL, s_getT, s_tg1, s_tg2, s_len, s_min, s_abs, s_int, s_intb, nL_length, dg_length]
  have isS0 : ∀ x y, IsS (st ++ [some (Mo.list x)] ++ y) (.ref st.length) x := fun x y => .inr ⟨_, rfl, by simp⟩
  have isS1 : ∀ x, IsS (st ++ [some (Mo.list x)]) (.ref st.length) x := fun x => .inr ⟨_, rfl, by simp⟩
  have e2 : ((L : Int) - (2 : Nat)) = ((L - 2 : Nat) : Int) := i_sub hL
  refine ⟨big2, by simp, ?_⟩
  rw [(isS1 _).len, nL_length, dg_length]
  refine ⟨bigL, ?_⟩
  rw [s_sub, s_mulL, e2]
  refine ⟨ii62 hL62, i62, by simp; omega, ?_⟩
  rw [s_mkT, zeros, (isS0 _ _).len, nL_length, dg_length]
  refine ⟨pures_nL _, bigL, ?_⟩
  rw [s_sub, s_sub, e2]
  dsimp only
  refine ⟨rfl, i_small (Nat.le_trans (Nat.sub_le _ _) (Nat.le_trans (Nat.le_of_lt hL2) (by decide))), by decide, ?_⟩
  have hD0 : 0 < D := Nat.lt_of_lt_of_le hpos hD1
  have hVe : V = V % (D * (2 ^ w) ^ (L - 2)) := (Nat.mod_eq_of_lt hV).symm
  rw [List.append_assoc, ← fl_top (2 ^ w) (L - 2) (V / D)]
  have hlen : (st ++ [some (Mo.list (nL (dg (2 ^ w) L V)))]).length = st.length + 1 := by simp
  rw [hlen]
  refine forL_down (fun i fr st' => st' = st ++ [some (.list (nL (dg (2 ^ w) L (V % (D * (2 ^ w) ^ i))))), some (.list (nL (fl (2 ^ w) (L - 2) (V / D) i)))] ∧ ∃ a5 a6, fr = [some (.ref st.length), some (.list (nL (dg (2 ^ w) 2 D))), some (.int w), some (.int (2 : Nat)), some (.ref (st.length + 1)), a5, a6]) (L - 2) ?_ ?_ (by omega)
    ⟨by rw [← hVe]; rfl, _, _, rfl⟩
  · rintro i fr st' K hi ⟨rfl, a5, a6, rfl⟩ hn hs
    simp only [wpE_r1, wpE_r2, wpE_r3, wpE_r4, wpE_r5, wpE_r6, wpE_r7, wpE_r8, wpE_r9, wpE_r10, wpE_r11, wpE_r12, wpE_r13, wpE_r14, wpE_r15, wpE_r16, wpE_r17, wpE_r18, wpE_r19, wpT_r1, wpT_r2, wpT_r3, wpT_r4, wpT_r5, wpTs_r1, wpEo_r1, wpEo_r2, wpEs_r1, wpEs_r2, wpI_r1, wpI_r2, wpI_r3, wpI_r4, wpI_r5, wpI_r6, wpS_r1, wpS_r2, wpS_r3, wpS_r4, wpS_r5, wpS_w, wpS_r7, wpS_r8, wpS_r9, wpS_r10, wpSs_n, wpSs_c, wpTs_r2, setAll_r1, setAll_r2, List.set_cons_succ, List.set_cons_zero, List.getElem?_cons_zero, List.getElem?_cons_succ, s_eq, s_ne, s_lt, s_le, s_gt, s_ge, s_is1, s_is2, s_isn1, s_isn2, s_neb, s_add, s_sub, s_mul, s_fdiv, s_mod, s_pow, s_lsh, s_rsh, s_and, s_or, s_xor, s_addL, s_mulL, s_backN, s_mkT, s_mkF, s_getL, s_getT, s_tg1, s_tg2, s_len, s_min, s_abs, s_int, s_intb]
    obtain ⟨d1, d2, d3⟩ := dr_step (B := 2 ^ w) (D := D) (V := V) (i := i) hpos hD0
    generalize hW : V % (D * (2 ^ w) ^ (i + 1)) = W at *
    have isW : ∀ y, IsS (st ++ [some (Mo.list (nL (dg (2 ^ w) L W))), y]) (.ref st.length) (nL (dg (2 ^ w) L W)) := fun y => .inr ⟨_, rfl, st0 _ _⟩
    have hd : ∀ j, W / (2 ^ w) ^ (i + j) = W / (2 ^ w) ^ i / (2 ^ w) ^ j := fun j => by rw [Nat.div_div_eq_div_mul, ← Nat.pow_add]
    have hslice : sliceL (nL (dg (2 ^ w) L W)) (.int ((i : Int) + (2 : Nat) - 2)) (.int ((i : Int) + (2 : Nat) + 1)) .none = some (nL [W / (2 ^ w) ^ i % 2 ^ w, W / (2 ^ w) ^ i / 2 ^ w % 2 ^ w, W / (2 ^ w) ^ i / 2 ^ w / 2 ^ w % 2 ^ w]) := by
      rw [show ((i : Int) + (2 : Nat) - 2) = (i : Int) from Int.add_sub_cancel _ _, show ((i : Int) + (2 : Nat) + 1) = ((i + 3 : Nat) : Int) from rfl, sl_two, if_pos ⟨nn, nn⟩, Int.toNat_natCast, Int.toNat_natCast]
      congr 1
      apply List.ext_getElem
      · rw [List.length_drop, List.length_take, nL_length, dg_length, Nat.min_eq_left (Nat.add_lt_of_lt_sub hi)]; exact Nat.add_sub_cancel_left i 3
      · intro j h1 h2
        have hj : j < 3 := by simpa [nL] using h2
        simp only [nL, dg, List.getElem_drop, List.getElem_take, List.getElem_map, List.getElem_range, hd]
        obtain rfl | rfl | rfl := lt_three j hj
        · simp
        · simp
        · simp [Nat.pow_succ, Nat.div_div_eq_div_mul, Nat.mul_assoc, Int.mul_assoc]
    refine ⟨_, _, (isW _).its, hslice, by rw [nL_length, dg_length]; exact Nat.le_trans (Nat.le_of_lt hL2) (by decide), ?_⟩
    rw [show (((2 : Nat) : Int) - 1) = ((1 : Nat) : Int) by decide]
    refine nth_dg (by decide) big2 ?_
    rw [show (((2 : Nat) : Int) - 2) = ((0 : Nat) : Int) by decide]
    refine nth_dg (by decide) big2 ?_
    have hf : D / (2 ^ w) ^ 1 % 2 ^ w = D / 2 ^ w := by
      rw [Nat.pow_one, Nat.mod_eq_of_lt (Nat.div_lt_of_lt_mul hD2)]
    have hs0 : D / (2 ^ w) ^ 0 % 2 ^ w = D % 2 ^ w := by simp
    rw [hf, hs0]
    have hfs : D / 2 ^ w * 2 ^ w + D % 2 ^ w = D := Nat.div_add_mod' D (2 ^ w)
    have hTlt : W / (2 ^ w) ^ i < 2 ^ w * 2 ^ w * 2 ^ w := Nat.lt_of_lt_of_le d3 (Nat.mul_le_mul_right _ (Nat.le_of_lt hD2))
    have h3d := three_digits hTlt
    refine (c_guessed_limb T hw hw2 (Nat.mod_lt _ hpos) (Nat.mod_lt _ hpos) (Nat.mod_lt _ hpos) (Nat.div_pos hD1 hpos) (Nat.div_lt_of_lt_mul hD2) (Nat.mod_lt _ hpos) ?_).up (by decide) ?_
    · rw [h3d, hfs, Nat.mul_comm]; exact d3
    rw [h3d, hfs, d1]
    dsimp only
    refine c_take_away (n := n) T (L := L) (V := W) (V' := V % (D * (2 ^ w) ^ i)) hw hw2 (Nat.mod_lt _ hpos) ?_ (Nat.add_lt_of_lt_sub hi) (Nat.lt_trans hL2 (by decide)) d2 ?_ (st0 _ _) ?_
    · rw [show (2 : Nat) = 1 + 1 from rfl, Nat.pow_succ, Nat.pow_one]; exact hD2
    · rw [← hW]
      refine Nat.lt_of_lt_of_le (Nat.mod_lt _ (Nat.mul_pos hD0 (Nat.pow_pos hpos))) ?_
      rw [show i + 2 + 1 = 2 + (i + 1) from Nat.add_comm (i + 1) 2, Nat.pow_add _ 2, Nat.pow_succ _ 1, Nat.pow_one]
      exact Nat.mul_le_mul_right _ (Nat.le_of_lt hD2)
    rw [set0]
    rw [s_eq]
    rw [show ((0 : Int) == 1) = false by decide]
    dsimp only
    simp only [setOk, st1, set1]
    refine ⟨nn, by rw [nL_length, fl_length]; exact i_lt hi, ii62 (Nat.lt_trans hi hL62), rfl, ?_⟩
    rw [Int.toNat_natCast, nL_set, fl_set hi]
    exact hn _ _ ⟨rfl, _, _, rfl⟩
  · rintro fr st' ⟨rfl, a5, a6, rfl⟩
    simp only [wpE_r1, wpE_r2, wpE_r3, wpE_r4, wpE_r5, wpE_r6, wpE_r7, wpE_r8, wpE_r9, wpE_r10, wpE_r11, wpE_r12, wpE_r13, wpE_r14, wpE_r15, wpE_r16, wpE_r17, wpE_r18, wpE_r19, wpT_r1, wpT_r2, wpT_r3, wpT_r4, wpT_r5, wpTs_r1, wpEo_r1, wpEo_r2, wpEs_r1, wpEs_r2, wpI_r1, wpI_r2, wpI_r3, wpI_r4, wpI_r5, wpI_r6, wpS_r1, wpS_r2, wpS_r3, wpS_r4, wpS_r5, wpS_w, wpS_r7, wpS_r8, wpS_r9, wpS_r10, wpSs_n, wpSs_c, wpTs_r2, setAll_r1, setAll_r2, List.set_cons_succ, List.set_cons_zero, List.getElem?_cons_zero, List.getElem?_cons_succ, s_eq, s_ne, s_lt, s_le, s_gt, s_ge, s_is1, s_is2, s_isn1, s_isn2, s_neb, s_add, s_sub, s_mul, s_fdiv, s_mod, s_pow, s_lsh, s_rsh, s_and, s_or, s_xor, s_addL, s_mulL, s_backN, s_mkT, s_mkF, s_getL, s_getT, s_tg1, s_tg2, s_len, s_min, s_abs, s_int, s_intb, fin, st1]
    refine ⟨by omega, ?_⟩
    rw [fl_zero, Nat.pow_zero, Nat.mul_one]
    have : List.take (st.length + 1) (st ++ [some (Mo.list (nL (dg (2 ^ w) L (V % D)))), some (Mo.list (nL (dg (2 ^ w) (L - 2) (V / D))))]) = st ++ [some (Mo.list (nL (dg (2 ^ w) L (V % D))))] := by
      rw [List.take_append, List.take_of_length_le (by omega)]; simp
    rw [this]
    exact q
end
end Mine
end

section
open PySem PySem.W PyProof.Rows PySem.Spec PySem.SeqAt PySem.Calls
set_option Elab.async false
set_option maxRecDepth 100000
set_option maxHeartbeats 1000000
set_option autoImplicit false
set_option linter.all false
namespace Mine

theorem lb_len_le {B e x : Nat} (hB : 2 ≤ B) (h : x < B ^ e) : (lb B x).length ≤ e := by
  obtain ⟨e', h1, h2, h3⟩ := lb_form hB x
  rw [h1, dg_length]
  rcases h3 with h3 | h3
  · omega
  · have := (Nat.pow_lt_pow_iff_right (a := B) (by omega)).mp (Nat.lt_of_le_of_lt h3 h)
    omega

section
variable {P : PG} {n : Nat} {st : St}

theorem c_divrem_school (T : Txs P) {w a d : Nat} (hw : 1 ≤ w) (hw2 : w ≤ 20) (hd : 0 < d) (hd2 : d < 2 ^ w * 2 ^ w) (hx : (lb (2 ^ w) a).length ≤ 2 ^ 16) :
    Gives P 4 16 [.list (nL (lb (2 ^ w) a)), .list (nL (lb (2 ^ w) d)), .int (w : Int)] (.tup [.list (nL (lb (2 ^ w) (a / d))), .list (nL (lb (2 ^ w) (a % d)))]) := by
  intro n st Q q
  refine ctr T T.t16 rfl ?_
  have hB := two_le_pow hw
  have hBu : 2 ^ w ≤ 2 ^ 20 := Nat.pow_le_pow_right (by decide) hw2
  have hpos : 0 < 2 ^ w := Nat.two_pow_pos w
  have hdlen : (lb (2 ^ w) d).length = if d < 2 ^ w then 1 else 2 := by
    by_cases h : d < 2 ^ w
    · rw [lb_small hB hd h, if_pos h]; rfl
    · rw [lb_dg hB (e := 2) (by rw [show (2 : Nat) = 1 + 1 from rfl, Nat.pow_succ, Nat.pow_one]; exact hd2) (.inr (by simpa using Nat.le_of_not_lt h)), dg_length, if_neg h]
  have hdl : (lb (2 ^ w) d).length ≤ 2 ^ 20 := by rw [hdlen]; split <;> decide
  have biga : (lb (2 ^ w) a).length < big := Nat.lt_of_le_of_lt hx (by unfold big; decide)
  have bigd : (lb (2 ^ w) d).length < big := Nat.lt_of_le_of_lt hdl (by unfold big; decide)
  show wpSs (CallOK P (n + 3)) m_divrem_school [some (.list (nL (lb (2 ^ w) a))), some (.list (nL (lb (2 ^ w) d))), some (.int w), none, none, none, none] st _
  simp only [m_divrem_school, wpE_r1, wpE_r2, wpE_r3, wpE_r4, wpE_r5, wpE_r6, wpE_r7, wpE_r8, wpE_r9, wpE_r10, wpE_r11, wpE_r12, wpE_r13, wpE_r14, wpE_r15, wpE_r16, wpE_r17, wpE_r18, wpE_r19, wpT_r1, wpT_r2, wpT_r3, wpT_r4, wpT_r5, wpTs_r1, wpEo_r1, wpEo_r2, wpEs_r1, wpEs_r2, wpI_r1, wpI_r2, wpI_r3, wpI_r4, wpI_r5, wpI_r6, wpS_r1, wpS_r2, wpS_r3, wpS_r4, wpS_r5, wpS_w, wpS_r7, wpS_r8, wpS_r9, wpS_r10, wpSs_n, wpSs_c, wpTs_r2, setAll_r1, setAll_r2, List.set_cons_succ, List.set_cons_zero, List.getElem?_cons_zero, List.getElem?_cons_succ, s_eq, s_ne, s_lt, s_le, s_gt, s_ge, s_is1, s_is2, s_isn1, s_isn2, s_neb, s_add, s_sub, s_mul, s_fdiv, s_mod, s_pow, s_lsh, s_rsh, s_and, s_or, s_xor, s_addL, s_mulL, s_backN, s_mkT, s_mkF, s_getL, s_getT, s_tg1, s_tg2, s_len, s_min, s_abs, s_int, s_intb, nL_length]
  refine ⟨bigd, ?_⟩
  rw [show (((lb (2 ^ w) d).length : Int) == 0) = false by rw [beq_eq_false_iff_ne, hdlen]; split <;> decide]
  dsimp only
  refine (c_compare T hB (Nat.le_trans hx (by decide)) hdl).up (by decide) ?_
  rw [s_lt]
  by_cases hlt : a < d
  · rw [show cmpI a d = -1 by unfold cmpI; rw [if_pos hlt]]
    rw [show decide ((-1 : Int) < 0) = true by decide]
    dsimp only
    rw [Nat.div_eq_of_lt hlt, Nat.mod_eq_of_lt hlt, lb_nil] at q
    refine ⟨by simp, _, _, rfl, rfl, by rw [nL_length]; omega, by simp, pure_tup2 rfl (pures_nL _), ?_⟩
    rw [List.take_length]; exact q
  rw [show decide (cmpI a d < 0) = false by
    rw [decide_eq_false_iff_not]; unfold cmpI; rw [if_neg hlt]; split <;> decide]
  dsimp only
  refine ⟨bigd, ?_⟩
  by_cases hone : d < 2 ^ w
  · rw [hdlen, if_pos hone, show (((1 : Nat) : Int) == 1) = true by decide]
    dsimp only
    refine (c_divrem_small T hw hw2 hd hone (by omega)).up (by decide) ?_
    refine ⟨pure_tup2 (pures_nL _) (pures_nL _), ?_⟩
    rw [List.take_length]; exact q
  rw [hdlen, if_neg hone, show (((2 : Nat) : Int) == 1) = false by decide]
  dsimp only
  rw [if_neg hone] at hdlen
  have hdd : lb (2 ^ w) d = dg (2 ^ w) 2 d := lb_dg hB (e := 2) (by rw [show (2 : Nat) = 1 + 1 from rfl, Nat.pow_succ, Nat.pow_one]; exact hd2) (.inr (by simpa using Nat.le_of_not_lt hone))
  have htop : d / (2 ^ w) ^ 1 % 2 ^ w = d / 2 ^ w := by rw [Nat.pow_one, Nat.mod_eq_of_lt (Nat.div_lt_of_lt_mul hd2)]
  refine ⟨1, .int ((d / 2 ^ w : Nat) : Int), .inr (by rw [nL_length, hdlen]; decide), ?_, by rw [nL_length]; exact bigd, ?_⟩
  · rw [hdd, ← htop]; unfold nL dg; rfl
  refine ⟨by simp, ?_⟩
  refine (c_bits T (w := w) (x := d / 2 ^ w) (by omega)).up (by decide) ?_
  have ht0 : 0 < d / 2 ^ w := Nat.div_pos (Nat.le_of_not_lt hone) hpos
  have htB : d / 2 ^ w < 2 ^ w := Nat.div_lt_of_lt_mul hd2
  have hl1 : 2 ^ (d / 2 ^ w).log2 ≤ d / 2 ^ w := Nat.log2_self_le (Nat.ne_of_gt ht0)
  have hl2 : d / 2 ^ w < 2 ^ ((d / 2 ^ w).log2 + 1) := Nat.lt_log2_self
  have hlw : (d / 2 ^ w).log2 < w := (Nat.log2_lt (Nat.ne_of_gt ht0)).mpr htB
  have hbl : bitLen ((d / 2 ^ w : Nat) : Int) = (((d / 2 ^ w).log2 + 1 : Nat) : Int) := by
    unfold bitLen
    rw [if_neg (i_ne ht0), Int.natAbs_natCast]; rfl
  rw [hbl]
  generalize hlog : (d / 2 ^ w).log2 = lg at *
  obtain ⟨s, hs⟩ : ∃ s, s + (lg + 1) = w := ⟨w - (lg + 1), Nat.sub_add_cancel hlw⟩
  rw [s_sub, show (w : Int) - ((lg + 1 : Nat) : Int) = (s : Int) by rw [← hs, Int.natCast_add, Int.add_sub_cancel]]
  try dsimp only
  have hsw : s < w := Nat.lt_of_lt_of_le (Nat.lt_add_of_pos_right (Nat.succ_pos lg)) (Nat.le_of_eq hs)
  refine (c_shift_left T hw hw2 hsw (by omega)).up (by decide) ?_
  try dsimp only
  refine (c_shift_left T hw hw2 hsw (by omega)).up (by decide) ?_
  try dsimp only
  have hBs : 2 ^ s * 2 ^ (lg + 1) = 2 ^ w := by rw [← Nat.pow_add, hs]
  have hps : 0 < 2 ^ s := Nat.two_pow_pos s
  have hD1 : 2 ^ s * 2 ^ lg * 2 ^ w ≤ d * 2 ^ s := by
    have h1 : 2 ^ lg * 2 ^ w ≤ d := Nat.le_trans (Nat.mul_le_mul_right _ hl1) (Nat.div_mul_le_self _ _)
    rw [Nat.mul_assoc, Nat.mul_comm]
    exact Nat.mul_le_mul_right _ h1
  have hD2 : d * 2 ^ s < 2 ^ w * 2 ^ w := by
    have h1 : d < 2 ^ (lg + 1) * 2 ^ w := by
      have h2 := Nat.div_add_mod' d (2 ^ w)
      have h3 : d % 2 ^ w < 2 ^ w := Nat.mod_lt _ hpos
      have h4 : (d / 2 ^ w + 1) * 2 ^ w ≤ 2 ^ (lg + 1) * 2 ^ w := Nat.mul_le_mul_right _ hl2
      rw [Nat.add_mul] at h4; exact n_dlt h2 h3 h4
    have h5 : 2 ^ w * 2 ^ w = 2 ^ (lg + 1) * 2 ^ w * 2 ^ s := by
      conv => lhs; lhs; rw [← hBs]
      rw [Nat.mul_comm (2 ^ s), Nat.mul_right_comm]
    rw [h5]
    exact Nat.mul_lt_mul_of_pos_right h1 hps
  have hDB : 2 ^ w ≤ d * 2 ^ s := Nat.le_trans (Nat.le_mul_of_pos_left _ (Nat.mul_pos hps (Nat.two_pow_pos lg))) hD1
  obtain ⟨la, h1, hx1, hx2⟩ := lb_form hB a
  obtain ⟨e, g1, gx1, gx2⟩ := lb_form hB (a * 2 ^ s)
  rw [h1] at hx biga
  rw [h1, g1]
  rw [dg_length] at hx biga
  have hsB : 2 ^ s ≤ 2 ^ w := Nat.pow_le_pow_right (by decide) (Nat.le_of_lt hsw)
  have hA : a * 2 ^ s < (2 ^ w) ^ (la + 1) := by
    rw [Nat.pow_succ]
    exact Nat.lt_of_lt_of_le (Nat.mul_lt_mul_of_pos_right hx1 hps) (Nat.mul_le_mul_left _ hsB)
  have hela : e ≤ la + 1 := by
    rcases gx2 with h | h
    · omega
    · have := (Nat.pow_lt_pow_iff_right (a := 2 ^ w) hB).mp (Nat.lt_of_le_of_lt h hA)
      exact n_epred this
  have hla : 1 ≤ la := by
    rcases Nat.eq_zero_or_pos la with h | h
    · subst h; simp at hx1; omega
    · exact h
  simp only [nL_length, dg_length, s_add]
  refine ⟨by simp, biga, ?_⟩
  rw [s_len, nL_length, dg_length]
  refine ⟨by unfold big; omega, ?_⟩
  rw [s_sub, s_mulL]
  have hk : ((la : Int) + 1 - (e : Int)) = ((la + 1 - e : Nat) : Int) := by rw [← i_sub hela]; rfl
  rw [hk]
  have hx1' : la + 1 ≤ 2 ^ 20 := Nat.le_trans (Nat.succ_le_succ hx) (by decide)
  refine ⟨ii62 (l62 (Nat.le_trans (Nat.sub_le _ _) (Nat.le_trans hx1' (by decide)))), i62, by simp; omega, ?_⟩
  rw [s_mkF, zeros, s_addL]
  refine ⟨by rw [nL_length, nL_length, dg_length, List.length_replicate, Nat.add_sub_of_le hela]; exact Nat.le_trans hx1' (by decide), ?_⟩
  have hpad : nL (dg (2 ^ w) e (a * 2 ^ s)) ++ nL (List.replicate (la + 1 - e) 0) = nL (dg (2 ^ w) (la + 1) (a * 2 ^ s)) := by
    rw [← dg_pad hB gx1 hela]; unfold nL; rw [List.map_append]
  rw [hpad, s_mkT]
  refine ⟨pures_nL _, ?_⟩
  have hDd : lb (2 ^ w) (d * 2 ^ s) = dg (2 ^ w) 2 (d * 2 ^ s) := lb_dg hB (e := 2) (by rw [show (2 : Nat) = 1 + 1 from rfl, Nat.pow_succ, Nat.pow_one]; exact hD2) (.inr (by simpa using hDB))
  have hAD : a * 2 ^ s < d * 2 ^ s * (2 ^ w) ^ (la + 1 - 2) := by
    have h2 : (2 ^ w) ^ la * 2 ^ s ≤ d * 2 ^ s * (2 ^ w) ^ (la - 1) := by
      have h3 : (2 ^ w) ^ la = (2 ^ w) ^ (la - 1) * 2 ^ w := by rw [← Nat.pow_succ, n_succ_pred hla]
      rw [h3, Nat.mul_comm (d * 2 ^ s), Nat.mul_assoc]
      refine Nat.mul_le_mul_left _ (Nat.le_trans ?_ hD1)
      rw [Nat.mul_comm]
      exact Nat.mul_le_mul_right _ (Nat.le_mul_of_pos_right _ (Nat.two_pow_pos lg))
    rw [show la + 1 - 2 = la - 1 from Nat.add_sub_add_right la 1 1]
    exact Nat.lt_of_lt_of_le (Nat.mul_lt_mul_of_pos_right hx1 hps) h2
  try dsimp only
  rw [hDd]
  refine (c_divide_rows (n := n + 1) T hw hw2 hDB hD2 (Nat.succ_le_succ hla) (Nat.lt_of_le_of_lt (Nat.succ_le_succ hx) (by decide)) hAD ?_)
  try dsimp only
  have hq1 : a * 2 ^ s / (d * 2 ^ s) = a / d := Nat.mul_div_mul_right _ _ hps
  have hr1 : a * 2 ^ s % (d * 2 ^ s) = a % d * 2 ^ s := Nat.mul_mod_mul_right _ _ _
  rw [hq1, hr1]
  refine c_normal (n := n + 2) T hB (L := la + 1 - 2) (x := a / d) ?_ (Nat.le_trans (Nat.sub_le _ _) hx1') (.inl rfl) ?_
  · rw [← hq1]; exact Nat.div_lt_of_lt_mul hAD
  refine c_normal (n := n + 2) T hB (L := la + 1) (x := a % d * 2 ^ s) ?_ hx1' (.inr ⟨_, rfl, stA _⟩) ?_
  · exact Nat.lt_of_le_of_lt (Nat.mul_le_mul_right _ (Nat.mod_le _ _)) hA
  have hrl : (lb (2 ^ w) (a % d * 2 ^ s)).length ≤ 2 ^ 20 := by
    refine Nat.le_trans (lb_len_le (e := 2) hB ?_) (by decide)
    rw [show (2 ^ w) ^ 2 = 2 ^ w * 2 ^ w by rw [show (2 : Nat) = 1 + 1 from rfl, Nat.pow_succ, Nat.pow_one]]
    exact Nat.lt_of_le_of_lt (Nat.mul_le_mul_right _ (Nat.le_of_lt (Nat.mod_lt _ hd))) hD2
  refine (c_shift_right T hw hw2 hsw hrl).up (by decide) ?_
  rw [Nat.mul_div_cancel _ hps]
  refine ⟨by simp, pure_tup2 (pures_nL _) (pures_nL _), ?_⟩
  rw [takeA]; exact q
end
end Mine
end

section
open PySem PySem.W PyProof.Rows PySem.Spec PySem.SeqAt PySem.Calls
set_option Elab.async false
set_option maxRecDepth 100000
set_option maxHeartbeats 1000000
set_option autoImplicit false
set_option linter.all false
namespace Mine

/-! products of powers -/
noncomputable def pr : List Nat → List Nat → Nat
  | p :: ps, e :: es => p ^ e * pr ps es
  | _, _ => 1
noncomputable def P6 : List Nat := [2, 3, 5, 7, 11, 13]
/-- each at least 2, prime to the later ones -/
noncomputable def Cps : List Nat → Prop
  | [] => True
  | p :: ps => 2 ≤ p ∧ p < 2 ^ 10 ∧ (∀ q ∈ ps, Nat.Coprime p q) ∧ Cps ps
theorem P6_cps : Cps P6 := by
  simp only [P6, Cps]
  decide
theorem pr_pos : ∀ {ps es : List Nat}, Cps ps → 0 < pr ps es
  | [], _, _ => by simp [pr]
  | p :: ps, [], _ => by simp [pr]
  | p :: ps, e :: es, h => Nat.mul_pos (Nat.pow_pos (by have := h.1; omega)) (pr_pos h.2.2.2)
theorem cop_pr {p : Nat} : ∀ {ps es : List Nat}, (∀ q ∈ ps, Nat.Coprime p q) → Nat.Coprime p (pr ps es)
  | [], _, _ => by simp only [pr]; exact Nat.coprime_one_right _
  | q :: ps, [], _ => by simp only [pr]; exact Nat.coprime_one_right _
  | q :: ps, e :: es, h => (Nat.Coprime.pow_right e (h q (.head _))).mul_right (cop_pr fun r hr => h r (.tail _ hr))
theorem cop_ndvd {p M : Nat} (hp : 2 ≤ p) (h : Nat.Coprime p M) : ¬ p ∣ M := fun hd => by
  have := h.eq_one_of_dvd hd; omega
theorem cop_mod {p M : Nat} (hp : 2 ≤ p) (h : Nat.Coprime p M) : M % p ≠ 0 := fun e => cop_ndvd hp h (Nat.dvd_of_mod_eq_zero e)

noncomputable def prodL : List Nat → Nat
  | [] => 1
  | x :: l => x * prodL l

noncomputable def expsOf (code : Nat) : List Nat := [code % 4, code / 4 % 3, code / 12 % 3, code / 36 % 2, code / 72 % 2, code / 144 % 2]
noncomputable def numOf (code : Nat) : Nat := pr P6 (expsOf code)

section
variable {P : PG} {n : Nat} {st : St}

theorem c_law_strung (T : Txs P) {r k many : Nat} {bs : List Nat} (hm : 0 < many) (hk : k < 2 ^ 30) (hb : bs.length < 2 ^ 20) (hr : st[r]? = some (some (.list [.int (k : Int), .list (nL bs)])))
    {Q : Dv → St → Prop} (q : ∀ v : Nat, v < many → Q (.int (v : Int)) (st.set r (some (.list [.int ((k + 1 : Nat) : Int), .list (nL bs)])))) :
    CallOK P (n + 1) 19 [.ref r, .int (many : Int)] st Q := by
  refine ctr T T.t19 rfl ?_
  show wpSs (CallOK P n) m_law_strung [some (.ref r), some (.int many)] st _
  have hrl : r < st.length := by
    rcases Nat.lt_or_ge r st.length with h | h
    · exact h
    · rw [List.getElem?_eq_none h] at hr; cases hr
  have stS : ∀ x : Option Mo, (st.set r x)[r]? = some x := fun x => by rw [List.getElem?_set_self hrl]
  have isS : IsS st (.ref r) [.int (k : Int), .list (nL bs)] := .inr ⟨_, rfl, hr⟩
  simp only [m_law_strung, wpE_r1, wpE_r2, wpE_r3, wpE_r4, wpE_r5, wpE_r6, wpE_r7, wpE_r8, wpE_r9, wpE_r10, wpE_r11, wpE_r12, wpE_r13, wpE_r14, wpE_r15, wpE_r16, wpE_r17, wpE_r18, wpE_r19, wpT_r1, wpT_r2, wpT_r3, wpT_r4, wpT_r5, wpTs_r1, wpEo_r1, wpEo_r2, wpEs_r1, wpEs_r2, wpI_r1, wpI_r2, wpI_r3, wpI_r4, wpI_r5, wpI_r6, wpS_r1, wpS_r2, wpS_r3, wpS_r4, wpS_r5, wpS_w, wpS_r7, wpS_r8, wpS_r9, wpS_r10, wpSs_n, wpSs_c, wpTs_r2, setAll_r1, setAll_r2, List.set_cons_succ, List.set_cons_zero, List.getElem?_cons_zero, List.getElem?_cons_succ, s_eq, s_ne, s_lt, s_le, s_gt, s_ge, s_is1, s_is2, s_isn1, s_isn2, s_neb, s_add, s_sub, s_mul, s_fdiv, s_mod, s_pow, s_lsh, s_rsh, s_and, s_or, s_xor, s_addL, s_mulL, s_backN, s_mkT, s_mkF, s_getL, s_getT, s_tg1, s_tg2, s_len, s_min, s_abs, s_int, s_intb]
  try dsimp only
  rw [isS.get]
  refine ⟨0, .int (k : Int), .inl rfl, rfl, by simp [big], ?_⟩
  try dsimp only
  rw [s_add]
  simp only [setOk, hr]
  refine ⟨by decide, by simp, by decide, rfl, ?_⟩
  have e1 : ((k : Int) + 1) = ((k + 1 : Nat) : Int) := by omega
  rw [e1]
  have hset : List.set [Dv.int (k : Int), .list (nL bs)] (0 : Int).toNat (.int ((k + 1 : Nat) : Int)) = [.int ((k + 1 : Nat) : Int), .list (nL bs)] := rfl
  rw [hset]
  have isS' : IsS (st.set r (some (.list [.int ((k + 1 : Nat) : Int), .list (nL bs)]))) (.ref r) [.int ((k + 1 : Nat) : Int), .list (nL bs)] := .inr ⟨_, rfl, stS _⟩
  generalize hst' : st.set r (some (Mo.list [.int ((k + 1 : Nat) : Int), .list (nL bs)])) = st' at *
  have hlen : st'.length = st.length := by rw [← hst']; simp
  try dsimp only
  rw [isS'.get]
  refine ⟨0, .int ((k + 1 : Nat) : Int), .inl rfl, rfl, by simp [big], ?_⟩
  try dsimp only
  rw [isS'.get]
  refine ⟨1, .list (nL bs), .inl rfl, rfl, by simp [big], ?_⟩
  try dsimp only
  rw [s_len, nL_length]
  refine ⟨by unfold big; omega, ?_⟩
  try dsimp only
  rw [s_le]
  by_cases hle : k + 1 ≤ bs.length
  · rw [show decide (((k + 1 : Nat) : Int) ≤ (bs.length : Int)) = true by rw [decide_eq_true_iff]; omega]
    dsimp only
    try dsimp only
    rw [isS'.get]
    refine ⟨1, .list (nL bs), .inl rfl, rfl, by simp [big], ?_⟩
    try dsimp only
    rw [isS'.get]
    refine ⟨0, .int ((k + 1 : Nat) : Int), .inl rfl, rfl, by simp [big], ?_⟩
    try dsimp only
    rw [s_sub, show (((k + 1 : Nat) : Int) - 1) = ((k : Nat) : Int) by omega, s_getL]
    refine nth_nL (x := bs[k]'(by omega)) (List.getElem?_eq_getElem (by omega)) (by unfold big; omega) ?_
    try dsimp only
    rw [s_mod]
    refine ⟨by omega, ?_⟩
    rw [fmod_nat]
    refine ⟨rfl, ?_⟩
    rw [← hlen, List.take_length]
    exact q _ (Nat.mod_lt _ hm)
  · rw [show decide (((k + 1 : Nat) : Int) ≤ (bs.length : Int)) = false by rw [decide_eq_false_iff_not]; omega]
    dsimp only
    try dsimp only
    rw [isS'.get]
    refine ⟨0, .int ((k + 1 : Nat) : Int), .inl rfl, rfl, by simp [big], ?_⟩
    try dsimp only
    rw [s_mul]
    refine ⟨.inl (by decide), ?_⟩
    try dsimp only
    rw [isS'.get]
    refine ⟨0, .int ((k + 1 : Nat) : Int), .inl rfl, rfl, by simp [big], ?_⟩
    try dsimp only
    rw [s_fdiv]
    refine ⟨by decide, by decide, ?_⟩
    have e2 : (4 * ((k + 1 : Nat) : Int)) = ((4 * (k + 1) : Nat) : Int) := by omega
    have e3 : Int.fdiv ((k + 1 : Nat) : Int) 2 = (((k + 1) / 2 : Nat) : Int) := fdiv_nat _ 2
    rw [e2, e3, s_add, s_add, s_mod]
    refine ⟨by omega, ?_⟩
    rw [show ((4 * (k + 1) : Nat) : Int) + (((k + 1) / 2 : Nat) : Int) + 5 = ((4 * (k + 1) + (k + 1) / 2 + 5 : Nat) : Int) by omega, fmod_nat]
    refine ⟨rfl, ?_⟩
    rw [← hlen, List.take_length]
    exact q _ (Nat.mod_lt _ hm)

theorem pow_le' {p e k : Nat} (hp : 2 ≤ p) (h : e < k) : p ^ e ≤ p ^ k := Nat.pow_le_pow_right (by omega) (by omega)
theorem powI2 (p e : Nat) : ((p : Int)) ^ e = ((p ^ e : Nat) : Int) := by simp

theorem c_law_number (T : Txs P) {code : Nat} : Gives P 1 21 [.int (code : Int)] (.int (numOf code : Int)) := by
  intro n st Q q
  refine ctr T T.t21 rfl ?_
  show wpSs (CallOK P n) m_law_number [some (.int code), none] st _
  have f1 : ∀ a b : Nat, Int.fdiv (a : Int) (b : Int) = ((a / b : Nat) : Int) := fdiv_nat
  have f2 : ∀ a b : Nat, Int.fmod (a : Int) (b : Int) = ((a % b : Nat) : Int) := fmod_nat
  have g4 : Int.fmod (code : Int) 4 = ((code % 4 : Nat) : Int) := f2 code 4
  have g3 : Int.fmod (Int.fdiv (code : Int) 4) 3 = ((code / 4 % 3 : Nat) : Int) := by rw [show Int.fdiv (code : Int) 4 = ((code / 4 : Nat) : Int) from f1 code 4]; exact f2 _ 3
  have g5 : Int.fmod (Int.fdiv (code : Int) 12) 3 = ((code / 12 % 3 : Nat) : Int) := by rw [show Int.fdiv (code : Int) 12 = ((code / 12 : Nat) : Int) from f1 code 12]; exact f2 _ 3
  have g7 : Int.fmod (Int.fdiv (code : Int) 36) 2 = ((code / 36 % 2 : Nat) : Int) := by rw [show Int.fdiv (code : Int) 36 = ((code / 36 : Nat) : Int) from f1 code 36]; exact f2 _ 2
  have g11 : Int.fmod (Int.fdiv (code : Int) 72) 2 = ((code / 72 % 2 : Nat) : Int) := by rw [show Int.fdiv (code : Int) 72 = ((code / 72 : Nat) : Int) from f1 code 72]; exact f2 _ 2
  have g13 : Int.fmod (Int.fdiv (code : Int) 144) 2 = ((code / 144 % 2 : Nat) : Int) := by rw [show Int.fdiv (code : Int) 144 = ((code / 144 : Nat) : Int) from f1 code 144]; exact f2 _ 2
  simp only [m_law_number, wpE_r1, wpE_r2, wpE_r3, wpE_r4, wpE_r5, wpE_r6, wpE_r7, wpE_r8, wpE_r9, wpE_r10, wpE_r11, wpE_r12, wpE_r13, wpE_r14, wpE_r15, wpE_r16, wpE_r17, wpE_r18, wpE_r19, wpT_r1, wpT_r2, wpT_r3, wpT_r4, wpT_r5, wpTs_r1, wpEo_r1, wpEo_r2, wpEs_r1, wpEs_r2, wpI_r1, wpI_r2, wpI_r3, wpI_r4, wpI_r5, wpI_r6, wpS_r1, wpS_r2, wpS_r3, wpS_r4, wpS_r5, wpS_w, wpS_r7, wpS_r8, wpS_r9, wpS_r10, wpSs_n, wpSs_c, wpTs_r2, setAll_r1, setAll_r2, List.set_cons_succ, List.set_cons_zero, List.getElem?_cons_zero, List.getElem?_cons_succ, s_eq, s_ne, s_lt, s_le, s_gt, s_ge, s_is1, s_is2, s_isn1, s_isn2, s_neb, s_add, s_sub, s_mul, s_fdiv, s_mod, s_pow, s_lsh, s_rsh, s_and, s_or, s_xor, s_addL, s_mulL, s_backN, s_mkT, s_mkF, s_getL, s_getT, s_tg1, s_tg2, s_len, s_min, s_abs, s_int, s_intb, g4, g3, g5, g7, g11, g13, Int.toNat_natCast]
  have hpr : numOf code = 2 ^ (code % 4) * 3 ^ (code / 4 % 3) * 5 ^ (code / 12 % 3) * 7 ^ (code / 36 % 2) * 11 ^ (code / 72 % 2) * 13 ^ (code / 144 % 2) := by
    unfold numOf expsOf P6
    simp only [pr, Nat.mul_assoc, Nat.mul_one]
  rw [hpr] at q
  have b4 : code % 4 < 4 := Nat.mod_lt _ (by decide)
  have b3 : code / 4 % 3 < 3 := Nat.mod_lt _ (by decide)
  have b5 : code / 12 % 3 < 3 := Nat.mod_lt _ (by decide)
  have b7 : code / 36 % 2 < 2 := Nat.mod_lt _ (by decide)
  have b11 : code / 72 % 2 < 2 := Nat.mod_lt _ (by decide)
  have b13 : code / 144 % 2 < 2 := Nat.mod_lt _ (by decide)
  generalize code % 4 = a at *
  generalize code / 4 % 3 = b at *
  generalize code / 12 % 3 = c at *
  generalize code / 36 % 2 = d at *
  generalize code / 72 % 2 = e at *
  generalize code / 144 % 2 = f at *
  have p2 : (2 : Int) ^ a = ((2 ^ a : Nat) : Int) := powI2 2 a
  have p3 : (3 : Int) ^ b = ((3 ^ b : Nat) : Int) := powI2 3 b
  have p5 : (5 : Int) ^ c = ((5 ^ c : Nat) : Int) := powI2 5 c
  have p7 : (7 : Int) ^ d = ((7 ^ d : Nat) : Int) := powI2 7 d
  have p11 : (11 : Int) ^ e = ((11 ^ e : Nat) : Int) := powI2 11 e
  have p13 : (13 : Int) ^ f = ((13 ^ f : Nat) : Int) := powI2 13 f
  have l3 : (3 : Nat) ^ b ≤ 3 ^ 3 := pow_le' (by decide) b3
  have l5 : (5 : Nat) ^ c ≤ 5 ^ 3 := pow_le' (by decide) b5
  have l7 : (7 : Nat) ^ d ≤ 7 ^ 2 := pow_le' (by decide) b7
  have l11 : (11 : Nat) ^ e ≤ 11 ^ 2 := pow_le' (by decide) b11
  have l13 : (13 : Nat) ^ f ≤ 13 ^ 2 := pow_le' (by decide) b13
  rw [p2, p3, p5, p7, p11, p13]
  simp only [← Int.natCast_mul, Int.natAbs_natCast]
  have t4 : (a : Int) < 10000 := Int.ofNat_lt.mpr (Nat.lt_trans b4 (by decide))
  have t3 : (b : Int) < 10000 := Int.ofNat_lt.mpr (Nat.lt_trans b3 (by decide))
  have t5 : (c : Int) < 10000 := Int.ofNat_lt.mpr (Nat.lt_trans b5 (by decide))
  have t7 : (d : Int) < 10000 := Int.ofNat_lt.mpr (Nat.lt_trans b7 (by decide))
  have t11 : (e : Int) < 10000 := Int.ofNat_lt.mpr (Nat.lt_trans b11 (by decide))
  have t13 : (f : Int) < 10000 := Int.ofNat_lt.mpr (Nat.lt_trans b13 (by decide))
  have m3 := Nat.lt_of_le_of_lt l3 (show 3 ^ 3 < 2 ^ 64 by decide)
  have m5 := Nat.lt_of_le_of_lt l5 (show 5 ^ 3 < 2 ^ 64 by decide)
  have m7 := Nat.lt_of_le_of_lt l7 (show 7 ^ 2 < 2 ^ 64 by decide)
  have m11 := Nat.lt_of_le_of_lt l11 (show 11 ^ 2 < 2 ^ 64 by decide)
  have m13 := Nat.lt_of_le_of_lt l13 (show 13 ^ 2 < 2 ^ 64 by decide)
  repeat (refine ⟨by first | exact Int.natCast_nonneg _ | (with_reducible assumption) | decide | exact .inr (by with_reducible assumption) | rfl | omega, ?_⟩)
  rw [List.take_length]; exact q

theorem c_law_whole (T : Txs P) {l : List Nat} (h : ∀ x ∈ l, x < 2 ^ 64) : Gives P 1 23 [.list (nL l)] (.int (prodL l : Int)) := by
  intro n st Q q
  refine ctr T T.t23 rfl ?_
  show wpSs (CallOK P n) m_law_whole [some (.list (nL l)), none, none] st _
  simp only [m_law_whole, wpE_r1, wpE_r2, wpE_r3, wpE_r4, wpE_r5, wpE_r6, wpE_r7, wpE_r8, wpE_r9, wpE_r10, wpE_r11, wpE_r12, wpE_r13, wpE_r14, wpE_r15, wpE_r16, wpE_r17, wpE_r18, wpE_r19, wpT_r1, wpT_r2, wpT_r3, wpT_r4, wpT_r5, wpTs_r1, wpEo_r1, wpEo_r2, wpEs_r1, wpEs_r2, wpI_r1, wpI_r2, wpI_r3, wpI_r4, wpI_r5, wpI_r6, wpS_r1, wpS_r2, wpS_r3, wpS_r4, wpS_r5, wpS_w, wpS_r7, wpS_r8, wpS_r9, wpS_r10, wpSs_n, wpSs_c, wpTs_r2, setAll_r1, setAll_r2, List.set_cons_succ, List.set_cons_zero, List.getElem?_cons_zero, List.getElem?_cons_succ, s_eq, s_ne, s_lt, s_le, s_gt, s_ge, s_is1, s_is2, s_isn1, s_isn2, s_neb, s_add, s_sub, s_mul, s_fdiv, s_mod, s_pow, s_lsh, s_rsh, s_and, s_or, s_xor, s_addL, s_mulL, s_backN, s_mkT, s_mkF, s_getL, s_getT, s_tg1, s_tg2, s_len, s_min, s_abs, s_int, s_intb]
  refine forL_inv (fun rest fr st' => st' = st ∧ ∃ (a : Nat) (l' : List Nat) (o : Option Dv), rest = nL l' ∧ a * prodL l' = prodL l ∧ (∀ x ∈ l', x < 2 ^ 64) ∧ fr = [some (.list (nL l)), some (.int (a : Int)), o]) ?_ ?_ _ _ _ ⟨rfl, 1, l, none, rfl, Nat.one_mul _, h, rfl⟩
  · rintro x rest fr st' K ⟨rfl, a, l', o, e, ha, hl, rfl⟩ hn hs
    cases l' with
    | nil => simp [nL] at e
    | cons y l' =>
      simp only [nL, List.map_cons, List.cons.injEq] at e
      obtain ⟨rfl, rfl⟩ := e
      simp only [wpE_r1, wpE_r2, wpE_r3, wpE_r4, wpE_r5, wpE_r6, wpE_r7, wpE_r8, wpE_r9, wpE_r10, wpE_r11, wpE_r12, wpE_r13, wpE_r14, wpE_r15, wpE_r16, wpE_r17, wpE_r18, wpE_r19, wpT_r1, wpT_r2, wpT_r3, wpT_r4, wpT_r5, wpTs_r1, wpEo_r1, wpEo_r2, wpEs_r1, wpEs_r2, wpI_r1, wpI_r2, wpI_r3, wpI_r4, wpI_r5, wpI_r6, wpS_r1, wpS_r2, wpS_r3, wpS_r4, wpS_r5, wpS_w, wpS_r7, wpS_r8, wpS_r9, wpS_r10, wpSs_n, wpSs_c, wpTs_r2, setAll_r1, setAll_r2, List.set_cons_succ, List.set_cons_zero, List.getElem?_cons_zero, List.getElem?_cons_succ, s_eq, s_ne, s_lt, s_le, s_gt, s_ge, s_is1, s_is2, s_isn1, s_isn2, s_neb, s_add, s_sub, s_mul, s_fdiv, s_mod, s_pow, s_lsh, s_rsh, s_and, s_or, s_xor, s_addL, s_mulL, s_backN, s_mkT, s_mkF, s_getL, s_getT, s_tg1, s_tg2, s_len, s_min, s_abs, s_int, s_intb]
      have hy : y < 2 ^ 64 := hl y (.head _)
      refine ⟨.inr (by rw [Int.natAbs_natCast]; exact hy), ?_⟩
      rw [← Int.natCast_mul]
      refine hn _ _ ⟨rfl, a * y, l', _, rfl, ?_, fun z hz => hl z (.tail _ hz), rfl⟩
      rw [← ha, Nat.mul_assoc]; rfl
  · rintro fr st' ⟨rfl, a, l', o, e, ha, hl, rfl⟩
    cases l' with
    | nil =>
      simp only [wpE_r1, wpE_r2, wpE_r3, wpE_r4, wpE_r5, wpE_r6, wpE_r7, wpE_r8, wpE_r9, wpE_r10, wpE_r11, wpE_r12, wpE_r13, wpE_r14, wpE_r15, wpE_r16, wpE_r17, wpE_r18, wpE_r19, wpT_r1, wpT_r2, wpT_r3, wpT_r4, wpT_r5, wpTs_r1, wpEo_r1, wpEo_r2, wpEs_r1, wpEs_r2, wpI_r1, wpI_r2, wpI_r3, wpI_r4, wpI_r5, wpI_r6, wpS_r1, wpS_r2, wpS_r3, wpS_r4, wpS_r5, wpS_w, wpS_r7, wpS_r8, wpS_r9, wpS_r10, wpSs_n, wpSs_c, wpTs_r2, setAll_r1, setAll_r2, List.set_cons_succ, List.set_cons_zero, List.getElem?_cons_zero, List.getElem?_cons_succ, s_eq, s_ne, s_lt, s_le, s_gt, s_ge, s_is1, s_is2, s_isn1, s_isn2, s_neb, s_add, s_sub, s_mul, s_fdiv, s_mod, s_pow, s_lsh, s_rsh, s_and, s_or, s_xor, s_addL, s_mulL, s_backN, s_mkT, s_mkF, s_getL, s_getT, s_tg1, s_tg2, s_len, s_min, s_abs, s_int, s_intb]
      have : a = prodL l := by rw [← ha]; simp [prodL]
      refine ⟨rfl, ?_⟩
      rw [List.take_length, this]; exact q
    | cons y l' => simp [nL] at e
end
end Mine
end

section
open PySem PySem.W PyProof.Rows PySem.Spec PySem.SeqAt PySem.Calls
set_option Elab.async false
set_option maxRecDepth 100000
set_option maxHeartbeats 1000000
set_option autoImplicit false
set_option linter.all false
namespace Mine

theorem sq_mod {p M k : Nat} (hp : 2 ≤ p) (h : Nat.Coprime p M) (hk : k < 2) : p ^ k * M % (p * p) ≠ 0 := fun e => by
  have hd := Nat.dvd_of_mod_eq_zero e
  obtain rfl | rfl := lt_two k hk
  · rw [Nat.pow_zero, Nat.one_mul] at hd
    exact cop_ndvd hp h (Nat.dvd_trans (Nat.dvd_mul_right p p) hd)
  · rw [Nat.pow_one] at hd
    exact cop_ndvd hp h (Nat.dvd_of_mul_dvd_mul_left (by omega) hd)
theorem sq_pow (p M k : Nat) : p ^ (k + 2) * M = p * p * (p ^ k * M) := by
  rw [Nat.pow_succ, Nat.pow_succ, ← Nat.mul_assoc]
  congr 1
  rw [Nat.mul_assoc, Nat.mul_comm]
theorem one_pow' (p M k : Nat) : p ^ (k + 1) * M = p * (p ^ k * M) := by
  rw [Nat.pow_succ, ← Nat.mul_assoc, Nat.mul_comm (p ^ k)]
theorem lb_len_mono {B z x : Nat} (hB : 2 ≤ B) (h : z ≤ x) : (lb B z).length ≤ (lb B x).length := by
  obtain ⟨e, h1, h2, _⟩ := lb_form hB x
  rw [h1, dg_length]
  exact lb_len_le hB (Nat.lt_of_le_of_lt h h2)

section
variable {P : PG} {n : Nat} {st : St}

theorem c_law_parted (T : Txs P) {es : List Nat} (hes : es.length = 6) :
    Gives P 1 22 [.int (pr P6 es : Int)] (.tup [.int (pr P6 (es.map (· % 2)) : Int), .int (pr P6 (es.map (· / 2)) : Int)]) := by
  intro n st Q q
  refine ctr T T.t22 rfl ?_
  show wpSs (CallOK P n) m_law_parted [some (.int (pr P6 es : Int)), none, none, none] st _
  simp only [m_law_parted, wpE_r1, wpE_r2, wpE_r3, wpE_r4, wpE_r5, wpE_r6, wpE_r7, wpE_r8, wpE_r9, wpE_r10, wpE_r11, wpE_r12, wpE_r13, wpE_r14, wpE_r15, wpE_r16, wpE_r17, wpE_r18, wpE_r19, wpT_r1, wpT_r2, wpT_r3, wpT_r4, wpT_r5, wpTs_r1, wpEo_r1, wpEo_r2, wpEs_r1, wpEs_r2, wpI_r1, wpI_r2, wpI_r3, wpI_r4, wpI_r5, wpI_r6, wpS_r1, wpS_r2, wpS_r3, wpS_r4, wpS_r5, wpS_w, wpS_r7, wpS_r8, wpS_r9, wpS_r10, wpSs_n, wpSs_c, wpTs_r2, setAll_r1, setAll_r2, List.set_cons_succ, List.set_cons_zero, List.getElem?_cons_zero, List.getElem?_cons_succ, s_eq, s_ne, s_lt, s_le, s_gt, s_ge, s_is1, s_is2, s_isn1, s_isn2, s_neb, s_add, s_sub, s_mul, s_fdiv, s_mod, s_pow, s_lsh, s_rsh, s_and, s_or, s_xor, s_addL, s_mulL, s_backN, s_mkT, s_mkF, s_getL, s_getT, s_tg1, s_tg2, s_len, s_min, s_abs, s_int, s_intb]
  have hP6 : ([.int 2, .int 3, .int 5, .int 7, .int 11, .int 13] : List Dv) = nL P6 := rfl
  rw [hP6]
  refine ⟨by simp [nL, P6], ?_⟩
  refine forL_inv (fun rest fr st' => st' = st ∧ ∃ (F R : Nat) (ps es' : List Nat) (o : Option Dv), rest = nL ps ∧ ps.length = es'.length ∧ Cps ps ∧ (∀ p ∈ ps, Nat.Coprime p F) ∧
      F * pr ps (es'.map (· % 2)) = pr P6 (es.map (· % 2)) ∧ R * pr ps (es'.map (· / 2)) = pr P6 (es.map (· / 2)) ∧
      fr = [some (.int ((F * pr ps es' : Nat) : Int)), some (.list (nL P6)), some (.int (R : Int)), o]) ?_ ?_ _ _ _
    ⟨rfl, 1, 1, P6, es, none, rfl, by rw [hes]; rfl, P6_cps, fun p _ => Nat.coprime_one_right _, Nat.one_mul _, Nat.one_mul _, by rw [Nat.one_mul]; rfl⟩
  · rintro x rest fr st' K ⟨rfl, F, R, ps, es', o, e, hlen, hcp, hF, h1, h2, rfl⟩ hn hs
    cases ps with
    | nil => simp [nL] at e
    | cons p ps =>
      cases es' with
      | nil => simp at hlen
      | cons ex es' =>
      simp only [nL, List.map_cons, List.cons.injEq] at e
      obtain ⟨rfl, rfl⟩ := e
      obtain ⟨hp, hpb, hpc, hcps⟩ := hcp
      simp only [wpE_r1, wpE_r2, wpE_r3, wpE_r4, wpE_r5, wpE_r6, wpE_r7, wpE_r8, wpE_r9, wpE_r10, wpE_r11, wpE_r12, wpE_r13, wpE_r14, wpE_r15, wpE_r16, wpE_r17, wpE_r18, wpE_r19, wpT_r1, wpT_r2, wpT_r3, wpT_r4, wpT_r5, wpTs_r1, wpEo_r1, wpEo_r2, wpEs_r1, wpEs_r2, wpI_r1, wpI_r2, wpI_r3, wpI_r4, wpI_r5, wpI_r6, wpS_r1, wpS_r2, wpS_r3, wpS_r4, wpS_r5, wpS_w, wpS_r7, wpS_r8, wpS_r9, wpS_r10, wpSs_n, wpSs_c, wpTs_r2, setAll_r1, setAll_r2, List.set_cons_succ, List.set_cons_zero, List.getElem?_cons_zero, List.getElem?_cons_succ, s_eq, s_ne, s_lt, s_le, s_gt, s_ge, s_is1, s_is2, s_isn1, s_isn2, s_neb, s_add, s_sub, s_mul, s_fdiv, s_mod, s_pow, s_lsh, s_rsh, s_and, s_or, s_xor, s_addL, s_mulL, s_backN, s_mkT, s_mkF, s_getL, s_getT, s_tg1, s_tg2, s_len, s_min, s_abs, s_int, s_intb]
      have hM : Nat.Coprime p (F * pr ps es') := (hF p (.head _)).mul_right (cop_pr hpc)
      have hval : F * pr (p :: ps) (ex :: es') = p ^ ex * (F * pr ps es') := by rw [pr, Nat.mul_left_comm]
      refine ⟨ex + 1, whL_inv (fun k fr st'' => st'' = st' ∧ ∃ j, k + 2 * j = ex ∧ fr = [some (.int ((p ^ k * (F * pr ps es') : Nat) : Int)), some (.list (nL P6)), some (.int ((R * p ^ j : Nat) : Int)), some (.int (p : Int))]) ?_ _ ex _ _ (Nat.lt_succ_self _) ⟨rfl, 0, rfl, by rw [hval]; simp⟩⟩
      rintro k fr st'' R' ⟨rfl, j, hk, rfl⟩ hn' hs'
      simp only [wpE_r1, wpE_r2, wpE_r3, wpE_r4, wpE_r5, wpE_r6, wpE_r7, wpE_r8, wpE_r9, wpE_r10, wpE_r11, wpE_r12, wpE_r13, wpE_r14, wpE_r15, wpE_r16, wpE_r17, wpE_r18, wpE_r19, wpT_r1, wpT_r2, wpT_r3, wpT_r4, wpT_r5, wpTs_r1, wpEo_r1, wpEo_r2, wpEs_r1, wpEs_r2, wpI_r1, wpI_r2, wpI_r3, wpI_r4, wpI_r5, wpI_r6, wpS_r1, wpS_r2, wpS_r3, wpS_r4, wpS_r5, wpS_w, wpS_r7, wpS_r8, wpS_r9, wpS_r10, wpSs_n, wpSs_c, wpTs_r2, setAll_r1, setAll_r2, List.set_cons_succ, List.set_cons_zero, List.getElem?_cons_zero, List.getElem?_cons_succ, s_eq, s_ne, s_lt, s_le, s_gt, s_ge, s_is1, s_is2, s_isn1, s_isn2, s_neb, s_add, s_sub, s_mul, s_fdiv, s_mod, s_pow, s_lsh, s_rsh, s_and, s_or, s_xor, s_addL, s_mulL, s_backN, s_mkT, s_mkF, s_getL, s_getT, s_tg1, s_tg2, s_len, s_min, s_abs, s_int, s_intb]
      rw [← Int.natCast_mul, fmod_nat]
      have hpp : 0 < p * p := Nat.mul_pos (by omega) (by omega)
      have hpp2 : p * p < 2 ^ 10 * 2 ^ 10 := Nat.mul_lt_mul'' hpb hpb
      refine ⟨.inl (by rw [Int.natAbs_natCast]; omega), by omega, ?_⟩
      by_cases hk2 : k < 2
      · have hne := sq_mod hp hM hk2
        rw [show (((p ^ k * (F * pr ps es') % (p * p) : Nat) : Int) == 0) = false by
          rw [beq_eq_false_iff_ne]; intro h'; exact hne (by exact_mod_cast h')]
        dsimp only
        refine hn _ _ ⟨rfl, p ^ k * F, R * p ^ j, ps, es', _, rfl, by simpa using hlen, hcps, fun r hr => ?_, ?_, ?_, by rw [Nat.mul_assoc]⟩
        · exact ((hpc r hr).symm.pow_right k).mul_right (hF r (.tail _ hr))
        · rw [← h1]
          show _ = F * pr (p :: ps) ((ex % 2) :: es'.map (· % 2))
          rw [mod_of hk hk2, pr, Nat.mul_comm (p ^ k), Nat.mul_assoc]
        · rw [← h2]
          show _ = R * pr (p :: ps) ((ex / 2) :: es'.map (· / 2))
          rw [div_of hk hk2, pr, Nat.mul_assoc]
      · obtain ⟨k, rfl⟩ : ∃ k', k = k' + 2 := ⟨k - 2, (Nat.sub_add_cancel (Nat.le_of_not_lt hk2)).symm⟩
        rw [sq_pow, Nat.mul_mod_right]
        rw [show ((((0 : Nat) : Int)) == 0) = true by decide]
        dsimp only
        refine ⟨.inl (by rw [Int.natAbs_natCast]; omega), by omega, by rw [Int.natAbs_natCast]; omega, .inr (by rw [Int.natAbs_natCast]; omega), by simp, rfl, ?_⟩
        rw [fdiv_nat, Nat.mul_div_cancel_left _ hpp]
        refine hn' k _ _ (by omega) ⟨rfl, j + 1, by omega, ?_⟩
        rw [show R * p ^ (j + 1) = R * p ^ j * p by rw [Nat.pow_succ, Nat.mul_assoc], Int.natCast_mul (R * p ^ j) p]
  · rintro fr st' ⟨rfl, F, R, ps, es', o, e, hlen, hcp, hF, h1, h2, rfl⟩
    cases ps with
    | nil =>
      simp only [wpE_r1, wpE_r2, wpE_r3, wpE_r4, wpE_r5, wpE_r6, wpE_r7, wpE_r8, wpE_r9, wpE_r10, wpE_r11, wpE_r12, wpE_r13, wpE_r14, wpE_r15, wpE_r16, wpE_r17, wpE_r18, wpE_r19, wpT_r1, wpT_r2, wpT_r3, wpT_r4, wpT_r5, wpTs_r1, wpEo_r1, wpEo_r2, wpEs_r1, wpEs_r2, wpI_r1, wpI_r2, wpI_r3, wpI_r4, wpI_r5, wpI_r6, wpS_r1, wpS_r2, wpS_r3, wpS_r4, wpS_r5, wpS_w, wpS_r7, wpS_r8, wpS_r9, wpS_r10, wpSs_n, wpSs_c, wpTs_r2, setAll_r1, setAll_r2, List.set_cons_succ, List.set_cons_zero, List.getElem?_cons_zero, List.getElem?_cons_succ, s_eq, s_ne, s_lt, s_le, s_gt, s_ge, s_is1, s_is2, s_isn1, s_isn2, s_neb, s_add, s_sub, s_mul, s_fdiv, s_mod, s_pow, s_lsh, s_rsh, s_and, s_or, s_xor, s_addL, s_mulL, s_backN, s_mkT, s_mkF, s_getL, s_getT, s_tg1, s_tg2, s_len, s_min, s_abs, s_int, s_intb]
      have e1 : F = pr P6 (es.map (· % 2)) := by rw [← h1]; simp [pr]
      have e2 : R = pr P6 (es.map (· / 2)) := by rw [← h2]; simp [pr]
      refine ⟨by simp, pure_tup2 rfl rfl, ?_⟩
      rw [List.take_length]
      simp only [pr, Nat.mul_one, e2]
      rw [e1]; exact q
    | cons y l' => simp [nL] at e

theorem c_exponents (T : Txs P) {w y : Nat} {ps es : List Nat} (hw : 1 ≤ w) (hw2 : w ≤ 20) (hps : Cps ps) (hpl : ps.length < 2 ^ 10) (hlen : ps.length = es.length) (hy : 0 < y) (hcy : ∀ p ∈ ps, Nat.Coprime p y)
    (hx : (lb (2 ^ w) (pr ps es * y)).length ≤ 2 ^ 18) :
    Gives P 3 17 [.list (nL (lb (2 ^ w) (pr ps es * y))), .list (nL ps), .int (w : Int)] (if y = 1 then .list (nL es) else .none) := by
  intro n st Q q
  refine ctr T T.t17 rfl ?_
  have hB := two_le_pow hw
  have hBu : 2 ^ w ≤ 2 ^ 20 := Nat.pow_le_pow_right (by decide) hw2
  show wpSs (CallOK P (n + 2)) m_exponents [some (.list (nL (lb (2 ^ w) (pr ps es * y)))), some (.list (nL ps)), some (.int w), none, none, none, none, none] st _
  simp only [m_exponents, wpE_r1, wpE_r2, wpE_r3, wpE_r4, wpE_r5, wpE_r6, wpE_r7, wpE_r8, wpE_r9, wpE_r10, wpE_r11, wpE_r12, wpE_r13, wpE_r14, wpE_r15, wpE_r16, wpE_r17, wpE_r18, wpE_r19, wpT_r1, wpT_r2, wpT_r3, wpT_r4, wpT_r5, wpTs_r1, wpEo_r1, wpEo_r2, wpEs_r1, wpEs_r2, wpI_r1, wpI_r2, wpI_r3, wpI_r4, wpI_r5, wpI_r6, wpS_r1, wpS_r2, wpS_r3, wpS_r4, wpS_r5, wpS_w, wpS_r7, wpS_r8, wpS_r9, wpS_r10, wpSs_n, wpSs_c, wpTs_r2, setAll_r1, setAll_r2, List.set_cons_succ, List.set_cons_zero, List.getElem?_cons_zero, List.getElem?_cons_succ, s_eq, s_ne, s_lt, s_le, s_gt, s_ge, s_is1, s_is2, s_isn1, s_isn2, s_neb, s_add, s_sub, s_mul, s_fdiv, s_mod, s_pow, s_lsh, s_rsh, s_and, s_or, s_xor, s_addL, s_mulL, s_backN, s_mkT, s_mkF, s_getL, s_getT, s_tg1, s_tg2, s_len, s_min, s_abs, s_int, s_intb]
  have hle : ∀ z, z ≤ pr ps es * y → (lb (2 ^ w) z).length ≤ 2 ^ 20 := fun z hz => Nat.le_trans (lb_len_mono hB hz) (by omega)
  refine ⟨by simp, rfl, ?_⟩
  refine forL_inv (fun rest fr st' => ∃ (ps' es' dn : List Nat) (o4 o5 o6 o7 : Option Dv), rest = nL ps' ∧ ps'.length = es'.length ∧ Cps ps' ∧ (∀ p ∈ ps', Nat.Coprime p y) ∧ dn ++ es' = es ∧ pr ps' es' * y ≤ pr ps es * y ∧
      st' = st ++ [some (.list (nL dn))] ∧ fr = [some (.list (nL (lb (2 ^ w) (pr ps' es' * y)))), some (.list (nL ps)), some (.int w), some (.ref st.length), o4, o5, o6, o7]) ?_ ?_ _ _ _
    ⟨ps, es, [], none, none, none, none, rfl, hlen, hps, hcy, rfl, Nat.le_refl _, rfl, rfl⟩
  · rintro x rest fr st' K ⟨ps', es', dn, o4, o5, o6, o7, e, hl, hcp, hc, hdn, hbd, rfl, rfl⟩ hn hs
    cases ps' with
    | nil => simp [nL] at e
    | cons p ps' =>
      cases es' with
      | nil => simp at hl
      | cons ex es' =>
      simp only [nL, List.map_cons, List.cons.injEq] at e
      obtain ⟨rfl, rfl⟩ := e
      obtain ⟨hp, hpb, hpc, hcps⟩ := hcp
      have hM : Nat.Coprime p (pr ps' es' * y) := (cop_pr hpc).mul_right (hc p (.head _))
      have hval : pr (p :: ps') (ex :: es') * y = p ^ ex * (pr ps' es' * y) := by rw [pr, Nat.mul_assoc]
      rw [hval] at hbd ⊢
      have hMle : ∀ k, k ≤ ex → p ^ k * (pr ps' es' * y) ≤ pr ps es * y := fun k hk => Nat.le_trans (Nat.mul_le_mul_right _ (Nat.pow_le_pow_right (by omega) hk)) hbd
      generalize hMM : pr ps' es' * y = M at *
      simp only [wpE_r1, wpE_r2, wpE_r3, wpE_r4, wpE_r5, wpE_r6, wpE_r7, wpE_r8, wpE_r9, wpE_r10, wpE_r11, wpE_r12, wpE_r13, wpE_r14, wpE_r15, wpE_r16, wpE_r17, wpE_r18, wpE_r19, wpT_r1, wpT_r2, wpT_r3, wpT_r4, wpT_r5, wpTs_r1, wpEo_r1, wpEo_r2, wpEs_r1, wpEs_r2, wpI_r1, wpI_r2, wpI_r3, wpI_r4, wpI_r5, wpI_r6, wpS_r1, wpS_r2, wpS_r3, wpS_r4, wpS_r5, wpS_w, wpS_r7, wpS_r8, wpS_r9, wpS_r10, wpSs_n, wpSs_c, wpTs_r2, setAll_r1, setAll_r2, List.set_cons_succ, List.set_cons_zero, List.getElem?_cons_zero, List.getElem?_cons_succ, s_eq, s_ne, s_lt, s_le, s_gt, s_ge, s_is1, s_is2, s_isn1, s_isn2, s_neb, s_add, s_sub, s_mul, s_fdiv, s_mod, s_pow, s_lsh, s_rsh, s_and, s_or, s_xor, s_addL, s_mulL, s_backN, s_mkT, s_mkF, s_getL, s_getT, s_tg1, s_tg2, s_len, s_min, s_abs, s_int, s_intb]
      refine (c_divrem_limb T hw (by omega) (by omega) (by omega) (hle _ (hMle ex (Nat.le_refl _))) hBu).up (by decide) ?_
      refine ⟨rfl, ?_⟩
      simp only [wpE_r1, wpE_r2, wpE_r3, wpE_r4, wpE_r5, wpE_r6, wpE_r7, wpE_r8, wpE_r9, wpE_r10, wpE_r11, wpE_r12, wpE_r13, wpE_r14, wpE_r15, wpE_r16, wpE_r17, wpE_r18, wpE_r19, wpT_r1, wpT_r2, wpT_r3, wpT_r4, wpT_r5, wpTs_r1, wpEo_r1, wpEo_r2, wpEs_r1, wpEs_r2, wpI_r1, wpI_r2, wpI_r3, wpI_r4, wpI_r5, wpI_r6, wpS_r1, wpS_r2, wpS_r3, wpS_r4, wpS_r5, wpS_w, wpS_r7, wpS_r8, wpS_r9, wpS_r10, wpSs_n, wpSs_c, wpTs_r2, setAll_r1, setAll_r2, List.set_cons_succ, List.set_cons_zero, List.getElem?_cons_zero, List.getElem?_cons_succ, s_eq, s_ne, s_lt, s_le, s_gt, s_ge, s_is1, s_is2, s_isn1, s_isn2, s_neb, s_add, s_sub, s_mul, s_fdiv, s_mod, s_pow, s_lsh, s_rsh, s_and, s_or, s_xor, s_addL, s_mulL, s_backN, s_mkT, s_mkF, s_getL, s_getT, s_tg1, s_tg2, s_len, s_min, s_abs, s_int, s_intb]
      refine ⟨ex + 1, whL_inv (fun k fr st'' => st'' = st ++ [some (.list (nL dn))] ∧ ∃ j, j + k = ex ∧ fr = [some (.list (nL (lb (2 ^ w) (p ^ k * M)))), some (.list (nL ps)), some (.int w), some (.ref st.length), some (.int (p : Int)), some (.int (j : Int)), some (.list (nL (lb (2 ^ w) (p ^ k * M / p)))), some (.int ((p ^ k * M % p : Nat) : Int))]) ?_ _ ex _ _ (Nat.lt_succ_self _) ⟨rfl, 0, by omega, rfl⟩⟩
      rintro k fr st'' R' ⟨rfl, j, hk, rfl⟩ hn' hs'
      simp only [wpE_r1, wpE_r2, wpE_r3, wpE_r4, wpE_r5, wpE_r6, wpE_r7, wpE_r8, wpE_r9, wpE_r10, wpE_r11, wpE_r12, wpE_r13, wpE_r14, wpE_r15, wpE_r16, wpE_r17, wpE_r18, wpE_r19, wpT_r1, wpT_r2, wpT_r3, wpT_r4, wpT_r5, wpTs_r1, wpEo_r1, wpEo_r2, wpEs_r1, wpEs_r2, wpI_r1, wpI_r2, wpI_r3, wpI_r4, wpI_r5, wpI_r6, wpS_r1, wpS_r2, wpS_r3, wpS_r4, wpS_r5, wpS_w, wpS_r7, wpS_r8, wpS_r9, wpS_r10, wpSs_n, wpSs_c, wpTs_r2, setAll_r1, setAll_r2, List.set_cons_succ, List.set_cons_zero, List.getElem?_cons_zero, List.getElem?_cons_succ, s_eq, s_ne, s_lt, s_le, s_gt, s_ge, s_is1, s_is2, s_isn1, s_isn2, s_neb, s_add, s_sub, s_mul, s_fdiv, s_mod, s_pow, s_lsh, s_rsh, s_and, s_or, s_xor, s_addL, s_mulL, s_backN, s_mkT, s_mkF, s_getL, s_getT, s_tg1, s_tg2, s_len, s_min, s_abs, s_int, s_intb]
      cases k with
      | zero =>
        rw [Nat.pow_zero, Nat.one_mul]
        have hne := cop_mod hp hM
        rw [show (((M % p : Nat) : Int) == 0) = false by rw [beq_eq_false_iff_ne]; intro h'; exact hne (by exact_mod_cast h')]
        dsimp only
        refine ⟨⟨_, _, rfl, stA _⟩, ?_⟩
        simp only [appOk, stA, setA]
        have hdnl : dn.length ≤ es.length := by rw [← hdn]; simp
        refine ⟨by rw [nL_length]; omega, rfl, ?_⟩
        refine hn _ _ ⟨ps', es', dn ++ [ex], _, _, _, _, rfl, by simpa using hl, hcps, fun r hr => hc r (.tail _ hr), by rw [List.append_assoc]; exact hdn, by have := hMle 0 (Nat.zero_le _); simpa [hMM] using this, ?_, by rw [hMM]⟩
        rw [show j = ex by omega]; simp [nL]
      | succ k =>
        have e1 : p ^ (k + 1) * M = p * (p ^ k * M) := one_pow' _ _ _
        rw [e1, Nat.mul_mod_right, Nat.mul_div_cancel_left _ (by omega)]
        rw [show ((((0 : Nat) : Int)) == 0) = true by decide]
        dsimp only
        refine ⟨by simp, rfl, ?_⟩
        refine (c_divrem_limb T hw (by omega) (by omega) (by omega) (hle _ (hMle k (by omega))) hBu).up (by decide) ?_
        refine ⟨rfl, ?_⟩
        simp only [wpE_r1, wpE_r2, wpE_r3, wpE_r4, wpE_r5, wpE_r6, wpE_r7, wpE_r8, wpE_r9, wpE_r10, wpE_r11, wpE_r12, wpE_r13, wpE_r14, wpE_r15, wpE_r16, wpE_r17, wpE_r18, wpE_r19, wpT_r1, wpT_r2, wpT_r3, wpT_r4, wpT_r5, wpTs_r1, wpEo_r1, wpEo_r2, wpEs_r1, wpEs_r2, wpI_r1, wpI_r2, wpI_r3, wpI_r4, wpI_r5, wpI_r6, wpS_r1, wpS_r2, wpS_r3, wpS_r4, wpS_r5, wpS_w, wpS_r7, wpS_r8, wpS_r9, wpS_r10, wpSs_n, wpSs_c, wpTs_r2, setAll_r1, setAll_r2, List.set_cons_succ, List.set_cons_zero, List.getElem?_cons_zero, List.getElem?_cons_succ, s_eq, s_ne, s_lt, s_le, s_gt, s_ge, s_is1, s_is2, s_isn1, s_isn2, s_neb, s_add, s_sub, s_mul, s_fdiv, s_mod, s_pow, s_lsh, s_rsh, s_and, s_or, s_xor, s_addL, s_mulL, s_backN, s_mkT, s_mkF, s_getL, s_getT, s_tg1, s_tg2, s_len, s_min, s_abs, s_int, s_intb]
        exact hn' k _ _ (by omega) ⟨rfl, j + 1, by omega, by simp⟩
  · rintro fr st' ⟨ps', es', dn, o4, o5, o6, o7, e, hl, hcp, hc, hdn, hbd, rfl, rfl⟩
    cases ps' with
    | nil =>
      cases es' with
      | cons => simp at hl
      | nil =>
      simp only [wpE_r1, wpE_r2, wpE_r3, wpE_r4, wpE_r5, wpE_r6, wpE_r7, wpE_r8, wpE_r9, wpE_r10, wpE_r11, wpE_r12, wpE_r13, wpE_r14, wpE_r15, wpE_r16, wpE_r17, wpE_r18, wpE_r19, wpT_r1, wpT_r2, wpT_r3, wpT_r4, wpT_r5, wpTs_r1, wpEo_r1, wpEo_r2, wpEs_r1, wpEs_r2, wpI_r1, wpI_r2, wpI_r3, wpI_r4, wpI_r5, wpI_r6, wpS_r1, wpS_r2, wpS_r3, wpS_r4, wpS_r5, wpS_w, wpS_r7, wpS_r8, wpS_r9, wpS_r10, wpSs_n, wpSs_c, wpTs_r2, setAll_r1, setAll_r2, List.set_cons_succ, List.set_cons_zero, List.getElem?_cons_zero, List.getElem?_cons_succ, s_eq, s_ne, s_lt, s_le, s_gt, s_ge, s_is1, s_is2, s_isn1, s_isn2, s_neb, s_add, s_sub, s_mul, s_fdiv, s_mod, s_pow, s_lsh, s_rsh, s_and, s_or, s_xor, s_addL, s_mulL, s_backN, s_mkT, s_mkF, s_getL, s_getT, s_tg1, s_tg2, s_len, s_min, s_abs, s_int, s_intb]
      have hpr : pr [] [] * y = y := by simp [pr]
      rw [hpr] at hbd ⊢
      rw [List.append_nil] at hdn
      subst hdn
      refine ⟨by simp, ?_⟩
      have h1 : (Dv.list [.int 1]) = .list (nL (lb (2 ^ w) 1)) := by rw [lb_small hB (by decide) (by omega)]; rfl
      rw [h1]
      refine (c_compare T hB (hle _ hbd) (hle _ (by have := pr_pos (ps := ps) (es := dn) hps; exact Nat.mul_pos this hy))).up (by decide) ?_
      rw [s_eq]
      by_cases h : y = 1
      · rw [if_pos h] at q
        rw [show (cmpI y 1 == 0) = true by rw [h]; decide]
        simp only [fin, stA]
        refine ⟨Nat.le_refl _, ?_⟩
        rw [takeA]; exact q
      · rw [if_neg h] at q
        rw [show (cmpI y 1 == 0) = false by
          unfold cmpI; rw [if_neg (by omega), if_pos (by omega)]; decide]
        refine ⟨rfl, ?_⟩
        rw [takeA]; exact q
    | cons y l' => simp [nL] at e
end
end Mine
end

section
open PySem PySem.W PyProof.Rows PySem.Spec PySem.SeqAt PySem.Calls
set_option Elab.async false
set_option maxRecDepth 100000
set_option maxHeartbeats 1000000
set_option autoImplicit false
set_option linter.all false
namespace Mine

theorem pr_split : ∀ (ps es : List Nat) (k : Nat), ps.length = es.length → pr ps es = pr (ps.take k) (es.take k) * pr (ps.drop k) (es.drop k)
  | [], [], k, _ => by simp [pr]
  | p :: ps, e :: es, 0, _ => by simp [pr]
  | p :: ps, e :: es, k + 1, h => by
    simp only [List.take_succ_cons, List.drop_succ_cons, pr]
    rw [Nat.mul_assoc, ← pr_split ps es k (by simpa using h)]
  | [], _ :: _, _, h => by simp at h
  | _ :: _, [], _, h => by simp at h
theorem pr_dvd : ∀ {ps es : List Nat}, pr ps es ≠ 1 → ∃ p ∈ ps, p ∣ pr ps es
  | [], _, h => absurd (by simp [pr]) h
  | p :: ps, [], h => absurd (by simp [pr]) h
  | p :: ps, e :: es, h => by
    simp only [pr] at h ⊢
    cases e with
    | zero =>
      rw [Nat.pow_zero, Nat.one_mul] at h
      obtain ⟨q, hq, hd⟩ := pr_dvd h
      exact ⟨q, .tail _ hq, Nat.dvd_trans hd (Nat.dvd_mul_left _ _)⟩
    | succ e => exact ⟨p, .head _, Nat.dvd_trans (Nat.dvd_mul_left p (p ^ e)) (by rw [← Nat.pow_succ]; exact Nat.dvd_mul_right _ _)⟩
theorem P6_cut : ∀ k, k < 7 → ∀ p ∈ P6.drop k, 2 ≤ p ∧ ∀ q ∈ P6.take k, Nat.Coprime p q := by decide
theorem P6_small : ∀ p ∈ P6, 2 ≤ p ∧ p ≤ 13 := by decide

/-- what exponents answers -/
noncomputable def restOf (size : Nat) (es : List Nat) : Nat := pr (P6.drop size) (es.drop size)
theorem rest_iff {size : Nat} {es : List Nat} (hs : size ≤ 6) (he : es.length = 6) : (∀ p ∈ P6.drop size, pr P6 es % p ≠ 0) ↔ restOf size es = 1 := by
  have hsp := pr_split P6 es size (by rw [he]; rfl)
  constructor
  · intro h
    refine Decidable.byContradiction fun hne => ?_
    obtain ⟨p, hp, hd⟩ := pr_dvd hne
    refine h p hp ?_
    rw [hsp]
    exact Nat.mod_eq_zero_of_dvd (Nat.dvd_trans hd (Nat.dvd_mul_left _ _))
  · intro h p hp
    have h' : pr (P6.drop size) (es.drop size) = 1 := h
    rw [hsp, h', Nat.mul_one]
    obtain ⟨h2, h3⟩ := P6_cut size (by omega) p hp
    exact cop_mod h2 (cop_pr h3)

theorem compL_map {ι : Type} {turn : Dv → St → (Option Dv → St → Prop) → Prop} {Q : List Dv → St → Prop} (f : ι → Dv) (g : ι → Option Dv) (st : St) :
    ∀ (l : List ι) (acc : List Dv), (∀ x ∈ l, ∀ K : Option Dv → St → Prop, K (g x) st → turn (f x) st K) → Q (acc ++ l.filterMap g) st → compL turn (l.map f) acc st Q
  | [], acc, _, q => by
    rw [List.map_nil, compL]; simpa using q
  | x :: l, acc, h, q => by
    rw [List.map_cons, compL]
    refine h x (.head _) _ (compL_map f g st l _ (fun y hy => h y (.tail _ hy)) ?_)
    rw [List.filterMap_cons] at q
    cases e : g x with
    | none => rw [e] at q; exact q
    | some d => rw [e] at q; rw [List.append_assoc]; exact q

theorem enum_nL (l : List Nat) : (nL l).zipIdx.map (fun p => Dv.tup [.int p.2, p.1]) = (List.range l.length).map fun i : Nat => Dv.tup [.int (i : Int), .int ((l.getD i 0 : Nat) : Int)] := by
  apply List.ext_getElem
  · simp [nL]
  · intro i h1 h2
    simp [nL] at h1 ⊢
    rw [List.getElem?_eq_getElem h1]; rfl
theorem filterMap_some {ι : Type} (g : ι → Nat) (l : List ι) : l.filterMap (fun i => some (Dv.int (g i : Int))) = nL (l.map g) := by
  unfold nL; rw [List.map_map]; exact congrFun List.filterMap_eq_map _
theorem prodL_pow : ∀ (ps es : List Nat), ps.length = es.length → prodL ((List.range es.length).map fun i => ps.getD i 1 ^ es.getD i 0) = pr ps es
  | [], [], _ => rfl
  | p :: ps, e :: es, h => by
    rw [List.length_cons, List.range_succ_eq_map, List.map_cons, List.map_map, prodL, pr]
    congr 1
    exact prodL_pow ps es (by simpa using h)
  | [], _ :: _, h => by simp at h
  | _ :: _, [], h => by simp at h

section
variable {P : PG} {n : Nat} {st : St}

theorem c_law_are_told (T : Txs P) {es : List Nat} {size : Nat} (hes : es.length = 6) (hsm : ∀ e ∈ es, e < 8) (hsz : size ≤ 6) :
    Gives P 2 24 [.int (pr P6 es : Int), if restOf size es = 1 then .list (nL (es.take size)) else .none, .int (size : Int)] (.bool true) := by
  intro n st Q q
  refine ctr T T.t24 rfl ?_
  show wpSs (CallOK P (n + 1)) m_law_are_told [some (.int (pr P6 es : Int)), some (if restOf size es = 1 then .list (nL (es.take size)) else .none), some (.int (size : Int)), none, none, none, none] st _
  simp only [m_law_are_told, wpE_r1, wpE_r2, wpE_r3, wpE_r4, wpE_r5, wpE_r6, wpE_r7, wpE_r8, wpE_r9, wpE_r10, wpE_r11, wpE_r12, wpE_r13, wpE_r14, wpE_r15, wpE_r16, wpE_r17, wpE_r18, wpE_r19, wpT_r1, wpT_r2, wpT_r3, wpT_r4, wpT_r5, wpTs_r1, wpEo_r1, wpEo_r2, wpEs_r1, wpEs_r2, wpI_r1, wpI_r2, wpI_r3, wpI_r4, wpI_r5, wpI_r6, wpS_r1, wpS_r2, wpS_r3, wpS_r4, wpS_r5, wpS_w, wpS_r7, wpS_r8, wpS_r9, wpS_r10, wpSs_n, wpSs_c, wpTs_r2, setAll_r1, setAll_r2, List.set_cons_succ, List.set_cons_zero, List.getElem?_cons_zero, List.getElem?_cons_succ, s_eq, s_ne, s_lt, s_le, s_gt, s_ge, s_is1, s_is2, s_isn1, s_isn2, s_neb, s_add, s_sub, s_mul, s_fdiv, s_mod, s_pow, s_lsh, s_rsh, s_and, s_or, s_xor, s_addL, s_mulL, s_backN, s_mkT, s_mkF, s_getL, s_getT, s_tg1, s_tg2, s_len, s_min, s_abs, s_int, s_intb]
  have hP6 : ([.int 2, .int 3, .int 5, .int 7, .int 11, .int 13] : List Dv) = nL P6 := rfl
  rw [hP6]
  refine ⟨by simp [nL, P6], rfl, nL P6, nL (P6.drop size), rfl, ?_, by decide, by rw [nL_length]; simp [P6]; omega, ?_⟩
  · simp only [sl_to, sl_from, sl_rev, sl_two]
    rw [if_pos (by omega), Int.toNat_natCast]; unfold nL; rw [List.map_drop]
  refine compL_map (fun p : Nat => Dv.int (p : Int)) (fun p => if pr P6 es % p = 0 then some (.int (p : Int)) else none) st _ _ (fun p hp K hK => ?_) ?_
  · have hp2 := (P6_cut size (by omega) p hp).1
    simp only [wpE_r1, wpE_r2, wpE_r3, wpE_r4, wpE_r5, wpE_r6, wpE_r7, wpE_r8, wpE_r9, wpE_r10, wpE_r11, wpE_r12, wpE_r13, wpE_r14, wpE_r15, wpE_r16, wpE_r17, wpE_r18, wpE_r19, wpT_r1, wpT_r2, wpT_r3, wpT_r4, wpT_r5, wpTs_r1, wpEo_r1, wpEo_r2, wpEs_r1, wpEs_r2, wpI_r1, wpI_r2, wpI_r3, wpI_r4, wpI_r5, wpI_r6, wpS_r1, wpS_r2, wpS_r3, wpS_r4, wpS_r5, wpS_w, wpS_r7, wpS_r8, wpS_r9, wpS_r10, wpSs_n, wpSs_c, wpTs_r2, setAll_r1, setAll_r2, List.set_cons_succ, List.set_cons_zero, List.getElem?_cons_zero, List.getElem?_cons_succ, s_eq, s_ne, s_lt, s_le, s_gt, s_ge, s_is1, s_is2, s_isn1, s_isn2, s_neb, s_add, s_sub, s_mul, s_fdiv, s_mod, s_pow, s_lsh, s_rsh, s_and, s_or, s_xor, s_addL, s_mulL, s_backN, s_mkT, s_mkF, s_getL, s_getT, s_tg1, s_tg2, s_len, s_min, s_abs, s_int, s_intb]
    refine ⟨by omega, ?_⟩
    rw [fmod_nat]
    by_cases h : pr P6 es % p = 0
    · rw [if_pos h] at hK
      rw [h, show ((((0 : Nat) : Int)) == 0) = true by decide]
      exact hK
    · rw [if_neg h] at hK
      rw [show (((pr P6 es % p : Nat) : Int) == 0) = false by rw [beq_eq_false_iff_ne]; intro h'; exact h (by exact_mod_cast h')]
      exact hK
  have hfm : (P6.drop size).filterMap (fun p => if pr P6 es % p = 0 then some (Dv.int (p : Int)) else none) = iL (((P6.drop size).filter fun p => decide (pr P6 es % p = 0)).map fun p : Nat => (p : Int)) := by
    generalize P6.drop size = R
    induction R with
    | nil => rfl
    | cons a R ih =>
      rw [List.filterMap_cons, List.filter_cons]
      by_cases h : pr P6 es % a = 0
      · simp only [h, if_true, decide_true]; rw [ih]; rfl
      · simp only [h, if_false, decide_false]; rw [ih]; rfl
  rw [hfm, List.nil_append]
  try simp only [back]
  refine ⟨by simp, .inl ⟨_, [], rfl, rfl, ?_⟩⟩
  have hrest := rest_iff hsz hes
  by_cases hy : restOf size es = 1
  · rw [if_pos hy]
    have hnil : ((P6.drop size).filter fun p => decide (pr P6 es % p = 0)) = [] := by
      rw [List.filter_eq_nil_iff]
      intro p hp
      simpa using hrest.mpr hy p hp
    rw [hnil]
    have : (!decide (([] : List Nat).map (fun p : Nat => (p : Int)) = [])) = false := by decide
    rw [this]
    dsimp only
    have htl : (es.take size).length = size := by rw [List.length_take, hes]; omega
    rw [s_is2]
    dsimp only
    rw [s_len, nL_length, htl]
    refine ⟨by unfold big; omega, ?_⟩
    rw [s_ne, show ((size : Int) != (size : Int)) = false by simp]
    dsimp only
    refine ⟨⟨rfl, rfl⟩, by unfold big; omega, ?_⟩
    rw [enum_nL, htl]
    refine ⟨by simp; omega, ?_⟩
    refine compL_map (fun i : Nat => Dv.tup [.int (i : Int), .int (((es.take size).getD i 0 : Nat) : Int)]) (fun i => some (.int (((P6.take size).getD i 1 ^ (es.take size).getD i 0 : Nat) : Int))) st _ _ (fun i hi K hK => ?_) ?_
    · have hi' := List.mem_range.mp hi
      simp only [wpE_r1, wpE_r2, wpE_r3, wpE_r4, wpE_r5, wpE_r6, wpE_r7, wpE_r8, wpE_r9, wpE_r10, wpE_r11, wpE_r12, wpE_r13, wpE_r14, wpE_r15, wpE_r16, wpE_r17, wpE_r18, wpE_r19, wpT_r1, wpT_r2, wpT_r3, wpT_r4, wpT_r5, wpTs_r1, wpEo_r1, wpEo_r2, wpEs_r1, wpEs_r2, wpI_r1, wpI_r2, wpI_r3, wpI_r4, wpI_r5, wpI_r6, wpS_r1, wpS_r2, wpS_r3, wpS_r4, wpS_r5, wpS_w, wpS_r7, wpS_r8, wpS_r9, wpS_r10, wpSs_n, wpSs_c, wpTs_r2, setAll_r1, setAll_r2, List.set_cons_succ, List.set_cons_zero, List.getElem?_cons_zero, List.getElem?_cons_succ, s_eq, s_ne, s_lt, s_le, s_gt, s_ge, s_is1, s_is2, s_isn1, s_isn2, s_neb, s_add, s_sub, s_mul, s_fdiv, s_mod, s_pow, s_lsh, s_rsh, s_and, s_or, s_xor, s_addL, s_mulL, s_backN, s_mkT, s_mkF, s_getL, s_getT, s_tg1, s_tg2, s_len, s_min, s_abs, s_int, s_intb]
      have hget : P6[i]? = some ((P6.take size).getD i 1) := by
        rw [List.getD_eq_getElem?_getD, List.getElem?_take_of_lt hi']
        have : i < P6.length := by show i < 6; omega
        rw [List.getElem?_eq_getElem this]; rfl
      have hb := P6_small _ (List.mem_of_getElem? hget)
      have he : (es.take size).getD i 0 < 8 := by
        have : i < (es.take size).length := by omega
        rw [List.getD_eq_getElem?_getD, List.getElem?_eq_getElem this]
        exact hsm _ (List.mem_of_mem_take (List.getElem_mem this))
      refine nth_nL hget (by unfold big; decide) ?_
      rw [s_pow]
      refine ⟨by omega, by omega, by rw [Int.natAbs_natCast]; omega, ?_⟩
      rw [Int.toNat_natCast, powI2]; exact hK
    rw [filterMap_some, List.nil_append]
    try dsimp only
    refine (c_law_whole T ?_).up (by decide) ?_
    · intro x hx
      obtain ⟨i, hi, rfl⟩ := List.mem_map.mp hx
      have hi' := List.mem_range.mp hi
      have hget : P6[i]? = some ((P6.take size).getD i 1) := by
        rw [List.getD_eq_getElem?_getD, List.getElem?_take_of_lt hi']
        have : i < P6.length := by show i < 6; omega
        rw [List.getElem?_eq_getElem this]; rfl
      have hb := P6_small _ (List.mem_of_getElem? hget)
      have he : (es.take size).getD i 0 < 8 := by
        have : i < (es.take size).length := by omega
        rw [List.getD_eq_getElem?_getD, List.getElem?_eq_getElem this]
        exact hsm _ (List.mem_of_mem_take (List.getElem_mem this))
      calc _ ≤ 13 ^ (es.take size).getD i 0 := Nat.pow_le_pow_left hb.2 _
        _ ≤ 13 ^ 8 := Nat.pow_le_pow_right (by decide) (by omega)
        _ < 2 ^ 64 := by decide
    have hpr := prodL_pow (P6.take size) (es.take size) (by rw [htl, List.length_take]; show min size 6 = size; omega)
    rw [htl] at hpr
    have hwhole : pr P6 es = pr (P6.take size) (es.take size) := by
      rw [pr_split P6 es size (by rw [hes]; rfl)]
      have : pr (P6.drop size) (es.drop size) = 1 := hy
      rw [this, Nat.mul_one]
    rw [hpr, hwhole, s_eq, show ((pr (P6.take size) (es.take size) : Int) == (pr (P6.take size) (es.take size) : Int)) = true by simp]
    refine ⟨rfl, ?_⟩
    rw [List.take_length]; exact q
  · rw [if_neg hy]
    have hne : ((P6.drop size).filter fun p => decide (pr P6 es % p = 0)).map (fun p : Nat => (p : Int)) ≠ [] := by
      intro h
      refine hy (hrest.mp fun p hp h0 => ?_)
      rw [List.map_eq_nil_iff, List.filter_eq_nil_iff] at h
      exact h p hp (by simpa using h0)
    rw [decide_eq_false hne]
    dsimp only [Bool.not_false]
    rw [s_is1]
    refine ⟨rfl, ?_⟩
    rw [List.take_length]; exact q
end
end Mine
end

section
open PySem PySem.W PyProof.Rows PySem.Spec PySem.SeqAt PySem.Calls
set_option Elab.async false
set_option maxRecDepth 100000
set_option maxHeartbeats 1000000
set_option autoImplicit false
set_option linter.all false
namespace Mine

noncomputable def leftOf (v : Nat) : List Nat → Nat
  | [] => v
  | s :: ss => leftOf (if v ≠ 0 ∧ s.log2 = v.log2 then v ^^^ s else v) ss

theorem lotL_succ (m s : Nat) : lotL (m + 1) s = lotL m s ++ if s.testBit m then [(m : Int)] else [] := by
  unfold lotL
  rw [List.range_succ, List.filter_append, List.map_append]
  congr 1
  cases h : s.testBit m <;> simp [List.filter, h]
theorem lotL_ge {s m : Nat} (h : s < 2 ^ m) : ∀ k, lotL (m + k) s = lotL m s
  | 0 => rfl
  | k + 1 => by
    rw [← Nat.add_assoc, lotL_succ, lotL_ge h k, Nat.testBit_lt_two_pow (Nat.lt_of_lt_of_le h (Nat.pow_le_pow_right (by decide) (by omega)))]
    simp
theorem lotL_any {s m m' : Nat} (h : s < 2 ^ m) (h' : s < 2 ^ m') : lotL m s = lotL m' s := by
  rcases Nat.le_total m m' with e | e
  · rw [← lotL_ge h (m' - m)]; congr 1; omega
  · rw [← lotL_ge h' (m - m')]; congr 1; omega
theorem log2_lt' {s m : Nat} (h0 : s ≠ 0) (h : s < 2 ^ m) : s.log2 < m := (Nat.log2_lt h0).mpr h
theorem lotL_last {s m : Nat} (h0 : s ≠ 0) (h : s < 2 ^ m) : lotL m s = lotL s.log2 s ++ [(s.log2 : Int)] := by
  rw [lotL_any h (Nat.lt_log2_self (n := s)), lotL_succ, Nat.testBit_log2 h0]; rfl
theorem lotL_length (m s : Nat) : (lotL m s).length ≤ m := by
  unfold lotL
  rw [List.length_map]
  exact Nat.le_trans (List.length_filter_le _ _) (by simp)
theorem lotL_nil {s m : Nat} (h : s < 2 ^ m) : lotL m s = [] ↔ s = 0 := by
  constructor
  · intro e
    refine Decidable.byContradiction fun h0 => ?_
    rw [lotL_last h0 h] at e; simp at e
  · rintro rfl
    unfold lotL; simp
theorem lotL_mem {s m p : Nat} (hp : p < m) : ((p : Int) ∈ lotL m s) ↔ s.testBit p = true := by
  unfold lotL
  constructor
  · intro h
    obtain ⟨i, hi, e⟩ := List.mem_map.mp h
    obtain rfl : i = p := by omega
    simpa using (List.mem_filter.mp hi).2
  · intro h
    exact List.mem_map.mpr ⟨p, List.mem_filter.mpr ⟨List.mem_range.mpr hp, by simpa using h⟩, rfl⟩
theorem top_xor {v s : Nat} (hv : v ≠ 0) (hs : s ≠ 0) (h : s.log2 = v.log2) : v ^^^ s < 2 ^ v.log2 := by
  refine Nat.lt_pow_two_of_testBit _ fun i hi => ?_
  rw [Nat.testBit_xor]
  rcases Nat.lt_or_eq_of_le hi with h' | h'
  · rw [Nat.testBit_lt_two_pow (Nat.lt_of_lt_of_le (Nat.lt_log2_self (n := v)) (Nat.pow_le_pow_right (by decide) h'))]
    rw [Nat.testBit_lt_two_pow (x := s) (Nat.lt_of_lt_of_le (Nat.lt_log2_self (n := s)) (Nat.pow_le_pow_right (by decide) (by omega)))]
    rfl
  · subst h'
    rw [Nat.testBit_log2 hv]
    rw [← h, Nat.testBit_log2 hs]; rfl

section
variable {P : PG} {n : Nat} {st : St}

theorem nth_last {l : List Int} {x : Int} {Q : Dv → Prop} (hb : (l ++ [x]).length < big) (q : Q (.int x)) : nth (iL (l ++ [x])) (-1) Q := by
  refine ⟨l.length, .int x, .inr (by simp [iL]; omega), by simp [iL], by simpa [iL] using hb, q⟩

theorem c_law_left (T : Txs P) {many v : Nat} {found : List Nat} (hm : many ≤ 100) (hv : v < 2 ^ many) (hf : ∀ s ∈ found, s ≠ 0 ∧ s < 2 ^ many) (hfl : found.length ≤ 100) :
    Gives P 1 25 [.list (iL (lotL many v)), .list (lotsL many found)] (.list (iL (lotL many (leftOf v found.reverse)))) := by
  intro n st Q q
  refine ctr T T.t25 rfl ?_
  show wpSs (CallOK P n) m_law_left [some (.list (iL (lotL many v))), some (.list (lotsL many found)), none, none, none] st _
  simp only [m_law_left, wpE_r1, wpE_r2, wpE_r3, wpE_r4, wpE_r5, wpE_r6, wpE_r7, wpE_r8, wpE_r9, wpE_r10, wpE_r11, wpE_r12, wpE_r13, wpE_r14, wpE_r15, wpE_r16, wpE_r17, wpE_r18, wpE_r19, wpT_r1, wpT_r2, wpT_r3, wpT_r4, wpT_r5, wpTs_r1, wpEo_r1, wpEo_r2, wpEs_r1, wpEs_r2, wpI_r1, wpI_r2, wpI_r3, wpI_r4, wpI_r5, wpI_r6, wpS_r1, wpS_r2, wpS_r3, wpS_r4, wpS_r5, wpS_w, wpS_r7, wpS_r8, wpS_r9, wpS_r10, wpSs_n, wpSs_c, wpTs_r2, setAll_r1, setAll_r2, List.set_cons_succ, List.set_cons_zero, List.getElem?_cons_zero, List.getElem?_cons_succ, s_eq, s_ne, s_lt, s_le, s_gt, s_ge, s_is1, s_is2, s_isn1, s_isn2, s_neb, s_add, s_sub, s_mul, s_fdiv, s_mod, s_pow, s_lsh, s_rsh, s_and, s_or, s_xor, s_addL, s_mulL, s_backN, s_mkT, s_mkF, s_getL, s_getT, s_tg1, s_tg2, s_len, s_min, s_abs, s_int, s_intb]
  refine ⟨_, lotsL many found.reverse, rfl, ?_, by simp [lotsL]; omega, ?_⟩
  · simp only [sl_to, sl_from, sl_rev, sl_two]
    rw [if_pos (by decide)]; unfold lotsL; rw [List.map_reverse]
  refine forL_inv (fun rest fr st' => st' = st ∧ ∃ (u : Nat) (ss : List Nat) (o : Option Dv), rest = lotsL many ss ∧ (∀ s ∈ ss, s ≠ 0 ∧ s < 2 ^ many) ∧ u < 2 ^ many ∧ leftOf u ss = leftOf v found.reverse ∧
      fr = [some (.list (iL (lotL many v))), some (.list (lotsL many found)), some (.list (iL (lotL many u))), o, none]) ?_ ?_ _ _ _
    ⟨rfl, v, found.reverse, none, rfl, fun s hs => hf s (List.mem_reverse.mp hs), hv, rfl, rfl⟩
  · rintro x rest fr st' K ⟨rfl, u, ss, o, e, hss, hu, hl, rfl⟩ hn hs
    cases ss with
    | nil => simp [lotsL] at e
    | cons s ss =>
      simp only [lotsL, List.map_cons, List.cons.injEq] at e
      obtain ⟨rfl, rfl⟩ := e
      obtain ⟨hs0, hsm⟩ := hss s (.head _)
      have hlen : ∀ z, (lotL many z).length < big := fun z => by have := lotL_length many z; unfold big; omega
      simp only [wpE_r1, wpE_r2, wpE_r3, wpE_r4, wpE_r5, wpE_r6, wpE_r7, wpE_r8, wpE_r9, wpE_r10, wpE_r11, wpE_r12, wpE_r13, wpE_r14, wpE_r15, wpE_r16, wpE_r17, wpE_r18, wpE_r19, wpT_r1, wpT_r2, wpT_r3, wpT_r4, wpT_r5, wpTs_r1, wpEo_r1, wpEo_r2, wpEs_r1, wpEs_r2, wpI_r1, wpI_r2, wpI_r3, wpI_r4, wpI_r5, wpI_r6, wpS_r1, wpS_r2, wpS_r3, wpS_r4, wpS_r5, wpS_w, wpS_r7, wpS_r8, wpS_r9, wpS_r10, wpSs_n, wpSs_c, wpTs_r2, setAll_r1, setAll_r2, List.set_cons_succ, List.set_cons_zero, List.getElem?_cons_zero, List.getElem?_cons_succ, s_eq, s_ne, s_lt, s_le, s_gt, s_ge, s_is1, s_is2, s_isn1, s_isn2, s_neb, s_add, s_sub, s_mul, s_fdiv, s_mod, s_pow, s_lsh, s_rsh, s_and, s_or, s_xor, s_addL, s_mulL, s_backN, s_mkT, s_mkF, s_getL, s_getT, s_tg1, s_tg2, s_len, s_min, s_abs, s_int, s_intb]
      refine ⟨by simp, .inl ⟨lotL many u, [], rfl, rfl, ?_⟩⟩
      by_cases hu0 : u = 0
      · rw [decide_eq_true ((lotL_nil hu).mpr hu0)]
        dsimp only [Bool.not_true]
        refine hn _ _ ⟨rfl, u, ss, _, rfl, fun z hz => hss z (.tail _ hz), hu, ?_, rfl⟩
        rw [← hl, leftOf, if_neg (by simp [hu0])]
      rw [decide_eq_false (mt (lotL_nil hu).mp hu0)]
      dsimp only [Bool.not_false]
      have e1 := lotL_last hs0 hsm
      have e2 := lotL_last hu0 hu
      have n1 : ∀ Q : Dv → Prop, Q (.int (s.log2 : Int)) → nth (iL (lotL many s)) (-1) Q := fun Q q => by
        have h1 := hlen s
        rw [e1] at h1 ⊢; exact nth_last h1 q
      have n2 : ∀ Q : Dv → Prop, Q (.int (u.log2 : Int)) → nth (iL (lotL many u)) (-1) Q := fun Q q => by
        have h1 := hlen u
        rw [e2] at h1 ⊢; exact nth_last h1 q
      refine n1 _ ?_
      refine n2 _ ?_
      rw [s_eq]
      by_cases ht : s.log2 = u.log2
      · rw [show ((s.log2 : Int) == (u.log2 : Int)) = true by rw [ht]; simp]
        dsimp only
        have hul : u.log2 < many := log2_lt' hu0 hu
        refine ⟨rfl, n2 _ ?_⟩
        dsimp only
        refine ⟨by rw [Int.natAbs_natCast]; omega, by simp; omega, ?_⟩
        rw [Int.toNat_natCast]
        have hx := top_xor hu0 hs0 ht
        have hxm : u ^^^ s < 2 ^ many := Nat.lt_of_lt_of_le hx (Nat.pow_le_pow_right (by decide) (by omega))
        refine compL_map (fun i : Nat => Dv.int (i : Int)) (fun i => if (u ^^^ s).testBit i then some (.int (i : Int)) else none) st' _ _ (fun i hi K' hK => ?_) ?_
        · have hi' : i < many := Nat.lt_trans (List.mem_range.mp hi) hul
          refine ⟨_, rfl, ?_⟩
          refine ⟨_, rfl, ?_⟩
          dsimp only
          have hb : ∀ z, decide ((i : Int) ∈ lotL many z) = z.testBit i := fun z => by
            cases hz : z.testBit i with
            | true => exact decide_eq_true ((lotL_mem hi').mpr hz)
            | false => exact decide_eq_false fun h => by rw [(lotL_mem hi').mp h] at hz; cases hz
          rw [hb, hb]
          have hxb : (u.testBit i != s.testBit i) = (u ^^^ s).testBit i := by rw [Nat.testBit_xor] <;> first | done | (cases u.testBit i <;> cases s.testBit i <;> rfl)
          rw [hxb]
          cases hz : (u ^^^ s).testBit i with
          | true => rw [hz] at hK; exact hK
          | false => rw [hz] at hK; exact hK
        have hlot : (List.range u.log2).filterMap (fun a => if (u ^^^ s).testBit a = true then some (Dv.int (a : Int)) else none) = iL (lotL u.log2 (u ^^^ s)) := by
          generalize u ^^^ s = z
          unfold iL lotL
          rw [List.map_map]
          generalize List.range u.log2 = R
          induction R with
          | nil => rfl
          | cons a R ih =>
            rw [List.filterMap_cons, List.filter_cons]
            cases z.testBit a <;> simp [ih]
        rw [hlot, List.nil_append, lotL_any hx hxm]
        try simp only [back]
        refine hn _ _ ⟨rfl, u ^^^ s, ss, _, rfl, fun z hz => hss z (.tail _ hz), hxm, ?_, rfl⟩
        rw [← hl, leftOf, if_pos ⟨hu0, ht⟩]
      · rw [show ((s.log2 : Int) == (u.log2 : Int)) = false by rw [beq_eq_false_iff_ne]; omega]
        dsimp only
        refine hn _ _ ⟨rfl, u, ss, _, rfl, fun z hz => hss z (.tail _ hz), hu, ?_, rfl⟩
        rw [← hl, leftOf, if_neg (fun h => ht h.2)]
  · rintro fr st' ⟨rfl, u, ss, o, e, hss, hu, hl, rfl⟩
    cases ss with
    | nil =>
      simp only [wpE_r1, wpE_r2, wpE_r3, wpE_r4, wpE_r5, wpE_r6, wpE_r7, wpE_r8, wpE_r9, wpE_r10, wpE_r11, wpE_r12, wpE_r13, wpE_r14, wpE_r15, wpE_r16, wpE_r17, wpE_r18, wpE_r19, wpT_r1, wpT_r2, wpT_r3, wpT_r4, wpT_r5, wpTs_r1, wpEo_r1, wpEo_r2, wpEs_r1, wpEs_r2, wpI_r1, wpI_r2, wpI_r3, wpI_r4, wpI_r5, wpI_r6, wpS_r1, wpS_r2, wpS_r3, wpS_r4, wpS_r5, wpS_w, wpS_r7, wpS_r8, wpS_r9, wpS_r10, wpSs_n, wpSs_c, wpTs_r2, setAll_r1, setAll_r2, List.set_cons_succ, List.set_cons_zero, List.getElem?_cons_zero, List.getElem?_cons_succ, s_eq, s_ne, s_lt, s_le, s_gt, s_ge, s_is1, s_is2, s_isn1, s_isn2, s_neb, s_add, s_sub, s_mul, s_fdiv, s_mod, s_pow, s_lsh, s_rsh, s_and, s_or, s_xor, s_addL, s_mulL, s_backN, s_mkT, s_mkF, s_getL, s_getT, s_tg1, s_tg2, s_len, s_min, s_abs, s_int, s_intb]
      have : u = leftOf v found.reverse := by rw [← hl]; rfl
      refine ⟨pures_iL _, ?_⟩
      rw [List.take_length, this]; exact q
    | cons y l' => simp [lotsL] at e
end
end Mine
end

section
open PySem PySem.W PyProof.Rows PySem.Spec PySem.SeqAt PySem.Calls
set_option Elab.async false
set_option maxRecDepth 100000
set_option maxHeartbeats 1000000
set_option autoImplicit false
set_option linter.all false
namespace Mine

noncomputable def sumAt (gs : List (Nat × List Nat)) (i : Nat) : Nat := (gs.map fun g => g.2.getD i 0).sum
noncomputable def givenL (B : Nat) (gs : List (Nat × List Nat)) : List Dv := gs.map fun g => .tup [.list (nL (lb B g.1)), .list (nL g.2)]

theorem mod_mul_l (a b m : Nat) : a % m * b % m = a * b % m := by
  rw [Nat.mul_mod, Nat.mod_mod, ← Nat.mul_mod]
theorem sum_cast (l : List Nat) : (l.map fun n : Nat => (n : Int)).sum = (l.sum : Int) := by
  induction l with
  | nil => rfl
  | cons x l ih => rw [List.map_cons, List.sum_cons, List.sum_cons, ih]; omega
theorem sum_le {k : Nat} : ∀ {l : List Nat}, (∀ x ∈ l, x ≤ k) → l.sum ≤ l.length * k
  | [], _ => by simp
  | x :: l, h => by
    have := sum_le (l := l) fun y hy => h y (.tail _ hy)
    have := h x (.head _)
    rw [List.sum_cons, List.length_cons, Nat.add_mul]; omega
theorem len_of_lt {w x k : Nat} (hw : 1 ≤ w) (h : x < 2 ^ k) : (lb (2 ^ w) x).length ≤ k := by
  refine lb_len_le (two_le_pow hw) (Nat.lt_of_lt_of_le h ?_)
  rw [← Nat.pow_mul]
  exact Nat.pow_le_pow_right (by decide) (Nat.le_mul_of_pos_left _ hw)

section
variable {P : PG} {n : Nat} {st : St}

theorem c_two_roots (T : Txs P) {w m : Nat} {gs : List (Nat × List Nat)} {ps : List Nat} (hw : 1 ≤ w) (hw2 : w ≤ 20) (hm1 : 1 < m) (hm2 : m < 2 ^ 20) (hm3 : m < 2 ^ w * 2 ^ w) (hps : ∀ p ∈ ps, 0 < p ∧ p < 2 ^ w) (hpl : ps.length ≤ 100)
    (hgl : gs.length ≤ 100) (hg : ∀ g ∈ gs, g.1 < 2 ^ 64 ∧ g.2.length = ps.length ∧ ∀ e ∈ g.2, e ≤ 1000) :
    Gives P 5 18 [.list (nL (lb (2 ^ w) m)), .list (givenL (2 ^ w) gs), .list (nL ps), .int (w : Int), .fn 10, .fn 16]
      (.tup [.list (nL (lb (2 ^ w) (prodL (gs.map (·.1)) % m))), .list (nL (lb (2 ^ w) (pr ps ((List.range ps.length).map fun i => sumAt gs i / 2) % m)))]) := by
  intro n st Q q
  refine ctr T T.t18 rfl ?_
  have hB := two_le_pow hw
  have hBu : 2 ^ w ≤ 2 ^ 20 := Nat.pow_le_pow_right (by decide) hw2
  show wpSs (CallOK P (n + 4)) m_two_roots [some (.list (nL (lb (2 ^ w) m))), some (.list (givenL (2 ^ w) gs)), some (.list (nL ps)), some (.int (w : Int)), some (.fn 10), some (.fn 16), none, none, none, none, none, none, none, none, none, none, none] st _
  simp only [m_two_roots, wpE_r1, wpE_r2, wpE_r3, wpE_r4, wpE_r5, wpE_r6, wpE_r7, wpE_r8, wpE_r9, wpE_r10, wpE_r11, wpE_r12, wpE_r13, wpE_r14, wpE_r15, wpE_r16, wpE_r17, wpE_r18, wpE_r19, wpT_r1, wpT_r2, wpT_r3, wpT_r4, wpT_r5, wpTs_r1, wpEo_r1, wpEo_r2, wpEs_r1, wpEs_r2, wpI_r1, wpI_r2, wpI_r3, wpI_r4, wpI_r5, wpI_r6, wpS_r1, wpS_r2, wpS_r3, wpS_r4, wpS_r5, wpS_w, wpS_r7, wpS_r8, wpS_r9, wpS_r10, wpSs_n, wpSs_c, wpTs_r2, setAll_r1, setAll_r2, List.set_cons_succ, List.set_cons_zero, List.getElem?_cons_zero, List.getElem?_cons_succ, s_eq, s_ne, s_lt, s_le, s_gt, s_ge, s_is1, s_is2, s_isn1, s_isn2, s_neb, s_add, s_sub, s_mul, s_fdiv, s_mod, s_pow, s_lsh, s_rsh, s_and, s_or, s_xor, s_addL, s_mulL, s_backN, s_mkT, s_mkF, s_getL, s_getT, s_tg1, s_tg2, s_len, s_min, s_abs, s_int, s_intb, nL_length]
  have h1 : (Dv.list [.int 1]) = .list (nL (lb (2 ^ w) (1 % m))) := by rw [Nat.mod_eq_of_lt hm1, lb_small hB (by decide) (by omega)]; rfl
  rw [h1]
  refine ⟨by simp, by simp, by simp, rfl, rfl, by unfold big; omega, by rw [Int.natAbs_natCast]; omega, by simp; omega, ?_⟩
  have hsum : ∀ i, sumAt gs i ≤ 2 ^ 20 := fun i => by
    refine Nat.le_trans (sum_le (k := 1000) fun x hx => ?_) ?_
    · obtain ⟨g, hg', rfl⟩ := List.mem_map.mp hx
      rw [List.getD_eq_getElem?_getD]
      rcases Nat.lt_or_ge i g.2.length with h | h
      · rw [List.getElem?_eq_getElem h]; exact (hg g hg').2.2 _ (List.getElem_mem h)
      · rw [List.getElem?_eq_none h]; simp
    · rw [List.length_map]
      exact Nat.le_trans (Nat.mul_le_mul_right _ hgl) (by decide)
  rw [Int.toNat_natCast]
  refine comp_range ps.length (fun i => some (.int (sumAt gs i : Int))) (fun i hi K hK => ?_) ?_
  · refine ⟨⟨rfl, rfl⟩, by simp [givenL]; omega, ?_⟩
    refine compL_map (fun g : Nat × List Nat => Dv.tup [.list (nL (lb (2 ^ w) g.1)), .list (nL g.2)]) (fun g => some (.int ((g.2.getD i 0 : Nat) : Int))) st _ _ (fun g hg' K' hK' => ?_) ?_
    · obtain ⟨g1, g2, g3⟩ := hg g hg'
      simp only [wpE_r1, wpE_r2, wpE_r3, wpE_r4, wpE_r5, wpE_r6, wpE_r7, wpE_r8, wpE_r9, wpE_r10, wpE_r11, wpE_r12, wpE_r13, wpE_r14, wpE_r15, wpE_r16, wpE_r17, wpE_r18, wpE_r19, wpT_r1, wpT_r2, wpT_r3, wpT_r4, wpT_r5, wpTs_r1, wpEo_r1, wpEo_r2, wpEs_r1, wpEs_r2, wpI_r1, wpI_r2, wpI_r3, wpI_r4, wpI_r5, wpI_r6, wpS_r1, wpS_r2, wpS_r3, wpS_r4, wpS_r5, wpS_w, wpS_r7, wpS_r8, wpS_r9, wpS_r10, wpSs_n, wpSs_c, wpTs_r2, setAll_r1, setAll_r2, List.set_cons_succ, List.set_cons_zero, List.getElem?_cons_zero, List.getElem?_cons_succ, s_eq, s_ne, s_lt, s_le, s_gt, s_ge, s_is1, s_is2, s_isn1, s_isn2, s_neb, s_add, s_sub, s_mul, s_fdiv, s_mod, s_pow, s_lsh, s_rsh, s_and, s_or, s_xor, s_addL, s_mulL, s_backN, s_mkT, s_mkF, s_getL, s_getT, s_tg1, s_tg2, s_len, s_min, s_abs, s_int, s_intb]
      refine nth_nL (x := g.2.getD i 0) ?_ (by unfold big; omega) hK'
      rw [List.getD_eq_getElem?_getD, List.getElem?_eq_getElem (by omega)]; rfl
    rw [filterMap_some, List.nil_append, nL_iL]
    refine ⟨_, rfl, by simp; omega, ?_, ?_⟩
    · intro x hx
      obtain ⟨y, hy, rfl⟩ := List.mem_map.mp hx
      obtain ⟨g, hg', rfl⟩ := List.mem_map.mp hy
      have : g.2.getD i 0 ≤ 1000 := by
        rw [List.getD_eq_getElem?_getD]
        rcases Nat.lt_or_ge i g.2.length with h | h
        · rw [List.getElem?_eq_getElem h]; exact (hg g hg').2.2 _ (List.getElem_mem h)
        · rw [List.getElem?_eq_none h]; simp
      rw [Int.natAbs_natCast]; omega
    · rw [sum_cast]; exact hK
  rw [filterMap_some]
  have hslen : ((List.range ps.length).map (sumAt gs)).length = ps.length := by simp
  have hsle : ∀ s ∈ (List.range ps.length).map (sumAt gs), s ≤ 2 ^ 20 := fun s hs => by
    obtain ⟨i, _, rfl⟩ := List.mem_map.mp hs; exact hsum i
  have hmap : (List.range ps.length).map (fun i => sumAt gs i / 2) = ((List.range ps.length).map (sumAt gs)).map (· / 2) := by rw [List.map_map]; rfl
  rw [hmap] at q
  generalize (List.range ps.length).map (sumAt gs) = S at *
  have hml : (lb (2 ^ w) m).length ≤ 2 ^ 18 := Nat.le_trans (len_of_lt hw hm2) (by decide)
  have hxl : ∀ z, (lb (2 ^ w) (z % m)).length ≤ 2 ^ 18 := fun z => Nat.le_trans (len_of_lt (k := 20) hw (Nat.lt_trans (Nat.mod_lt _ (by omega)) hm2)) (by decide)
  have hxr : ∀ z r, r < 2 ^ 64 → (lb (2 ^ w) (z % m * r)).length ≤ 2 ^ 16 := fun z r hr => by
    refine Nat.le_trans (len_of_lt (k := 84) hw ?_) (by decide)
    calc z % m * r < 2 ^ 20 * 2 ^ 64 := Nat.mul_lt_mul'' (Nat.lt_trans (Nat.mod_lt _ (by omega)) hm2) hr
      _ = 2 ^ 84 := by decide
  try simp only [back]
  refine forL_inv (fun rest fr st' => st' = st ∧ ∃ (A : Nat) (gs' : List (Nat × List Nat)) (o9 o10 : Option Dv), rest = givenL (2 ^ w) gs' ∧ A * prodL (gs'.map (·.1)) = prodL (gs.map (·.1)) ∧ (∀ g ∈ gs', g.1 < 2 ^ 64) ∧
      fr = [some (.list (nL (lb (2 ^ w) m))), some (.list (givenL (2 ^ w) gs)), some (.list (nL ps)), some (.int (w : Int)), some (.fn 10), some (.fn 16), some (.list (nL (lb (2 ^ w) (A % m)))), some (.list (nL (lb (2 ^ w) (1 % m)))), some (.list (nL S)), o9, o10, none, none, none, none, none, none]) ?_ ?_ _ _ _
    ⟨rfl, 1, gs, none, none, rfl, Nat.one_mul _, fun g hg' => (hg g hg').1, rfl⟩
  · rintro x rest fr st' K ⟨rfl, A, gs', o9, o10, e, hA, hgs, rfl⟩ hn hs
    cases gs' with
    | nil => simp [givenL] at e
    | cons g gs' =>
      simp only [givenL, List.map_cons, List.cons.injEq] at e
      obtain ⟨rfl, rfl⟩ := e
      have hr := hgs g (.head _)
      simp only [wpE_r1, wpE_r2, wpE_r3, wpE_r4, wpE_r5, wpE_r6, wpE_r7, wpE_r8, wpE_r9, wpE_r10, wpE_r11, wpE_r12, wpE_r13, wpE_r14, wpE_r15, wpE_r16, wpE_r17, wpE_r18, wpE_r19, wpT_r1, wpT_r2, wpT_r3, wpT_r4, wpT_r5, wpTs_r1, wpEo_r1, wpEo_r2, wpEs_r1, wpEs_r2, wpI_r1, wpI_r2, wpI_r3, wpI_r4, wpI_r5, wpI_r6, wpS_r1, wpS_r2, wpS_r3, wpS_r4, wpS_r5, wpS_w, wpS_r7, wpS_r8, wpS_r9, wpS_r10, wpSs_n, wpSs_c, wpTs_r2, setAll_r1, setAll_r2, List.set_cons_succ, List.set_cons_zero, List.getElem?_cons_zero, List.getElem?_cons_succ, s_eq, s_ne, s_lt, s_le, s_gt, s_ge, s_is1, s_is2, s_isn1, s_isn2, s_neb, s_add, s_sub, s_mul, s_fdiv, s_mod, s_pow, s_lsh, s_rsh, s_and, s_or, s_xor, s_addL, s_mulL, s_backN, s_mkT, s_mkF, s_getL, s_getT, s_tg1, s_tg2, s_len, s_min, s_abs, s_int, s_intb]
      refine (c_mul_school T hw hw2 (hxl _) (Nat.le_trans (len_of_lt hw hr) (by decide))).up (by decide) ?_
      try dsimp only
      refine (c_divrem_school T hw hw2 (by omega) hm3 (hxr _ _ hr)).up (by decide) ?_
      try dsimp only
      refine ⟨1, _, .inl rfl, rfl, by simp [big], ?_⟩
      rw [mod_mul_l]
      refine hn _ _ ⟨rfl, A * g.1, gs', _, _, rfl, ?_, fun z hz => hgs z (.tail _ hz), rfl⟩
      rw [← hA, Nat.mul_assoc]; rfl
  · rintro fr st' ⟨rfl, A, gs', o9, o10, e, hA, hgs, rfl⟩
    cases gs' with
    | cons g l' => simp [givenL] at e
    | nil =>
    have hA' : A = prodL (gs.map (·.1)) := by rw [← hA]; simp [prodL]
    subst hA'
    generalize hX : prodL (gs.map (·.1)) % m = X at *
    simp only [wpE_r1, wpE_r2, wpE_r3, wpE_r4, wpE_r5, wpE_r6, wpE_r7, wpE_r8, wpE_r9, wpE_r10, wpE_r11, wpE_r12, wpE_r13, wpE_r14, wpE_r15, wpE_r16, wpE_r17, wpE_r18, wpE_r19, wpT_r1, wpT_r2, wpT_r3, wpT_r4, wpT_r5, wpTs_r1, wpEo_r1, wpEo_r2, wpEs_r1, wpEs_r2, wpI_r1, wpI_r2, wpI_r3, wpI_r4, wpI_r5, wpI_r6, wpS_r1, wpS_r2, wpS_r3, wpS_r4, wpS_r5, wpS_w, wpS_r7, wpS_r8, wpS_r9, wpS_r10, wpSs_n, wpSs_c, wpTs_r2, setAll_r1, setAll_r2, List.set_cons_succ, List.set_cons_zero, List.getElem?_cons_zero, List.getElem?_cons_succ, s_eq, s_ne, s_lt, s_le, s_gt, s_ge, s_is1, s_is2, s_isn1, s_isn2, s_neb, s_add, s_sub, s_mul, s_fdiv, s_mod, s_pow, s_lsh, s_rsh, s_and, s_or, s_xor, s_addL, s_mulL, s_backN, s_mkT, s_mkF, s_getL, s_getT, s_tg1, s_tg2, s_len, s_min, s_abs, s_int, s_intb, nL_length]
    refine ⟨by unfold big; omega, by unfold big; omega, ?_⟩
    refine forL_inv (fun rest fr st'' => st'' = st' ∧ ∃ (A : Nat) (ps' S' : List Nat) (o11 o12 o13 : Option Dv), rest = List.zipWith (fun x y => Dv.tup [x, y]) (nL ps') (nL S') ∧ ps'.length = S'.length ∧ (∀ p ∈ ps', 0 < p ∧ p < 2 ^ w) ∧ (∀ s ∈ S', s ≤ 2 ^ 20) ∧ A * pr ps' (S'.map (· / 2)) = pr ps (S.map (· / 2)) ∧
        fr = [some (.list (nL (lb (2 ^ w) m))), some (.list (givenL (2 ^ w) gs)), some (.list (nL ps)), some (.int (w : Int)), some (.fn 10), some (.fn 16), some (.list (nL (lb (2 ^ w) X))), some (.list (nL (lb (2 ^ w) (A % m)))), some (.list (nL S)), o9, o10, o11, o12, o13, none, none, none]) ?_ ?_ _ _ _
      ⟨rfl, 1, ps, S, none, none, none, rfl, hslen.symm, hps, hsle, Nat.one_mul _, rfl⟩
    · rintro x rest fr st'' K ⟨rfl, A, ps', S', o11, o12, o13, e, hl, hps', hS', hA2, rfl⟩ hn hs
      cases ps' with
      | nil => simp [nL] at e
      | cons p ps' =>
        cases S' with
        | nil => simp at hl
        | cons s S' =>
        simp only [nL, List.map_cons, List.zipWith_cons_cons, List.cons.injEq] at e
        obtain ⟨rfl, rfl⟩ := e
        obtain ⟨hp0, hpB⟩ := hps' p (.head _)
        have hs20 := hS' s (.head _)
        simp only [wpE_r1, wpE_r2, wpE_r3, wpE_r4, wpE_r5, wpE_r6, wpE_r7, wpE_r8, wpE_r9, wpE_r10, wpE_r11, wpE_r12, wpE_r13, wpE_r14, wpE_r15, wpE_r16, wpE_r17, wpE_r18, wpE_r19, wpT_r1, wpT_r2, wpT_r3, wpT_r4, wpT_r5, wpTs_r1, wpEo_r1, wpEo_r2, wpEs_r1, wpEs_r2, wpI_r1, wpI_r2, wpI_r3, wpI_r4, wpI_r5, wpI_r6, wpS_r1, wpS_r2, wpS_r3, wpS_r4, wpS_r5, wpS_w, wpS_r7, wpS_r8, wpS_r9, wpS_r10, wpSs_n, wpSs_c, wpTs_r2, setAll_r1, setAll_r2, List.set_cons_succ, List.set_cons_zero, List.getElem?_cons_zero, List.getElem?_cons_succ, s_eq, s_ne, s_lt, s_le, s_gt, s_ge, s_is1, s_is2, s_isn1, s_isn2, s_neb, s_add, s_sub, s_mul, s_fdiv, s_mod, s_pow, s_lsh, s_rsh, s_and, s_or, s_xor, s_addL, s_mulL, s_backN, s_mkT, s_mkF, s_getL, s_getT, s_tg1, s_tg2, s_len, s_min, s_abs, s_int, s_intb]
        have hsd : Int.fdiv (s : Int) 2 = ((s / 2 : Nat) : Int) := fdiv_nat s 2
        refine ⟨by decide, by decide, ?_⟩
        rw [hsd]
        try dsimp only
        refine ⟨by rw [Int.natAbs_natCast]; omega, ?_⟩
        rw [Int.toNat_natCast]
        have hp1 : (Dv.list [.int (p : Int)]) = .list (nL (lb (2 ^ w) p)) := by rw [lb_small hB hp0 hpB]; rfl
        refine forL_range (fun i fr st3 => st3 = st'' ∧ ∃ o13, fr = [some (.list (nL (lb (2 ^ w) m))), some (.list (givenL (2 ^ w) gs)), some (.list (nL ps)), some (.int (w : Int)), some (.fn 10), some (.fn 16), some (.list (nL (lb (2 ^ w) X))), some (.list (nL (lb (2 ^ w) (A * p ^ i % m)))), some (.list (nL S)), o9, o10, some (.int (p : Int)), some (.int (s : Int)), o13, none, none, none]) (s / 2) ?_ ?_
          ⟨rfl, _, by rw [Nat.pow_zero, Nat.mul_one]⟩
        · rintro i fr st3 K' hi ⟨rfl, o13, rfl⟩ hn' hs'
          simp only [wpE_r1, wpE_r2, wpE_r3, wpE_r4, wpE_r5, wpE_r6, wpE_r7, wpE_r8, wpE_r9, wpE_r10, wpE_r11, wpE_r12, wpE_r13, wpE_r14, wpE_r15, wpE_r16, wpE_r17, wpE_r18, wpE_r19, wpT_r1, wpT_r2, wpT_r3, wpT_r4, wpT_r5, wpTs_r1, wpEo_r1, wpEo_r2, wpEs_r1, wpEs_r2, wpI_r1, wpI_r2, wpI_r3, wpI_r4, wpI_r5, wpI_r6, wpS_r1, wpS_r2, wpS_r3, wpS_r4, wpS_r5, wpS_w, wpS_r7, wpS_r8, wpS_r9, wpS_r10, wpSs_n, wpSs_c, wpTs_r2, setAll_r1, setAll_r2, List.set_cons_succ, List.set_cons_zero, List.getElem?_cons_zero, List.getElem?_cons_succ, s_eq, s_ne, s_lt, s_le, s_gt, s_ge, s_is1, s_is2, s_isn1, s_isn2, s_neb, s_add, s_sub, s_mul, s_fdiv, s_mod, s_pow, s_lsh, s_rsh, s_and, s_or, s_xor, s_addL, s_mulL, s_backN, s_mkT, s_mkF, s_getL, s_getT, s_tg1, s_tg2, s_len, s_min, s_abs, s_int, s_intb]
          rw [hp1]
          have hp64 : p < 2 ^ 64 := by omega
          refine ⟨by simp, ?_⟩
          refine (c_mul_school T hw hw2 (hxl _) (Nat.le_trans (len_of_lt hw hp64) (by decide))).up (by decide) ?_
          try dsimp only
          refine (c_divrem_school T hw hw2 (by omega) hm3 (hxr _ _ hp64)).up (by decide) ?_
          try dsimp only
          refine ⟨1, _, .inl rfl, rfl, by simp [big], ?_⟩
          rw [mod_mul_l, Nat.mul_assoc, ← Nat.pow_succ]
          exact hn' _ _ ⟨rfl, _, rfl⟩
        · rintro fr st3 ⟨rfl, o13, rfl⟩
          refine hn _ _ ⟨rfl, A * p ^ (s / 2), ps', S', _, _, _, rfl, by simpa using hl, fun z hz => hps' z (.tail _ hz), fun z hz => hS' z (.tail _ hz), ?_, rfl⟩
          rw [← hA2, Nat.mul_assoc]; rfl
    · rintro fr st'' ⟨rfl, A, ps', S', o11, o12, o13, e, hl, hps', hS', hA2, rfl⟩
      cases ps' with
      | cons p ps' =>
        cases S' with
        | nil => simp at hl
        | cons s S' => simp [nL] at e
      | nil =>
      have hA3 : A = pr ps (S.map (· / 2)) := by rw [← hA2]; simp [pr]
      rw [hA3]
      simp only [wpE_r1, wpE_r2, wpE_r3, wpE_r4, wpE_r5, wpE_r6, wpE_r7, wpE_r8, wpE_r9, wpE_r10, wpE_r11, wpE_r12, wpE_r13, wpE_r14, wpE_r15, wpE_r16, wpE_r17, wpE_r18, wpE_r19, wpT_r1, wpT_r2, wpT_r3, wpT_r4, wpT_r5, wpTs_r1, wpEo_r1, wpEo_r2, wpEs_r1, wpEs_r2, wpI_r1, wpI_r2, wpI_r3, wpI_r4, wpI_r5, wpI_r6, wpS_r1, wpS_r2, wpS_r3, wpS_r4, wpS_r5, wpS_w, wpS_r7, wpS_r8, wpS_r9, wpS_r10, wpSs_n, wpSs_c, wpTs_r2, setAll_r1, setAll_r2, List.set_cons_succ, List.set_cons_zero, List.getElem?_cons_zero, List.getElem?_cons_succ, s_eq, s_ne, s_lt, s_le, s_gt, s_ge, s_is1, s_is2, s_isn1, s_isn2, s_neb, s_add, s_sub, s_mul, s_fdiv, s_mod, s_pow, s_lsh, s_rsh, s_and, s_or, s_xor, s_addL, s_mulL, s_backN, s_mkT, s_mkF, s_getL, s_getT, s_tg1, s_tg2, s_len, s_min, s_abs, s_int, s_intb]
      refine ⟨by simp, pure_tup2 (pures_nL _) (pures_nL _), ?_⟩
      rw [List.take_length]; exact q
end
end Mine
end

section
open PySem PySem.W PyProof.Rows PySem.Spec PySem.SeqAt PySem.Calls
set_option Elab.async false
set_option maxRecDepth 100000
set_option maxHeartbeats 1000000
set_option autoImplicit false
set_option linter.all false
namespace Mine

/-! the plain law: masks, spans -/
theorem xr1 (a b x : Nat) : (a ^^^ x) ^^^ b = (a ^^^ b) ^^^ x := by rw [Nat.xor_assoc, Nat.xor_comm x, ← Nat.xor_assoc]
theorem xr3 (a b x : Nat) : (a ^^^ x) ^^^ (b ^^^ x) = a ^^^ b := by rw [xr1, Nat.xor_assoc a, Nat.xor_assoc b, Nat.xor_self, Nat.xor_zero]
theorem xr4 (a x : Nat) : (a ^^^ x) ^^^ x = a := by rw [Nat.xor_assoc, Nat.xor_self, Nat.xor_zero]
theorem xr5 (a x : Nat) : x ^^^ (x ^^^ a) = a := by rw [← Nat.xor_assoc, Nat.xor_self, Nat.zero_xor]
theorem xr0 {a b : Nat} (h : a ^^^ b = 0) : a = b := by
  have := xr4 a b; rw [h, Nat.zero_xor] at this; exact this.symm

noncomputable def Sp : List Nat → Nat → Prop
  | [], v => v = 0
  | x :: xs, v => Sp xs v ∨ Sp xs (v ^^^ x)

theorem Sp.zero : ∀ {xs : List Nat}, Sp xs 0
  | [] => rfl
  | _ :: xs => .inl (Sp.zero (xs := xs))
theorem Sp.xor : ∀ {xs : List Nat} {u v : Nat}, Sp xs u → Sp xs v → Sp xs (u ^^^ v)
  | [], u, v, hu, hv => by
    have hu' : u = 0 := hu
    have hv' : v = 0 := hv
    subst hu' hv'; rfl
  | x :: xs, u, v, hu, hv => by
    rcases hu with hu | hu <;> rcases hv with hv | hv
    · exact .inl (hu.xor hv)
    · exact .inr (by rw [Nat.xor_assoc]; exact hu.xor hv)
    · exact .inr (by rw [← xr1]; exact hu.xor hv)
    · exact .inl (by rw [← xr3 u v x]; exact hu.xor hv)
theorem Sp.mem : ∀ {xs : List Nat} {x : Nat}, x ∈ xs → Sp xs x
  | y :: xs, x, h => by
    rcases List.mem_cons.mp h with rfl | h
    · exact .inr (by rw [Nat.xor_self]; exact Sp.zero)
    · exact .inl (Sp.mem h)
theorem Sp.sub : ∀ {xs ys : List Nat} {v : Nat}, (∀ x ∈ xs, Sp ys x) → Sp xs v → Sp ys v
  | [], ys, v, _, h => by have h' : v = 0 := h; subst h'; exact Sp.zero
  | x :: xs, ys, v, hs, h => by
    rcases h with h | h
    · exact Sp.sub (fun y hy => hs y (.tail _ hy)) h
    · rw [← xr4 v x]; exact (Sp.sub (fun y hy => hs y (.tail _ hy)) h).xor (hs x (.head _))
theorem Sp.mono {xs ys : List Nat} {v : Nat} (hs : ∀ x ∈ xs, x ∈ ys) (h : Sp xs v) : Sp ys v := Sp.sub (fun x hx => Sp.mem (hs x hx)) h
theorem Sp.perm {xs ys : List Nat} (h : xs.Perm ys) (v : Nat) : Sp xs v ↔ Sp ys v :=
  ⟨Sp.mono fun _ hx => h.mem_iff.mp hx, Sp.mono fun _ hx => h.mem_iff.mpr hx⟩

noncomputable def comb : List Nat → Nat → Nat
  | [], _ => 0
  | x :: xs, s => (if s.testBit 0 then x else 0) ^^^ comb xs (s / 2)
theorem comb_zero : ∀ xs : List Nat, comb xs 0 = 0
  | [] => rfl
  | x :: xs => by
    show (if Nat.testBit 0 0 then x else 0) ^^^ comb xs (0 / 2) = 0
    rw [show (0 : Nat) / 2 = 0 from rfl, comb_zero xs]; simp
theorem comb_xor : ∀ (xs : List Nat) (s t : Nat), comb xs (s ^^^ t) = comb xs s ^^^ comb xs t
  | [], _, _ => by simp [comb]
  | x :: xs, s, t => by
    simp only [comb]
    rw [Nat.xor_div_two, comb_xor xs, Nat.testBit_xor]
    generalize comb xs (s / 2) = a
    generalize comb xs (t / 2) = b
    cases s.testBit 0 <;> cases t.testBit 0 <;> simp
    · rw [← Nat.xor_assoc, ← Nat.xor_assoc, Nat.xor_comm x]
    · exact (Nat.xor_assoc _ _ _).symm
    · rw [Nat.xor_comm x a, Nat.xor_comm x b, xr3]
theorem comb_append : ∀ (xs : List Nat) (x s : Nat), comb (xs ++ [x]) s = comb xs s ^^^ (if s.testBit xs.length then x else 0)
  | [], x, s => by simp [comb]
  | y :: xs, x, s => by
    rw [List.cons_append]
    simp only [comb]
    rw [comb_append xs, List.length_cons, Nat.testBit_div_two, Nat.xor_assoc]
theorem comb_Sp : ∀ (xs : List Nat) (s : Nat), Sp xs (comb xs s)
  | [], _ => rfl
  | x :: xs, s => by
    simp only [comb]
    cases s.testBit 0
    · exact .inl (by simpa using comb_Sp xs (s / 2))
    · refine .inr ?_
      rw [if_pos rfl, Nat.xor_comm x, xr4]; exact comb_Sp xs (s / 2)
theorem comb_high : ∀ (xs : List Nat) (t : Nat), comb xs (2 ^ xs.length * t) = 0
  | [], _ => rfl
  | x :: xs, t => by
    have e : 2 ^ (x :: xs).length * t = 2 * (2 ^ xs.length * t) := by rw [List.length_cons, Nat.pow_succ, Nat.mul_comm (2 ^ xs.length) 2, Nat.mul_assoc]
    rw [e]
    have h0 : (2 * (2 ^ xs.length * t)).testBit 0 = false := by rw [Nat.testBit_zero]; simp
    simp only [comb, h0]
    rw [Nat.mul_div_cancel_left _ (by decide), comb_high xs]; simp
theorem comb_take : ∀ (xs : List Nat) (m s : Nat), s < 2 ^ m → comb xs s = comb (xs.take m) s
  | [], _, _, _ => by simp [comb]
  | x :: xs, 0, s, h => by
    have : s = 0 := by simpa using h
    subst this; rw [comb_zero]; rfl
  | x :: xs, m + 1, s, h => by
    rw [List.take_succ_cons]
    simp only [comb]
    rw [comb_take xs m (s / 2) (by rw [Nat.pow_succ] at h; omega)]

/-! how many are put together of those before -/
open Classical in
noncomputable def dc : List Nat → Nat
  | [] => 0
  | x :: l => (if Sp l x then 1 else 0) + dc l

theorem sp_cons_of {b : Nat} {l : List Nat} (h : Sp l b) (v : Nat) : Sp (b :: l) v ↔ Sp l v := by
  constructor
  · rintro (h' | h')
    · exact h'
    · rw [← xr4 v b]; exact h'.xor h
  · exact fun h' => .inl h'
theorem dc_swap (a b : Nat) (l : List Nat) : dc (a :: b :: l) = dc (b :: a :: l) := by
  simp only [dc]
  by_cases hb : Sp l b
  · have h1 : Sp (a :: l) b := .inl hb
    have h2 := sp_cons_of hb a
    rw [if_pos hb, if_pos h1]
    by_cases ha : Sp l a
    · rw [if_pos (h2.mpr ha), if_pos ha]
    · rw [if_neg (mt h2.mp ha), if_neg ha]; omega
  · by_cases ha : Sp l a
    · have h1 : Sp (b :: l) a := .inl ha
      have h2 := sp_cons_of ha b
      rw [if_neg hb, if_pos ha, if_pos h1, if_neg (mt h2.mp hb)]; omega
    · rw [if_neg hb, if_neg ha]
      have h3 : Sp (b :: l) a ↔ Sp (a :: l) b := by
        show (Sp l a ∨ Sp l (a ^^^ b)) ↔ (Sp l b ∨ Sp l (b ^^^ a))
        rw [Nat.xor_comm b a]
        exact ⟨fun h => .inr (h.resolve_left ha), fun h => .inr (h.resolve_left hb)⟩
      by_cases h : Sp (b :: l) a
      · rw [if_pos h, if_pos (h3.mp h)]
      · rw [if_neg h, if_neg (mt h3.mpr h)]
theorem dc_perm {l l' : List Nat} (h : l.Perm l') : dc l = dc l' := by
  induction h with
  | nil => rfl
  | @cons x l1 l2 h ih =>
    simp only [dc]
    rw [ih]
    by_cases hs : Sp l1 x
    · rw [if_pos hs, if_pos ((Sp.perm h x).mp hs)]
    · rw [if_neg hs, if_neg (mt (Sp.perm h x).mpr hs)]
  | swap a b l => exact dc_swap b a l
  | trans _ _ h1 h2 => exact h1.trans h2

/-! the lowest bits -/
theorem low_xor {a b p q : Nat} (ha : IsLow a p) (hb : IsLow b q) (h : p < q) : IsLow (a ^^^ b) p ∧ IsLow (b ^^^ a) p := by
  have h1 : IsLow (a ^^^ b) p := by
    refine ⟨?_, fun r hr => ?_⟩
    · rw [Nat.testBit_xor, ha.1, hb.2 p h]; rfl
    · rw [Nat.testBit_xor, ha.2 r hr, hb.2 r (by omega)]; rfl
  exact ⟨h1, by rw [Nat.xor_comm]; exact h1⟩
theorem sp_low : ∀ {k : List (Nat × Nat)} {v p : Nat}, (∀ q ∈ k, IsLow q.2 q.1) → k.Pairwise (fun a b => a.1 ≠ b.1) → Sp (k.map (·.2)) v → IsLow v p → ∃ q ∈ k, q.1 = p
  | [], v, p, _, _, h, hl => by
    have h' : v = 0 := h
    subst h'; have := hl.1; simp at this
  | (r, b) :: k, v, p, hk, hd, h, hl => by
    have hk' : ∀ q ∈ k, IsLow q.2 q.1 := fun q hq => hk q (.tail _ hq)
    have hb : IsLow b r := hk (r, b) (.head _)
    obtain ⟨hd1, hd2⟩ := List.pairwise_cons.mp hd
    have wrap : (∃ q ∈ k, q.1 = p) → ∃ q ∈ (r, b) :: k, q.1 = p := fun ⟨q, hq, e⟩ => ⟨q, .tail _ hq, e⟩
    rcases h with h | h
    · exact wrap (sp_low hk' hd2 h hl)
    · have h : Sp (k.map (·.2)) (v ^^^ b) := h
      by_cases h0 : v ^^^ b = 0
      · have : v = b := xr0 h0
        subst this
        exact ⟨(r, v), .head _, hb.unique hl⟩
      · obtain ⟨t, ht⟩ := low_exists h0
        obtain ⟨q, hq, e⟩ := sp_low hk' hd2 h ht
        have hne : r ≠ t := by rw [← e]; exact hd1 q hq
        have hv : v = (v ^^^ b) ^^^ b := (xr4 v b).symm
        rcases Nat.lt_or_gt_of_ne hne with hlt | hlt
        · have := (low_xor hb ht hlt).2
          rw [← hv] at this
          exact ⟨(r, b), .head _, this.unique hl⟩
        · have := (low_xor ht hb hlt).1
          rw [← hv] at this
          obtain rfl := this.unique hl
          exact wrap ⟨q, hq, e⟩
end Mine
end

section
open PySem PySem.W PyProof.Rows PySem.Spec PySem.SeqAt PySem.Calls
set_option Elab.async false
set_option maxRecDepth 100000
set_option maxHeartbeats 1000000
set_option autoImplicit false
set_option linter.all false
namespace Mine

theorem lookup_none' : ∀ {k : List (Nat × Nat)} {p : Nat}, k.lookup p = none → ∀ q ∈ k, q.1 ≠ p
  | (r, b) :: k, p, h, q, hq => by
    rw [List.lookup_cons] at h
    by_cases e : p = r
    · subst e; simp at h
    · rw [show (p == r) = false by rw [beq_eq_false_iff_ne]; exact e] at h
      rcases List.mem_cons.mp hq with rfl | hq
      · exact fun e' => e e'.symm
      · exact lookup_none' h q hq

/-- clearing ends -/
theorem clr_step {k : List (Nat × Nat)} {b : Nat} (hk : ∀ q ∈ k, IsLow q.2 q.1 ∧ q.2 < 2 ^ b) {z p : Nat} (hz : z.testBit b = true) (hp : IsLow z p)
    (next : ∀ z1 p1 : Nat, z1.testBit b = true → IsLow z1 p1 → p < p1 → p1 ≤ b → ∃ m z', Clr k m z1 z') : ∃ m z', Clr k m z z' := by
  cases e : k.lookup p with
  | none => exact ⟨0, z, .done hp (lookup_none' e)⟩
  | some y =>
    obtain ⟨hl, hy⟩ := hk _ (lookup_mem e)
    have hz' : (z ^^^ y).testBit b = true := by
      rw [Nat.testBit_xor, hz, Nat.testBit_lt_two_pow hy]; rfl
    have hn0 : z ^^^ y ≠ 0 := by intro h; rw [h] at hz'; simp at hz'
    obtain ⟨p', hp'⟩ := low_exists hn0
    have hpp : p < p' := by
      rcases Nat.lt_trichotomy p p' with h | h | h
      · exact h
      · subst h; have := hp'.1; rw [Nat.testBit_xor, hp.1, hl.1] at this; cases this
      · have := hp'.1; rw [Nat.testBit_xor, hp.2 p' h, hl.2 p' h] at this; cases this
    have hpb' : p' ≤ b := by
      rcases Nat.lt_or_ge b p' with h | h
      · have := hp'.2 b h; rw [hz'] at this; cases this
      · exact h
    obtain ⟨m, z', h⟩ := next _ p' hz' hp' hpp hpb'
    exact ⟨m + 1, z', .step hp e h⟩
theorem clr_exists {k : List (Nat × Nat)} {b : Nat} (hk : ∀ q ∈ k, IsLow q.2 q.1 ∧ q.2 < 2 ^ b) : ∀ (d z p : Nat), z.testBit b = true → IsLow z p → b ≤ p + d → ∃ m z', Clr k m z z'
  | 0, _, _, hz, hp, hd => clr_step hk hz hp fun _ _ _ _ h1 h2 => absurd (Nat.lt_of_lt_of_le h1 h2) (Nat.not_lt.mpr hd)
  | d + 1, _, _, hz, hp, hd => clr_step hk hz hp fun z1 p1 a b h1 _ => clr_exists hk d z1 p1 a b (by omega)
theorem clr_inv {k : List (Nat × Nat)} {J : Nat → Prop} (hJ : ∀ z q, q ∈ k → J z → J (z ^^^ q.2)) {m z z' : Nat} (h : Clr k m z z') (hz : J z) : J z' := by
  induction h with
  | done _ _ => exact hz
  | step _ h2 _ ih => exact ih (hJ _ _ (lookup_mem h2) hz)

structure RI (c : Nat) (xs : List Nat) (k : List (Nat × Nat)) (f : List Nat) : Prop where
  klow : ∀ q ∈ k, IsLow q.2 q.1 ∧ q.1 < c ∧ q.2 < 2 ^ (c + xs.length) ∧ q.2 % 2 ^ c = comb xs (q.2 / 2 ^ c)
  kdist : k.Pairwise (fun a b => a.1 ≠ b.1)
  span : ∀ x ∈ xs, Sp (k.map fun q => q.2 % 2 ^ c) x
  fnd : ∀ s ∈ f, s ≠ 0 ∧ s < 2 ^ xs.length ∧ comb xs s = 0
  inc : f.Pairwise (fun a b => a.log2 < b.log2)
  has : ∀ t x, xs[t]? = some x → Sp (xs.take t) x → ∃ s ∈ f, s.log2 = t
  cnt : f.length = dc xs.reverse

theorem RI.nil (c : Nat) : RI c [] [] [] :=
  ⟨nofun, .nil, nofun, nofun, .nil, fun t x h => by simp at h, rfl⟩

theorem comb_app_low {xs : List Nat} (x : Nat) {s : Nat} (h : s < 2 ^ xs.length) : comb (xs ++ [x]) s = comb xs s := by
  rw [comb_append, Nat.testBit_lt_two_pow h]; simp

theorem low_mod {z p c : Nat} (h : IsLow z p) (hp : p < c) : IsLow (z % 2 ^ c) p := by
  refine ⟨?_, fun q hq => ?_⟩
  · rw [Nat.testBit_mod_two_pow]; simp [hp, h.1]
  · rw [Nat.testBit_mod_two_pow, h.2 q hq]; simp

theorem RI.has_app {xs : List Nat} {x : Nat} {f : List Nat} (h : ∀ t x, xs[t]? = some x → Sp (xs.take t) x → ∃ s ∈ f, s.log2 = t) (hx : ¬ Sp xs x ∨ ∃ s ∈ f, s.log2 = xs.length) :
    ∀ t y, (xs ++ [x])[t]? = some y → Sp ((xs ++ [x]).take t) y → ∃ s ∈ f, s.log2 = t := by
  intro t y e hs
  rcases Nat.lt_trichotomy t xs.length with ht | ht | ht
  · rw [List.getElem?_append_left ht] at e
    rw [List.take_append_of_le_length (by omega)] at hs
    exact h t y e hs
  · subst ht
    rw [List.getElem?_append_right (Nat.le_refl _), Nat.sub_self] at e
    rw [List.take_left'] at hs
    · have e' : x = y := by simpa using e
      subst e'
      rcases hx with hx | hx
      · exact absurd hs hx
      · exact hx
    · rfl
  · rw [List.getElem?_eq_none (by simp; omega)] at e; cases e

theorem log2_of {s i : Nat} (h1 : s.testBit i = true) (h2 : s < 2 ^ (i + 1)) : s.log2 = i := by
  have h0 : s ≠ 0 := by rintro rfl; simp at h1
  rw [Nat.log2_eq_iff h0]
  exact ⟨Nat.ge_two_pow_of_testBit h1, h2⟩

theorem run_step {c : Nat} {xs : List Nat} {k : List (Nat × Nat)} {f : List Nat} (R : RI c xs k f) {x : Nat} (hx : x < 2 ^ c) :
    ∃ k' f', StepR c xs.length x k f k' f' ∧ RI c (xs ++ [x]) k' f' ∧ ((Sp xs x ∧ ∃ s, f' = f ++ [s] ∧ s.log2 = xs.length) ∨ (¬ Sp xs x ∧ f' = f)) := by
  have hz0 : (2 ^ c * 2 ^ xs.length + x).testBit (c + xs.length) = true := by
    rw [zbit c _ x _ hx, if_neg (by omega), show c + xs.length - c = xs.length by omega, Nat.testBit_two_pow_self]
  have hzlt : 2 ^ c * 2 ^ xs.length + x < 2 ^ (c + xs.length + 1) := by
    have h1 : (2 : Nat) ^ (c + xs.length + 1) = 2 ^ c * 2 ^ xs.length + 2 ^ c * 2 ^ xs.length := by rw [← Nat.pow_add, Nat.pow_succ]; omega
    have h2 : 2 ^ c ≤ 2 ^ c * 2 ^ xs.length := Nat.le_mul_of_pos_right _ (Nat.two_pow_pos _)
    omega
  obtain ⟨p0, hp0⟩ := low_exists (z := 2 ^ c * 2 ^ xs.length + x) (by intro h; rw [h] at hz0; simp at hz0)
  obtain ⟨m, z', hc⟩ := clr_exists (fun q hq => ⟨(R.klow q hq).1, (R.klow q hq).2.2.1⟩) (c + xs.length) _ p0 hz0 hp0 (by omega)
  have hlt : z' < 2 ^ (c + xs.length + 1) := clr_lt (fun q hq => Nat.lt_of_lt_of_le (R.klow q hq).2.2.1 (Nat.pow_le_pow_right (by decide) (by omega))) hc hzlt
  have hbit : z'.testBit (c + xs.length) = true := by rw [← clr_bit (fun q hq => (R.klow q hq).2.2.1) hc]; exact hz0
  obtain ⟨p, hp, hpk⟩ := clr_low hc
  have hqs : ∀ q ∈ k, q.2 / 2 ^ c < 2 ^ xs.length := fun q hq => Nat.div_lt_of_lt_mul (by rw [← Nat.pow_add]; exact (R.klow q hq).2.2.1)
  have hJ : z' % 2 ^ c = comb (xs ++ [x]) (z' / 2 ^ c) ∧ Sp (k.map fun q => q.2 % 2 ^ c) (z' % 2 ^ c ^^^ x) := by
    refine clr_inv (J := fun z => z % 2 ^ c = comb (xs ++ [x]) (z / 2 ^ c) ∧ Sp (k.map fun q => q.2 % 2 ^ c) (z % 2 ^ c ^^^ x)) (fun z q hq hz => ?_) hc ?_
    · obtain ⟨h1, h2⟩ := hz
      refine ⟨?_, ?_⟩
      · rw [Nat.xor_mod_two_pow, Nat.xor_div_two_pow, comb_xor, h1, (R.klow q hq).2.2.2, comb_app_low x (hqs q hq)]
      · rw [Nat.xor_mod_two_pow, xr1]
        exact h2.xor (Sp.mem (List.mem_map.mpr ⟨q, hq, rfl⟩))
    · have e1 : (2 ^ c * 2 ^ xs.length + x) % 2 ^ c = x := by rw [Nat.mul_add_mod, Nat.mod_eq_of_lt hx]
      have e2 : (2 ^ c * 2 ^ xs.length + x) / 2 ^ c = 2 ^ xs.length := by
        rw [Nat.mul_add_div (Nat.two_pow_pos c), Nat.div_eq_of_lt hx, Nat.add_zero]
      rw [e1, e2]
      refine ⟨?_, by rw [Nat.xor_self]; exact Sp.zero⟩
      have := comb_high xs 1
      rw [Nat.mul_one] at this
      rw [comb_append, this, Nat.testBit_two_pow_self]; simp
  obtain ⟨hJ1, hJ2⟩ := hJ
  have fnd' : ∀ s ∈ f, s ≠ 0 ∧ s < 2 ^ (xs ++ [x]).length ∧ comb (xs ++ [x]) s = 0 := fun s hs => by
    obtain ⟨h1, h2, h3⟩ := R.fnd s hs
    refine ⟨h1, Nat.lt_of_lt_of_le h2 (Nat.pow_le_pow_right (by decide) (by simp)), by rw [comb_app_low x h2, h3]⟩
  have klow' : ∀ q ∈ k, IsLow q.2 q.1 ∧ q.1 < c ∧ q.2 < 2 ^ (c + (xs ++ [x]).length) ∧ q.2 % 2 ^ c = comb (xs ++ [x]) (q.2 / 2 ^ c) := fun q hq => by
    obtain ⟨h1, h2, h3, h4⟩ := R.klow q hq
    exact ⟨h1, h2, Nat.lt_of_lt_of_le h3 (Nat.pow_le_pow_right (by decide) (by simp)), by rw [comb_app_low x (hqs q hq), h4]⟩
  have hrev : (xs ++ [x]).reverse = x :: xs.reverse := by simp
  have hsr : Sp xs.reverse x ↔ Sp xs x := Sp.perm (List.reverse_perm xs) x
  by_cases hpc : p < c
  · have hns : ¬ Sp xs x := fun hs => by
      have h1 : Sp (k.map fun q => q.2 % 2 ^ c) x := Sp.sub R.span hs
      have h2 := hJ2.xor h1
      rw [xr4] at h2
      have h3 : Sp ((k.map fun q => (q.1, q.2 % 2 ^ c)).map (·.2)) (z' % 2 ^ c) := by rw [List.map_map]; exact h2
      obtain ⟨q, hq, e⟩ := sp_low (fun q hq => by
        obtain ⟨q', hq', rfl⟩ := List.mem_map.mp hq
        exact low_mod (R.klow q' hq').1 (R.klow q' hq').2.1) (by rw [List.pairwise_map]; exact R.kdist) h3 (low_mod hp hpc)
      obtain ⟨q', hq', rfl⟩ := List.mem_map.mp hq
      exact hpk q' hq' e
    refine ⟨k ++ [(p, z')], f, ⟨m, z', hc, .inl ⟨p, hp, hpc, rfl, rfl⟩⟩, ⟨?_, ?_, ?_, fnd', R.inc, RI.has_app R.has (.inl hns), ?_⟩, .inr ⟨hns, rfl⟩⟩
    · intro q hq
      rcases List.mem_append.mp hq with hq | hq
      · exact klow' q hq
      · rw [List.mem_singleton.mp hq]
        exact ⟨hp, hpc, by rw [List.length_append]; exact hlt, hJ1⟩
    · rw [List.pairwise_append]
      refine ⟨R.kdist, List.pairwise_singleton _ _, fun a ha b hb => ?_⟩
      rw [List.mem_singleton.mp hb]; exact hpk a ha
    · rw [List.map_append]
      have hmono : ∀ v, Sp (k.map fun q => q.2 % 2 ^ c) v → Sp ((k.map fun q => q.2 % 2 ^ c) ++ [(p, z')].map fun q => q.2 % 2 ^ c) v := fun v hv => hv.mono fun y hy => List.mem_append_left _ hy
      intro y hy
      rcases List.mem_append.mp hy with hy | hy
      · exact hmono _ (R.span y hy)
      · rw [List.mem_singleton.mp hy]
        have h1 := (hmono _ hJ2).xor (Sp.mem (List.mem_append_right _ (List.mem_singleton.mpr rfl) : z' % 2 ^ c ∈ (k.map fun q => q.2 % 2 ^ c) ++ [(p, z')].map fun q => q.2 % 2 ^ c))
        rw [Nat.xor_comm, xr5] at h1; exact h1
    · rw [hrev, R.cnt]
      simp only [dc]
      rw [if_neg (mt hsr.mp hns), Nat.zero_add]
  · have hmod : z' % 2 ^ c = 0 := by
      refine Nat.eq_of_testBit_eq fun i => ?_
      rw [Nat.testBit_mod_two_pow, Nat.zero_testBit]
      by_cases hi : i < c
      · rw [hp.2 i (by omega)]; simp
      · simp [hi]
    have hslt : z' / 2 ^ c < 2 ^ (xs.length + 1) := Nat.div_lt_of_lt_mul (by rw [← Nat.pow_add]; exact hlt)
    have hsb : (z' / 2 ^ c).testBit xs.length = true := by rw [Nat.testBit_div_two_pow, Nat.add_comm]; exact hbit
    have hlog := log2_of hsb hslt
    have hs0 : z' / 2 ^ c ≠ 0 := by intro h; rw [h] at hsb; simp at hsb
    rw [hmod] at hJ1
    have hsx : Sp xs x := by
      have h1 := hJ1
      rw [comb_append, hsb, if_pos rfl] at h1
      rw [← xr0 h1.symm]; exact comb_Sp _ _
    refine ⟨k, f ++ [z' / 2 ^ c], ⟨m, z', hc, .inr ⟨hmod, rfl, rfl⟩⟩, ⟨klow', R.kdist, ?_, ?_, ?_, RI.has_app (fun t y e hs => ?_) (.inr ⟨_, List.mem_append_right _ (List.mem_singleton.mpr rfl), hlog⟩), ?_⟩, .inl ⟨hsx, _, rfl, hlog⟩⟩
    · intro y hy
      rcases List.mem_append.mp hy with hy | hy
      · exact R.span y hy
      · rw [List.mem_singleton.mp hy]; exact Sp.sub R.span hsx
    · intro s hs
      rcases List.mem_append.mp hs with hs | hs
      · exact fnd' s hs
      · rw [List.mem_singleton.mp hs]
        exact ⟨hs0, by rw [List.length_append]; exact hslt, hJ1.symm⟩
    · rw [List.pairwise_append]
      refine ⟨R.inc, List.pairwise_singleton _ _, fun a ha b hb => ?_⟩
      rw [List.mem_singleton.mp hb, hlog]
      exact (Nat.log2_lt (R.fnd a ha).1).mpr (R.fnd a ha).2.1
    · obtain ⟨s, hs', e'⟩ := R.has t y e hs
      exact ⟨s, List.mem_append_left _ hs', e'⟩
    · rw [hrev, List.length_append, R.cnt]
      simp only [dc]
      rw [if_pos (hsr.mpr hsx)]; simp; omega

theorem runR_snoc {c : Nat} : ∀ {xs : List Nat} {i : Nat} {k f k1 f1 x k2 f2}, RunR c i xs k f k1 f1 → StepR c (i + xs.length) x k1 f1 k2 f2 → RunR c i (xs ++ [x]) k f k2 f2
  | [], i, _, _, _, _, _, _, _, h, s => by
    obtain ⟨h1, h2⟩ := h
    subst h1 h2; exact ⟨_, _, s, rfl, rfl⟩
  | y :: xs, i, _, _, _, _, _, _, _, h, s => by
    obtain ⟨k', f', s1, r⟩ := h
    exact ⟨k', f', s1, runR_snoc r (by rw [List.length_cons, ← Nat.add_assoc, Nat.add_right_comm] at s; exact s)⟩

theorem run_from {c : Nat} : ∀ (ys : List Nat) {xs : List Nat} {k : List (Nat × Nat)} {f : List Nat}, RI c xs k f → RunR c 0 xs [] [] k f → (∀ y ∈ ys, y < 2 ^ c) → ∃ k' f', RunR c 0 (xs ++ ys) [] [] k' f' ∧ RI c (xs ++ ys) k' f'
  | [], xs, k, f, R, r, _ => ⟨k, f, by rw [List.append_nil]; exact r, by rw [List.append_nil]; exact R⟩
  | y :: ys, xs, k, f, R, r, h => by
    obtain ⟨k1, f1, s, R1, _⟩ := run_step R (h y (.head _))
    obtain ⟨k2, f2, r2, R2⟩ := run_from ys R1 (runR_snoc r (by rw [Nat.zero_add]; exact s)) fun z hz => h z (.tail _ hz)
    rw [List.append_assoc] at r2 R2
    exact ⟨k2, f2, r2, R2⟩
theorem run_all (c : Nat) (xs : List Nat) (h : ∀ y ∈ xs, y < 2 ^ c) : ∃ k f, RunR c 0 xs [] [] k f ∧ RI c xs k f := by
  have := run_from xs (RI.nil c) ⟨rfl, rfl⟩ h
  simpa using this

/-! putting together of lots -/
theorem left_aux {n : Nat} {xs : List Nat} : ∀ (ss : List Nat) (u : Nat) (D : Nat → Prop), ss.Pairwise (fun a b => b.log2 < a.log2) → (∀ s ∈ ss, s ≠ 0 ∧ comb xs s = 0 ∧ s < 2 ^ n) → u < 2 ^ n → (u = 0 ∨ ¬ D u.log2) → (∀ t, D t → ∀ s ∈ ss, s.log2 < t) →
    comb xs (leftOf u ss) = comb xs u ∧ leftOf u ss < 2 ^ n ∧ (leftOf u ss = 0 ∨ (¬ D (leftOf u ss).log2 ∧ ∀ s ∈ ss, (leftOf u ss).log2 ≠ s.log2))
  | [], u, D, _, _, hu, h, _ => ⟨rfl, hu, h.imp id fun h => ⟨h, nofun⟩⟩
  | s :: ss, u, D, hp, hs, hu, h, hD => by
    obtain ⟨hp1, hp2⟩ := List.pairwise_cons.mp hp
    obtain ⟨s0, sc, sn⟩ := hs s (.head _)
    have hs' : ∀ s ∈ ss, s ≠ 0 ∧ comb xs s = 0 ∧ s < 2 ^ n := fun z hz => hs z (.tail _ hz)
    have hD' : ∀ t, (D t ∨ t = s.log2) → ∀ z ∈ ss, z.log2 < t := by
      rintro t (ht | rfl) z hz
      · exact hD t ht z (.tail _ hz)
      · exact hp1 z hz
    have fin : ∀ r, (r = 0 ∨ (¬ (D r.log2 ∨ r.log2 = s.log2) ∧ ∀ z ∈ ss, r.log2 ≠ z.log2)) → (r = 0 ∨ (¬ D r.log2 ∧ ∀ z ∈ s :: ss, r.log2 ≠ z.log2)) := by
      rintro r (hr | ⟨h1, h2⟩)
      · exact .inl hr
      · refine .inr ⟨fun h => h1 (.inl h), fun z hz => ?_⟩
        rcases List.mem_cons.mp hz with rfl | hz
        · exact fun h => h1 (.inr h)
        · exact h2 z hz
    rw [leftOf]
    by_cases hc : u ≠ 0 ∧ s.log2 = u.log2
    · rw [if_pos hc]
      have hx := top_xor hc.1 s0 hc.2
      have hux : u ^^^ s < 2 ^ n := Nat.xor_lt_two_pow hu sn
      obtain ⟨e1, e2, e3⟩ := left_aux ss (u ^^^ s) (fun t => D t ∨ t = s.log2) hp2 hs' hux (by
        by_cases h0 : u ^^^ s = 0
        · exact .inl h0
        · right
          have hlt : (u ^^^ s).log2 < s.log2 := by rw [hc.2]; exact (Nat.log2_lt h0).mpr hx
          rintro (h | h)
          · have := hD _ h s (.head _); omega
          · omega) hD'
      exact ⟨by rw [e1, comb_xor, sc, Nat.xor_zero], e2, fin _ e3⟩
    · rw [if_neg hc]
      obtain ⟨e1, e2, e3⟩ := left_aux ss u (fun t => D t ∨ t = s.log2) hp2 hs' hu (by
        rcases h with h | h
        · exact .inl h
        · by_cases h0 : u = 0
          · exact .inl h0
          · exact .inr fun h' => h'.elim h fun e => hc ⟨h0, e.symm⟩) hD'
      exact ⟨e1, e2, fin _ e3⟩

theorem left_zero {c : Nat} {xs : List Nat} {k : List (Nat × Nat)} {f : List Nat} (R : RI c xs k f) {v : Nat} (hv : v < 2 ^ xs.length) : leftOf v f.reverse = 0 ↔ comb xs v = 0 := by
  obtain ⟨h1, h2, h3⟩ := left_aux (n := xs.length) (xs := xs) f.reverse v (fun _ => False) (by rw [List.pairwise_reverse]; exact R.inc) (fun s hs => by
    obtain ⟨a, b, c⟩ := R.fnd s (List.mem_reverse.mp hs); exact ⟨a, c, b⟩) hv (.inr id) (fun _ h => h.elim)
  constructor
  · intro h; rw [← h1, h, comb_zero]
  · intro h
    refine Decidable.byContradiction fun h0 => ?_
    rw [h] at h1
    rcases h3 with h3 | ⟨_, h3⟩
    · exact h0 h3
    generalize leftOf v f.reverse = r at *
    have htn : r.log2 < xs.length := (Nat.log2_lt h0).mpr h2
    have e : xs[r.log2]? = some xs[r.log2] := List.getElem?_eq_getElem htn
    have hr2 : r < 2 ^ (r.log2 + 1) := Nat.lt_log2_self
    rw [comb_take xs (r.log2 + 1) r hr2, List.take_add_one, e] at h1
    simp only [Option.toList_some] at h1
    rw [comb_append, List.length_take, Nat.min_eq_left (Nat.le_of_lt htn), Nat.testBit_log2 h0, if_pos rfl] at h1
    obtain ⟨s, hs, hs2⟩ := R.has _ _ e (by rw [← xr0 h1]; exact comb_Sp _ _)
    exact h3 s (List.mem_reverse.mpr hs) hs2.symm
end Mine
end

section
open PySem PySem.W PyProof.Rows PySem.Spec PySem.SeqAt PySem.Calls
set_option Elab.async false
set_option maxRecDepth 100000
set_option maxHeartbeats 1000000
set_option autoImplicit false
set_option linter.all false
namespace Mine

/-! numbers as lists of exponents -/
noncomputable def mk : List Nat → Nat
  | [] => 0
  | e :: es => e % 2 + 2 * mk es
noncomputable def vsum : List (List Nat) → List Nat
  | [] => [0, 0, 0, 0, 0, 0]
  | es :: L => List.zipWith (· + ·) es (vsum L)
noncomputable def xorL : List Nat → Nat
  | [] => 0
  | x :: l => x ^^^ xorL l

theorem pr_zip : ∀ (ps es fs : List Nat), es.length = ps.length → fs.length = ps.length → pr ps (List.zipWith (· + ·) es fs) = pr ps es * pr ps fs
  | [], [], [], _, _ => rfl
  | p :: ps, e :: es, f :: fs, h1, h2 => by
    simp only [List.zipWith_cons_cons, pr]
    rw [pr_zip ps es fs (by simpa using h1) (by simpa using h2), Nat.pow_add]
    generalize p ^ e = a
    generalize p ^ f = b
    generalize pr ps es = c
    generalize pr ps fs = d
    rw [Nat.mul_assoc, Nat.mul_assoc, Nat.mul_left_comm b]
  | [], _ :: _, _, h, _ => by simp at h
  | _ :: _, [], _, h, _ => by simp at h
  | [], [], _ :: _, _, h => by simp at h
  | _ :: _, _ :: _, [], _, h => by simp at h
theorem vsum_len : ∀ {L : List (List Nat)}, (∀ es ∈ L, es.length = 6) → (vsum L).length = 6
  | [], _ => rfl
  | es :: L, h => by
    rw [vsum, List.length_zipWith, h es (.head _), vsum_len fun fs hf => h fs (.tail _ hf)]; rfl
theorem prodL_vsum : ∀ {L : List (List Nat)}, (∀ es ∈ L, es.length = 6) → prodL (L.map (pr P6)) = pr P6 (vsum L)
  | [], _ => rfl
  | es :: L, h => by
    rw [List.map_cons, prodL, prodL_vsum fun fs hf => h fs (.tail _ hf), vsum, pr_zip P6 es (vsum L) (h es (.head _)) (vsum_len fun fs hf => h fs (.tail _ hf))]
theorem mk_zip : ∀ (es fs : List Nat), es.length = fs.length → mk (List.zipWith (· + ·) es fs) = mk es ^^^ mk fs
  | [], [], _ => rfl
  | e :: es, f :: fs, h => by
    simp only [List.zipWith_cons_cons, mk]
    rw [mk_zip es fs (by simpa using h)]
    generalize mk es = a
    generalize mk fs = b
    have h1 := Nat.div_add_mod ((e % 2 + 2 * a) ^^^ (f % 2 + 2 * b)) 2
    rw [Nat.xor_div_two, half_two, half_two] at h1
    have h2 : ((e % 2 + 2 * a) ^^^ (f % 2 + 2 * b)) % 2 = (e + f) % 2 := by
      have h3 := @Nat.xor_mod_two_eq_one (e % 2 + 2 * a) (f % 2 + 2 * b)
      rw [Nat.add_mul_mod_self_left, Nat.add_mul_mod_self_left, Nat.mod_mod, Nat.mod_mod] at h3
      have h4 := Nat.mod_two_eq_zero_or_one ((e % 2 + 2 * a) ^^^ (f % 2 + 2 * b))
      rw [Nat.add_mod e f]
      generalize ((e % 2 + 2 * a) ^^^ (f % 2 + 2 * b)) % 2 = X at h3 h4 ⊢
      rcases Nat.mod_two_eq_zero_or_one e with he | he <;> rcases Nat.mod_two_eq_zero_or_one f with hf | hf <;> rw [he, hf] at h3 ⊢
      · exact h4.resolve_right fun h => absurd (h3.mp h) (by decide)
      · exact h3.mpr (by decide)
      · exact h3.mpr (by decide)
      · exact h4.resolve_right fun h => absurd (h3.mp h) (by decide)
    rw [← h2, Nat.add_comm]; exact h1
  | [], _ :: _, h => by simp at h
  | _ :: _, [], h => by simp at h
theorem mk_vsum : ∀ {L : List (List Nat)}, (∀ es ∈ L, es.length = 6) → mk (vsum L) = xorL (L.map mk)
  | [], _ => rfl
  | es :: L, h => by
    rw [vsum, mk_zip _ _ (by rw [h es (.head _), vsum_len fun fs hf => h fs (.tail _ hf)]), mk_vsum fun fs hf => h fs (.tail _ hf)]; rfl
noncomputable def mb : Nat → Nat → List Nat
  | 0, _ => []
  | n + 1, m => m % 2 :: mb n (m / 2)
theorem mb_mk : ∀ (es : List Nat), mb es.length (mk es) = es.map (· % 2)
  | [] => rfl
  | e :: es => by
    simp only [List.length_cons, mb, mk, List.map_cons]
    rw [mod_two, half_two, mb_mk es]
theorem mk_mb : ∀ (n m : Nat), m < 2 ^ n → mk (mb n m) = m
  | 0, m, h => by
    have : m = 0 := by simpa using h
    subst this; rfl
  | n + 1, m, h => by
    simp only [mb, mk]
    rw [mk_mb n (m / 2) (half_lt h), Nat.mod_mod, Nat.mod_add_div]
theorem mb_len : ∀ (n m : Nat), (mb n m).length = n
  | 0, _ => rfl
  | n + 1, m => by simp [mb, mb_len n]

/-- the number of a mask -/
noncomputable def sf (m : Nat) : Nat := pr P6 (mb 6 m)
noncomputable def isf (x : Nat) : Nat := (if x % 2 = 0 then 1 else 0) + (if x % 3 = 0 then 2 else 0) + (if x % 5 = 0 then 4 else 0) + (if x % 7 = 0 then 8 else 0) + (if x % 11 = 0 then 16 else 0) + (if x % 13 = 0 then 32 else 0)
theorem isf_sf : ∀ m, m < 64 → isf (sf m) = m := by decide
theorem sf_inj {m m' : Nat} (h : m < 64) (h' : m' < 64) (e : sf m = sf m') : m = m' := by
  rw [← isf_sf m h, ← isf_sf m' h', e]
theorem sf_zero : sf 0 = 1 := by decide
theorem sf_one {m : Nat} (h : m < 64) : sf m = 1 ↔ m = 0 :=
  ⟨fun e => sf_inj h (by decide) (by rw [e, sf_zero]), fun e => by rw [e, sf_zero]⟩
theorem sf_mk {es : List Nat} (h : es.length = 6) : pr P6 (es.map (· % 2)) = sf (mk es) := by
  have := mb_mk es
  rw [h] at this
  unfold sf; rw [this]

theorem bits_mk : ∀ (es : List Nat) (k : Nat), k ≤ es.length → bits k (mk es) = (es.take k).map fun e => ((e % 2 : Nat) : Int)
  | es, 0, _ => by simp [bits]
  | [], k + 1, h => by simp at h
  | e :: es, k + 1, h => by
    have ih := bits_mk es k (by simpa using h)
    unfold bits at ih ⊢
    rw [List.range_succ_eq_map, List.map_cons, List.map_map, List.take_succ_cons, List.map_cons, ← ih]
    congr 1
    · unfold bitI mk
      rw [Nat.testBit_zero]
      rcases Nat.mod_two_eq_zero_or_one e with h0 | h0
      · rw [h0]; simp
      · rw [h0]; simp [Nat.add_mod]
    · refine List.map_congr_left fun i _ => ?_
      show bitI (mk (e :: es)) (i + 1) = bitI (mk es) i
      have key : (mk (e :: es)).testBit (i + 1) = (mk es).testBit i := by
        rw [← Nat.testBit_div_two]
        congr 1
        exact half_two
      unfold bitI
      rw [key]

theorem pr_one : ∀ {ps es : List Nat}, (∀ p ∈ ps, 2 ≤ p) → ps.length = es.length → pr ps es = 1 → ∀ e ∈ es, e = 0
  | [], [], _, _, _, e, he => by simp at he
  | p :: ps, x :: es, hp, hl, h, e, he => by
    simp only [pr] at h
    have h1 := Nat.eq_one_of_mul_eq_one_right h
    have h2 := Nat.eq_one_of_mul_eq_one_left h
    rcases List.mem_cons.mp he with rfl | he
    · refine Decidable.byContradiction fun hne => ?_
      have : 2 ^ e ≤ p ^ e := Nat.pow_le_pow_left (hp p (.head _)) e
      have h3 : 2 ^ 1 ≤ 2 ^ e := Nat.pow_le_pow_right (by decide) (Nat.pos_of_ne_zero hne)
      rw [h1] at this; exact absurd (Nat.le_trans h3 this) (by decide)
    · exact pr_one (fun q hq => hp q (.tail _ hq)) (by simpa using hl) h2 e he
  | [], _ :: _, _, h, _, _, _ => by simp at h
  | _ :: _, [], _, h, _, _, _ => by simp at h
theorem mk_zeros : ∀ {es : List Nat}, (∀ e ∈ es, e = 0) → mk es = 0
  | [], _ => rfl
  | e :: es, h => by
    rw [mk, h e (.head _), mk_zeros fun f hf => h f (.tail _ hf)]
theorem mk_low : ∀ (es : List Nat) (k : Nat), (∀ e ∈ es.drop k, e = 0) → mk es < 2 ^ k
  | es, 0, h => by
    rw [mk_zeros (by simpa using h)]; decide
  | [], k + 1, _ => by rw [mk]; exact Nat.two_pow_pos _
  | e :: es, k + 1, h => by
    have := mk_low es k (by simpa using h)
    rw [mk, Nat.pow_succ]
    refine Nat.lt_of_lt_of_le (Nat.add_lt_add_right (Nat.mod_lt e (by decide)) _) ?_
    rw [Nat.add_comm, ← Nat.mul_succ, Nat.mul_comm]
    exact Nat.mul_le_mul_right 2 this
theorem rest_zero {size : Nat} {es : List Nat} (hs : size ≤ 6) (he : es.length = 6) (h : restOf size es = 1) : ∀ e ∈ es.drop size, e = 0 :=
  pr_one (ps := P6.drop size) (fun p hp => (P6_cut size (by omega) p hp).1) (by rw [List.length_drop, List.length_drop, he]; rfl) h

theorem pr_le : ∀ {ps es : List Nat}, (∀ p ∈ ps, 1 ≤ p) → (∀ e ∈ es, e ≤ 3) → pr ps es ≤ prodL ps ^ 3
  | [], _, _, _ => by simp [pr, prodL]
  | p :: ps, [], hp, _ => by
    simp only [pr]
    refine Nat.one_le_pow _ _ ?_
    have : ∀ {l : List Nat}, (∀ p ∈ l, 1 ≤ p) → 0 < prodL l := by
      intro l
      induction l with
      | nil => intro _; decide
      | cons a l ih => intro h; exact Nat.mul_pos (h a (.head _)) (ih fun q hq => h q (.tail _ hq))
    exact this hp
  | p :: ps, e :: es, hp, he => by
    simp only [pr, prodL]
    rw [Nat.mul_pow]
    exact Nat.mul_le_mul (Nat.pow_le_pow_right (hp p (.head _)) (he e (.head _))) (pr_le (fun q hq => hp q (.tail _ hq)) fun f hf => he f (.tail _ hf))

noncomputable def Good (es : List Nat) : Prop := es.length = 6 ∧ ∀ e ∈ es, e ≤ 3
theorem Good.lt {es : List Nat} (h : Good es) : pr P6 es < 2 ^ 64 :=
  Nat.lt_of_le_of_lt (pr_le (by decide) h.2) (by decide)
theorem good_code (code : Nat) : Good (expsOf code) := by
  refine ⟨rfl, ?_⟩
  intro e he
  simp only [expsOf, List.mem_cons, List.not_mem_nil, or_false] at he
  have k : ∀ a m : Nat, 0 < m → m ≤ 4 → a % m ≤ 3 := fun a m h1 h2 => Nat.le_of_lt_succ (Nat.lt_of_lt_of_le (Nat.mod_lt a h1) h2)
  rcases he with rfl | rfl | rfl | rfl | rfl | rfl <;> exact k _ _ (by decide) (by decide)

/-! what a lot takes -/
noncomputable def ixs (m s : Nat) : List Nat := (List.range m).filter fun i => s.testBit i
theorem ixs_lt {m s i : Nat} (h : i ∈ ixs m s) : i < m := List.mem_range.mp (List.mem_filter.mp h).1
theorem lotL_ixs (m s : Nat) : iL (lotL m s) = (ixs m s).map fun i : Nat => Dv.int (i : Int) := by
  unfold iL lotL ixs; rw [List.map_map]; rfl
noncomputable def selE (ess : List (List Nat)) (s : Nat) : List (List Nat) := (ixs ess.length s).map fun i => ess.getD i []
theorem selE_mem {ess : List (List Nat)} {s : Nat} {es : List Nat} (h : es ∈ selE ess s) : es ∈ ess := by
  obtain ⟨i, hi, rfl⟩ := List.mem_map.mp h
  have := ixs_lt hi
  rw [List.getD_eq_getElem?_getD, List.getElem?_eq_getElem this]
  exact List.getElem_mem this
theorem comb_ixs : ∀ (xs : List Nat) (s : Nat), xorL ((ixs xs.length s).map fun i => xs.getD i 0) = comb xs s
  | [], _ => rfl
  | x :: xs, s => by
    unfold ixs
    rw [List.length_cons, List.range_succ_eq_map, List.filter_cons, comb]
    have ih : xorL ((((List.range xs.length).map Nat.succ).filter fun i => s.testBit i).map fun i => (x :: xs).getD i 0) = comb xs (s / 2) := by
      rw [← comb_ixs xs (s / 2)]
      unfold ixs
      rw [List.filter_map, List.map_map]
      congr 1
      have : (List.filter ((fun i => s.testBit i) ∘ Nat.succ) (List.range xs.length)) = List.filter (fun i => (s / 2).testBit i) (List.range xs.length) := by
        refine List.filter_congr fun i _ => ?_
        show s.testBit (i + 1) = _
        rw [Nat.testBit_div_two]
      rw [this]
      rfl
    cases s.testBit 0
    · rw [if_neg (by decide), if_neg (by decide), ih, Nat.zero_xor]
    · rw [if_pos rfl, if_pos rfl, List.map_cons, xorL, ih]; rfl
theorem mk_sel {ess : List (List Nat)} (h : ∀ es ∈ ess, es.length = 6) (s : Nat) : mk (vsum (selE ess s)) = comb (ess.map mk) s := by
  rw [mk_vsum fun es he => h es (selE_mem he), ← comb_ixs, List.length_map]
  unfold selE
  rw [List.map_map]
  congr 1
  refine List.map_congr_left fun i hi => ?_
  have := ixs_lt hi
  show mk (ess.getD i []) = (ess.map mk).getD i 0
  rw [List.getD_eq_getElem?_getD, List.getD_eq_getElem?_getD, List.getElem?_map, List.getElem?_eq_getElem this]; rfl
theorem nums_sel (ess : List (List Nat)) (s : Nat) : (ixs ess.length s).map (fun i => (ess.map (pr P6)).getD i 0) = (selE ess s).map (pr P6) := by
  unfold selE
  rw [List.map_map]
  refine List.map_congr_left fun i hi => ?_
  have := ixs_lt hi
  show (ess.map (pr P6)).getD i 0 = pr P6 (ess.getD i [])
  rw [List.getD_eq_getElem?_getD, List.getD_eq_getElem?_getD, List.getElem?_map, List.getElem?_eq_getElem this]; rfl
end Mine
end

section
open PySem PySem.W PyProof.Rows PySem.Spec PySem.SeqAt PySem.Calls
set_option Elab.async false
set_option maxRecDepth 100000
set_option maxHeartbeats 1000000
set_option autoImplicit false
set_option linter.all false
namespace Mine

noncomputable def LL (f : List Nat) : List Dv := lotsL 64 f
theorem LL_any {m : Nat} {f : List Nat} (hm : m ≤ 64) (h : ∀ s ∈ f, s < 2 ^ m) : lotsL m f = LL f := by
  unfold LL lotsL
  refine List.map_congr_left fun s hs => ?_
  rw [lotL_any (h s hs) (Nat.lt_of_lt_of_le (h s hs) (Nat.pow_le_pow_right (by decide) hm))]
theorem LL_iLL (f : List Nat) : LL f = iLL (f.map (lotL 64)) := by
  unfold LL lotsL iLL; rw [List.map_map]; rfl
theorem LL_len (f : List Nat) : (LL f).length = f.length := by simp [LL, lotsL]
theorem RI.lt {c : Nat} {xs : List Nat} {k : List (Nat × Nat)} {f : List Nat} (R : RI c xs k f) (h : xs.length ≤ 64) : ∀ s ∈ f, s < 2 ^ 64 := fun s hs =>
  Nat.lt_of_lt_of_le (R.fnd s hs).2.1 (Nat.pow_le_pow_right (by decide) h)
theorem comb_lt {c : Nat} : ∀ {xs : List Nat} (s : Nat), (∀ x ∈ xs, x < 2 ^ c) → comb xs s < 2 ^ c
  | [], _, _ => Nat.two_pow_pos _
  | x :: xs, s, h => by
    rw [comb]
    refine Nat.xor_lt_two_pow ?_ (comb_lt _ fun y hy => h y (.tail _ hy))
    split
    · exact h x (.head _)
    · exact Nat.two_pow_pos _
theorem RI.flen {c : Nat} {xs : List Nat} {k : List (Nat × Nat)} {f : List Nat} (R : RI c xs k f) : f.length ≤ xs.length := by
  rw [R.cnt, ← List.length_reverse]
  generalize xs.reverse = l
  induction l with
  | nil => exact Nat.le_refl _
  | cons x l ih =>
    simp only [dc, List.length_cons]
    split <;> omega

theorem leftOf_lt {n : Nat} : ∀ {ss : List Nat} {v : Nat}, v < 2 ^ n → (∀ s ∈ ss, s < 2 ^ n) → leftOf v ss < 2 ^ n
  | [], _, h, _ => h
  | s :: ss, v, h, hs => by
    rw [leftOf]
    refine leftOf_lt ?_ fun t ht => hs t (.tail _ ht)
    split
    · exact Nat.xor_lt_two_pow h (hs s (.head _))
    · exact h
theorem lotL_mod (m s : Nat) : lotL m s = lotL m (s % 2 ^ m) := by
  unfold lotL
  congr 1
  refine List.filter_congr fun i hi => ?_
  rw [Nat.testBit_mod_two_pow]; simp [List.mem_range.mp hi]
theorem lot_fm (R : List Nat) (z : Nat) : R.filterMap (fun a => if z.testBit a = true then some (Dv.int (a : Int)) else none) = iL ((R.filter fun i => z.testBit i).map fun i : Nat => (i : Int)) := by
  unfold iL
  rw [List.map_map]
  induction R with
  | nil => rfl
  | cons a R ih =>
    rw [List.filterMap_cons, List.filter_cons]
    cases z.testBit a <;> simp [ih]

section
variable {P : PG} {n : Nat} {st : St}

/-- [some[at] for at in a lot] -/
theorem comp_sel {nums : List Nat} {turn : Dv → St → (Option Dv → St → Prop) → Prop} {Q : List Dv → St → Prop} {m s : Nat} (hm : m = nums.length) (hb : nums.length < big)
    (h : ∀ (i : Nat) (K : Option Dv → St → Prop), nth (nL nums) (i : Int) (fun d => K (some d) st) → turn (.int (i : Int)) st K)
    (q : Q (nL ((ixs m s).map fun i => nums.getD i 0)) st) : compL turn (iL (lotL m s)) [] st Q := by
  rw [lotL_ixs]
  refine compL_map (fun i : Nat => Dv.int (i : Int)) (fun i => some (.int ((nums.getD i 0 : Nat) : Int))) st _ _ (fun i hi K hK => h i K ?_) (by rw [filterMap_some, List.nil_append]; exact q)
  have := ixs_lt hi
  refine nth_nL (x := nums.getD i 0) ?_ hb hK
  rw [List.getD_eq_getElem?_getD, List.getElem?_eq_getElem (by omega)]; rfl

/-- the parted whole of a lot -/
theorem goes_part (T : Txs P) {c s x : Nat} {ess : List (List Nat)} {xs : List Nat} (hG : ∀ es ∈ ess, Good es) (hxs : ess.map mk = xs) {l : Nat} (hel : ess.length = l) {st' : St} {K : Dv → St → Prop} (hs : s < 2 ^ l)
    (hK : K (.int (sf (comb xs s) : Int)) st') :
    CallOK P (n + 3) 23 [.list (nL ((ixs l s).map fun i => (ess.map (pr P6)).getD i 0))] st' fun d st1 => CallOK P (n + 3) 22 [d] st1 fun d' st2 => getOk st2 d' (.int 0) fun d'' => K d'' st2 := by
  have hG6 : ∀ es ∈ ess, es.length = 6 := fun es h => (hG es h).1
  subst hel
  rw [nums_sel]
  refine (c_law_whole T ?_).up (by decide) ?_
  · intro y hy
    obtain ⟨es, he, rfl⟩ := List.mem_map.mp hy
    exact (hG es (selE_mem he)).lt
  rw [prodL_vsum fun es he => hG6 es (selE_mem he)]
  have h6 : (vsum (selE ess s)).length = 6 := vsum_len fun es he => hG6 es (selE_mem he)
  refine (c_law_parted T h6).up (by decide) ?_
  refine ⟨0, _, .inl rfl, rfl, by simp [big], ?_⟩
  rw [sf_mk h6, mk_sel hG6, hxs]; exact hK

theorem form_bit (form i : Nat) : (((form / 2 ^ i % 2 : Nat) : Int) == 1) = form.testBit i := by
  rw [Nat.testBit_eq_decide_div_mod_eq, Bool.eq_iff_iff]
  simp only [beq_iff_eq, decide_eq_true_eq]
  exact ⟨fun h => Int.ofNat.inj h, fun h => congrArg Int.ofNat h⟩

theorem goes_tail (T : Txs P) {c form rs x : Nat} {ess : List (List Nat)} {xs0 : List Nat} {k : List (Nat × Nat)} {f : List Nat}
    (hG : ∀ es ∈ ess, Good es) (hxs : ess.map mk = xs0 ++ [x]) (hc : c ≤ 6) (hlt : ∀ y ∈ xs0 ++ [x], y < 2 ^ c) (hlen : xs0.length < 60) (R : RI c (xs0 ++ [x]) k f)
    (hst : st[rs]? = some (some (.list (nL (ess.map (pr P6)))))) {a2 a4 a6 : Option Dv} {Q : Dv → St → Prop} (q : Q (.bool true) st) :
    wpSs (CallOK P (n + 3)) (tailS (tailS (tailS m_law_goes_on))) [some (.ref rs), some (.list (rowsL c (xs0 ++ [x]))), a2, some (.list (LL f)), a4, some (.int form), a6, none, none, none, none] st fun o _ st' => fin st.length o st' Q := by
  have isS : IsS st (.ref rs) (nL (ess.map (pr P6))) := .inr ⟨_, rfl, hst⟩
  have hel : ess.length = xs0.length + 1 := by have := congrArg List.length hxs; simpa using this
  have hrl : (rowsL c (xs0 ++ [x])).length = xs0.length + 1 := by simp [rowsL]
  have bigr : xs0.length + 1 < big := Nat.lt_of_le_of_lt hlen (by unfold big; decide)
  have hfl := R.flen
  rw [List.length_append] at hfl
  have hfl : f.length ≤ xs0.length + 1 := hfl
  have hR64 := R.lt (by rw [List.length_append]; exact Nat.le_trans hlen (by decide))
  have bigF : ∀ g : List Nat, g.length ≤ xs0.length + 1 → g.length < big := fun g h => Nat.lt_of_le_of_lt h bigr
  have bign : ((ess.map (pr P6))).length < big := by rw [List.length_map, hel]; exact bigr
  have comb64 : ∀ s, comb (xs0 ++ [x]) s < 64 := fun s => Nat.lt_of_lt_of_le (comb_lt s hlt) (Nat.le_trans (Nat.pow_le_pow_right (by decide) hc) (by decide))
  rw [m_law_goes_on, tailS_c, tailS_c, tailS_c]
  refine wp_consI ?_
  simp only [wpE_r1, wpE_r2, wpE_r3, wpE_r4, wpE_r5, wpE_r6, wpE_r7, wpE_r8, wpE_r9, wpE_r10, wpE_r11, wpE_r12, wpE_r13, wpE_r14, wpE_r15, wpE_r16, wpE_r17, wpE_r18, wpE_r19, wpT_r1, wpT_r2, wpT_r3, wpT_r4, wpT_r5, wpTs_r1, wpEo_r1, wpEo_r2, wpEs_r1, wpEs_r2, wpI_r1, wpI_r2, wpI_r3, wpI_r4, wpI_r5, wpI_r6, wpS_r1, wpS_r2, wpS_r3, wpS_r4, wpS_r5, wpS_w, wpS_r7, wpS_r8, wpS_r9, wpS_r10, wpTs_r2, setAll_r1, setAll_r2, List.set_cons_succ, List.set_cons_zero, List.getElem?_cons_zero, List.getElem?_cons_succ, s_eq, s_ne, s_lt, s_le, s_gt, s_ge, s_is1, s_is2, s_isn1, s_isn2, s_neb, s_add, s_sub, s_mul, s_fdiv, s_mod, s_pow, s_lsh, s_rsh, s_and, s_or, s_xor, s_addL, s_mulL, s_backN, s_mkT, s_mkF, s_getL, s_getT, s_tg1, s_tg2, s_len, s_min, s_abs, s_int, s_intb]
  rw [hrl]
  refine ⟨rfl, bigr, by rw [Int.natAbs_natCast]; omega, by simp; omega, ?_⟩
  rw [Int.toNat_natCast]
  refine comp_range (xs0.length + 1) (fun i => if form.testBit i then some (.int (i : Int)) else none) (fun i hi K hK => ?_) ?_
  · simp only [wpE_r1, wpE_r2, wpE_r3, wpE_r4, wpE_r5, wpE_r6, wpE_r7, wpE_r8, wpE_r9, wpE_r10, wpE_r11, wpE_r12, wpE_r13, wpE_r14, wpE_r15, wpE_r16, wpE_r17, wpE_r18, wpE_r19, wpT_r1, wpT_r2, wpT_r3, wpT_r4, wpT_r5, wpTs_r1, wpEo_r1, wpEo_r2, wpEs_r1, wpEs_r2, wpI_r1, wpI_r2, wpI_r3, wpI_r4, wpI_r5, wpI_r6, wpS_r1, wpS_r2, wpS_r3, wpS_r4, wpS_r5, wpS_w, wpS_r7, wpS_r8, wpS_r9, wpS_r10, wpTs_r2, setAll_r1, setAll_r2, List.set_cons_succ, List.set_cons_zero, List.getElem?_cons_zero, List.getElem?_cons_succ, s_eq, s_ne, s_lt, s_le, s_gt, s_ge, s_is1, s_is2, s_isn1, s_isn2, s_neb, s_add, s_sub, s_mul, s_fdiv, s_mod, s_pow, s_lsh, s_rsh, s_and, s_or, s_xor, s_addL, s_mulL, s_backN, s_mkT, s_mkF, s_getL, s_getT, s_tg1, s_tg2, s_len, s_min, s_abs, s_int, s_intb]
    refine ⟨by omega, by omega, by decide, ?_⟩
    have e2 : (2 : Int) ^ ((i : Int)).toNat = ((2 ^ i : Nat) : Int) := by rw [Int.toNat_natCast]; exact powI2 2 i
    rw [e2]
    have hp2 : 2 ^ i < 2 ^ 64 := Nat.pow_lt_pow_right (by decide) (by omega)
    have hp0 : 0 < 2 ^ i := Nat.two_pow_pos i
    refine ⟨by omega, by rw [Int.natAbs_natCast]; exact hp2, ?_⟩
    rw [fdiv_nat]
    refine ⟨by decide, ?_⟩
    have e3 : Int.fmod ((form / 2 ^ i : Nat) : Int) 2 = ((form / 2 ^ i % 2 : Nat) : Int) := fmod_nat _ 2
    rw [e3, form_bit]
    cases hb : form.testBit i with
    | true => rw [hb] at hK; exact hK
    | false => rw [hb] at hK; exact hK
  rw [lot_fm]
  try simp only [back]
  have hpl : ((List.range (xs0.length + 1)).filter fun i => form.testBit i).map (fun i : Nat => (i : Int)) = lotL (xs0.length + 1) (form % 2 ^ (xs0.length + 1)) := lotL_mod _ _
  rw [hpl]
  have hv : form % 2 ^ (xs0.length + 1) < 2 ^ (xs0.length + 1) := Nat.mod_lt _ (Nat.two_pow_pos _)
  generalize form % 2 ^ (xs0.length + 1) = v at hv ⊢
  have hv64 : v < 2 ^ 64 := Nat.lt_of_lt_of_le hv (Nat.pow_le_pow_right (by decide) (Nat.le_trans hlen (by decide)))
  refine wp_consI ?_
  simp only [wpE_r1, wpE_r2, wpE_r3, wpE_r4, wpE_r5, wpE_r6, wpE_r7, wpE_r8, wpE_r9, wpE_r10, wpE_r11, wpE_r12, wpE_r13, wpE_r14, wpE_r15, wpE_r16, wpE_r17, wpE_r18, wpE_r19, wpT_r1, wpT_r2, wpT_r3, wpT_r4, wpT_r5, wpTs_r1, wpEo_r1, wpEo_r2, wpEs_r1, wpEs_r2, wpI_r1, wpI_r2, wpI_r3, wpI_r4, wpI_r5, wpI_r6, wpS_r1, wpS_r2, wpS_r3, wpS_r4, wpS_r5, wpS_w, wpS_r7, wpS_r8, wpS_r9, wpS_r10, wpTs_r2, setAll_r1, setAll_r2, List.set_cons_succ, List.set_cons_zero, List.getElem?_cons_zero, List.getElem?_cons_succ, s_eq, s_ne, s_lt, s_le, s_gt, s_ge, s_is1, s_is2, s_isn1, s_isn2, s_neb, s_add, s_sub, s_mul, s_fdiv, s_mod, s_pow, s_lsh, s_rsh, s_and, s_or, s_xor, s_addL, s_mulL, s_backN, s_mkT, s_mkF, s_getL, s_getT, s_tg1, s_tg2, s_len, s_min, s_abs, s_int, s_intb]
  have hll : CallOK P (n + 3) 25 [.list (iL (lotL (xs0.length + 1) v)), .list (LL f)] st = CallOK P (n + 3) 25 [.list (iL (lotL 64 v)), .list (lotsL 64 f)] st := by rw [lotL_any hv hv64]; rfl
  rw [hll]
  refine (c_law_left T (by decide) hv64 (fun s hs => ⟨(R.fnd s hs).1, hR64 s hs⟩) (by omega)).up (by decide) ?_
  have hr64 : leftOf v f.reverse < 2 ^ 64 := leftOf_lt hv64 fun s hs => hR64 s (List.mem_reverse.mp hs)
  refine ⟨by simp, .inl ⟨lotL 64 (leftOf v f.reverse), [], rfl, rfl, ?_⟩⟩
  refine ⟨rfl, by unfold iL; rw [List.length_map]; exact Nat.le_trans (lotL_length _ v) (Nat.le_trans hlen (by decide)), ?_⟩
  refine comp_sel (nums := ess.map (pr P6)) (by rw [List.length_map, hel]) bign (fun i K hK => by (try dsimp only); rw [isS.get]; exact hK) ?_
  try simp only [back]
  refine goes_part T (c := c) (x := x) hG hxs hel hv ?_
  have hz := left_zero R (v := v) (by rw [List.length_append]; exact hv)
  have hd : decide (lotL 64 (leftOf v f.reverse) = []) = ((sf (comb (xs0 ++ [x]) v) : Int) == 1) := by
    rw [Bool.eq_iff_iff]
    simp only [beq_iff_eq, decide_eq_true_eq]
    rw [lotL_nil hr64, hz, ← sf_one (comb64 v)]
    exact ⟨fun h => congrArg Int.ofNat h, fun h => Int.ofNat.inj h⟩
  rw [s_eq, hd]
  have hself : ∀ b : Bool, (b != b) = false := fun b => by cases b <;> rfl
  rw [hself]
  dsimp only
  refine wp_nilI ?_
  dsimp only
  refine wp_consI ?_
  simp only [wpE_r1, wpE_r2, wpE_r3, wpE_r4, wpE_r5, wpE_r6, wpE_r7, wpE_r8, wpE_r9, wpE_r10, wpE_r11, wpE_r12, wpE_r13, wpE_r14, wpE_r15, wpE_r16, wpE_r17, wpE_r18, wpE_r19, wpT_r1, wpT_r2, wpT_r3, wpT_r4, wpT_r5, wpTs_r1, wpEo_r1, wpEo_r2, wpEs_r1, wpEs_r2, wpI_r1, wpI_r2, wpI_r3, wpI_r4, wpI_r5, wpI_r6, wpS_r1, wpS_r2, wpS_r3, wpS_r4, wpS_r5, wpS_w, wpS_r7, wpS_r8, wpS_r9, wpS_r10, wpTs_r2, setAll_r1, setAll_r2, List.set_cons_succ, List.set_cons_zero, List.getElem?_cons_zero, List.getElem?_cons_succ, s_eq, s_ne, s_lt, s_le, s_gt, s_ge, s_is1, s_is2, s_isn1, s_isn2, s_neb, s_add, s_sub, s_mul, s_fdiv, s_mod, s_pow, s_lsh, s_rsh, s_and, s_or, s_xor, s_addL, s_mulL, s_backN, s_mkT, s_mkF, s_getL, s_getT, s_tg1, s_tg2, s_len, s_min, s_abs, s_int, s_intb]
  obtain ⟨k', f', hr', R'⟩ := run_all c (xs0 ++ [x]).reverse fun y hy => hlt y (List.mem_reverse.mp hy)
  refine ⟨rowsL c (xs0 ++ [x]), rowsL c (xs0 ++ [x]).reverse, rfl, ?_, by rw [hrl]; exact Nat.le_trans hlen (by decide), ?_⟩
  · simp only [sl_to, sl_from, sl_rev, sl_two]
    rw [if_pos (by decide)]; unfold rowsL; rw [List.map_reverse]
  refine (c_without_sum T (xs0 ++ [x]).reverse (by omega) (by simp; omega) (fun y hy => hlt y (List.mem_reverse.mp hy)) hr').up (by decide) ?_
  have hff : f'.length = f.length := by
    rw [R'.cnt, R.cnt, List.reverse_reverse]
    exact dc_perm (List.reverse_perm _).symm
  rw [s_len]
  refine ⟨by simp [lotsL]; have := bigF f (by omega); omega, ?_⟩
  try rw [LL_len]
  refine ⟨bigF _ (by omega), ?_⟩
  rw [s_eq]
  rw [show (((lotsL (xs0 ++ [x]).reverse.length f').length : Int) == (f.length : Int)) = true by
    rw [beq_iff_eq]; simp [lotsL]; omega]
  refine ⟨rfl, ?_⟩
  rw [List.take_length]; exact q

theorem goes_made {xs0 : List Nat} {x : Nat} {PM : List Nat} (hPM : ∀ m, m ∈ PM ↔ Sp xs0 m) (hPM2 : ∀ m ∈ PM, m < 64) (hxlt : x < 64) :
    decide ((sf x : Int) ∈ (PM.map sf).map fun n : Nat => (n : Int)) = @decide (Sp xs0 x) (Classical.propDecidable _) := by
  rw [decide_eq_decide]
  constructor
  · intro h
    obtain ⟨y, hy, e⟩ := List.mem_map.mp h
    obtain ⟨m, hm, rfl⟩ := List.mem_map.mp hy
    have : m = x := sf_inj (hPM2 m hm) hxlt (by exact_mod_cast e)
    subst this
    exact (hPM m).mp hm
  · intro h
    exact List.mem_map.mpr ⟨sf x, List.mem_map.mpr ⟨x, (hPM x).mpr h, rfl⟩, rfl⟩

theorem c_law_goes_on (T : Txs P) {c form rs x : Nat} {ess : List (List Nat)} {xs0 : List Nat} {k : List (Nat × Nat)} {f0 f : List Nat} {PM : List Nat}
    (hG : ∀ es ∈ ess, Good es) (hxs : ess.map mk = xs0 ++ [x]) (hc : c ≤ 6) (hlt : ∀ y ∈ xs0 ++ [x], y < 2 ^ c) (hlen : xs0.length < 60) (R : RI c (xs0 ++ [x]) k f)
    (hf : (Sp xs0 x ∧ ∃ s, f = f0 ++ [s] ∧ s.log2 = xs0.length) ∨ (¬ Sp xs0 x ∧ f = f0)) (hPM : ∀ m, m ∈ PM ↔ Sp xs0 m) (hPM2 : ∀ m ∈ PM, m < 64)
    (hst : st[rs]? = some (some (.list (nL (ess.map (pr P6)))))) {Q : Dv → St → Prop} (q : Q (.bool true) st) :
    CallOK P (n + 4) 26 [.ref rs, .list (rowsL c (xs0 ++ [x])), .list (LL f0), .list (LL f), .list (nL (PM.map sf)), .int (form : Int)] st Q := by
  refine ctr T T.t26 rfl ?_
  have isS : IsS st (.ref rs) (nL (ess.map (pr P6))) := .inr ⟨_, rfl, hst⟩
  have tail := fun {a2 a4 a6 : Option Dv} => goes_tail (n := n) T (form := form) (a2 := a2) (a4 := a4) (a6 := a6) hG hxs hc hlt hlen R hst q
  show wpSs (CallOK P (n + 3)) m_law_goes_on [some (.ref rs), some (.list (rowsL c (xs0 ++ [x]))), some (.list (LL f0)), some (.list (LL f)), some (.list (nL (PM.map sf))), some (.int form), none, none, none, none, none] st _
  have hel : ess.length = xs0.length + 1 := by have := congrArg List.length hxs; simpa using this
  obtain ⟨ess0, ex, rfl⟩ : ∃ l e, ess = l ++ [e] := ⟨ess.dropLast, ess.getLast (by intro h; rw [h] at hel; simp at hel), (List.dropLast_concat_getLast _).symm⟩
  have hx : mk ex = x := by
    rw [List.map_append] at hxs
    have := List.append_inj_right' hxs rfl
    simpa using this
  have hGx : Good ex := hG ex (List.mem_append_right _ (List.mem_singleton.mpr rfl))
  have hxlt : x < 64 := Nat.lt_of_lt_of_le (hlt x (List.mem_append_right _ (List.mem_singleton.mpr rfl))) (Nat.le_trans (Nat.pow_le_pow_right (by decide) hc) (by decide))
  have hrl : (rowsL c (xs0 ++ [x])).length = xs0.length + 1 := by simp [rowsL]
  have bigr : xs0.length + 1 < big := Nat.lt_of_le_of_lt hlen (by unfold big; decide)
  have hfl := R.flen
  rw [List.length_append] at hfl
  have hfl : f.length ≤ xs0.length + 1 := hfl
  have bigF : ∀ g : List Nat, g.length ≤ xs0.length + 1 → g.length < big := fun g h => Nat.lt_of_le_of_lt h bigr
  have hf0l : f0.length ≤ f.length := by rcases hf with ⟨_, s, rfl, _⟩ | ⟨_, rfl⟩ <;> simp
  have hnl : (nL ((ess0 ++ [ex]).map (pr P6))).length = xs0.length + 1 := by rw [nL_length, List.length_map]; exact hel
  have bign : (((ess0 ++ [ex]).map (pr P6))).length < big := by rw [List.length_map, hel]; exact bigr
  rw [m_law_goes_on]
  refine wp_consI ?_
  simp only [wpE_r1, wpE_r2, wpE_r3, wpE_r4, wpE_r5, wpE_r6, wpE_r7, wpE_r8, wpE_r9, wpE_r10, wpE_r11, wpE_r12, wpE_r13, wpE_r14, wpE_r15, wpE_r16, wpE_r17, wpE_r18, wpE_r19, wpT_r1, wpT_r2, wpT_r3, wpT_r4, wpT_r5, wpTs_r1, wpEo_r1, wpEo_r2, wpEs_r1, wpEs_r2, wpI_r1, wpI_r2, wpI_r3, wpI_r4, wpI_r5, wpI_r6, wpS_r1, wpS_r2, wpS_r3, wpS_r4, wpS_r5, wpS_w, wpS_r7, wpS_r8, wpS_r9, wpS_r10, wpTs_r2, setAll_r1, setAll_r2, List.set_cons_succ, List.set_cons_zero, List.getElem?_cons_zero, List.getElem?_cons_succ, s_eq, s_ne, s_lt, s_le, s_gt, s_ge, s_is1, s_is2, s_isn1, s_isn2, s_neb, s_add, s_sub, s_mul, s_fdiv, s_mod, s_pow, s_lsh, s_rsh, s_and, s_or, s_xor, s_addL, s_mulL, s_backN, s_mkT, s_mkF, s_getL, s_getT, s_tg1, s_tg2, s_len, s_min, s_abs, s_int, s_intb]
  rw [isS.get]
  refine ⟨xs0.length, .int (pr P6 ex : Int), .inr (by rw [hnl]; omega), ?_, by rw [hnl]; exact bigr, ?_⟩
  · have : ess0.length = xs0.length := by simpa using hel
    unfold nL
    rw [List.map_map, List.map_append, List.getElem?_append_right (by simp [this]), List.length_map, this, Nat.sub_self]; rfl
  refine (c_law_parted T hGx.1).up (by decide) ?_
  refine ⟨0, _, .inl rfl, rfl, by simp [big], ?_⟩
  rw [sf_mk hGx.1, hx, nL_iL]
  refine ⟨_, rfl, ?_⟩
  rw [goes_made hPM hPM2 hxlt]
  generalize hmd : @decide (Sp xs0 x) (Classical.propDecidable _) = made
  have hmade' : made = true ↔ Sp xs0 x := by rw [← hmd]; exact @decide_eq_true_iff _ (Classical.propDecidable _)
  clear hmd
  try dsimp only
  refine wp_consI ?_
  simp only [wpE_r1, wpE_r2, wpE_r3, wpE_r4, wpE_r5, wpE_r6, wpE_r7, wpE_r8, wpE_r9, wpE_r10, wpE_r11, wpE_r12, wpE_r13, wpE_r14, wpE_r15, wpE_r16, wpE_r17, wpE_r18, wpE_r19, wpT_r1, wpT_r2, wpT_r3, wpT_r4, wpT_r5, wpTs_r1, wpEo_r1, wpEo_r2, wpEs_r1, wpEs_r2, wpI_r1, wpI_r2, wpI_r3, wpI_r4, wpI_r5, wpI_r6, wpS_r1, wpS_r2, wpS_r3, wpS_r4, wpS_r5, wpS_w, wpS_r7, wpS_r8, wpS_r9, wpS_r10, wpTs_r2, setAll_r1, setAll_r2, List.set_cons_succ, List.set_cons_zero, List.getElem?_cons_zero, List.getElem?_cons_succ, s_eq, s_ne, s_lt, s_le, s_gt, s_ge, s_is1, s_is2, s_isn1, s_isn2, s_neb, s_add, s_sub, s_mul, s_fdiv, s_mod, s_pow, s_lsh, s_rsh, s_and, s_or, s_xor, s_addL, s_mulL, s_backN, s_mkT, s_mkF, s_getL, s_getT, s_tg1, s_tg2, s_len, s_min, s_abs, s_int, s_intb]
  rw [LL_len]
  refine ⟨bigF _ (Nat.le_trans hf0l hfl), ?_⟩
  refine ⟨LL f, LL f0, rfl, ?_, by rw [LL_len]; exact Nat.le_trans hfl (Nat.le_trans hlen (by decide)), ?_⟩
  · simp only [sl_to, sl_from, sl_rev, sl_two]
    rw [if_pos (Int.natCast_nonneg _), Int.toNat_natCast]
    congr 1
    rcases hf with ⟨_, s, rfl, _⟩ | ⟨_, rfl⟩
    · unfold LL lotsL; rw [List.map_append, List.take_left']; simp
    · rw [List.take_of_length_le (by rw [LL_len]; exact Nat.le_refl _)]
  refine .inr ⟨_, _, congrArg some (LL_iLL f0), congrArg some (LL_iLL f0), ?_⟩
  rw [decide_eq_true rfl]
  dsimp only [Bool.not_true]
  rw [LL_len]
  refine ⟨bigF _ hfl, bigF _ (Nat.le_trans hf0l hfl), ?_⟩
  have hflen : ((f.length : Int) != (f0.length : Int) + (if made = true then 1 else 0)) = false := by
    rw [bne_eq_false_iff_eq]
    rcases hf with ⟨h, s, rfl, _⟩ | ⟨h, rfl⟩
    · rw [if_pos (hmade'.mpr h)]; simp
    · rw [if_neg (mt hmade'.mp h)]; simp
  rw [hflen]
  try dsimp only
  rw [show (BoolOp.Or == BoolOp.And) = false from rfl]
  try dsimp only
  try refine wp_nilI ?_
  try dsimp only
  refine wp_consI ?_
  simp only [wpE_r1, wpE_r2, wpE_r3, wpE_r4, wpE_r5, wpE_r6, wpE_r7, wpE_r8, wpE_r9, wpE_r10, wpE_r11, wpE_r12, wpE_r13, wpE_r14, wpE_r15, wpE_r16, wpE_r17, wpE_r18, wpE_r19, wpT_r1, wpT_r2, wpT_r3, wpT_r4, wpT_r5, wpTs_r1, wpEo_r1, wpEo_r2, wpEs_r1, wpEs_r2, wpI_r1, wpI_r2, wpI_r3, wpI_r4, wpI_r5, wpI_r6, wpS_r1, wpS_r2, wpS_r3, wpS_r4, wpS_r5, wpS_w, wpS_r7, wpS_r8, wpS_r9, wpS_r10, wpTs_r2, setAll_r1, setAll_r2, List.set_cons_succ, List.set_cons_zero, List.getElem?_cons_zero, List.getElem?_cons_succ, s_eq, s_ne, s_lt, s_le, s_gt, s_ge, s_is1, s_is2, s_isn1, s_isn2, s_neb, s_add, s_sub, s_mul, s_fdiv, s_mod, s_pow, s_lsh, s_rsh, s_and, s_or, s_xor, s_addL, s_mulL, s_backN, s_mkT, s_mkF, s_getL, s_getT, s_tg1, s_tg2, s_len, s_min, s_abs, s_int, s_intb]
  cases made
  · try dsimp only
    try refine wp_nilI ?_
    exact tail
  · try dsimp only
    rw [hrl]
    have hsp : Sp xs0 x := hmade'.mp rfl
    obtain ⟨s, hfe, hsl⟩ : ∃ s, f = f0 ++ [s] ∧ s.log2 = xs0.length := by
      rcases hf with ⟨_, h⟩ | ⟨h, _⟩
      · exact h
      · exact absurd hsp h
    have hsf : s ∈ f := by rw [hfe]; exact List.mem_append_right _ (List.mem_singleton.mpr rfl)
    have hR64 := R.lt (by rw [List.length_append]; exact Nat.le_trans hlen (by decide))
    obtain ⟨hs0, hs1, hs2⟩ := R.fnd s hsf
    rw [List.length_append] at hs1
    have hs1 : s < 2 ^ (xs0.length + 1) := hs1
    have hs64 := hR64 s hsf
    have hlast : ∀ K : Dv → Prop, K (.list (iL (lotL 64 s))) → nth (LL f) (-1) K := fun K hK => by
      refine ⟨f0.length, .list (iL (lotL 64 s)), .inr ?_, ?_, by rw [LL_len]; exact bigF _ (by omega), hK⟩
      · rw [LL_len, hfe, List.length_append]; simp; omega
      · unfold LL lotsL
        rw [hfe, List.map_append, List.getElem?_append_right (by simp), List.length_map, Nat.sub_self]; rfl
    refine hlast _ ?_
    rw [s_getL, lotL_last hs0 hs64]
    refine nth_last ?_ ?_
    · have := lotL_length s.log2 s
      rw [List.length_append]; exact Nat.lt_of_le_of_lt (Nat.succ_le_succ (hsl ▸ this)) bigr
    refine ⟨bigr, ?_⟩
    rw [hsl, s_ne]
    rw [show ((xs0.length : Int) != ((xs0.length + 1 : Nat) : Int) - 1) = false by rw [bne_eq_false_iff_eq]; omega]
    dsimp only
    refine ⟨rfl, hlast _ ?_⟩
    dsimp only
    rw [lotL_any hs64 hs1]
    refine ⟨by unfold iL; rw [List.length_map]; exact Nat.le_trans (lotL_length _ s) (Nat.le_trans hlen (by decide)), ?_⟩
    refine comp_sel (nums := (ess0 ++ [ex]).map (pr P6)) (by rw [List.length_map, hel]) bign (fun i K hK => by (try dsimp only); rw [isS.get]; exact hK) ?_
    try simp only [back]
    refine goes_part T (c := c) (x := x) hG hxs hel hs1 ?_
    rw [hs2, sf_zero, s_ne, show (((1 : Nat) : Int) != 1) = false by decide]
    dsimp only
    try refine wp_nilI ?_
    exact tail
end
end Mine
end

section
open PySem PySem.W PyProof.Rows PySem.Spec PySem.SeqAt PySem.Calls
set_option Elab.async false
set_option maxRecDepth 100000
set_option maxHeartbeats 1000000
set_option autoImplicit false
set_option linter.all false
namespace Mine

theorem Cps_take : ∀ {ps : List Nat} (k : Nat), Cps ps → Cps (ps.take k)
  | [], k, _ => by simp [Cps]
  | p :: ps, 0, _ => by simp [Cps]
  | p :: ps, k + 1, h => by
    rw [List.take_succ_cons]
    exact ⟨h.1, h.2.1, fun q hq => h.2.2.1 q (List.mem_of_mem_take hq), Cps_take k h.2.2.2⟩
theorem rest_cop {size : Nat} {es : List Nat} (hs : size ≤ 6) : ∀ q ∈ P6.take size, Nat.Coprime q (restOf size es) := fun q hq =>
  cop_pr fun p hp => ((P6_cut size (by omega) p hp).2 q hq).symm
theorem P6_take16 : ∀ k, k < 6 → ∀ p ∈ P6.take k, 0 < p ∧ p < 16 := by decide
theorem rest_pos (size : Nat) (es : List Nat) (hs : size ≤ 6) : 0 < restOf size es := by
  unfold restOf
  have : ∀ {ps es : List Nat}, (∀ p ∈ ps, 0 < p) → 0 < pr ps es := by
    intro ps
    induction ps with
    | nil => intro es _; simp [pr]
    | cons p ps ih =>
      intro es h
      cases es with
      | nil => simp [pr]
      | cons e es => exact Nat.mul_pos (Nat.pow_pos (h p (.head _))) (ih fun q hq => h q (.tail _ hq))
  exact this fun p hp => by have := (P6_cut size (by omega) p hp).1; omega

/-- the lots' numbers, taken up by one -/
noncomputable def pmUp (PM : List Nat) (x : Nat) : List Nat := PM ++ PM.map (· ^^^ x)
theorem pmUp_iff {PM xs : List Nat} {x : Nat} (h : ∀ m, m ∈ PM ↔ Sp xs m) (m : Nat) : m ∈ pmUp PM x ↔ Sp (xs ++ [x]) m := by
  have hp : (xs ++ [x]).Perm (x :: xs) := List.perm_append_comm
  rw [Sp.perm hp]
  show _ ↔ (Sp xs m ∨ Sp xs (m ^^^ x))
  unfold pmUp
  rw [List.mem_append, h m]
  refine or_congr Iff.rfl ?_
  rw [← h]
  constructor
  · intro hm
    obtain ⟨m', hm', rfl⟩ := List.mem_map.mp hm
    rw [xr4]; exact hm'
  · intro hm
    exact List.mem_map.mpr ⟨_, hm, xr4 m x⟩
theorem pmUp_lt {PM : List Nat} {x : Nat} (h : ∀ m ∈ PM, m < 64) (hx : x < 64) : ∀ m ∈ pmUp PM x, m < 64 := fun m hm => by
  rcases List.mem_append.mp hm with hm | hm
  · exact h m hm
  · obtain ⟨m', hm', rfl⟩ := List.mem_map.mp hm
    exact Nat.xor_lt_two_pow (n := 6) (h m' hm') hx
theorem sp_same {xs : List Nat} {x : Nat} (h : Sp xs x) (m : Nat) : Sp (xs ++ [x]) m ↔ Sp xs m := by
  have hp : (xs ++ [x]).Perm (x :: xs) := List.perm_append_comm
  rw [Sp.perm hp]; exact sp_cons_of h m
theorem sf_mul {es : List Nat} {m : Nat} (h : es.length = 6) (hm : m < 64) : pr P6 es * sf m = pr P6 (List.zipWith (· + ·) es (mb 6 m)) ∧ (List.zipWith (· + ·) es (mb 6 m)).length = 6 ∧ mk (List.zipWith (· + ·) es (mb 6 m)) = m ^^^ mk es := by
  refine ⟨?_, ?_, ?_⟩
  · rw [pr_zip P6 es _ h (by rw [mb_len]; rfl)]; rfl
  · rw [List.length_zipWith, h, mb_len]; rfl
  · rw [mk_zip _ _ (by rw [h, mb_len]), mk_mb 6 m hm, Nat.xor_comm]

theorem vsum_get : ∀ {L : List (List Nat)} {i : Nat}, (∀ es ∈ L, es.length = 6) → i < 6 → (vsum L).getD i 0 = (L.map fun es => es.getD i 0).sum
  | [], i, _, hi => by
    show [0, 0, 0, 0, 0, 0].getD i 0 = 0
    show (List.replicate 6 0).getD i 0 = 0
    rw [List.getD_eq_getElem?_getD, List.getElem?_replicate, if_pos hi]; rfl
  | es :: L, i, h, hi => by
    have h1 := h es (.head _)
    have h2 := vsum_len fun fs hf => h fs (.tail _ hf)
    rw [List.map_cons, List.sum_cons, ← vsum_get (fun fs hf => h fs (.tail _ hf)) hi, vsum]
    rw [List.getD_eq_getElem?_getD, List.getD_eq_getElem?_getD, List.getD_eq_getElem?_getD, List.getElem?_zipWith, List.getElem?_eq_getElem (by omega : i < es.length), List.getElem?_eq_getElem (by omega : i < (vsum L).length)]; rfl
theorem vsum_drop : ∀ {L : List (List Nat)} {k : Nat}, (∀ es ∈ L, es.length = 6 ∧ ∀ e ∈ es.drop k, e = 0) → ∀ e ∈ (vsum L).drop k, e = 0
  | [], k, _, e, he => by
    have h := List.mem_of_mem_drop he
    simp only [vsum, List.mem_cons, List.not_mem_nil, or_false] at h
    omega
  | es :: L, k, h, e, he => by
    rw [vsum, List.drop_zipWith] at he
    obtain ⟨i, hi, rfl⟩ := List.mem_iff_getElem.mp he
    rw [List.getElem_zipWith]
    rw [List.length_zipWith] at hi
    rw [(h es (.head _)).2 _ (List.getElem_mem _), vsum_drop (fun fs hf => h fs (.tail _ hf)) _ (List.getElem_mem _)]
theorem pr_zeros : ∀ {ps es : List Nat}, (∀ e ∈ es, e = 0) → pr ps es = 1
  | [], _, _ => by simp [pr]
  | p :: ps, [], _ => by simp [pr]
  | p :: ps, e :: es, h => by
    rw [pr, h e (.head _), pr_zeros fun f hf => h f (.tail _ hf)]; simp
/-- the roots by the exponents' halves -/
theorem halves {L : List (List Nat)} {size : Nat} (hs : size ≤ 6) (h : ∀ es ∈ L, es.length = 6 ∧ ∀ e ∈ es.drop size, e = 0) :
    pr (P6.take size) ((List.range size).map fun i => sumAt (L.map fun es => (pr P6 es, es.take size)) i / 2) = pr P6 ((vsum L).map (· / 2)) := by
  have h6 : (vsum L).length = 6 := vsum_len fun es he => (h es he).1
  rw [pr_split P6 ((vsum L).map (· / 2)) size (by rw [List.length_map, h6]; rfl)]
  have hz : pr (P6.drop size) (((vsum L).map (· / 2)).drop size) = 1 := by
    refine pr_zeros fun e he => ?_
    rw [← List.map_drop] at he
    obtain ⟨e', he', rfl⟩ := List.mem_map.mp he
    rw [vsum_drop h e' he']
  rw [hz, Nat.mul_one]
  congr 1
  apply List.ext_getElem
  · simp [h6]; omega
  · intro i h1 h2
    have hi : i < size := by simpa using h1
    simp only [List.getElem_map, List.getElem_range, List.getElem_take]
    have e1 : (vsum L)[i]'(by omega) = (vsum L).getD i 0 := by
      rw [List.getD_eq_getElem?_getD, List.getElem?_eq_getElem (by omega)]; rfl
    rw [e1, vsum_get (fun es he => (h es he).1) (by omega)]
    unfold sumAt
    rw [List.map_map]
    congr 2
    refine List.map_congr_left fun es he => ?_
    show (es.take size).getD i 0 = es.getD i 0
    rw [List.getD_eq_getElem?_getD, List.getD_eq_getElem?_getD, List.getElem?_take_of_lt hi]
theorem bits_row {es : List Nat} {size : Nat} (h : es.length = 6) (hs : size ≤ 6) : nL ((es.take size).map (· % 2)) = iL (bits size (mk es)) := by
  rw [bits_mk es size (by omega)]
  unfold nL iL
  rw [List.map_map, List.map_map]; rfl
noncomputable def powL (size : Nat) (ess : List (List Nat)) : List Dv := ess.map fun es => .list (nL (es.take size))
theorem rowsL_map (size : Nat) (ess : List (List Nat)) : ess.filterMap (fun es => some (Dv.list (iL (bits size (mk es))))) = rowsL size (ess.map mk) := by
  unfold rowsL
  rw [List.map_map]; exact congrFun List.filterMap_eq_map _
section
variable {st : St}
theorem u0 (a b c : Option Mo) : (st ++ [a, b, c])[st.length]? = some a := by simp
theorem u1 (a b c : Option Mo) : (st ++ [a, b, c])[st.length + 1]? = some b := by
  rw [List.getElem?_append_right (by omega)]; simp
theorem u2 (a b c : Option Mo) : (st ++ [a, b, c])[st.length + 2]? = some c := by
  rw [List.getElem?_append_right (by omega)]; simp
theorem w0 (a b c x : Option Mo) : (st ++ [a, b, c]).set st.length x = st ++ [x, b, c] := by
  rw [List.set_append_right _ _ (Nat.le_refl _)]; simp
theorem w1 (a b c x : Option Mo) : (st ++ [a, b, c]).set (st.length + 1) x = st ++ [a, x, c] := by
  rw [List.set_append_right _ _ (by omega)]; simp
theorem w2 (a b c x : Option Mo) : (st ++ [a, b, c]).set (st.length + 2) x = st ++ [a, b, x] := by
  rw [List.set_append_right _ _ (by omega)]; simp
theorem takeU (a b c : Option Mo) : (st ++ [a, b, c]).take st.length = st := by simp
end
end Mine
end

section
open PySem PySem.W PyProof.Rows PySem.Spec PySem.SeqAt PySem.Calls
set_option Elab.async false
set_option maxRecDepth 100000
set_option maxHeartbeats 1000000
set_option autoImplicit false
set_option linter.all false
namespace Mine

noncomputable def b_law : MSs := (.cons (.unp [12, 13] (.tup (.cons (.call (.fn 21) (.cons (.call (.fn 19) (.cons (.var 2) (.cons (.int 288) .nil))) .nil)) (.cons (.call (.fn 19) (.cons (.var 2) (.cons (.int 32) .nil))) .nil)))) (.cons (.asg 14 (.call (.fn 17) (.cons (.call (.fn 20) (.cons (.var 12) (.cons (.var 3) .nil))) (.cons (.slice (.var 1) .no (.yes (.var 4)) .no) (.cons (.var 3) .nil))))) (.cons (.iff (.not (.val (.call (.fn 24) (.cons (.var 12) (.cons (.var 14) (.cons (.var 4) .nil)))))) (.cons (.ret (.bool false)) .nil) .nil) (.cons (.iff (.cmp .IsNot (.var 14) .none) (.cons (.app (.var 7) (.var 12)) (.cons (.app (.var 8) (.var 14)) (.cons (.asg 15 (.comp (.comp (.bin .Mod false (.var 28) (.int 2)) (.one 28) (.lst (.var 27)) .nil) (.one 27) (.lst (.var 8)) .nil)) (.cons (.asg 16 (.call (.fn 3) (.cons (.var 15) .nil))) (.cons (.iff (.not (.val (.call (.fn 26) (.cons (.var 7) (.cons (.var 15) (.cons (.var 9) (.cons (.var 16) (.cons (.var 10) (.cons (.var 13) .nil))))))))) (.cons (.ret (.bool false)) .nil) .nil) (.cons (.iff (.cmp .Eq (.bi .len (.cons (.var 16) .nil)) (.bi .len (.cons (.var 9) .nil))) (.cons (.asg 10 (.bin .Add false (.var 10) (.comp (.item (.call (.fn 22) (.cons (.bin .Mult false (.var 12) (.var 29)) .nil)) (.int 0)) (.one 29) (.lst (.var 10)) .nil))) .nil) .nil) (.cons (.asg 9 (.var 16)) .nil))))))) .nil) .nil))))
noncomputable def r_law : MSs := (.cons (.iff (.cmp .Eq (.var 7) (.list false .nil)) (.cons (.ret (.cmp .Eq (.call (.fn 3) (.cons (.list false .nil) .nil)) (.list false .nil))) .nil) .nil) (.cons (.unp [15, 17] (.tup (.cons (.comp (.comp (.bin .Mod false (.var 31) (.int 2)) (.one 31) (.lst (.var 30)) .nil) (.one 30) (.lst (.var 8)) .nil) (.cons (.call (.fn 19) (.cons (.var 2) (.cons (.bi .len (.cons (.var 7) .nil)) .nil))) .nil)))) (.cons (.asg 18 (.call (.fn 3) (.cons (.bin .Add false (.var 15) (.list false (.cons (.item (.var 15) (.var 17)) .nil))) .nil))) (.cons (.iff (.or (.cons (.cmp .NotEq (.slice (.var 18) .no (.yes (.bi .len (.cons (.var 9) .nil))) .no) (.var 9)) (.cons (.cmp .NotEq (.bi .len (.cons (.var 18) .nil)) (.bin .Add false (.bi .len (.cons (.var 9) .nil)) (.int 1))) (.cons (.cmp .NotEq (.item (.item (.var 18) (.neg (.int 1))) (.neg (.int 1))) (.bi .len (.cons (.var 15) .nil))) .nil)))) (.cons (.ret (.bool false)) .nil) .nil) (.cons (.asg 19 (.item (.var 18) (.neg (.int 1)))) (.cons (.asg 20 (.call (.fn 23) (.cons (.comp (.item (.bin .Add false (.var 7) (.list false (.cons (.item (.var 7) (.var 17)) .nil))) (.var 32)) (.one 32) (.lst (.var 19)) .nil) .nil))) (.cons (.asg 21 (.comp (.tup (.cons (.call (.fn 20) (.cons (.item (.bin .Add false (.var 7) (.list false (.cons (.item (.var 7) (.var 17)) .nil))) (.var 33)) (.cons (.var 3) .nil))) (.cons (.item (.bin .Add false (.var 8) (.list false (.cons (.item (.var 8) (.var 17)) .nil))) (.var 33)) .nil))) (.one 33) (.lst (.var 19)) .nil)) (.cons (.unp [22, 23] (.call (.fn 18) (.cons (.call (.fn 20) (.cons (.var 6) (.cons (.var 3) .nil))) (.cons (.var 21) (.cons (.slice (.var 1) .no (.yes (.var 4)) .no) (.cons (.var 3) (.cons (.fn 10) (.cons (.fn 16) .nil)))))))) (.cons (.unp [24, 25] (.call (.fn 22) (.cons (.var 20) .nil))) (.cons (.ret (.and3 (.cmp .Eq (.var 24) (.int 1)) (.cmp .Eq (.var 22) (.call (.fn 20) (.cons (.bin .Mod false (.var 20) (.var 6)) (.cons (.var 3) .nil)))) (.cmp .Eq (.var 23) (.call (.fn 20) (.cons (.bin .Mod false (.var 25) (.var 6)) (.cons (.var 3) .nil)))))) .nil))))))))))
theorem m_law_eq : m_law = (.cons (.asg 1 (.list false (.cons (.int 2) (.cons (.int 3) (.cons (.int 5) (.cons (.int 7) (.cons (.int 11) (.cons (.int 13) .nil)))))))) (.cons (.asg 2 (.list true (.cons (.int 0) (.cons (.comp (.bi .abs (.cons (.bi .int (.cons (.var 26) .nil)) .nil)) (.one 26) (.lst (.slice (.var 0) .no (.yes (.int 15)) .no)) .nil) .nil)))) (.cons (.unp [3, 4] (.tup (.cons (.bin .Add false (.int 4) (.call (.fn 19) (.cons (.var 2) (.cons (.int 6) .nil)))) (.cons (.bin .Add false (.int 2) (.call (.fn 19) (.cons (.var 2) (.cons (.int 4) .nil)))) .nil)))) (.cons (.unp [5, 6] (.tup (.cons (.bin .Add false (.int 2) (.call (.fn 19) (.cons (.var 2) (.cons (.int 4) .nil)))) (.cons (.bin .Add false (.int 3) (.call (.fn 19) (.cons (.var 2) (.cons (.int 200) .nil)))) .nil)))) (.cons (.unp [7, 8, 9, 10] (.tup (.cons (.list true .nil) (.cons (.list true .nil) (.cons (.list false .nil) (.cons (.list false (.cons (.int 1) .nil)) .nil)))))) (.cons (.forr (.one 11) (.range1 (.var 5)) b_law) r_law)))))) := rfl
end Mine
end

section
open PySem PySem.W PyProof.Rows PySem.Spec PySem.SeqAt PySem.Calls
set_option Elab.async false
set_option maxRecDepth 100000
set_option maxHeartbeats 1000000
set_option autoImplicit false
set_option linter.all false
namespace Mine

noncomputable def strandO (kk : Nat) (bs : List Nat) : Option Mo := some (.list [.int (kk : Int), .list (nL bs)])
noncomputable def numsO (ess : List (List Nat)) : Option Mo := some (.list (nL (ess.map (pr P6))))
noncomputable def powO (size : Nat) (ess : List (List Nat)) : Option Mo := some (.list (powL size ess))

/-- what holds ahead of turn i -/
structure LawSt (size : Nat) (i : Nat) (kk : Nat) (bs : List Nat) (ess : List (List Nat)) (k : List (Nat × Nat)) (f PM : List Nat) : Prop where
  hk : kk ≤ 10 + 2 * i
  hb : bs.length ≤ 15
  good : ∀ es ∈ ess, Good es ∧ restOf size es = 1
  len : ess.length ≤ i
  ri : RI size (ess.map mk) k f
  run : RunR size 0 (ess.map mk) [] [] k f
  pm : ∀ m, m ∈ PM ↔ Sp (ess.map mk) m
  pm64 : ∀ m ∈ PM, m < 64
  pml : PM.length ≤ 2 ^ i

theorem lawSt_lt {size i kk : Nat} {bs : List Nat} {ess : List (List Nat)} {k : List (Nat × Nat)} {f PM : List Nat} (S : LawSt size i kk bs ess k f PM) (hs : size ≤ 6) : ∀ x ∈ ess.map mk, x < 2 ^ size := fun x hx => by
  obtain ⟨es, he, rfl⟩ := List.mem_map.mp hx
  exact mk_low es size (rest_zero hs (S.good es he).1.1 (S.good es he).2)

section
variable {P : PG} {n : Nat} {st : St}

theorem app1 {a c : Option Mo} {l : List Dv} {d : Dv} {K : St → Prop} (h : l.length ≤ 2 ^ 20) (hd : d.pure = true) (k : K (st ++ [a, some (.list (l ++ [d])), c])) : appOk (st ++ [a, some (.list l), c]) (.ref (st.length + 1)) d K := by
  simp only [appOk, u1, w1]; exact ⟨h, hd, k⟩
theorem app2 {a b : Option Mo} {l : List Dv} {d : Dv} {K : St → Prop} (h : l.length ≤ 2 ^ 20) (hd : d.pure = true) (k : K (st ++ [a, b, some (.list (l ++ [d]))])) : appOk (st ++ [a, b, some (.list l)]) (.ref (st.length + 2)) d K := by
  simp only [appOk, u2, w2]; exact ⟨h, hd, k⟩

noncomputable def lawFr (sc : Dv) (L w size turns modulus : Nat) (f PM : List Nat) (a b c d e g : Option Dv) : Frm :=
  [some sc, some (.list (nL P6)), some (.ref L), some (.int (w : Int)), some (.int (size : Int)), some (.int (turns : Int)), some (.int (modulus : Int)), some (.ref (L + 1)), some (.ref (L + 2)), some (.list (LL f)), some (.list (nL (PM.map sf))), a, b, c, d, e, g,
    none, none, none, none, none, none, none, none, none, none, none, none, none, none, none, none, none]

theorem law_turn (T : Txs P) {sc : Dv} {w size turns modulus i kk : Nat} {bs : List Nat} {ess : List (List Nat)} {k : List (Nat × Nat)} {f PM : List Nat} (hw : 4 ≤ w) (hw2 : w ≤ 9) (hs1 : 2 ≤ size) (hs2 : size ≤ 5) (hi : i < 6)
    (S : LawSt size i kk bs ess k f PM) {a b c d e g : Option Dv} {K : Option Dv → Frm → St → Prop}
    (hn : ∀ kk' ess' k' f' PM' (a b c d e g : Option Dv), LawSt size (i + 1) kk' bs ess' k' f' PM' → K none (lawFr sc st.length w size turns modulus f' PM' a b c d e g) (st ++ [strandO kk' bs, numsO ess', powO size ess'])) :
    wpSs (CallOK P (n + 5)) b_law (lawFr sc st.length w size turns modulus f PM a b c d e g) (st ++ [strandO kk bs, numsO ess, powO size ess]) K := by
  have hk := S.hk
  have hb := S.hb
  have w1 : 1 ≤ w := Nat.le_trans (by decide) hw
  have w20 : w ≤ 20 := Nat.le_trans hw2 (by decide)
  have sz6 : size ≤ 6 := Nat.le_trans hs2 (by decide)
  have sz100 : size ≤ 100 := Nat.le_trans hs2 (by decide)
  have b20 : bs.length < 2 ^ 20 := Nat.lt_of_le_of_lt hb (by decide)
  have hB := two_le_pow w1
  have isN : ∀ x y, IsS (st ++ [x, numsO ess, y]) (.ref (st.length + 1)) (nL (ess.map (pr P6))) := fun x y => .inr ⟨_, rfl, u1 _ _ _⟩
  unfold b_law lawFr
  refine wp_consI ?_
  simp only [wpE_r1, wpE_r2, wpE_r3, wpE_r4, wpE_r5, wpE_r6, wpE_r7, wpE_r8, wpE_r9, wpE_r10, wpE_r11, wpE_r12, wpE_r13, wpE_r14, wpE_r15, wpE_r16, wpE_r17, wpE_r18, wpE_r19, wpT_r1, wpT_r2, wpT_r3, wpT_r4, wpT_r5, wpTs_r1, wpEo_r1, wpEo_r2, wpEs_r1, wpEs_r2, wpI_r1, wpI_r2, wpI_r3, wpI_r4, wpI_r5, wpI_r6, wpS_r1, wpS_r2, wpS_r3, wpS_r4, wpS_r5, wpS_w, wpS_r7, wpS_r8, wpS_r9, wpS_r10, wpTs_r2, setAll_r1, setAll_r2, List.set_cons_succ, List.set_cons_zero, List.getElem?_cons_zero, List.getElem?_cons_succ, s_eq, s_ne, s_lt, s_le, s_gt, s_ge, s_is1, s_is2, s_isn1, s_isn2, s_neb, s_add, s_sub, s_mul, s_fdiv, s_mod, s_pow, s_lsh, s_rsh, s_and, s_or, s_xor, s_addL, s_mulL, s_backN, s_mkT, s_mkF, s_getL, s_getT, s_tg1, s_tg2, s_len, s_min, s_abs, s_int, s_intb]
  refine c_law_strung (n := n + 4) T (many := 288) (k := kk) (by decide) (by omega) b20 (u0 _ _ _) (fun v hv => ?_)
  rw [w0]
  refine (c_law_number T).up (by decide) ?_
  try dsimp only
  refine c_law_strung (n := n + 4) T (many := 32) (k := kk + 1) (by decide) (by omega) b20 (u0 _ _ _) (fun form hform => ?_)
  rw [w0]
  have hfold : ∀ kk : Nat, (some (Mo.list [.int ((kk : Nat) : Int), .list (nL bs)])) = strandO kk bs := fun _ => rfl
  rw [hfold]
  refine ⟨by simp, rfl, ?_⟩
  try dsimp only
  refine wp_consI ?_
  simp only [wpE_r1, wpE_r2, wpE_r3, wpE_r4, wpE_r5, wpE_r6, wpE_r7, wpE_r8, wpE_r9, wpE_r10, wpE_r11, wpE_r12, wpE_r13, wpE_r14, wpE_r15, wpE_r16, wpE_r17, wpE_r18, wpE_r19, wpT_r1, wpT_r2, wpT_r3, wpT_r4, wpT_r5, wpTs_r1, wpEo_r1, wpEo_r2, wpEs_r1, wpEs_r2, wpI_r1, wpI_r2, wpI_r3, wpI_r4, wpI_r5, wpI_r6, wpS_r1, wpS_r2, wpS_r3, wpS_r4, wpS_r5, wpS_w, wpS_r7, wpS_r8, wpS_r9, wpS_r10, wpTs_r2, setAll_r1, setAll_r2, List.set_cons_succ, List.set_cons_zero, List.getElem?_cons_zero, List.getElem?_cons_succ, s_eq, s_ne, s_lt, s_le, s_gt, s_ge, s_is1, s_is2, s_isn1, s_isn2, s_neb, s_add, s_sub, s_mul, s_fdiv, s_mod, s_pow, s_lsh, s_rsh, s_and, s_or, s_xor, s_addL, s_mulL, s_backN, s_mkT, s_mkF, s_getL, s_getT, s_tg1, s_tg2, s_len, s_min, s_abs, s_int, s_intb]
  have hG := good_code v
  unfold numOf
  generalize expsOf v = es at *
  have hx64 := hG.lt
  have hxn64 := hx64
  refine (c_law_limbs T (w := w) w1 w20 (Nat.le_trans (len_of_lt w1 hx64) (by decide))).up (by decide) ?_
  refine ⟨nL P6, nL (P6.take size), rfl, ?_, by rw [nL_length]; simp [P6], ?_⟩
  · simp only [sl_to, sl_from, sl_rev, sl_two]
    rw [if_pos (by omega), Int.toNat_natCast]; unfold nL; rw [List.map_take]
  have hsplit := pr_split P6 es size (by rw [hG.1]; rfl)
  have hex := c_exponents (P := P) T (w := w) (y := restOf size es) (ps := P6.take size) (es := es.take size) (by omega) (by omega) (Cps_take size P6_cps) (by rw [List.length_take]; simp [P6]; omega) (by rw [List.length_take, List.length_take, hG.1]; rfl) (rest_pos size es sz6) (rest_cop sz6)
    (by have : pr (P6.take size) (es.take size) * restOf size es = pr P6 es := hsplit.symm
        rw [this]; exact Nat.le_trans (len_of_lt (by omega) hx64) (by decide))
  have hsp' : pr (P6.take size) (es.take size) * restOf size es = pr P6 es := hsplit.symm
  rw [hsp'] at hex
  refine hex.up (by decide) ?_
  try dsimp only
  refine wp_consI ?_
  simp only [wpE_r1, wpE_r2, wpE_r3, wpE_r4, wpE_r5, wpE_r6, wpE_r7, wpE_r8, wpE_r9, wpE_r10, wpE_r11, wpE_r12, wpE_r13, wpE_r14, wpE_r15, wpE_r16, wpE_r17, wpE_r18, wpE_r19, wpT_r1, wpT_r2, wpT_r3, wpT_r4, wpT_r5, wpTs_r1, wpEo_r1, wpEo_r2, wpEs_r1, wpEs_r2, wpI_r1, wpI_r2, wpI_r3, wpI_r4, wpI_r5, wpI_r6, wpS_r1, wpS_r2, wpS_r3, wpS_r4, wpS_r5, wpS_w, wpS_r7, wpS_r8, wpS_r9, wpS_r10, wpTs_r2, setAll_r1, setAll_r2, List.set_cons_succ, List.set_cons_zero, List.getElem?_cons_zero, List.getElem?_cons_succ, s_eq, s_ne, s_lt, s_le, s_gt, s_ge, s_is1, s_is2, s_isn1, s_isn2, s_neb, s_add, s_sub, s_mul, s_fdiv, s_mod, s_pow, s_lsh, s_rsh, s_and, s_or, s_xor, s_addL, s_mulL, s_backN, s_mkT, s_mkF, s_getL, s_getT, s_tg1, s_tg2, s_len, s_min, s_abs, s_int, s_intb]
  refine (c_law_are_told T hG.1 (fun e he => Nat.lt_of_le_of_lt (hG.2 e he) (by decide)) (by omega)).up (by decide) ?_
  dsimp only
  rw [Bool.not_true]
  dsimp only
  simp only [wp_nil]
  refine wp_consI ?_
  simp only [wpE_r1, wpE_r2, wpE_r3, wpE_r4, wpE_r5, wpE_r6, wpE_r7, wpE_r8, wpE_r9, wpE_r10, wpE_r11, wpE_r12, wpE_r13, wpE_r14, wpE_r15, wpE_r16, wpE_r17, wpE_r18, wpE_r19, wpT_r1, wpT_r2, wpT_r3, wpT_r4, wpT_r5, wpTs_r1, wpEo_r1, wpEo_r2, wpEs_r1, wpEs_r2, wpI_r1, wpI_r2, wpI_r3, wpI_r4, wpI_r5, wpI_r6, wpS_r1, wpS_r2, wpS_r3, wpS_r4, wpS_r5, wpS_w, wpS_r7, wpS_r8, wpS_r9, wpS_r10, wpTs_r2, setAll_r1, setAll_r2, List.set_cons_succ, List.set_cons_zero, List.getElem?_cons_zero, List.getElem?_cons_succ, s_eq, s_ne, s_lt, s_le, s_gt, s_ge, s_is1, s_is2, s_isn1, s_isn2, s_neb, s_add, s_sub, s_mul, s_fdiv, s_mod, s_pow, s_lsh, s_rsh, s_and, s_or, s_xor, s_addL, s_mulL, s_backN, s_mkT, s_mkF, s_getL, s_getT, s_tg1, s_tg2, s_len, s_min, s_abs, s_int, s_intb]
  by_cases hr : restOf size es = 1
  · rw [if_pos hr, s_isn2]
    try dsimp only
    have hel : ess.length ≤ 6 := by have := S.len; omega
    refine wp_consI ?_
    simp only [wpE_r1, wpE_r2, wpE_r3, wpE_r4, wpE_r5, wpE_r6, wpE_r7, wpE_r8, wpE_r9, wpE_r10, wpE_r11, wpE_r12, wpE_r13, wpE_r14, wpE_r15, wpE_r16, wpE_r17, wpE_r18, wpE_r19, wpT_r1, wpT_r2, wpT_r3, wpT_r4, wpT_r5, wpTs_r1, wpEo_r1, wpEo_r2, wpEs_r1, wpEs_r2, wpI_r1, wpI_r2, wpI_r3, wpI_r4, wpI_r5, wpI_r6, wpS_r1, wpS_r2, wpS_r3, wpS_r4, wpS_r5, wpS_w, wpS_r7, wpS_r8, wpS_r9, wpS_r10, wpTs_r2, setAll_r1, setAll_r2, List.set_cons_succ, List.set_cons_zero, List.getElem?_cons_zero, List.getElem?_cons_succ, s_eq, s_ne, s_lt, s_le, s_gt, s_ge, s_is1, s_is2, s_isn1, s_isn2, s_neb, s_add, s_sub, s_mul, s_fdiv, s_mod, s_pow, s_lsh, s_rsh, s_and, s_or, s_xor, s_addL, s_mulL, s_backN, s_mkT, s_mkF, s_getL, s_getT, s_tg1, s_tg2, s_len, s_min, s_abs, s_int, s_intb]
    refine ⟨⟨_, _, rfl, u1 _ _ _⟩, app1 (by rw [nL_length, List.length_map]; omega) rfl ?_⟩
    have e1 : some (Mo.list (nL (ess.map (pr P6)) ++ [.int (pr P6 es : Int)])) = numsO (ess ++ [es]) := by simp [numsO, nL]
    rw [e1]
    refine wp_consI ?_
    simp only [wpE_r1, wpE_r2, wpE_r3, wpE_r4, wpE_r5, wpE_r6, wpE_r7, wpE_r8, wpE_r9, wpE_r10, wpE_r11, wpE_r12, wpE_r13, wpE_r14, wpE_r15, wpE_r16, wpE_r17, wpE_r18, wpE_r19, wpT_r1, wpT_r2, wpT_r3, wpT_r4, wpT_r5, wpTs_r1, wpEo_r1, wpEo_r2, wpEs_r1, wpEs_r2, wpI_r1, wpI_r2, wpI_r3, wpI_r4, wpI_r5, wpI_r6, wpS_r1, wpS_r2, wpS_r3, wpS_r4, wpS_r5, wpS_w, wpS_r7, wpS_r8, wpS_r9, wpS_r10, wpTs_r2, setAll_r1, setAll_r2, List.set_cons_succ, List.set_cons_zero, List.getElem?_cons_zero, List.getElem?_cons_succ, s_eq, s_ne, s_lt, s_le, s_gt, s_ge, s_is1, s_is2, s_isn1, s_isn2, s_neb, s_add, s_sub, s_mul, s_fdiv, s_mod, s_pow, s_lsh, s_rsh, s_and, s_or, s_xor, s_addL, s_mulL, s_backN, s_mkT, s_mkF, s_getL, s_getT, s_tg1, s_tg2, s_len, s_min, s_abs, s_int, s_intb]
    refine ⟨⟨_, _, rfl, u2 _ _ _⟩, app2 (by simp [powL]; omega) (pure_nL _) ?_⟩
    have e2 : some (Mo.list (powL size ess ++ [.list (nL (es.take size))])) = powO size (ess ++ [es]) := by simp [powO, powL]
    rw [e2]
    refine wp_consI ?_
    have hG' : ∀ fs ∈ ess ++ [es], Good fs ∧ restOf size fs = 1 := fun fs hf => by
      rcases List.mem_append.mp hf with hf | hf
      · exact S.good fs hf
      · rw [List.mem_singleton.mp hf]; exact ⟨hG, hr⟩
    have hx : mk es < 2 ^ size := mk_low es size (rest_zero sz6 hG.1 hr)
    have hx64 : mk es < 64 := Nat.lt_of_lt_of_le hx (Nat.le_trans (Nat.pow_le_pow_right (by decide) sz6) (by decide))
    have hget : (st ++ [strandO (kk + 1 + 1) bs, numsO (ess ++ [es]), powO size (ess ++ [es])])[st.length + 2]? = some (some (.list (powL size (ess ++ [es])))) := u2 _ _ _
    simp only [wpE_r1, wpE_r2, wpE_r3, wpE_r4, wpE_r5, wpE_r6, wpE_r7, wpE_r8, wpE_r9, wpE_r10, wpE_r11, wpE_r12, wpE_r13, wpE_r14, wpE_r15, wpE_r16, wpE_r17, wpE_r18, wpE_r19, wpT_r1, wpT_r2, wpT_r3, wpT_r4, wpT_r5, wpTs_r1, wpEo_r1, wpEo_r2, wpEs_r1, wpEs_r2, wpI_r1, wpI_r2, wpI_r3, wpI_r4, wpI_r5, wpI_r6, wpS_r1, wpS_r2, wpS_r3, wpS_r4, wpS_r5, wpS_w, wpS_r7, wpS_r8, wpS_r9, wpS_r10, wpTs_r2, setAll_r1, setAll_r2, List.set_cons_succ, List.set_cons_zero, List.getElem?_cons_zero, List.getElem?_cons_succ, s_eq, s_ne, s_lt, s_le, s_gt, s_ge, s_is1, s_is2, s_isn1, s_isn2, s_neb, s_add, s_sub, s_mul, s_fdiv, s_mod, s_pow, s_lsh, s_rsh, s_and, s_or, s_xor, s_addL, s_mulL, s_backN, s_mkT, s_mkF, s_getL, s_getT, s_tg1, s_tg2, s_len, s_min, s_abs, s_int, s_intb, hget]
    refine ⟨rfl, by simp [powL]; omega, ?_⟩
    rw [w2]
    refine compL_map (fun es => Dv.list (nL (es.take size))) (fun es => some (.list (iL (bits size (mk es))))) _ _ _ (fun fs hfs K' hK => ?_) ?_
    · have h6 := (hG' fs hfs).1.1
      try simp only [wpE_r1, wpE_r2, wpE_r3, wpE_r4, wpE_r5, wpE_r6, wpE_r7, wpE_r8, wpE_r9, wpE_r10, wpE_r11, wpE_r12, wpE_r13, wpE_r14, wpE_r15, wpE_r16, wpE_r17, wpE_r18, wpE_r19, wpT_r1, wpT_r2, wpT_r3, wpT_r4, wpT_r5, wpTs_r1, wpEo_r1, wpEo_r2, wpEs_r1, wpEs_r2, wpI_r1, wpI_r2, wpI_r3, wpI_r4, wpI_r5, wpI_r6, wpS_r1, wpS_r2, wpS_r3, wpS_r4, wpS_r5, wpS_w, wpS_r7, wpS_r8, wpS_r9, wpS_r10, wpSs_n, wpSs_c, wpTs_r2, setAll_r1, setAll_r2, List.set_cons_succ, List.set_cons_zero, List.getElem?_cons_zero, List.getElem?_cons_succ, s_eq, s_ne, s_lt, s_le, s_gt, s_ge, s_is1, s_is2, s_isn1, s_isn2, s_neb, s_add, s_sub, s_mul, s_fdiv, s_mod, s_pow, s_lsh, s_rsh, s_and, s_or, s_xor, s_addL, s_mulL, s_backN, s_mkT, s_mkF, s_getL, s_getT, s_tg1, s_tg2, s_len, s_min, s_abs, s_int, s_intb]
      refine ⟨rfl, by rw [nL_length, List.length_take]; omega, ?_⟩
      refine compL_map (fun e : Nat => Dv.int (e : Int)) (fun e => some (.int ((e % 2 : Nat) : Int))) _ _ _ (fun e he K'' hK'' => ?_) ?_
      · try simp only [wpE_r1, wpE_r2, wpE_r3, wpE_r4, wpE_r5, wpE_r6, wpE_r7, wpE_r8, wpE_r9, wpE_r10, wpE_r11, wpE_r12, wpE_r13, wpE_r14, wpE_r15, wpE_r16, wpE_r17, wpE_r18, wpE_r19, wpT_r1, wpT_r2, wpT_r3, wpT_r4, wpT_r5, wpTs_r1, wpEo_r1, wpEo_r2, wpEs_r1, wpEs_r2, wpI_r1, wpI_r2, wpI_r3, wpI_r4, wpI_r5, wpI_r6, wpS_r1, wpS_r2, wpS_r3, wpS_r4, wpS_r5, wpS_w, wpS_r7, wpS_r8, wpS_r9, wpS_r10, wpSs_n, wpSs_c, wpTs_r2, setAll_r1, setAll_r2, List.set_cons_succ, List.set_cons_zero, List.getElem?_cons_zero, List.getElem?_cons_succ, s_eq, s_ne, s_lt, s_le, s_gt, s_ge, s_is1, s_is2, s_isn1, s_isn2, s_neb, s_add, s_sub, s_mul, s_fdiv, s_mod, s_pow, s_lsh, s_rsh, s_and, s_or, s_xor, s_addL, s_mulL, s_backN, s_mkT, s_mkF, s_getL, s_getT, s_tg1, s_tg2, s_len, s_min, s_abs, s_int, s_intb]
        refine ⟨by decide, ?_⟩
        have e3 : Int.fmod (e : Int) 2 = ((e % 2 : Nat) : Int) := fmod_nat e 2
        rw [e3]; exact hK''
      · rw [filterMap_some, List.nil_append, bits_row h6 (by omega)]; exact hK
    rw [rowsL_map, List.nil_append]
    simp only [back, u2, w2]
    refine ⟨trivial, ?_⟩
    have hfold2 : some (Mo.list (powL size (ess ++ [es]))) = powO size (ess ++ [es]) := rfl
    rw [hfold2, List.map_append]
    refine wp_consI ?_
    simp only [wpE_r1, wpE_r2, wpE_r3, wpE_r4, wpE_r5, wpE_r6, wpE_r7, wpE_r8, wpE_r9, wpE_r10, wpE_r11, wpE_r12, wpE_r13, wpE_r14, wpE_r15, wpE_r16, wpE_r17, wpE_r18, wpE_r19, wpT_r1, wpT_r2, wpT_r3, wpT_r4, wpT_r5, wpTs_r1, wpEo_r1, wpEo_r2, wpEs_r1, wpEs_r2, wpI_r1, wpI_r2, wpI_r3, wpI_r4, wpI_r5, wpI_r6, wpS_r1, wpS_r2, wpS_r3, wpS_r4, wpS_r5, wpS_w, wpS_r7, wpS_r8, wpS_r9, wpS_r10, wpTs_r2, setAll_r1, setAll_r2, List.set_cons_succ, List.set_cons_zero, List.getElem?_cons_zero, List.getElem?_cons_succ, s_eq, s_ne, s_lt, s_le, s_gt, s_ge, s_is1, s_is2, s_isn1, s_isn2, s_neb, s_add, s_sub, s_mul, s_fdiv, s_mod, s_pow, s_lsh, s_rsh, s_and, s_or, s_xor, s_addL, s_mulL, s_backN, s_mkT, s_mkF, s_getL, s_getT, s_tg1, s_tg2, s_len, s_min, s_abs, s_int, s_intb]
    obtain ⟨k', f', hstep, R', hcase⟩ := run_step S.ri hx
    have hrun : RunR size 0 (ess.map mk ++ [mk es]) [] [] k' f' := runR_snoc S.run (by rw [Nat.zero_add]; exact hstep)
    have hlt : ∀ y ∈ ess.map mk ++ [mk es], y < 2 ^ size := fun y hy => by
      rcases List.mem_append.mp hy with hy | hy
      · exact lawSt_lt S sz6 y hy
      · rw [List.mem_singleton.mp hy]; exact hx
    have hml : (ess.map mk ++ [mk es]).length = ess.length + 1 := by simp
    refine (c_without_sum T (c := size) (ess.map mk ++ [mk es]) sz100 (by omega) hlt hrun).up (by decide) ?_
    rw [LL_any (by omega) (fun s hs => (R'.fnd s hs).2.1)]
    try dsimp only
    refine wp_consI ?_
    simp only [wpE_r1, wpE_r2, wpE_r3, wpE_r4, wpE_r5, wpE_r6, wpE_r7, wpE_r8, wpE_r9, wpE_r10, wpE_r11, wpE_r12, wpE_r13, wpE_r14, wpE_r15, wpE_r16, wpE_r17, wpE_r18, wpE_r19, wpT_r1, wpT_r2, wpT_r3, wpT_r4, wpT_r5, wpTs_r1, wpEo_r1, wpEo_r2, wpEs_r1, wpEs_r2, wpI_r1, wpI_r2, wpI_r3, wpI_r4, wpI_r5, wpI_r6, wpS_r1, wpS_r2, wpS_r3, wpS_r4, wpS_r5, wpS_w, wpS_r7, wpS_r8, wpS_r9, wpS_r10, wpTs_r2, setAll_r1, setAll_r2, List.set_cons_succ, List.set_cons_zero, List.getElem?_cons_zero, List.getElem?_cons_succ, s_eq, s_ne, s_lt, s_le, s_gt, s_ge, s_is1, s_is2, s_isn1, s_isn2, s_neb, s_add, s_sub, s_mul, s_fdiv, s_mod, s_pow, s_lsh, s_rsh, s_and, s_or, s_xor, s_addL, s_mulL, s_backN, s_mkT, s_mkF, s_getL, s_getT, s_tg1, s_tg2, s_len, s_min, s_abs, s_int, s_intb]
    refine c_law_goes_on (n := n + 1) T (ess := ess ++ [es]) (xs0 := ess.map mk) (x := mk es) (fun fs hf => (hG' fs hf).1) (by rw [List.map_append]; rfl) (by omega) hlt (by rw [List.length_map]; omega) R' ?_ S.pm S.pm64 (u1 _ _ _) ?_
    · rcases hcase with ⟨h1, s, h2, h3⟩ | ⟨h1, h2⟩
      · exact .inl ⟨h1, s, h2, h3⟩
      · exact .inr ⟨h1, h2⟩
    try dsimp only
    rw [Bool.not_true]
    try dsimp only
    simp only [wp_nil]
    refine wp_consI ?_
    simp only [wpE_r1, wpE_r2, wpE_r3, wpE_r4, wpE_r5, wpE_r6, wpE_r7, wpE_r8, wpE_r9, wpE_r10, wpE_r11, wpE_r12, wpE_r13, wpE_r14, wpE_r15, wpE_r16, wpE_r17, wpE_r18, wpE_r19, wpT_r1, wpT_r2, wpT_r3, wpT_r4, wpT_r5, wpTs_r1, wpEo_r1, wpEo_r2, wpEs_r1, wpEs_r2, wpI_r1, wpI_r2, wpI_r3, wpI_r4, wpI_r5, wpI_r6, wpS_r1, wpS_r2, wpS_r3, wpS_r4, wpS_r5, wpS_w, wpS_r7, wpS_r8, wpS_r9, wpS_r10, wpTs_r2, setAll_r1, setAll_r2, List.set_cons_succ, List.set_cons_zero, List.getElem?_cons_zero, List.getElem?_cons_succ, s_eq, s_ne, s_lt, s_le, s_gt, s_ge, s_is1, s_is2, s_isn1, s_isn2, s_neb, s_add, s_sub, s_mul, s_fdiv, s_mod, s_pow, s_lsh, s_rsh, s_and, s_or, s_xor, s_addL, s_mulL, s_backN, s_mkT, s_mkF, s_getL, s_getT, s_tg1, s_tg2, s_len, s_min, s_abs, s_int, s_intb, LL_len]
    have hfl := S.ri.flen
    have hfl' := R'.flen
    rw [List.length_map] at hfl
    rw [hml] at hfl'
    refine ⟨by unfold big; omega, by unfold big; omega, ?_⟩
    have hpm2 : 2 ^ i ≤ 2 ^ 6 := Nat.pow_le_pow_right (by decide) (by omega)
    have hpml := S.pml
    have hmapx : (ess ++ [es]).map mk = ess.map mk ++ [mk es] := by rw [List.map_append]; rfl
    rcases hcase with ⟨h1, s, h2, h3⟩ | ⟨h1, h2⟩
    · have hne : ((f'.length : Int) == (f.length : Int)) = false := by
        rw [beq_eq_false_iff_ne, h2, List.length_append]; simp; omega
      rw [hne]
      dsimp only
      refine wp_nilI ?_
      dsimp only
      refine wp_consI ?_
      simp only [wpE_r1, wpE_r2, wpE_r3, wpE_r4, wpE_r5, wpE_r6, wpE_r7, wpE_r8, wpE_r9, wpE_r10, wpE_r11, wpE_r12, wpE_r13, wpE_r14, wpE_r15, wpE_r16, wpE_r17, wpE_r18, wpE_r19, wpT_r1, wpT_r2, wpT_r3, wpT_r4, wpT_r5, wpTs_r1, wpEo_r1, wpEo_r2, wpEs_r1, wpEs_r2, wpI_r1, wpI_r2, wpI_r3, wpI_r4, wpI_r5, wpI_r6, wpS_r1, wpS_r2, wpS_r3, wpS_r4, wpS_r5, wpS_w, wpS_r7, wpS_r8, wpS_r9, wpS_r10, wpTs_r2, setAll_r1, setAll_r2, List.set_cons_succ, List.set_cons_zero, List.getElem?_cons_zero, List.getElem?_cons_succ, s_eq, s_ne, s_lt, s_le, s_gt, s_ge, s_is1, s_is2, s_isn1, s_isn2, s_neb, s_add, s_sub, s_mul, s_fdiv, s_mod, s_pow, s_lsh, s_rsh, s_and, s_or, s_xor, s_addL, s_mulL, s_backN, s_mkT, s_mkF, s_getL, s_getT, s_tg1, s_tg2, s_len, s_min, s_abs, s_int, s_intb, wp_nil]
      refine hn (kk + 2) (ess ++ [es]) k' f' PM _ _ _ _ _ _ ⟨by omega, hb, hG', by rw [List.length_append]; exact Nat.succ_le_succ S.len, by rw [hmapx]; exact R', by rw [hmapx]; exact hrun, ?_, S.pm64, ?_⟩
      · intro m; rw [hmapx, sp_same h1, S.pm]
      · rw [Nat.pow_succ]; omega
    · have hne : ((f'.length : Int) == (f.length : Int)) = true := by
        rw [beq_iff_eq, h2]
      rw [hne]
      dsimp only
      refine wp_consI ?_
      simp only [wpE_r1, wpE_r2, wpE_r3, wpE_r4, wpE_r5, wpE_r6, wpE_r7, wpE_r8, wpE_r9, wpE_r10, wpE_r11, wpE_r12, wpE_r13, wpE_r14, wpE_r15, wpE_r16, wpE_r17, wpE_r18, wpE_r19, wpT_r1, wpT_r2, wpT_r3, wpT_r4, wpT_r5, wpTs_r1, wpEo_r1, wpEo_r2, wpEs_r1, wpEs_r2, wpI_r1, wpI_r2, wpI_r3, wpI_r4, wpI_r5, wpI_r6, wpS_r1, wpS_r2, wpS_r3, wpS_r4, wpS_r5, wpS_w, wpS_r7, wpS_r8, wpS_r9, wpS_r10, wpTs_r2, setAll_r1, setAll_r2, List.set_cons_succ, List.set_cons_zero, List.getElem?_cons_zero, List.getElem?_cons_succ, s_eq, s_ne, s_lt, s_le, s_gt, s_ge, s_is1, s_is2, s_isn1, s_isn2, s_neb, s_add, s_sub, s_mul, s_fdiv, s_mod, s_pow, s_lsh, s_rsh, s_and, s_or, s_xor, s_addL, s_mulL, s_backN, s_mkT, s_mkF, s_getL, s_getT, s_tg1, s_tg2, s_len, s_min, s_abs, s_int, s_intb]
      refine ⟨rfl, by rw [nL_length, List.length_map]; omega, ?_⟩
      have hl : nL (PM.map sf) = PM.map fun m => Dv.int (sf m : Int) := by unfold nL; rw [List.map_map]; rfl
      rw [hl]
      refine compL_map (fun m => Dv.int (sf m : Int)) (fun m => some (.int (sf (m ^^^ mk es) : Int))) _ _ _ (fun m hm K' hK => ?_) ?_
      · try simp only [wpE_r1, wpE_r2, wpE_r3, wpE_r4, wpE_r5, wpE_r6, wpE_r7, wpE_r8, wpE_r9, wpE_r10, wpE_r11, wpE_r12, wpE_r13, wpE_r14, wpE_r15, wpE_r16, wpE_r17, wpE_r18, wpE_r19, wpT_r1, wpT_r2, wpT_r3, wpT_r4, wpT_r5, wpTs_r1, wpEo_r1, wpEo_r2, wpEs_r1, wpEs_r2, wpI_r1, wpI_r2, wpI_r3, wpI_r4, wpI_r5, wpI_r6, wpS_r1, wpS_r2, wpS_r3, wpS_r4, wpS_r5, wpS_w, wpS_r7, wpS_r8, wpS_r9, wpS_r10, wpSs_n, wpSs_c, wpTs_r2, setAll_r1, setAll_r2, List.set_cons_succ, List.set_cons_zero, List.getElem?_cons_zero, List.getElem?_cons_succ, s_eq, s_ne, s_lt, s_le, s_gt, s_ge, s_is1, s_is2, s_isn1, s_isn2, s_neb, s_add, s_sub, s_mul, s_fdiv, s_mod, s_pow, s_lsh, s_rsh, s_and, s_or, s_xor, s_addL, s_mulL, s_backN, s_mkT, s_mkF, s_getL, s_getT, s_tg1, s_tg2, s_len, s_min, s_abs, s_int, s_intb]
        refine ⟨.inl (by rw [Int.natAbs_natCast]; exact hxn64), ?_⟩
        obtain ⟨q1, q2, q3⟩ := sf_mul (m := m) hG.1 (S.pm64 m hm)
        rw [← Int.natCast_mul, q1]
        refine (c_law_parted T q2).up (by decide) ?_
        refine ⟨0, _, .inl rfl, rfl, by simp [big], ?_⟩
        rw [sf_mk q2, q3]; exact hK
      rw [List.nil_append, ← hl, filterMap_some]
      try simp only [back]
      refine ⟨by rw [nL_length, nL_length, List.length_map, List.length_map]; omega, ?_⟩
      have hup : nL (PM.map sf) ++ nL (PM.map fun m => sf (m ^^^ mk es)) = nL ((pmUp PM (mk es)).map sf) := by
        unfold nL pmUp; simp [List.map_append, List.map_map]
      rw [hup]
      try dsimp only
      refine wp_nilI ?_
      try dsimp only
      refine wp_consI ?_
      simp only [wpE_r1, wpE_r2, wpE_r3, wpE_r4, wpE_r5, wpE_r6, wpE_r7, wpE_r8, wpE_r9, wpE_r10, wpE_r11, wpE_r12, wpE_r13, wpE_r14, wpE_r15, wpE_r16, wpE_r17, wpE_r18, wpE_r19, wpT_r1, wpT_r2, wpT_r3, wpT_r4, wpT_r5, wpTs_r1, wpEo_r1, wpEo_r2, wpEs_r1, wpEs_r2, wpI_r1, wpI_r2, wpI_r3, wpI_r4, wpI_r5, wpI_r6, wpS_r1, wpS_r2, wpS_r3, wpS_r4, wpS_r5, wpS_w, wpS_r7, wpS_r8, wpS_r9, wpS_r10, wpTs_r2, setAll_r1, setAll_r2, List.set_cons_succ, List.set_cons_zero, List.getElem?_cons_zero, List.getElem?_cons_succ, s_eq, s_ne, s_lt, s_le, s_gt, s_ge, s_is1, s_is2, s_isn1, s_isn2, s_neb, s_add, s_sub, s_mul, s_fdiv, s_mod, s_pow, s_lsh, s_rsh, s_and, s_or, s_xor, s_addL, s_mulL, s_backN, s_mkT, s_mkF, s_getL, s_getT, s_tg1, s_tg2, s_len, s_min, s_abs, s_int, s_intb, wp_nil]
      refine hn (kk + 2) (ess ++ [es]) k' f' (pmUp PM (mk es)) _ _ _ _ _ _ ⟨by omega, hb, hG', by rw [List.length_append]; exact Nat.succ_le_succ S.len, by rw [hmapx]; exact R', by rw [hmapx]; exact hrun, ?_, pmUp_lt S.pm64 hx64, ?_⟩
      · intro m; rw [hmapx]; exact pmUp_iff S.pm m
      · unfold pmUp
        rw [List.length_append, List.length_map, Nat.pow_succ]; omega
  · rw [if_neg hr, s_isn1]
    try dsimp only
    simp only [wp_nil]
    exact hn (kk + 2) ess k f PM _ _ _ _ _ _ { S with hk := by omega, len := Nat.le_succ_of_le S.len, pml := Nat.le_trans S.pml (Nat.pow_le_pow_right (by decide) (by omega)) }
end
end Mine
end

section
open PySem PySem.W PyProof.Rows PySem.Spec PySem.SeqAt PySem.Calls
set_option Elab.async false
set_option maxRecDepth 100000
set_option maxHeartbeats 1000000
set_option autoImplicit false
set_option linter.all false
namespace Mine

section
variable {P : PG} {n : Nat} {st : St}

theorem s_eqL {st : St} {C : Bool → Prop} (a b : List Nat) (h : C (decide (a = b))) : cmpOk .Eq st (.list (nL a)) (.list (nL b)) C := by
  refine .inl ⟨_, _, congrArg some (nL_iL a), congrArg some (nL_iL b), ?_⟩
  have : decide (a.map (fun n : Nat => (n : Int)) = b.map fun n : Nat => (n : Int)) = decide (a = b) := by
    rw [decide_eq_decide]
    exact List.map_inj_right (fun x y e => by exact_mod_cast e)
  rw [this]; exact h

theorem law_rest (T : Txs P) {sc : Dv} {w size turns modulus kk : Nat} {bs : List Nat} {ess : List (List Nat)} {k : List (Nat × Nat)} {f PM : List Nat} (hw : 4 ≤ w) (hw2 : w ≤ 9) (hs1 : 2 ≤ size) (hs2 : size ≤ 5) (ht : turns ≤ 6) (hm1 : 3 ≤ modulus) (hm2 : modulus < 256)
    (S : LawSt size turns kk bs ess k f PM) {a b c d e g : Option Dv} {K : Option Dv → Frm → St → Prop}
    (hn : ∀ (fr : Frm) (a b c : Option Mo), K (some (.bool true)) fr (st ++ [a, b, c])) :
    wpSs (CallOK P (n + 5)) r_law (lawFr sc st.length w size turns modulus f PM a b c d e g) (st ++ [strandO kk bs, numsO ess, powO size ess]) K := by
  have hk := S.hk
  have hb := S.hb
  have hB := two_le_pow (w := w) (by omega)
  have isN : ∀ x y, IsS (st ++ [x, numsO ess, y]) (.ref (st.length + 1)) (nL (ess.map (pr P6))) := fun x y => .inr ⟨_, rfl, u1 _ _ _⟩
  have hel : ess.length ≤ 6 := by have := S.len; omega
  have w1 : 1 ≤ w := Nat.le_trans (by decide) hw
  have w20 : w ≤ 20 := Nat.le_trans hw2 (by decide)
  have sz6 : size ≤ 6 := Nat.le_trans hs2 (by decide)
  have sz100 : size ≤ 100 := Nat.le_trans hs2 (by decide)
  have bE : ess.length < big := Nat.lt_of_le_of_lt hel (by decide)
  have bE1 : ess.length + 1 < big := Nat.lt_of_le_of_lt (Nat.succ_le_succ hel) (by decide)
  have bE24 : ess.length + 1 ≤ 2 ^ 24 := Nat.le_trans (Nat.succ_le_succ hel) (by decide)
  have bE64 : ess.length + 1 ≤ 64 := Nat.le_trans (Nat.succ_le_succ hel) (by decide)
  have bE100 : ess.length + 1 ≤ 100 := Nat.le_trans (Nat.succ_le_succ hel) (by decide)
  unfold r_law lawFr
  refine wp_consI ?_
  simp only [wpE_r1, wpE_r2, wpE_r3, wpE_r4, wpE_r5, wpE_r6, wpE_r7, wpE_r8, wpE_r9, wpE_r10, wpE_r11, wpE_r12, wpE_r13, wpE_r14, wpE_r15, wpE_r16, wpE_r17, wpE_r18, wpE_r19, wpT_r1, wpT_r2, wpT_r3, wpT_r4, wpT_r5, wpTs_r1, wpEo_r1, wpEo_r2, wpEs_r1, wpEs_r2, wpI_r1, wpI_r2, wpI_r3, wpI_r4, wpI_r5, wpI_r6, wpS_r1, wpS_r2, wpS_r3, wpS_r4, wpS_r5, wpS_w, wpS_r7, wpS_r8, wpS_r9, wpS_r10, wpTs_r2, setAll_r1, setAll_r2, List.set_cons_succ, List.set_cons_zero, List.getElem?_cons_zero, List.getElem?_cons_succ, s_eq, s_ne, s_lt, s_le, s_gt, s_ge, s_is1, s_is2, s_isn1, s_isn2, s_neb, s_add, s_sub, s_mul, s_fdiv, s_mod, s_pow, s_lsh, s_rsh, s_and, s_or, s_xor, s_addL, s_mulL, s_backN, s_mkT, s_mkF, s_getL, s_getT, s_tg1, s_tg2, s_len, s_min, s_abs, s_int, s_intb]
  refine ⟨by simp, .inl ⟨(ess.map (pr P6)).map fun n : Nat => (n : Int), [], by rw [(isN _ _).its, nL_iL], rfl, ?_⟩⟩
  by_cases he : ess = []
  · subst he
    rw [show decide (((([] : List (List Nat)).map (pr P6)).map fun n : Nat => (n : Int)) = []) = true by decide]
    dsimp only
    refine wp_consI ?_
    simp only [wpE_r1, wpE_r2, wpE_r3, wpE_r4, wpE_r5, wpE_r6, wpE_r7, wpE_r8, wpE_r9, wpE_r10, wpE_r11, wpE_r12, wpE_r13, wpE_r14, wpE_r15, wpE_r16, wpE_r17, wpE_r18, wpE_r19, wpT_r1, wpT_r2, wpT_r3, wpT_r4, wpT_r5, wpTs_r1, wpEo_r1, wpEo_r2, wpEs_r1, wpEs_r2, wpI_r1, wpI_r2, wpI_r3, wpI_r4, wpI_r5, wpI_r6, wpS_r1, wpS_r2, wpS_r3, wpS_r4, wpS_r5, wpS_w, wpS_r7, wpS_r8, wpS_r9, wpS_r10, wpTs_r2, setAll_r1, setAll_r2, List.set_cons_succ, List.set_cons_zero, List.getElem?_cons_zero, List.getElem?_cons_succ, s_eq, s_ne, s_lt, s_le, s_gt, s_ge, s_is1, s_is2, s_isn1, s_isn2, s_neb, s_add, s_sub, s_mul, s_fdiv, s_mod, s_pow, s_lsh, s_rsh, s_and, s_or, s_xor, s_addL, s_mulL, s_backN, s_mkT, s_mkF, s_getL, s_getT, s_tg1, s_tg2, s_len, s_min, s_abs, s_int, s_intb]
    refine ⟨by simp, ?_⟩
    have h0 : (Dv.list []) = .list (rowsL 0 []) := rfl
    rw [h0]
    refine (c_without_sum T (c := 0) [] (by decide) (by decide) nofun (kept := []) (found := []) ⟨rfl, rfl⟩).up (by decide) ?_
    refine ⟨by simp, .inl ⟨[], [], rfl, rfl, ?_⟩⟩
    exact hn _ _ _ _
  rw [decide_eq_false (by intro h; exact he (by simpa using h))]
  dsimp only
  refine wp_nilI ?_
  dsimp only
  have hel0 : 0 < ess.length := List.length_pos_iff.mpr he
  refine wp_consI ?_
  have hget : ∀ x y, (st ++ [x, y, powO size ess])[st.length + 2]? = some (some (.list (powL size ess))) := fun x y => u2 _ _ _
  simp only [wpE_r1, wpE_r2, wpE_r3, wpE_r4, wpE_r5, wpE_r6, wpE_r7, wpE_r8, wpE_r9, wpE_r10, wpE_r11, wpE_r12, wpE_r13, wpE_r14, wpE_r15, wpE_r16, wpE_r17, wpE_r18, wpE_r19, wpT_r1, wpT_r2, wpT_r3, wpT_r4, wpT_r5, wpTs_r1, wpEo_r1, wpEo_r2, wpEs_r1, wpEs_r2, wpI_r1, wpI_r2, wpI_r3, wpI_r4, wpI_r5, wpI_r6, wpS_r1, wpS_r2, wpS_r3, wpS_r4, wpS_r5, wpS_w, wpS_r7, wpS_r8, wpS_r9, wpS_r10, wpTs_r2, setAll_r1, setAll_r2, List.set_cons_succ, List.set_cons_zero, List.getElem?_cons_zero, List.getElem?_cons_succ, s_eq, s_ne, s_lt, s_le, s_gt, s_ge, s_is1, s_is2, s_isn1, s_isn2, s_neb, s_add, s_sub, s_mul, s_fdiv, s_mod, s_pow, s_lsh, s_rsh, s_and, s_or, s_xor, s_addL, s_mulL, s_backN, s_mkT, s_mkF, s_getL, s_getT, s_tg1, s_tg2, s_len, s_min, s_abs, s_int, s_intb, hget]
  refine ⟨rfl, by unfold powL; rw [List.length_map]; exact Nat.le_of_succ_le bE24, ?_⟩
  rw [w2]
  refine compL_map (fun es => Dv.list (nL (es.take size))) (fun es => some (.list (iL (bits size (mk es))))) _ _ _ (fun fs hfs K' hK => ?_) ?_
  · have h6 := (S.good fs hfs).1.1
    try simp only [wpE_r1, wpE_r2, wpE_r3, wpE_r4, wpE_r5, wpE_r6, wpE_r7, wpE_r8, wpE_r9, wpE_r10, wpE_r11, wpE_r12, wpE_r13, wpE_r14, wpE_r15, wpE_r16, wpE_r17, wpE_r18, wpE_r19, wpT_r1, wpT_r2, wpT_r3, wpT_r4, wpT_r5, wpTs_r1, wpEo_r1, wpEo_r2, wpEs_r1, wpEs_r2, wpI_r1, wpI_r2, wpI_r3, wpI_r4, wpI_r5, wpI_r6, wpS_r1, wpS_r2, wpS_r3, wpS_r4, wpS_r5, wpS_w, wpS_r7, wpS_r8, wpS_r9, wpS_r10, wpSs_n, wpSs_c, wpTs_r2, setAll_r1, setAll_r2, List.set_cons_succ, List.set_cons_zero, List.getElem?_cons_zero, List.getElem?_cons_succ, s_eq, s_ne, s_lt, s_le, s_gt, s_ge, s_is1, s_is2, s_isn1, s_isn2, s_neb, s_add, s_sub, s_mul, s_fdiv, s_mod, s_pow, s_lsh, s_rsh, s_and, s_or, s_xor, s_addL, s_mulL, s_backN, s_mkT, s_mkF, s_getL, s_getT, s_tg1, s_tg2, s_len, s_min, s_abs, s_int, s_intb]
    refine ⟨rfl, by rw [nL_length, List.length_take]; exact Nat.le_trans (Nat.min_le_left _ _) (Nat.le_trans sz6 (by decide)), ?_⟩
    refine compL_map (fun e : Nat => Dv.int (e : Int)) (fun e => some (.int ((e % 2 : Nat) : Int))) _ _ _ (fun e he K'' hK'' => ?_) ?_
    · try simp only [wpE_r1, wpE_r2, wpE_r3, wpE_r4, wpE_r5, wpE_r6, wpE_r7, wpE_r8, wpE_r9, wpE_r10, wpE_r11, wpE_r12, wpE_r13, wpE_r14, wpE_r15, wpE_r16, wpE_r17, wpE_r18, wpE_r19, wpT_r1, wpT_r2, wpT_r3, wpT_r4, wpT_r5, wpTs_r1, wpEo_r1, wpEo_r2, wpEs_r1, wpEs_r2, wpI_r1, wpI_r2, wpI_r3, wpI_r4, wpI_r5, wpI_r6, wpS_r1, wpS_r2, wpS_r3, wpS_r4, wpS_r5, wpS_w, wpS_r7, wpS_r8, wpS_r9, wpS_r10, wpSs_n, wpSs_c, wpTs_r2, setAll_r1, setAll_r2, List.set_cons_succ, List.set_cons_zero, List.getElem?_cons_zero, List.getElem?_cons_succ, s_eq, s_ne, s_lt, s_le, s_gt, s_ge, s_is1, s_is2, s_isn1, s_isn2, s_neb, s_add, s_sub, s_mul, s_fdiv, s_mod, s_pow, s_lsh, s_rsh, s_and, s_or, s_xor, s_addL, s_mulL, s_backN, s_mkT, s_mkF, s_getL, s_getT, s_tg1, s_tg2, s_len, s_min, s_abs, s_int, s_intb]
      refine ⟨by decide, ?_⟩
      have e3 : Int.fmod (e : Int) 2 = ((e % 2 : Nat) : Int) := fmod_nat e 2
      rw [e3]; exact hK''
    · rw [filterMap_some, List.nil_append, bits_row h6 (by omega)]; exact hK
  rw [rowsL_map, List.nil_append]
  simp only [back, u2, w2]
  refine ⟨trivial, ?_⟩
  have hfold2 : some (Mo.list (powL size ess)) = powO size ess := rfl
  rw [hfold2]
  have isN' : ∀ x y, IsS (st ++ [x, some (Mo.list (nL (ess.map (pr P6)))), y]) (.ref (st.length + 1)) (nL (ess.map (pr P6))) := fun x y => .inr ⟨_, rfl, u1 _ _ _⟩
  rw [(isN _ _).len, nL_length, List.length_map]
  refine ⟨by unfold big; omega, ?_⟩
  refine c_law_strung (n := n + 4) T (many := ess.length) (k := kk) hel0 (by omega) (by omega) (u0 _ _ _) (fun v hv => ?_)
  rw [w0]
  have hfold : ∀ kk : Nat, (some (Mo.list [.int ((kk : Nat) : Int), .list (nL bs)])) = strandO kk bs := fun _ => rfl
  rw [hfold]
  try dsimp only
  refine ⟨by simp, rfl, ?_⟩
  try dsimp only
  -- the one taken twice
  have hev : ess[v]? = some (ess.getD v []) := by rw [List.getD_eq_getElem?_getD, List.getElem?_eq_getElem hv]; rfl
  generalize ess.getD v [] = ev at hev
  have hem : ev ∈ ess := List.mem_of_getElem? hev
  have hG := (S.good ev hem).1
  have hr := (S.good ev hem).2
  have hx : mk ev < 2 ^ size := mk_low ev size (rest_zero sz6 hG.1 hr)
  have hx64 : mk ev < 64 := Nat.lt_of_lt_of_le hx (Nat.le_trans (Nat.pow_le_pow_right (by decide) sz6) (by decide))
  obtain ⟨k', f', hstep, R', hcase⟩ := run_step S.ri hx
  have hsp : Sp (ess.map mk) (mk ev) := Sp.mem (List.mem_map.mpr ⟨ev, hem, rfl⟩)
  obtain ⟨s, hfe, hsl⟩ : ∃ s, f' = f ++ [s] ∧ s.log2 = (ess.map mk).length := by
    rcases hcase with ⟨_, h⟩ | ⟨h, _⟩
    · exact h
    · exact absurd hsp h
  rw [List.length_map] at hsl
  have hrun : RunR size 0 (ess.map mk ++ [mk ev]) [] [] k' f' := runR_snoc S.run (by rw [Nat.zero_add]; exact hstep)
  have hlt : ∀ y ∈ ess.map mk ++ [mk ev], y < 2 ^ size := fun y hy => by
    rcases List.mem_append.mp hy with hy | hy
    · exact lawSt_lt S sz6 y hy
    · rw [List.mem_singleton.mp hy]; exact hx
  have hml : (ess.map mk ++ [mk ev]).length = ess.length + 1 := by simp
  have hmapx : (ess ++ [ev]).map mk = ess.map mk ++ [mk ev] := by rw [List.map_append]; rfl
  have hel' : (ess ++ [ev]).length = ess.length + 1 := by simp
  have hsf : s ∈ f' := by rw [hfe]; exact List.mem_append_right _ (List.mem_singleton.mpr rfl)
  obtain ⟨hs0, hsb, hsc⟩ := R'.fnd s hsf
  rw [hml] at hsb
  have hs64 : s < 2 ^ 64 := Nat.lt_of_lt_of_le hsb (Nat.pow_le_pow_right (by decide) bE64)
  have hfl := S.ri.flen
  rw [List.length_map] at hfl
  have bF : f.length + 1 < big := Nat.lt_of_le_of_lt (Nat.succ_le_succ (Nat.le_trans hfl hel)) (by decide)
  have hfl' : f'.length = f.length + 1 := by rw [hfe]; simp
  have hrl : (rowsL size (ess.map mk)).length = ess.length := by simp [rowsL]
  have hGa : ∀ fs ∈ ess ++ [ev], Good fs ∧ restOf size fs = 1 := fun fs hf => by
    rcases List.mem_append.mp hf with hf | hf
    · exact S.good fs hf
    · rw [List.mem_singleton.mp hf]; exact ⟨hG, hr⟩
  refine wp_consI ?_
  simp only [wpE_r1, wpE_r2, wpE_r3, wpE_r4, wpE_r5, wpE_r6, wpE_r7, wpE_r8, wpE_r9, wpE_r10, wpE_r11, wpE_r12, wpE_r13, wpE_r14, wpE_r15, wpE_r16, wpE_r17, wpE_r18, wpE_r19, wpT_r1, wpT_r2, wpT_r3, wpT_r4, wpT_r5, wpTs_r1, wpEo_r1, wpEo_r2, wpEs_r1, wpEs_r2, wpI_r1, wpI_r2, wpI_r3, wpI_r4, wpI_r5, wpI_r6, wpS_r1, wpS_r2, wpS_r3, wpS_r4, wpS_r5, wpS_w, wpS_r7, wpS_r8, wpS_r9, wpS_r10, wpTs_r2, setAll_r1, setAll_r2, List.set_cons_succ, List.set_cons_zero, List.getElem?_cons_zero, List.getElem?_cons_succ, s_eq, s_ne, s_lt, s_le, s_gt, s_ge, s_is1, s_is2, s_isn1, s_isn2, s_neb, s_add, s_sub, s_mul, s_fdiv, s_mod, s_pow, s_lsh, s_rsh, s_and, s_or, s_xor, s_addL, s_mulL, s_backN, s_mkT, s_mkF, s_getL, s_getT, s_tg1, s_tg2, s_len, s_min, s_abs, s_int, s_intb]
  refine ⟨v, .list (iL (bits size (mk ev))), .inl rfl, ?_, by rw [hrl]; exact bE, ?_⟩
  · unfold rowsL; rw [List.getElem?_map, List.getElem?_map, hev]; rfl
  refine ⟨by simp, ?_⟩
  refine ⟨by rw [hrl]; exact bE24, ?_⟩
  have happ : rowsL size (ess.map mk) ++ [.list (iL (bits size (mk ev)))] = rowsL size (ess.map mk ++ [mk ev]) := by unfold rowsL; rw [List.map_append]; rfl
  rw [happ]
  refine (c_without_sum T (c := size) (ess.map mk ++ [mk ev]) sz100 (by rw [hml]; exact bE100) hlt hrun).up (by decide) ?_
  rw [LL_any (by rw [hml]; exact bE64) (fun s hs => (R'.fnd s hs).2.1)]
  try dsimp only
  refine wp_consI ?_
  simp only [wpE_r1, wpE_r2, wpE_r3, wpE_r4, wpE_r5, wpE_r6, wpE_r7, wpE_r8, wpE_r9, wpE_r10, wpE_r11, wpE_r12, wpE_r13, wpE_r14, wpE_r15, wpE_r16, wpE_r17, wpE_r18, wpE_r19, wpT_r1, wpT_r2, wpT_r3, wpT_r4, wpT_r5, wpTs_r1, wpEo_r1, wpEo_r2, wpEs_r1, wpEs_r2, wpI_r1, wpI_r2, wpI_r3, wpI_r4, wpI_r5, wpI_r6, wpS_r1, wpS_r2, wpS_r3, wpS_r4, wpS_r5, wpS_w, wpS_r7, wpS_r8, wpS_r9, wpS_r10, wpTs_r2, setAll_r1, setAll_r2, List.set_cons_succ, List.set_cons_zero, List.getElem?_cons_zero, List.getElem?_cons_succ, s_eq, s_ne, s_lt, s_le, s_gt, s_ge, s_is1, s_is2, s_isn1, s_isn2, s_neb, s_add, s_sub, s_mul, s_fdiv, s_mod, s_pow, s_lsh, s_rsh, s_and, s_or, s_xor, s_addL, s_mulL, s_backN, s_mkT, s_mkF, s_getL, s_getT, s_tg1, s_tg2, s_len, s_min, s_abs, s_int, s_intb, LL_len, hrl]
  refine ⟨Nat.lt_of_succ_lt bF, ?_⟩
  refine ⟨LL f', LL f, rfl, ?_, by rw [LL_len, hfl']; exact Nat.le_trans (Nat.succ_le_succ (Nat.le_trans hfl hel)) (by decide), ?_⟩
  · simp only [sl_to, sl_from, sl_rev, sl_two]
    rw [if_pos (Int.natCast_nonneg _), Int.toNat_natCast]
    congr 1
    rw [hfe]
    unfold LL lotsL; rw [List.map_append, List.take_left']; simp
  refine .inr ⟨_, _, congrArg some (LL_iLL f), congrArg some (LL_iLL f), ?_⟩
  rw [decide_eq_true rfl, Bool.not_true]
  dsimp only
  refine ⟨by rw [hfl']; exact bF, Nat.lt_of_succ_lt bF, ?_⟩
  rw [show ((f'.length : Int) != (f.length : Int) + 1) = false by rw [bne_eq_false_iff_eq, hfl']; rfl]
  dsimp only
  have hlast : ∀ K : Dv → Prop, K (.list (iL (lotL 64 s))) → nth (LL f') (-1) K := fun K hK => by
    refine ⟨f.length, .list (iL (lotL 64 s)), .inr ?_, ?_, by rw [LL_len, hfl']; exact bF, hK⟩
    · rw [LL_len, hfl']; simp; omega
    · unfold LL lotsL
      rw [hfe, List.map_append, List.getElem?_append_right (by simp), List.length_map, Nat.sub_self]; rfl
  refine hlast _ ?_
  rw [s_getL, lotL_last hs0 hs64]
  refine nth_last ?_ ?_
  · have := lotL_length s.log2 s
    rw [List.length_append]
    exact Nat.lt_of_le_of_lt (Nat.succ_le_succ (Nat.le_trans this (Nat.le_of_eq hsl))) bE1
  refine ⟨bE, ?_⟩
  rw [hsl, s_ne, show ((ess.length : Int) != (ess.length : Int)) = false by simp]
  dsimp only
  refine wp_nilI ?_
  dsimp only
  refine wp_consI ?_
  simp only [wpE_r1, wpE_r2, wpE_r3, wpE_r4, wpE_r5, wpE_r6, wpE_r7, wpE_r8, wpE_r9, wpE_r10, wpE_r11, wpE_r12, wpE_r13, wpE_r14, wpE_r15, wpE_r16, wpE_r17, wpE_r18, wpE_r19, wpT_r1, wpT_r2, wpT_r3, wpT_r4, wpT_r5, wpTs_r1, wpEo_r1, wpEo_r2, wpEs_r1, wpEs_r2, wpI_r1, wpI_r2, wpI_r3, wpI_r4, wpI_r5, wpI_r6, wpS_r1, wpS_r2, wpS_r3, wpS_r4, wpS_r5, wpS_w, wpS_r7, wpS_r8, wpS_r9, wpS_r10, wpTs_r2, setAll_r1, setAll_r2, List.set_cons_succ, List.set_cons_zero, List.getElem?_cons_zero, List.getElem?_cons_succ, s_eq, s_ne, s_lt, s_le, s_gt, s_ge, s_is1, s_is2, s_isn1, s_isn2, s_neb, s_add, s_sub, s_mul, s_fdiv, s_mod, s_pow, s_lsh, s_rsh, s_and, s_or, s_xor, s_addL, s_mulL, s_backN, s_mkT, s_mkF, s_getL, s_getT, s_tg1, s_tg2, s_len, s_min, s_abs, s_int, s_intb]
  refine hlast _ ?_
  rw [lotL_any hs64 hsb]
  try dsimp only
  refine wp_consI ?_
  simp only [wpE_r1, wpE_r2, wpE_r3, wpE_r4, wpE_r5, wpE_r6, wpE_r7, wpE_r8, wpE_r9, wpE_r10, wpE_r11, wpE_r12, wpE_r13, wpE_r14, wpE_r15, wpE_r16, wpE_r17, wpE_r18, wpE_r19, wpT_r1, wpT_r2, wpT_r3, wpT_r4, wpT_r5, wpTs_r1, wpEo_r1, wpEo_r2, wpEs_r1, wpEs_r2, wpI_r1, wpI_r2, wpI_r3, wpI_r4, wpI_r5, wpI_r6, wpS_r1, wpS_r2, wpS_r3, wpS_r4, wpS_r5, wpS_w, wpS_r7, wpS_r8, wpS_r9, wpS_r10, wpTs_r2, setAll_r1, setAll_r2, List.set_cons_succ, List.set_cons_zero, List.getElem?_cons_zero, List.getElem?_cons_succ, s_eq, s_ne, s_lt, s_le, s_gt, s_ge, s_is1, s_is2, s_isn1, s_isn2, s_neb, s_add, s_sub, s_mul, s_fdiv, s_mod, s_pow, s_lsh, s_rsh, s_and, s_or, s_xor, s_addL, s_mulL, s_backN, s_mkT, s_mkF, s_getL, s_getT, s_tg1, s_tg2, s_len, s_min, s_abs, s_int, s_intb]
  -- its whole
  have hN : ∀ R : Dv → Prop, R (.int (pr P6 ev : Int)) → getOk (st ++ [strandO (kk + 1) bs, numsO ess, powO size ess]) (.ref (st.length + 1)) (.int (v : Int)) R := fun R h => by
    rw [(isN _ _).get]
    exact nth_nL (by rw [List.getElem?_map, hev]; rfl) (by rw [List.length_map]; exact bE) h
  have isP : IsS (st ++ [strandO (kk + 1) bs, numsO ess, powO size ess]) (.ref (st.length + 2)) (powL size ess) := .inr ⟨_, rfl, u2 _ _ _⟩
  have hP : ∀ R : Dv → Prop, R (.list (nL (ev.take size))) → getOk (st ++ [strandO (kk + 1) bs, numsO ess, powO size ess]) (.ref (st.length + 2)) (.int (v : Int)) R := fun R h => by
    rw [isP.get]
    exact ⟨v, _, .inl rfl, by unfold powL; rw [List.getElem?_map, hev]; rfl, by unfold powL; rw [List.length_map]; exact bE, h⟩
  have hNA : nL (ess.map (pr P6)) ++ [.int (pr P6 ev : Int)] = nL ((ess ++ [ev]).map (pr P6)) := by simp [nL]
  have hPA : powL size ess ++ [.list (nL (ev.take size))] = powL size (ess ++ [ev]) := by simp [powL]
  have hG6 : ∀ es ∈ ess ++ [ev], es.length = 6 := fun es h => (hGa es h).1.1
  have hsel6 : ∀ es ∈ selE (ess ++ [ev]) s, es.length = 6 := fun es he => hG6 es (selE_mem he)
  refine ⟨rfl, by unfold iL; rw [List.length_map]; exact Nat.le_trans (lotL_length _ s) bE24, ?_⟩
  refine comp_sel (nums := (ess ++ [ev]).map (pr P6)) (by rw [List.length_map, hel']) (by rw [List.length_map, hel']; exact bE1) (fun i K' hK => ?_) ?_
  · try simp only [wpE_r1, wpE_r2, wpE_r3, wpE_r4, wpE_r5, wpE_r6, wpE_r7, wpE_r8, wpE_r9, wpE_r10, wpE_r11, wpE_r12, wpE_r13, wpE_r14, wpE_r15, wpE_r16, wpE_r17, wpE_r18, wpE_r19, wpT_r1, wpT_r2, wpT_r3, wpT_r4, wpT_r5, wpTs_r1, wpEo_r1, wpEo_r2, wpEs_r1, wpEs_r2, wpI_r1, wpI_r2, wpI_r3, wpI_r4, wpI_r5, wpI_r6, wpS_r1, wpS_r2, wpS_r3, wpS_r4, wpS_r5, wpS_w, wpS_r7, wpS_r8, wpS_r9, wpS_r10, wpSs_n, wpSs_c, wpTs_r2, setAll_r1, setAll_r2, List.set_cons_succ, List.set_cons_zero, List.getElem?_cons_zero, List.getElem?_cons_succ, s_eq, s_ne, s_lt, s_le, s_gt, s_ge, s_is1, s_is2, s_isn1, s_isn2, s_neb, s_add, s_sub, s_mul, s_fdiv, s_mod, s_pow, s_lsh, s_rsh, s_and, s_or, s_xor, s_addL, s_mulL, s_backN, s_mkT, s_mkF, s_getL, s_getT, s_tg1, s_tg2, s_len, s_min, s_abs, s_int, s_intb]
    refine hN _ ?_
    refine ⟨by simp, _, _, (isN _ _).its, rfl, by rw [nL_length, List.length_map]; exact bE24, ?_⟩
    rw [s_mkF, hNA]; exact hK
  rw [← hel', nums_sel]
  try simp only [back]
  refine (c_law_whole T ?_).up (by decide) ?_
  · intro y hy
    obtain ⟨es, he, rfl⟩ := List.mem_map.mp hy
    exact (hGa es (selE_mem he)).1.lt
  rw [prodL_vsum hsel6]
  try dsimp only
  refine wp_consI ?_
  simp only [wpE_r1, wpE_r2, wpE_r3, wpE_r4, wpE_r5, wpE_r6, wpE_r7, wpE_r8, wpE_r9, wpE_r10, wpE_r11, wpE_r12, wpE_r13, wpE_r14, wpE_r15, wpE_r16, wpE_r17, wpE_r18, wpE_r19, wpT_r1, wpT_r2, wpT_r3, wpT_r4, wpT_r5, wpTs_r1, wpEo_r1, wpEo_r2, wpEs_r1, wpEs_r2, wpI_r1, wpI_r2, wpI_r3, wpI_r4, wpI_r5, wpI_r6, wpS_r1, wpS_r2, wpS_r3, wpS_r4, wpS_r5, wpS_w, wpS_r7, wpS_r8, wpS_r9, wpS_r10, wpTs_r2, setAll_r1, setAll_r2, List.set_cons_succ, List.set_cons_zero, List.getElem?_cons_zero, List.getElem?_cons_succ, s_eq, s_ne, s_lt, s_le, s_gt, s_ge, s_is1, s_is2, s_isn1, s_isn2, s_neb, s_add, s_sub, s_mul, s_fdiv, s_mod, s_pow, s_lsh, s_rsh, s_and, s_or, s_xor, s_addL, s_mulL, s_backN, s_mkT, s_mkF, s_getL, s_getT, s_tg1, s_tg2, s_len, s_min, s_abs, s_int, s_intb]
  refine ⟨rfl, by unfold iL; rw [List.length_map, hel']; exact Nat.le_trans (lotL_length _ s) bE24, ?_⟩
  rw [lotL_ixs]
  have hlen64 : ∀ es ∈ ess ++ [ev], (lb (2 ^ w) (pr P6 es)).length ≤ 2 ^ 20 := fun es he => Nat.le_trans (len_of_lt (by omega) (hGa es he).1.lt) (by decide)
  refine compL_map (fun i : Nat => Dv.int (i : Int)) (fun i => some (.tup [.list (nL (lb (2 ^ w) (pr P6 ((ess ++ [ev]).getD i [])))), .list (nL (((ess ++ [ev]).getD i []).take size))])) _ _ _ (fun i hi K' hK => ?_) ?_
  · have hi' := ixs_lt hi
    have hgi : (ess ++ [ev])[i]? = some ((ess ++ [ev]).getD i []) := by rw [List.getD_eq_getElem?_getD, List.getElem?_eq_getElem hi']; rfl
    generalize (ess ++ [ev]).getD i [] = ei at *
    have hei := List.mem_of_getElem? hgi
    try simp only [wpE_r1, wpE_r2, wpE_r3, wpE_r4, wpE_r5, wpE_r6, wpE_r7, wpE_r8, wpE_r9, wpE_r10, wpE_r11, wpE_r12, wpE_r13, wpE_r14, wpE_r15, wpE_r16, wpE_r17, wpE_r18, wpE_r19, wpT_r1, wpT_r2, wpT_r3, wpT_r4, wpT_r5, wpTs_r1, wpEo_r1, wpEo_r2, wpEs_r1, wpEs_r2, wpI_r1, wpI_r2, wpI_r3, wpI_r4, wpI_r5, wpI_r6, wpS_r1, wpS_r2, wpS_r3, wpS_r4, wpS_r5, wpS_w, wpS_r7, wpS_r8, wpS_r9, wpS_r10, wpSs_n, wpSs_c, wpTs_r2, setAll_r1, setAll_r2, List.set_cons_succ, List.set_cons_zero, List.getElem?_cons_zero, List.getElem?_cons_succ, s_eq, s_ne, s_lt, s_le, s_gt, s_ge, s_is1, s_is2, s_isn1, s_isn2, s_neb, s_add, s_sub, s_mul, s_fdiv, s_mod, s_pow, s_lsh, s_rsh, s_and, s_or, s_xor, s_addL, s_mulL, s_backN, s_mkT, s_mkF, s_getL, s_getT, s_tg1, s_tg2, s_len, s_min, s_abs, s_int, s_intb]
    refine hN _ ?_
    refine ⟨by simp, _, _, (isN _ _).its, rfl, by rw [nL_length, List.length_map]; exact bE24, ?_⟩
    rw [s_mkF, hNA]
    refine nth_nL (x := pr P6 ei) (by rw [List.getElem?_map, hgi]; rfl) (by rw [List.length_map, hel']; exact bE1) ?_
    refine (c_law_limbs T (w := w) w1 w20 (hlen64 ei hei)).up (by decide) ?_
    refine hP _ ?_
    refine ⟨by simp, _, _, isP.its, rfl, by unfold powL; rw [List.length_map]; exact bE24, ?_⟩
    rw [s_mkF, hPA]
    refine ⟨i, .list (nL (ei.take size)), .inl rfl, by unfold powL; rw [List.getElem?_map, hgi]; rfl, by unfold powL; rw [List.length_map, hel']; exact bE1, ?_⟩
    refine ⟨by simp, ?_⟩
    exact hK
  have hgs : (ixs (ess ++ [ev]).length s).filterMap (fun i => some (Dv.tup [.list (nL (lb (2 ^ w) (pr P6 ((ess ++ [ev]).getD i [])))), .list (nL (((ess ++ [ev]).getD i []).take size))])) =
      givenL (2 ^ w) ((selE (ess ++ [ev]) s).map fun es => (pr P6 es, es.take size)) := by
    unfold givenL selE
    rw [List.map_map, List.map_map]; exact congrFun List.filterMap_eq_map _
  rw [hgs, List.nil_append]
  try simp only [back]
  try dsimp only
  refine wp_consI ?_
  simp only [wpE_r1, wpE_r2, wpE_r3, wpE_r4, wpE_r5, wpE_r6, wpE_r7, wpE_r8, wpE_r9, wpE_r10, wpE_r11, wpE_r12, wpE_r13, wpE_r14, wpE_r15, wpE_r16, wpE_r17, wpE_r18, wpE_r19, wpT_r1, wpT_r2, wpT_r3, wpT_r4, wpT_r5, wpTs_r1, wpEo_r1, wpEo_r2, wpEs_r1, wpEs_r2, wpI_r1, wpI_r2, wpI_r3, wpI_r4, wpI_r5, wpI_r6, wpS_r1, wpS_r2, wpS_r3, wpS_r4, wpS_r5, wpS_w, wpS_r7, wpS_r8, wpS_r9, wpS_r10, wpTs_r2, setAll_r1, setAll_r2, List.set_cons_succ, List.set_cons_zero, List.getElem?_cons_zero, List.getElem?_cons_succ, s_eq, s_ne, s_lt, s_le, s_gt, s_ge, s_is1, s_is2, s_isn1, s_isn2, s_neb, s_add, s_sub, s_mul, s_fdiv, s_mod, s_pow, s_lsh, s_rsh, s_and, s_or, s_xor, s_addL, s_mulL, s_backN, s_mkT, s_mkF, s_getL, s_getT, s_tg1, s_tg2, s_len, s_min, s_abs, s_int, s_intb]
  have hmod : modulus < 2 ^ 8 := hm2
  refine (c_law_limbs T (w := w) w1 w20 (Nat.le_trans (len_of_lt (by omega) hmod) (by decide))).up (by decide) ?_
  refine ⟨nL P6, nL (P6.take size), rfl, ?_, by rw [nL_length]; simp [P6], ?_⟩
  · simp only [sl_to, sl_from, sl_rev, sl_two]
    rw [if_pos (by omega), Int.toNat_natCast]; unfold nL; rw [List.map_take]
  have h16 : 16 ≤ 2 ^ w := by
    have := Nat.pow_le_pow_right (n := 2) (by decide) hw
    exact this
  have htl : (P6.take size).length = size := by rw [List.length_take]; exact Nat.min_eq_left sz6
  have hsl : (selE (ess ++ [ev]) s).length ≤ 7 := by
    have h1 : (ixs (ess ++ [ev]).length s).length ≤ (ess ++ [ev]).length := by unfold ixs; exact Nat.le_trans (List.length_filter_le _ _) (by simp)
    unfold selE; rw [List.length_map]; exact Nat.le_trans h1 (by rw [hel']; exact Nat.succ_le_succ hel)
  have hmw : 16 * 16 ≤ 2 ^ w * 2 ^ w := Nat.mul_le_mul h16 h16
  refine (c_two_roots T (w := w) (m := modulus) (ps := P6.take size) (by omega) (by omega) (by omega) (by omega) (by omega) (fun p hp => ?_) (by omega) (by rw [List.length_map]; omega) (fun g hg => ?_)).up (by decide) ?_
  · have := P6_take16 size (by omega) p hp; exact ⟨this.1, Nat.lt_of_lt_of_le this.2 h16⟩
  · obtain ⟨es, he, rfl⟩ := List.mem_map.mp hg
    have hge := (hGa es (selE_mem he)).1
    exact ⟨hge.lt, by rw [htl]; show (es.take size).length = size; rw [List.length_take, hge.1]; exact Nat.min_eq_left sz6, fun e he' => Nat.le_trans (hge.2 e (List.mem_of_mem_take he')) (by decide)⟩
  have hfst : ((selE (ess ++ [ev]) s).map fun es => (pr P6 es, es.take size)).map (·.1) = (selE (ess ++ [ev]) s).map (pr P6) := by rw [List.map_map]; rfl
  have hhalf := halves (L := selE (ess ++ [ev]) s) (size := size) sz6 (fun es he => ⟨hsel6 es he, rest_zero sz6 (hsel6 es he) (hGa es (selE_mem he)).2⟩)
  rw [hfst, prodL_vsum hsel6, htl, hhalf]
  have h6 : (vsum (selE (ess ++ [ev]) s)).length = 6 := vsum_len hsel6
  have hcomb : mk (vsum (selE (ess ++ [ev]) s)) = 0 := by rw [mk_sel hG6, hmapx, hsc]
  refine ⟨rfl, ?_⟩
  try dsimp only
  refine wp_consI ?_
  simp only [wpE_r1, wpE_r2, wpE_r3, wpE_r4, wpE_r5, wpE_r6, wpE_r7, wpE_r8, wpE_r9, wpE_r10, wpE_r11, wpE_r12, wpE_r13, wpE_r14, wpE_r15, wpE_r16, wpE_r17, wpE_r18, wpE_r19, wpT_r1, wpT_r2, wpT_r3, wpT_r4, wpT_r5, wpTs_r1, wpEo_r1, wpEo_r2, wpEs_r1, wpEs_r2, wpI_r1, wpI_r2, wpI_r3, wpI_r4, wpI_r5, wpI_r6, wpS_r1, wpS_r2, wpS_r3, wpS_r4, wpS_r5, wpS_w, wpS_r7, wpS_r8, wpS_r9, wpS_r10, wpTs_r2, setAll_r1, setAll_r2, List.set_cons_succ, List.set_cons_zero, List.getElem?_cons_zero, List.getElem?_cons_succ, s_eq, s_ne, s_lt, s_le, s_gt, s_ge, s_is1, s_is2, s_isn1, s_isn2, s_neb, s_add, s_sub, s_mul, s_fdiv, s_mod, s_pow, s_lsh, s_rsh, s_and, s_or, s_xor, s_addL, s_mulL, s_backN, s_mkT, s_mkF, s_getL, s_getT, s_tg1, s_tg2, s_len, s_min, s_abs, s_int, s_intb]
  refine (c_law_parted T h6).up (by decide) ?_
  refine ⟨rfl, ?_⟩
  rw [sf_mk h6, hcomb, sf_zero]
  generalize pr P6 (vsum (selE (ess ++ [ev]) s)) = total
  generalize pr P6 ((vsum (selE (ess ++ [ev]) s)).map (· / 2)) = rt
  try dsimp only
  refine wp_consI ?_
  simp only [wpE_r1, wpE_r2, wpE_r3, wpE_r4, wpE_r5, wpE_r6, wpE_r7, wpE_r8, wpE_r9, wpE_r10, wpE_r11, wpE_r12, wpE_r13, wpE_r14, wpE_r15, wpE_r16, wpE_r17, wpE_r18, wpE_r19, wpT_r1, wpT_r2, wpT_r3, wpT_r4, wpT_r5, wpTs_r1, wpEo_r1, wpEo_r2, wpEs_r1, wpEs_r2, wpI_r1, wpI_r2, wpI_r3, wpI_r4, wpI_r5, wpI_r6, wpS_r1, wpS_r2, wpS_r3, wpS_r4, wpS_r5, wpS_w, wpS_r7, wpS_r8, wpS_r9, wpS_r10, wpTs_r2, setAll_r1, setAll_r2, List.set_cons_succ, List.set_cons_zero, List.getElem?_cons_zero, List.getElem?_cons_succ, s_eq, s_ne, s_lt, s_le, s_gt, s_ge, s_is1, s_is2, s_isn1, s_isn2, s_neb, s_add, s_sub, s_mul, s_fdiv, s_mod, s_pow, s_lsh, s_rsh, s_and, s_or, s_xor, s_addL, s_mulL, s_backN, s_mkT, s_mkF, s_getL, s_getT, s_tg1, s_tg2, s_len, s_min, s_abs, s_int, s_intb]
  rw [show (((1 : Nat) : Int) == 1) = true by decide]
  dsimp only
  have hl8 : ∀ z, (lb (2 ^ w) (z % modulus)).length ≤ 2 ^ 20 := fun z => Nat.le_trans (len_of_lt (by omega) (Nat.lt_trans (Nat.mod_lt z (by omega)) hmod)) (by decide)
  refine ⟨by omega, ?_⟩
  rw [fmod_nat]
  refine (c_law_limbs T (w := w) w1 w20 (hl8 total)).up (by decide) ?_
  refine s_eqL _ _ ?_
  rw [decide_eq_true rfl]
  dsimp only
  refine ⟨by omega, ?_⟩
  rw [fmod_nat]
  refine (c_law_limbs T (w := w) w1 w20 (hl8 rt)).up (by decide) ?_
  refine s_eqL _ _ ?_
  rw [decide_eq_true rfl]
  exact hn _ _ _ _
end
end Mine
end

section
open PySem PySem.W PyProof.Rows PySem.Spec PySem.SeqAt PySem.Calls
set_option Elab.async false
set_option maxRecDepth 100000
set_option maxHeartbeats 1000000
set_option autoImplicit false
set_option linter.all false
namespace Mine

section
variable {P : PG} {n : Nat} {st : St}

theorem law_wp (T : Txs P) (xs : List Int) (hl : xs.length ≤ 63) {Q : Dv → St → Prop} (q : Q (.bool true) st) :
    wpSs (CallOK P (n + 5)) m_law (initFr n_law [.list (iL xs)]) st fun o _ st' => fin st.length o st' Q := by
  show wpSs (CallOK P (n + 5)) m_law [some (.list (iL xs)), none, none, none, none, none, none, none, none, none, none, none, none, none, none, none, none, none, none, none, none, none, none, none, none, none, none, none, none, none, none, none, none, none] st _
  rw [m_law_eq]
  refine wp_consI ?_
  simp only [wpE_r1, wpE_r2, wpE_r3, wpE_r4, wpE_r5, wpE_r6, wpE_r7, wpE_r8, wpE_r9, wpE_r10, wpE_r11, wpE_r12, wpE_r13, wpE_r14, wpE_r15, wpE_r16, wpE_r17, wpE_r18, wpE_r19, wpT_r1, wpT_r2, wpT_r3, wpT_r4, wpT_r5, wpTs_r1, wpEo_r1, wpEo_r2, wpEs_r1, wpEs_r2, wpI_r1, wpI_r2, wpI_r3, wpI_r4, wpI_r5, wpI_r6, wpS_r1, wpS_r2, wpS_r3, wpS_r4, wpS_r5, wpS_w, wpS_r7, wpS_r8, wpS_r9, wpS_r10, wpTs_r2, setAll_r1, setAll_r2, List.set_cons_succ, List.set_cons_zero, List.getElem?_cons_zero, List.getElem?_cons_succ, s_eq, s_ne, s_lt, s_le, s_gt, s_ge, s_is1, s_is2, s_isn1, s_isn2, s_neb, s_add, s_sub, s_mul, s_fdiv, s_mod, s_pow, s_lsh, s_rsh, s_and, s_or, s_xor, s_addL, s_mulL, s_backN, s_mkT, s_mkF, s_getL, s_getT, s_tg1, s_tg2, s_len, s_min, s_abs, s_int, s_intb]
  have hP6 : ([.int 2, .int 3, .int 5, .int 7, .int 11, .int 13] : List Dv) = nL P6 := rfl
  rw [hP6]
  refine ⟨by simp [nL, P6], ?_⟩
  refine wp_consI ?_
  simp only [wpE_r1, wpE_r2, wpE_r3, wpE_r4, wpE_r5, wpE_r6, wpE_r7, wpE_r8, wpE_r9, wpE_r10, wpE_r11, wpE_r12, wpE_r13, wpE_r14, wpE_r15, wpE_r16, wpE_r17, wpE_r18, wpE_r19, wpT_r1, wpT_r2, wpT_r3, wpT_r4, wpT_r5, wpTs_r1, wpEo_r1, wpEo_r2, wpEs_r1, wpEs_r2, wpI_r1, wpI_r2, wpI_r3, wpI_r4, wpI_r5, wpI_r6, wpS_r1, wpS_r2, wpS_r3, wpS_r4, wpS_r5, wpS_w, wpS_r7, wpS_r8, wpS_r9, wpS_r10, wpTs_r2, setAll_r1, setAll_r2, List.set_cons_succ, List.set_cons_zero, List.getElem?_cons_zero, List.getElem?_cons_succ, s_eq, s_ne, s_lt, s_le, s_gt, s_ge, s_is1, s_is2, s_isn1, s_isn2, s_neb, s_add, s_sub, s_mul, s_fdiv, s_mod, s_pow, s_lsh, s_rsh, s_and, s_or, s_xor, s_addL, s_mulL, s_backN, s_mkT, s_mkF, s_getL, s_getT, s_tg1, s_tg2, s_len, s_min, s_abs, s_int, s_intb]
  refine ⟨rfl, _, iL (xs.take 15), rfl, ?_, by simp [iL]; omega, ?_⟩
  · simp only [sl_to, sl_from, sl_rev, sl_two]
    rw [if_pos (by decide)]; unfold iL; rw [List.map_take]; rfl
  refine ⟨by simp [iL]; omega, ?_⟩
  refine compL_map (fun x : Int => Dv.int x) (fun x => some (.int ((x.natAbs : Nat) : Int))) _ _ _ (fun x hx K hK => ?_) ?_
  · exact hK
  rw [filterMap_some, List.nil_append]
  try simp only [back]
  have hbs : ((xs.take 15).map Int.natAbs).length ≤ 15 := by rw [List.length_map, List.length_take]; omega
  generalize (xs.take 15).map Int.natAbs = bs at *
  have b20 : bs.length < 2 ^ 20 := Nat.lt_of_le_of_lt hbs (by decide)
  refine ⟨by simp, ?_, ?_⟩
  · exact pures_iff.mpr fun d hd => by
      simp only [List.mem_cons, List.not_mem_nil, or_false] at hd
      rcases hd with rfl | rfl
      · rfl
      · exact pure_nL _
  have s0 : ∀ x : Option Mo, (st ++ [x])[st.length]? = some x := fun x => by simp
  have sS : ∀ x y : Option Mo, (st ++ [x]).set st.length y = st ++ [y] := fun x y => setA _ _
  have hfold : ∀ kk : Nat, (some (Mo.list [.int ((kk : Nat) : Int), .list (nL bs)])) = strandO kk bs := fun _ => rfl
  have hst0 : (st ++ [some (Mo.list [.int 0, .list (nL bs)])]) = st ++ [strandO 0 bs] := rfl
  rw [hst0]
  refine wp_consI ?_
  simp only [wpE_r1, wpE_r2, wpE_r3, wpE_r4, wpE_r5, wpE_r6, wpE_r7, wpE_r8, wpE_r9, wpE_r10, wpE_r11, wpE_r12, wpE_r13, wpE_r14, wpE_r15, wpE_r16, wpE_r17, wpE_r18, wpE_r19, wpT_r1, wpT_r2, wpT_r3, wpT_r4, wpT_r5, wpTs_r1, wpEo_r1, wpEo_r2, wpEs_r1, wpEs_r2, wpI_r1, wpI_r2, wpI_r3, wpI_r4, wpI_r5, wpI_r6, wpS_r1, wpS_r2, wpS_r3, wpS_r4, wpS_r5, wpS_w, wpS_r7, wpS_r8, wpS_r9, wpS_r10, wpTs_r2, setAll_r1, setAll_r2, List.set_cons_succ, List.set_cons_zero, List.getElem?_cons_zero, List.getElem?_cons_succ, s_eq, s_ne, s_lt, s_le, s_gt, s_ge, s_is1, s_is2, s_isn1, s_isn2, s_neb, s_add, s_sub, s_mul, s_fdiv, s_mod, s_pow, s_lsh, s_rsh, s_and, s_or, s_xor, s_addL, s_mulL, s_backN, s_mkT, s_mkF, s_getL, s_getT, s_tg1, s_tg2, s_len, s_min, s_abs, s_int, s_intb]
  refine c_law_strung (n := n + 4) T (many := 6) (k := 0) (by decide) (by decide) b20 (s0 _) (fun v1 hv1 => ?_)
  rw [sS, hfold, s_add]
  refine c_law_strung (n := n + 4) T (many := 4) (k := 0 + 1) (by decide) (by decide) b20 (s0 _) (fun v2 hv2 => ?_)
  rw [sS, hfold, s_add]
  refine ⟨by simp, rfl, ?_⟩
  try dsimp only
  refine wp_consI ?_
  simp only [wpE_r1, wpE_r2, wpE_r3, wpE_r4, wpE_r5, wpE_r6, wpE_r7, wpE_r8, wpE_r9, wpE_r10, wpE_r11, wpE_r12, wpE_r13, wpE_r14, wpE_r15, wpE_r16, wpE_r17, wpE_r18, wpE_r19, wpT_r1, wpT_r2, wpT_r3, wpT_r4, wpT_r5, wpTs_r1, wpEo_r1, wpEo_r2, wpEs_r1, wpEs_r2, wpI_r1, wpI_r2, wpI_r3, wpI_r4, wpI_r5, wpI_r6, wpS_r1, wpS_r2, wpS_r3, wpS_r4, wpS_r5, wpS_w, wpS_r7, wpS_r8, wpS_r9, wpS_r10, wpTs_r2, setAll_r1, setAll_r2, List.set_cons_succ, List.set_cons_zero, List.getElem?_cons_zero, List.getElem?_cons_succ, s_eq, s_ne, s_lt, s_le, s_gt, s_ge, s_is1, s_is2, s_isn1, s_isn2, s_neb, s_add, s_sub, s_mul, s_fdiv, s_mod, s_pow, s_lsh, s_rsh, s_and, s_or, s_xor, s_addL, s_mulL, s_backN, s_mkT, s_mkF, s_getL, s_getT, s_tg1, s_tg2, s_len, s_min, s_abs, s_int, s_intb]
  refine c_law_strung (n := n + 4) T (many := 4) (k := 0 + 1 + 1) (by decide) (by decide) b20 (s0 _) (fun v3 hv3 => ?_)
  rw [sS, hfold, s_add]
  refine c_law_strung (n := n + 4) T (many := 200) (k := 0 + 1 + 1 + 1) (by decide) (by decide) b20 (s0 _) (fun v4 hv4 => ?_)
  rw [sS, hfold, s_add]
  refine ⟨by simp, rfl, ?_⟩
  try dsimp only
  refine wp_consI ?_
  simp only [wpE_r1, wpE_r2, wpE_r3, wpE_r4, wpE_r5, wpE_r6, wpE_r7, wpE_r8, wpE_r9, wpE_r10, wpE_r11, wpE_r12, wpE_r13, wpE_r14, wpE_r15, wpE_r16, wpE_r17, wpE_r18, wpE_r19, wpT_r1, wpT_r2, wpT_r3, wpT_r4, wpT_r5, wpTs_r1, wpEo_r1, wpEo_r2, wpEs_r1, wpEs_r2, wpI_r1, wpI_r2, wpI_r3, wpI_r4, wpI_r5, wpI_r6, wpS_r1, wpS_r2, wpS_r3, wpS_r4, wpS_r5, wpS_w, wpS_r7, wpS_r8, wpS_r9, wpS_r10, wpTs_r2, setAll_r1, setAll_r2, List.set_cons_succ, List.set_cons_zero, List.getElem?_cons_zero, List.getElem?_cons_succ, s_eq, s_ne, s_lt, s_le, s_gt, s_ge, s_is1, s_is2, s_isn1, s_isn2, s_neb, s_add, s_sub, s_mul, s_fdiv, s_mod, s_pow, s_lsh, s_rsh, s_and, s_or, s_xor, s_addL, s_mulL, s_backN, s_mkT, s_mkF, s_getL, s_getT, s_tg1, s_tg2, s_len, s_min, s_abs, s_int, s_intb]
  refine ⟨by simp, rfl, by simp, rfl, by simp, by simp, by simp, rfl, ?_⟩
  try dsimp only
  refine wp_consI ?_
  simp only [wpE_r1, wpE_r2, wpE_r3, wpE_r4, wpE_r5, wpE_r6, wpE_r7, wpE_r8, wpE_r9, wpE_r10, wpE_r11, wpE_r12, wpE_r13, wpE_r14, wpE_r15, wpE_r16, wpE_r17, wpE_r18, wpE_r19, wpT_r1, wpT_r2, wpT_r3, wpT_r4, wpT_r5, wpTs_r1, wpEo_r1, wpEo_r2, wpEs_r1, wpEs_r2, wpI_r1, wpI_r2, wpI_r3, wpI_r4, wpI_r5, wpI_r6, wpS_r1, wpS_r2, wpS_r3, wpS_r4, wpS_r5, wpS_w, wpS_r7, wpS_r8, wpS_r9, wpS_r10, wpTs_r2, setAll_r1, setAll_r2, List.set_cons_succ, List.set_cons_zero, List.getElem?_cons_zero, List.getElem?_cons_succ, s_eq, s_ne, s_lt, s_le, s_gt, s_ge, s_is1, s_is2, s_isn1, s_isn2, s_neb, s_add, s_sub, s_mul, s_fdiv, s_mod, s_pow, s_lsh, s_rsh, s_and, s_or, s_xor, s_addL, s_mulL, s_backN, s_mkT, s_mkF, s_getL, s_getT, s_tg1, s_tg2, s_len, s_min, s_abs, s_int, s_intb]
  have e1 : (4 : Int) + (v1 : Int) = ((4 + v1 : Nat) : Int) := (Int.natCast_add 4 v1).symm
  have e2 : (2 : Int) + (v2 : Int) = ((2 + v2 : Nat) : Int) := (Int.natCast_add 2 v2).symm
  have e3 : (2 : Int) + (v3 : Int) = ((2 + v3 : Nat) : Int) := (Int.natCast_add 2 v3).symm
  have e4 : (3 : Int) + (v4 : Int) = ((3 + v4 : Nat) : Int) := (Int.natCast_add 3 v4).symm
  rw [e1, e2, e3, e4]
  refine ⟨by rw [Int.natAbs_natCast]; omega, ?_⟩
  rw [Int.toNat_natCast]
  have S0 : LawSt (2 + v2) 0 4 bs [] [] [] [0] := by
    refine ⟨by omega, hbs, nofun, by simp, RI.nil _, ⟨rfl, rfl⟩, fun m => ?_, fun m hm => by rw [List.mem_singleton.mp hm]; decide, by simp⟩
    exact List.mem_singleton
  have hst3 : (st ++ [strandO (0 + 1 + 1 + 1 + 1) bs] ++ [some (Mo.list [])] ++ [some (Mo.list [])] : St) = st ++ [strandO 4 bs, numsO [], powO (2 + v2) []] := by simp [numsO, powO, powL, nL]
  rw [hst3]
  refine forL_range (fun i fr st' => ∃ kk ess k f PM a b c d e g, LawSt (2 + v2) i kk bs ess k f PM ∧ fr = lawFr (.list (iL xs)) st.length (4 + v1) (2 + v2) (2 + v3) (3 + v4) f PM a b c d e g ∧ st' = st ++ [strandO kk bs, numsO ess, powO (2 + v2) ess]) (2 + v3) ?_ ?_
    ⟨4, [], [], [], [0], none, none, none, none, none, none, S0, ?_, rfl⟩
  · rintro i fr st' K hi ⟨kk, ess, k, f, PM, a, b, c, d, e, g, S, rfl, rfl⟩ hn hs
    exact law_turn T (Nat.le_add_right 4 v1) (Nat.add_le_add_left (Nat.le_of_lt_succ hv1) 4) (Nat.le_add_right 2 v2) (Nat.add_le_add_left (Nat.le_of_lt_succ hv2) 2) (Nat.lt_of_lt_of_le hi (Nat.add_le_add_left (Nat.le_of_lt hv3) 2)) S (a := some (.int (i : Int))) fun kk' ess' k' f' PM' a b c d e g S' => hn _ _ ⟨kk', ess', k', f', PM', a, b, c, d, e, g, S', rfl, rfl⟩
  · rintro fr st' ⟨kk, ess, k, f, PM, a, b, c, d, e, g, S, rfl, rfl⟩
    dsimp only
    refine law_rest T (Nat.le_add_right 4 v1) (Nat.add_le_add_left (Nat.le_of_lt_succ hv1) 4) (Nat.le_add_right 2 v2) (Nat.add_le_add_left (Nat.le_of_lt_succ hv2) 2) (Nat.add_le_add_left (Nat.le_of_lt hv3) 2) (Nat.le_add_right 3 v4) (Nat.lt_of_lt_of_le (Nat.add_lt_add_left hv4 3) (by decide)) S fun fr a b c => ?_
    refine ⟨rfl, ?_⟩
    rw [takeU]; exact q
  · simp [lawFr, LL, lotsL, nL, sf_zero]
end
end Mine
end

section
open PySem PySem.W PyProof.Rows PySem.Calls
set_option Elab.async false
set_option maxRecDepth 100000
set_option maxHeartbeats 8000000
namespace Mine
/-- the program as the top's line sees it: the statements that bind a def or a class -/
noncomputable def vw : Program := view PySem.Challenge.pw_sj0079_01 [1, 2, 3, 4, 6, 7, 8, 9, 10, 11, 12, 13, 15, 16, 17, 18, 19, 20, 21, 23, 24, 26, 27, 28, 29, 30, 31, 32, 33, 34]
/-- where the defs stand in the text -/
noncomputable def fnAt : List Nat := [1, 2, 3, 4, 8, 9, 10, 11, 12, 13, 15, 16, 17, 18, 19, 20, 21, 23, 24, 26, 27, 28, 29, 30, 31, 32, 33, 34]
noncomputable def recAt (i : Nat) : DefRec := match PySem.Challenge.pw_sj0079_01.main.body[i]? with
  | some (.FunctionDef n a b _ _ _ sc _ _ pos) => ⟨n, a, b, sc, pos⟩
  | _ => ⟨"", ⟨[], [], none, [], [], none, []⟩, [], PySem.Challenge.pw_sj0079_01.main.scope, ⟨0, 0, 0, 0⟩⟩
theorem recs_eq : recsOf vw = fnAt.map recAt := by kernel_rfl

noncomputable def NameOk (h : Heap) : Prop := ∃ m n t, h.Ns mainGlobals m ∧ m "__name__" = some (.str n t) ∧ (n == ("__main__" : Str)) = false
noncomputable def nameOk (h : Heap) : Bool := h.isNs mainGlobals && match h.nsMap mainGlobals "__name__" with
  | some (.str n _) => !(n == ("__main__" : Str))
  | _ => false
theorem nameOk_spec {h : Heap} (e : nameOk h = true) : NameOk h := by
  obtain ⟨a, b⟩ := Bool.and_eq_true_iff.mp e
  split at b
  · rename_i n t q
    exact ⟨_, n, t, .of_isNs a, q, by simpa using b⟩
  · cases b
noncomputable def nmHook : Hook := ⟨Bool, fun s => nameOk s.heap, fun _ => true, fun _ h => NameOk h, fun _ _ e => nameOk_spec e, fun _ _ _ ⟨m, n, t, a, b⟩ k => ⟨m, n, t, a.keeps k, b⟩⟩

theorem said : PySem.Challenge.rw_sj0079_01.wellSaid = true := by
  first
  | (rw [PySem.W.Fast.te9446332074065402090]; kernel_rfl)
  | decide +kernel
theorem left : LeftO PySem.Challenge.rw_sj0079_01.row.prog vw [] (fun s => xlAt vw [] s && recOk PySem.Challenge.rw_sj0079_01.row.toRowW.records s) nmHook.obs nmHook.val 2802 := by
  intro w
  -- over the library's quick twins where they stand, else as it is
  first
  | (rw [show ∀ (p : Program) (w : World) (N : Nat), openEnds treeTable p w N = ((PySem.W.Fast.tw10274390034422433532 PySem.W.Fast.tw14364793385576792824 (opening p) w N (PySem.W.Fast.tw1435165496053646825 (opening p)).1 (PySem.W.Fast.tw1435165496053646825 (opening p)).2).bind (PySem.W.Fast.tw14289696077712309145 p)).bind fun s₀ =>
        match s₀.heap.isNs mainGlobals && s₀.gens.size == 0 with
        | true => (PySem.W.Fast.tw14082659384304107361 PySem.W.Fast.tw14364793385576792824 p w s₀.heap.objs.size (s₀.heap.nsMap mainGlobals "__annotations__") N s₀ (topStub p)).bind fun s₁ => match staticsOk (importedModules p.main.body) s₀.heap s₁.heap && namesBound p s₁.heap && gensDone s₁ && laidKept s₀.heap s₁.heap with
          | true => some s₁
          | false => none
        | false => none from fun p w N => by
          rw [← PySem.W.Fast.te10274390034422433532, ← PySem.W.Fast.te14364793385576792824, ← PySem.W.Fast.te1435165496053646825, ← PySem.W.Fast.te14289696077712309145, ← PySem.W.Fast.te14082659384304107361]
          rfl, PySem.W.Fast.te4187177175401517315]
     kernel_rfl)
  | kernel_rfl
theorem defL : defOf vw PySem.Challenge.rw_sj0079_01.row.name = some (recAt 34, []) := by kernel_rfl
theorem theL : PySem.Challenge.rw_sj0079_01.row.prog.theDef PySem.Challenge.rw_sj0079_01.row.name = some ((recAt 34).params, (recAt 34).body, (recAt 34).scope) := by kernel_rfl
theorem okL : (chainsOk vw && opensWell PySem.Challenge.rw_sj0079_01.row.prog && (frees PySem.Challenge.rw_sj0079_01.row.toRowW && PySem.Challenge.rw_sj0079_01.row.within.isEmpty)) = true := by decide +kernel
theorem head (call : WalkO vw [] (XL vw []) nmHook.says PySem.Challenge.rw_sj0079_01.row.toRowW (recAt 34) [] fun f vs => PySem.call f vs) : PySem.Challenge.rw_sj0079_01.Holds := by
  refine holds_law said fun said' => ?_
  refine holds_open (q := vw) (loose := []) (Xt := fun s => xlAt vw [] s && recOk PySem.Challenge.rw_sj0079_01.row.toRowW.records s) (XP := XL vw []) (Yf := nmHook.obs) (Ya := nmHook.val) (YP := nmHook.says) (N := 2802) left nmHook.of nmHook.keeps
    (fun s e => xl_of s (Bool.and_eq_true_iff.mp e).1) XL.keeps defL theL (by kernel_rfl) (fun s e => recFacts_of (Bool.and_eq_true_iff.mp e).2) (by rfl) said' okL ⟨rfl, rfl, rfl, rfl, rfl, by decide +kernel⟩ ?_ call
  w_witness2
end Mine
end

section
open PySem PySem.W PyProof.Rows PySem.Spec PySem.SeqAt PySem.Calls
set_option Elab.async false
set_option maxRecDepth 100000
set_option maxHeartbeats 1000000
set_option autoImplicit false
namespace Mine
theorem len_cons {n : Nat} {vs : List Value} (h : vs.length = n + 1) : ∃ a r, vs = a :: r ∧ r.length = n := by
  cases vs with
  | nil => cases h
  | cons a r => exact ⟨a, r, rfl, Nat.succ.inj h⟩
theorem len_nil {vs : List Value} (h : vs.length = 0) : vs = [] := List.eq_nil_of_length_eq_zero h
/-- the function object of def number i of the text -/
noncomputable def docOf (i : Nat) (pm cd doc : Value) : FuncData := docDef (recAt i).name (recAt i).params (recAt i).body (recAt i).scope pm cd doc
/-- def number i of the text is the mini text -/
noncomputable def Txt (i : Nat) (ps : List Str) (N : Slots) (m : MSs) : Prop :=
  (∀ pm cd doc, FnIs (docOf i pm cd doc) (recAt i).scope.names ps (recAt i).body) ∧ fnOk (recAt i).scope.names ps N = true ∧ encSs fnNames (recAt i).scope.names N m (recAt i).body = true
theorem fnIs_of {i : Nat} {ps : List Str} (h1 : (recAt i).scope.kind = .function) (h2 : (recAt i).scope.isCoroutine = false) (h3 : (recAt i).scope.isGenerator = false)
    (h4 : ∀ pm cd doc, ∀ vs : List Value, vs.length = ps.length → bindArgs (docOf i pm cd doc) ⟨vs, []⟩ = pure (ps.zip vs)) (pm cd doc : Value) : FnIs (docOf i pm cd doc) (recAt i).scope.names ps (recAt i).body :=
  ⟨rfl, rfl, rfl, h1, h2, h3, rfl, rfl, h4 pm cd doc⟩
theorem tx_first_one : Txt 1 p_first_one n_first_one m_first_one := by
  refine ⟨fnIs_of (by kernel_rfl) (by kernel_rfl) (by kernel_rfl) fun pm cd doc vs h => ?_, by kernel_rfl, by kernel_rfl⟩
  obtain ⟨a0, v0, rfl, h0⟩ := len_cons h
  obtain rfl := len_nil h0
  kernel_rfl
theorem tx_sum_of_rows : Txt 2 p_sum_of_rows n_sum_of_rows m_sum_of_rows := by
  refine ⟨fnIs_of (by kernel_rfl) (by kernel_rfl) (by kernel_rfl) fun pm cd doc vs h => ?_, by kernel_rfl, by kernel_rfl⟩
  obtain ⟨a0, v0, rfl, h0⟩ := len_cons h
  obtain ⟨a1, v1, rfl, h1⟩ := len_cons h0
  obtain rfl := len_nil h1
  kernel_rfl
theorem tx_cleared : Txt 3 p_cleared n_cleared m_cleared := by
  refine ⟨fnIs_of (by kernel_rfl) (by kernel_rfl) (by kernel_rfl) fun pm cd doc vs h => ?_, by kernel_rfl, by kernel_rfl⟩
  obtain ⟨a0, v0, rfl, h0⟩ := len_cons h
  obtain ⟨a1, v1, rfl, h1⟩ := len_cons h0
  obtain rfl := len_nil h1
  kernel_rfl
theorem tx_without_sum : Txt 4 p_without_sum n_without_sum m_without_sum := by
  refine ⟨fnIs_of (by kernel_rfl) (by kernel_rfl) (by kernel_rfl) fun pm cd doc vs h => ?_, by kernel_rfl, by kernel_rfl⟩
  obtain ⟨a0, v0, rfl, h0⟩ := len_cons h
  obtain rfl := len_nil h0
  kernel_rfl
theorem tx_normal : Txt 8 p_normal n_normal m_normal := by
  refine ⟨fnIs_of (by kernel_rfl) (by kernel_rfl) (by kernel_rfl) fun pm cd doc vs h => ?_, by kernel_rfl, by kernel_rfl⟩
  obtain ⟨a0, v0, rfl, h0⟩ := len_cons h
  obtain rfl := len_nil h0
  kernel_rfl
theorem tx_compare : Txt 9 p_compare n_compare m_compare := by
  refine ⟨fnIs_of (by kernel_rfl) (by kernel_rfl) (by kernel_rfl) fun pm cd doc vs h => ?_, by kernel_rfl, by kernel_rfl⟩
  obtain ⟨a0, v0, rfl, h0⟩ := len_cons h
  obtain ⟨a1, v1, rfl, h1⟩ := len_cons h0
  obtain rfl := len_nil h1
  kernel_rfl
theorem tx_divrem_limb : Txt 10 p_divrem_limb n_divrem_limb m_divrem_limb := by
  refine ⟨fnIs_of (by kernel_rfl) (by kernel_rfl) (by kernel_rfl) fun pm cd doc vs h => ?_, by kernel_rfl, by kernel_rfl⟩
  obtain ⟨a0, v0, rfl, h0⟩ := len_cons h
  obtain ⟨a1, v1, rfl, h1⟩ := len_cons h0
  obtain ⟨a2, v2, rfl, h2⟩ := len_cons h1
  obtain rfl := len_nil h2
  kernel_rfl
theorem tx_shift_left : Txt 11 p_shift_left n_shift_left m_shift_left := by
  refine ⟨fnIs_of (by kernel_rfl) (by kernel_rfl) (by kernel_rfl) fun pm cd doc vs h => ?_, by kernel_rfl, by kernel_rfl⟩
  obtain ⟨a0, v0, rfl, h0⟩ := len_cons h
  obtain ⟨a1, v1, rfl, h1⟩ := len_cons h0
  obtain ⟨a2, v2, rfl, h2⟩ := len_cons h1
  obtain rfl := len_nil h2
  kernel_rfl
theorem tx_shift_right : Txt 12 p_shift_right n_shift_right m_shift_right := by
  refine ⟨fnIs_of (by kernel_rfl) (by kernel_rfl) (by kernel_rfl) fun pm cd doc vs h => ?_, by kernel_rfl, by kernel_rfl⟩
  obtain ⟨a0, v0, rfl, h0⟩ := len_cons h
  obtain ⟨a1, v1, rfl, h1⟩ := len_cons h0
  obtain ⟨a2, v2, rfl, h2⟩ := len_cons h1
  obtain rfl := len_nil h2
  kernel_rfl
theorem tx_bits : Txt 13 p_bits n_bits m_bits := by
  refine ⟨fnIs_of (by kernel_rfl) (by kernel_rfl) (by kernel_rfl) fun pm cd doc vs h => ?_, by kernel_rfl, by kernel_rfl⟩
  obtain ⟨a0, v0, rfl, h0⟩ := len_cons h
  obtain ⟨a1, v1, rfl, h1⟩ := len_cons h0
  obtain rfl := len_nil h1
  kernel_rfl
theorem tx_mul_school : Txt 15 p_mul_school n_mul_school m_mul_school := by
  refine ⟨fnIs_of (by kernel_rfl) (by kernel_rfl) (by kernel_rfl) fun pm cd doc vs h => ?_, by kernel_rfl, by kernel_rfl⟩
  obtain ⟨a0, v0, rfl, h0⟩ := len_cons h
  obtain ⟨a1, v1, rfl, h1⟩ := len_cons h0
  obtain ⟨a2, v2, rfl, h2⟩ := len_cons h1
  obtain rfl := len_nil h2
  kernel_rfl
theorem tx_divrem_small : Txt 16 p_divrem_small n_divrem_small m_divrem_small := by
  refine ⟨fnIs_of (by kernel_rfl) (by kernel_rfl) (by kernel_rfl) fun pm cd doc vs h => ?_, by kernel_rfl, by kernel_rfl⟩
  obtain ⟨a0, v0, rfl, h0⟩ := len_cons h
  obtain ⟨a1, v1, rfl, h1⟩ := len_cons h0
  obtain ⟨a2, v2, rfl, h2⟩ := len_cons h1
  obtain rfl := len_nil h2
  kernel_rfl
theorem tx_guessed_limb : Txt 17 p_guessed_limb n_guessed_limb m_guessed_limb := by
  refine ⟨fnIs_of (by kernel_rfl) (by kernel_rfl) (by kernel_rfl) fun pm cd doc vs h => ?_, by kernel_rfl, by kernel_rfl⟩
  obtain ⟨a0, v0, rfl, h0⟩ := len_cons h
  obtain ⟨a1, v1, rfl, h1⟩ := len_cons h0
  obtain ⟨a2, v2, rfl, h2⟩ := len_cons h1
  obtain ⟨a3, v3, rfl, h3⟩ := len_cons h2
  obtain rfl := len_nil h3
  kernel_rfl
theorem tx_take_away : Txt 18 p_take_away n_take_away m_take_away := by
  refine ⟨fnIs_of (by kernel_rfl) (by kernel_rfl) (by kernel_rfl) fun pm cd doc vs h => ?_, by kernel_rfl, by kernel_rfl⟩
  obtain ⟨a0, v0, rfl, h0⟩ := len_cons h
  obtain ⟨a1, v1, rfl, h1⟩ := len_cons h0
  obtain ⟨a2, v2, rfl, h2⟩ := len_cons h1
  obtain ⟨a3, v3, rfl, h3⟩ := len_cons h2
  obtain ⟨a4, v4, rfl, h4⟩ := len_cons h3
  obtain rfl := len_nil h4
  kernel_rfl
theorem tx_divide_rows : Txt 20 p_divide_rows n_divide_rows m_divide_rows := by
  refine ⟨fnIs_of (by kernel_rfl) (by kernel_rfl) (by kernel_rfl) fun pm cd doc vs h => ?_, by kernel_rfl, by kernel_rfl⟩
  obtain ⟨a0, v0, rfl, h0⟩ := len_cons h
  obtain ⟨a1, v1, rfl, h1⟩ := len_cons h0
  obtain ⟨a2, v2, rfl, h2⟩ := len_cons h1
  obtain rfl := len_nil h2
  kernel_rfl
theorem tx_divrem_school : Txt 21 p_divrem_school n_divrem_school m_divrem_school := by
  refine ⟨fnIs_of (by kernel_rfl) (by kernel_rfl) (by kernel_rfl) fun pm cd doc vs h => ?_, by kernel_rfl, by kernel_rfl⟩
  obtain ⟨a0, v0, rfl, h0⟩ := len_cons h
  obtain ⟨a1, v1, rfl, h1⟩ := len_cons h0
  obtain ⟨a2, v2, rfl, h2⟩ := len_cons h1
  obtain rfl := len_nil h2
  kernel_rfl
theorem tx_exponents : Txt 23 p_exponents n_exponents m_exponents := by
  refine ⟨fnIs_of (by kernel_rfl) (by kernel_rfl) (by kernel_rfl) fun pm cd doc vs h => ?_, by kernel_rfl, by kernel_rfl⟩
  obtain ⟨a0, v0, rfl, h0⟩ := len_cons h
  obtain ⟨a1, v1, rfl, h1⟩ := len_cons h0
  obtain ⟨a2, v2, rfl, h2⟩ := len_cons h1
  obtain rfl := len_nil h2
  kernel_rfl
theorem tx_two_roots : Txt 24 p_two_roots n_two_roots m_two_roots := by
  refine ⟨fnIs_of (by kernel_rfl) (by kernel_rfl) (by kernel_rfl) fun pm cd doc vs h => ?_, by kernel_rfl, by kernel_rfl⟩
  obtain ⟨a0, v0, rfl, h0⟩ := len_cons h
  obtain ⟨a1, v1, rfl, h1⟩ := len_cons h0
  obtain ⟨a2, v2, rfl, h2⟩ := len_cons h1
  obtain ⟨a3, v3, rfl, h3⟩ := len_cons h2
  obtain ⟨a4, v4, rfl, h4⟩ := len_cons h3
  obtain ⟨a5, v5, rfl, h5⟩ := len_cons h4
  obtain rfl := len_nil h5
  kernel_rfl
theorem tx_law_strung : Txt 26 p_law_strung n_law_strung m_law_strung := by
  refine ⟨fnIs_of (by kernel_rfl) (by kernel_rfl) (by kernel_rfl) fun pm cd doc vs h => ?_, by kernel_rfl, by kernel_rfl⟩
  obtain ⟨a0, v0, rfl, h0⟩ := len_cons h
  obtain ⟨a1, v1, rfl, h1⟩ := len_cons h0
  obtain rfl := len_nil h1
  kernel_rfl
theorem tx_law_limbs : Txt 27 p_law_limbs n_law_limbs m_law_limbs := by
  refine ⟨fnIs_of (by kernel_rfl) (by kernel_rfl) (by kernel_rfl) fun pm cd doc vs h => ?_, by kernel_rfl, by kernel_rfl⟩
  obtain ⟨a0, v0, rfl, h0⟩ := len_cons h
  obtain ⟨a1, v1, rfl, h1⟩ := len_cons h0
  obtain rfl := len_nil h1
  kernel_rfl
theorem tx_law_number : Txt 28 p_law_number n_law_number m_law_number := by
  refine ⟨fnIs_of (by kernel_rfl) (by kernel_rfl) (by kernel_rfl) fun pm cd doc vs h => ?_, by kernel_rfl, by kernel_rfl⟩
  obtain ⟨a0, v0, rfl, h0⟩ := len_cons h
  obtain rfl := len_nil h0
  kernel_rfl
theorem tx_law_parted : Txt 29 p_law_parted n_law_parted m_law_parted := by
  refine ⟨fnIs_of (by kernel_rfl) (by kernel_rfl) (by kernel_rfl) fun pm cd doc vs h => ?_, by kernel_rfl, by kernel_rfl⟩
  obtain ⟨a0, v0, rfl, h0⟩ := len_cons h
  obtain rfl := len_nil h0
  kernel_rfl
theorem tx_law_whole : Txt 30 p_law_whole n_law_whole m_law_whole := by
  refine ⟨fnIs_of (by kernel_rfl) (by kernel_rfl) (by kernel_rfl) fun pm cd doc vs h => ?_, by kernel_rfl, by kernel_rfl⟩
  obtain ⟨a0, v0, rfl, h0⟩ := len_cons h
  obtain rfl := len_nil h0
  kernel_rfl
theorem tx_law_are_told : Txt 31 p_law_are_told n_law_are_told m_law_are_told := by
  refine ⟨fnIs_of (by kernel_rfl) (by kernel_rfl) (by kernel_rfl) fun pm cd doc vs h => ?_, by kernel_rfl, by kernel_rfl⟩
  obtain ⟨a0, v0, rfl, h0⟩ := len_cons h
  obtain ⟨a1, v1, rfl, h1⟩ := len_cons h0
  obtain ⟨a2, v2, rfl, h2⟩ := len_cons h1
  obtain rfl := len_nil h2
  kernel_rfl
theorem tx_law_left : Txt 32 p_law_left n_law_left m_law_left := by
  refine ⟨fnIs_of (by kernel_rfl) (by kernel_rfl) (by kernel_rfl) fun pm cd doc vs h => ?_, by kernel_rfl, by kernel_rfl⟩
  obtain ⟨a0, v0, rfl, h0⟩ := len_cons h
  obtain ⟨a1, v1, rfl, h1⟩ := len_cons h0
  obtain rfl := len_nil h1
  kernel_rfl
theorem tx_law_goes_on : Txt 33 p_law_goes_on n_law_goes_on m_law_goes_on := by
  refine ⟨fnIs_of (by kernel_rfl) (by kernel_rfl) (by kernel_rfl) fun pm cd doc vs h => ?_, by kernel_rfl, by kernel_rfl⟩
  obtain ⟨a0, v0, rfl, h0⟩ := len_cons h
  obtain ⟨a1, v1, rfl, h1⟩ := len_cons h0
  obtain ⟨a2, v2, rfl, h2⟩ := len_cons h1
  obtain ⟨a3, v3, rfl, h3⟩ := len_cons h2
  obtain ⟨a4, v4, rfl, h4⟩ := len_cons h3
  obtain ⟨a5, v5, rfl, h5⟩ := len_cons h4
  obtain rfl := len_nil h5
  kernel_rfl
theorem tx_law : Txt 34 p_law n_law m_law := by
  refine ⟨fnIs_of (by kernel_rfl) (by kernel_rfl) (by kernel_rfl) fun pm cd doc vs h => ?_, by kernel_rfl, by kernel_rfl⟩
  obtain ⟨a0, v0, rfl, h0⟩ := len_cons h
  obtain rfl := len_nil h0
  kernel_rfl
theorem names_eq : fnAt.map (fun i => (recAt i).name) = fnNames := by kernel_rfl
end Mine
end

section
open PySem PySem.W PyProof.Rows PySem.Spec PySem.SeqAt PySem.Calls
set_option Elab.async false
set_option maxRecDepth 100000
set_option maxHeartbeats 8000000
namespace Mine

/-- the program's constants, as the top leaves them -/
noncomputable def lawPG (prog : Program) (w : World) (h : Heap) (os : OsState) (mg mb : Str → Option Value) (fa : Nat → Addr) (fd : Nat → FuncData) : PG where
  prog := prog
  w := w
  H0 := h
  gens := #[]
  os := os
  mg := mg
  mb := mb
  fa := fa
  fname := fun k => fnNames.getD k "first_one"
  fd := fd

theorem getD_mem {α : Type} {l : List α} {d : α} (h : d ∈ l) (k : Nat) : l.getD k d ∈ l := by
  rw [List.getD_eq_getElem?_getD]
  cases e : l[k]? with
  | none => exact h
  | some x => exact List.mem_of_getElem? e
theorem name_at (k : Nat) : (recAt (fnAt.getD k 1)).name = fnNames.getD k "first_one" := by
  rw [← names_eq, List.getD_eq_getElem?_getD, List.getD_eq_getElem?_getD, List.getElem?_map]
  cases fnAt[k]? with
  | none => kernel_rfl
  | some i => rfl
theorem rec_mem (k : Nat) : recAt (fnAt.getD k 1) ∈ recsOf vw := by
  rw [recs_eq]
  exact List.mem_map.mpr ⟨_, getD_mem (.head _) k, rfl⟩

/-- def number k, as the heap bears it -/
noncomputable def FnAt (h : Heap) (mg : Str → Option Value) (k : Nat) (x : Addr × FuncData) : Prop :=
  mg (fnNames.getD k "first_one") = some (.ref x.1) ∧ (∃ o, h.get? x.1 = some o ∧ o.data = .func x.2) ∧ h.CodeRec x.2.code x.2.qualname ∧ ∃ pm cd doc, x.2 = docOf (fnAt.getD k 1) pm cd doc
theorem fn_at {mean : ExcName → Option Value} {h : Heap} {loose : List Str} {mg mb : Str → Option Value} (T : Top vw loose mean mg mb h) (k : Nat) : ∃ x, FnAt h mg k x := by
  obtain ⟨a, o, pm, cd, doc, h1, h2, h3, h4⟩ := T.fn _ (rec_mem k)
  exact ⟨(a, docOf (fnAt.getD k 1) pm cd doc), by rw [← name_at]; exact h1, ⟨o, h2, h3⟩, h4, pm, cd, doc, rfl⟩

noncomputable def biNames : List Str := ["len", "sum", "min", "abs", "int", "range", "enumerate", "zip"]
theorem bi_free : (biNames.all fun x => !startupNames.contains x && (!(looseW vw []).contains x && (!((recsOf vw).map (·.name)).contains x && (!((litsOf vw).map (·.1)).contains x && !((clssOf vw (looseW vw [])).map (·.name)).contains x)))) = true := by kernel_rfl
theorem not_mem_of {l : List Str} {x : Str} (h : (!l.contains x) = true) : x ∉ l := fun m => by
  rw [List.contains_iff_mem.mpr m] at h
  cases h
theorem bi_none {mean : ExcName → Option Value} {h : Heap} {mg mb : Str → Option Value} (T : Top vw (looseW vw []) mean mg mb h) {x : Str} (hx : x ∈ biNames) : mg x = none := by
  have e := List.all_eq_true.mp bi_free x hx
  obtain ⟨e1, e⟩ := Bool.and_eq_true_iff.mp e
  obtain ⟨e2, e⟩ := Bool.and_eq_true_iff.mp e
  obtain ⟨e3, e⟩ := Bool.and_eq_true_iff.mp e
  obtain ⟨e4, e5⟩ := Bool.and_eq_true_iff.mp e
  exact T.free x (not_mem_of e1) (not_mem_of e2) (not_mem_of e3) (not_mem_of e4) (not_mem_of e5)
theorem bi_boot : (biTable.all fun p => biNames.contains p.1 && (!(p.1 == ("__name__" : Str)) && decide (bootBuiltins p.1 = some p.2))) = true := by kernel_rfl

theorem lawPG_ok {prog : Program} {w : World} {h : Heap} {os : OsState} {mean : ExcName → Option Value} {mg mb : Str → Option Value} (T : Top vw (looseW vw []) mean mg mb h) (hsys : sysModules < h.objs.size) (hn : NameOk h) (hmod : prog.modules = [])
    {fa : Nat → Addr} {fd : Nat → FuncData} (hf : ∀ k, FnAt h mg k (fa k, fd k)) : (lawPG prog w h os mg mb fa fd).Ok := by
  refine ⟨T.g, T.b, T.nolimit, hsys, fun k => ⟨(hf k).1, (hf k).2.1, (hf k).2.2.1⟩, ?_, ?_⟩
  · obtain ⟨m, n, t, h1, h2, h3⟩ := hn
    exact ⟨n, t, (T.g.agree h1 _).trans h2, h3, by show prog.modules.lookup n = none; rw [hmod]; rfl⟩
  · intro x v e
    have e' := List.all_eq_true.mp bi_boot _ (lookup_mem e)
    obtain ⟨e1, e'⟩ := Bool.and_eq_true_iff.mp e'
    obtain ⟨e2, e3⟩ := Bool.and_eq_true_iff.mp e'
    exact ⟨bi_none T (List.contains_iff_mem.mp e1), (T.builtins x (by simpa using e2)).trans (of_decide_eq_true e3)⟩

theorem txt_tx {P : PG} {k i : Nat} {ps : List Str} {N : Slots} {m : MSs} (t : Txt i ps N m) (h : ∃ pm cd doc, P.fd k = docOf i pm cd doc) : Tx P k ps N m := by
  obtain ⟨pm, cd, doc, e⟩ := h
  exact ⟨_, _, e ▸ t.1 pm cd doc, t.2.1, t.2.2⟩

theorem lawPG_txs {prog : Program} {w : World} {h : Heap} {os : OsState} {mg mb : Str → Option Value} {fa : Nat → Addr} {fd : Nat → FuncData} (ok : (lawPG prog w h os mg mb fa fd).Ok) (hf : ∀ k, ∃ pm cd doc, fd k = docOf (fnAt.getD k 1) pm cd doc) : Txs (lawPG prog w h os mg mb fa fd) := by
  refine ⟨ok, ?_, txt_tx tx_first_one (hf 0), txt_tx tx_sum_of_rows (hf 1), txt_tx tx_cleared (hf 2), txt_tx tx_without_sum (hf 3), txt_tx tx_normal (hf 4), txt_tx tx_compare (hf 5), txt_tx tx_divrem_limb (hf 6),
    txt_tx tx_shift_left (hf 7), txt_tx tx_shift_right (hf 8), txt_tx tx_bits (hf 9), txt_tx tx_mul_school (hf 10), txt_tx tx_divrem_small (hf 11), txt_tx tx_guessed_limb (hf 12), txt_tx tx_take_away (hf 13),
    txt_tx tx_divide_rows (hf 15), txt_tx tx_divrem_school (hf 16), txt_tx tx_exponents (hf 17), txt_tx tx_two_roots (hf 18), txt_tx tx_law_strung (hf 19), txt_tx tx_law_limbs (hf 20), txt_tx tx_law_number (hf 21),
    txt_tx tx_law_parted (hf 22), txt_tx tx_law_whole (hf 23), txt_tx tx_law_are_told (hf 24), txt_tx tx_law_left (hf 25), txt_tx tx_law_goes_on (hf 26), txt_tx tx_law (hf 27)⟩
  intro k id e
  show fnNames.getD k "first_one" = id
  rw [List.getD_eq_getElem?_getD, e]; rfl

/-- the call's walk, its argument a plain list of ints -/
theorem law_code {prog : Program} {w : World} {s : Shared} {mean : ExcName → Option Value} {mg mb : Str → Option Value} (TT : Top vw (looseW vw []) mean mg mb s.heap) (hsys : sysModules < s.heap.objs.size) (hn : NameOk s.heap) (hmod : prog.modules = []) (hgens : s.gens = #[])
    {a l : Addr} (hlaw : mg (recAt 34).name = some (.ref a)) {vs : List Value} {xs : List Int} {n : Nat}
    (ho : s.heap.get? l = some { cls := .type "list", data := .seq vs.toArray n }) (hI : IntsAre vs xs) (hlen : xs.length ≤ 63) {R : Result → Shared → Prop}
    (hR : ∀ s' : Shared, (∀ a o, s.heap.get? a = some o → s'.heap.get? a = some o) → s'.gens = #[] → s'.os = s.os → R (.ok (.ret (.bool true))) s') :
    codeAny (model prog w) callerA (.call (.ref a) ⟨[.ref l], []⟩) R s := by
  obtain ⟨f, hf⟩ := Classical.axiomOfChoice (fn_at TT)
  have ok := lawPG_ok (prog := prog) (w := w) (os := s.os) TT hsys hn hmod (fa := fun k => (f k).1) (fd := fun k => (f k).2) hf
  have T := lawPG_txs ok (fun k => (hf k).2.2.2)
  obtain ⟨sc, body, h1, h2, h3⟩ := T.t27
  obtain rfl : a = (f 27).1 := by
    have e := (hf 27).1
    rw [← name_at] at e
    have e' := hlaw.symm.trans e
    cases e'
    rfl
  have hF : (fun b => if b = l then some ({ cls := .type "list", data := .seq vs.toArray n } : Obj) else none : Gm) l = some { cls := .type "list", data := .seq vs.toArray n } := if_pos rfl
  have S : HSim (lawPG prog w s.heap s.os mg mb (fun k => (f k).1) (fun k => (f k).2)) (fun b => if b = l then some ({ cls := .type "list", data := .seq vs.toArray n } : Obj) else none) [] [] s := by
    refine ⟨fun a o e => ?_, rfl, fun _ _ _ e => by simp at e, fun _ _ _ e => by simp at e, nofun, nofun, nofun, fun a o e => e, hgens, rfl⟩
    split at e
    · rename_i q; subst q; rw [← e]; exact ho
    · cases e
  have hints : ∀ {vs : List Value} {xs : List Int} {F : Gm} {fa : Nat → Addr}, IntsAre vs xs → VReps fa F [] (iL xs) vs := by
    intro vs xs F fa h
    induction h with
    | nil => exact .nil
    | cons i t _ ih => exact .cons (.int i t) ih
  refine code_of_body (P := lawPG prog w s.heap s.os mg mb (fun k => (f k).1) (fun k => (f k).2)) (k := 27) (n := 5) (st := []) ok T.hG h1 h2 h3 (ds := [.list (iL xs)]) (Q := fun d _ => d = .bool true) rfl (law_wp (n := 0) T xs hlen rfl) (vs := [.ref l]) ?_ S (.cons (.list hF ⟨n, rfl⟩ (hints hI)) .nil) (Nat.le_refl _) ?_
  · exact ⟨rfl, by decide, by decide⟩
  · rintro v s' ⟨F', st', d, _, _, H, hk, _, rv, rfl⟩
    cases rv
    exact hR s' (fun a o e => hk a o e fun i mo e' => by simp at e') H.gens H.os
end Mine
end

open PySem PySem.W PyProof.Rows PySem.Spec PySem.SeqAt PySem.Calls
set_option Elab.async false
set_option maxRecDepth 100000
set_option maxHeartbeats 8000000
namespace Mine
theorem well_plain {P : Params} {h : Heap} {l : Addr} {ws : List WData} {items : Array Value} (W : Well P h (.ref l) (.list ws)) (L : h.IsList l items) : h.get? l = some { cls := .type "list", data := .seq items } := by
  obtain ⟨o, ho, _, n, hd⟩ := L
  cases W with
  | list ho' _ =>
    rw [ho] at ho'
    cases ho'
    cases hd
    exact ho
theorem len_63 {xs : List Int} (h : ¬ (((63 : Nat) : Int) < (xs.length : Int))) : xs.length ≤ 63 := by omega
end Mine
open Mine
set_option maxRecDepth 100000 in
set_option maxHeartbeats 8000000 in
theorem PySem.Challenge.cw_sj0079_01_holds : PySem.Challenge.rw_sj0079_01.Holds := by
  refine head ?_
  intro w s₀ s₁ mg mb G Y fa o pm cd doc dV kV ho hd hcd hD hmg hg args vals as hpre hlay hrd hwl hlo
  have hlow := G.low
  have T := G.T
  wrow_args hpre hlay hrd hwl hlo
  refine enter_call ?_
  rename Heap.IsList _ _ _ => hL
  rename IntsAre _ _ => hI
  rename Well _ _ _ _ => hW
  rename (¬ _ < _) => hc
  refine law_code T hlow Y rfl hg hmg (well_plain hW hL) hI (len_63 hc) ?_
  intro s' hk hgens hos
  refine GoodW.toG ⟨.inl ⟨_, _, [], rfl, fun _ => rfl, ReadsW.bool true, ?_, fun _ => ⟨List.nodup_nil, fun _ hm => (nomatch hm)⟩⟩, hk, hos, hgens⟩
  first | rfl | wrow_post

