import PyProof.Rows.All
import Wide.All
import OpenK.AllK
import Wide.FinOn
import Open.SpecLaws
import KE.OsGo
import HandS.ForSpec
import HandS.Comp
import HandS.NoneIn
import HandS.WideBits
import HandS.CallLocal
import HandS.Codes
import PySem.Challenge.RW_lotcutter_s01_answers
set_option Elab.async false
set_option maxRecDepth 100000
set_option maxHeartbeats 4000000
/-! The mirror of the program as plain Lean functions, and that it is the specification. -/
namespace Lc
open Kp399 (Stock Order)

/-! ### 1. The mirror -/
def mem (mask n : Nat) : List Nat := (List.range n).filter fun i => mask.testBit i
def joint (acc : List Nat) (o : Nat) : Nat := (mem o acc.length).foldl (fun f i => f ||| acc.getD i 0) 0
def avail (ar : List Int) (acc : List Nat) (o : Nat) : Int := ((mem (joint acc o) ar.length).map fun j => ar.getD j 0).sum
def total (am : List Int) (o : Nat) : Int := ((mem o am.length).map fun i => am.getD i 0).sum
def slack (ar : List Int) (acc : List Nat) (am : List Int) (o : Nat) : Int := avail ar acc o - total am o
def can (ar : List Int) (acc : List Nat) (am : List Int) : Bool := (List.range (2 ^ acc.length)).all fun o => !decide (slack ar acc am o < 0)
def short (ar : List Int) (acc : List Nat) (am : List Int) (o : Nat) : Int := if (0 : Int) > 0 - slack ar acc am o then 0 else 0 - slack ar acc am o
def worstStep (ar : List Int) (acc : List Nat) (wa : List Int) (p : Int × Nat) (o : Nat) : Int × Nat := if p.1 < short ar acc wa o then (short ar acc wa o, o) else p
def worst (ar : List Int) (acc : List Nat) (wa : List Int) : Int × Nat := (List.range (2 ^ wa.length)).foldl (worstStep ar acc wa) (0, 0)
def served (ar : List Int) (acc : List Nat) (wa : List Int) : Int := wa.sum - (worst ar acc wa).1
def touched (acc : List Nat) (o i j : Nat) : Bool := !o.testBit i && (joint acc o).testBit j
def mn (i j : Int) : Int := if j < i then j else i
def prioStep (ar : List Int) (acc : List Nat) (am : List Int) (i : Nat) (f : Int) (o : Nat) : Int := if o.testBit i then mn f (slack ar acc am o) else f
def prio1 (ar : List Int) (acc : List Nat) (am : List Int) (i : Nat) (want : Int) : Int := (List.range (2 ^ acc.length)).foldl (prioStep ar acc am i) want
def priosStep (ar : List Int) (acc : List Nat) (wa : List Int) (am : List Int) (i : Nat) : List Int := am.set i (prio1 ar acc am i (wa.getD i 0))
def prios (ar : List Int) (acc : List Nat) (wa : List Int) : List Int := (List.range wa.length).foldl (priosStep ar acc wa) (wa.map fun _ => 0)
structure Cut where
  left : List Int
  rests : List Int
def Cut.cut (c : Cut) (i j : Nat) (x : Int) : Cut := ⟨c.left.set j (c.left.getD j 0 - x), c.rests.set i (c.rests.getD i 0 - x)⟩
def cutStep (acc : List Nat) (c : Cut) (i j : Nat) (f : Int) (o : Nat) : Int := if touched acc o i j then mn f (slack c.left acc c.rests o) else f
def cut1 (acc : List Nat) (c : Cut) (i j : Nat) : Int := if (acc.getD i 0).testBit j then (List.range (2 ^ acc.length)).foldl (cutStep acc c i j) (mn (c.rests.getD i 0) (c.left.getD j 0)) else 0
def rowStep (acc : List Nat) (i : Nat) (p : List Int × Cut) (j : Nat) : List Int × Cut := (p.1 ++ [cut1 acc p.2 i j], p.2.cut i j (cut1 acc p.2 i j))
def row (acc : List Nat) (i : Nat) (c : Cut) : List Int × Cut := (List.range c.left.length).foldl (rowStep acc i) ([], c)
def planStep (acc : List Nat) (p : List Int × Cut) (i : Nat) : List Int × Cut := (p.1 ++ (row acc i p.2).1, (row acc i p.2).2)
def plan (ar : List Int) (acc : List Nat) (wa : List Int) : List Int × Cut := (List.range acc.length).foldl (planStep acc) ([], ⟨ar, prios ar acc wa⟩)

/-! ### 2. Sums over the members of a set -/
def sg (n o : Nat) (a : Nat → Nat) : Nat := ((List.range n).map fun i => if o.testBit i then a i else 0).sum
theorem sg_succ (n o : Nat) (a : Nat → Nat) : sg (n + 1) o a = sg n o a + if o.testBit n then a n else 0 := by
  simp [sg, List.range_succ]
theorem sg_congr {n o : Nat} {a b : Nat → Nat} (h : ∀ i, i < n → a i = b i) : sg n o a = sg n o b := by
  induction n with
  | zero => rfl
  | succ n ih => rw [sg_succ, sg_succ, ih fun i hi => h i (by omega), h n (by omega)]
theorem sg_add {n o k x : Nat} {a b : Nat → Nat} (hk : k < n) (h : ∀ i, i < n → i ≠ k → b i = a i) (hx : b k = a k + x) : sg n o b = sg n o a + if o.testBit k then x else 0 := by
  induction n with
  | zero => omega
  | succ n ih =>
    rw [sg_succ, sg_succ]
    by_cases e : k = n
    · subst e
      rw [sg_congr (a := b) (b := a) fun i hi => h i (by omega) (by omega), hx]
      split <;> omega
    · rw [ih (by omega) fun i hi => h i (by omega), h n (by omega) (by omega)]
      omega
theorem sg_le {n o : Nat} {a b : Nat → Nat} (h : ∀ i, i < n → a i ≤ b i) : sg n o a ≤ sg n o b := by
  induction n with
  | zero => exact Nat.le_refl _
  | succ n ih =>
    rw [sg_succ, sg_succ]
    have h1 := ih fun i hi => h i (by omega)
    have h2 := h n (by omega)
    split <;> omega
theorem sg_all_le {n o : Nat} {a : Nat → Nat} : sg n o a ≤ ((List.range n).map a).sum := by
  induction n with
  | zero => exact Nat.le_refl _
  | succ n ih =>
    rw [sg_succ, List.range_succ, List.map_append, List.sum_append]
    simp only [List.map_cons, List.map_nil, List.sum_cons, List.sum_nil]
    split <;> omega
theorem sum_filter {α : Type} (p : α → Bool) (f : α → Nat) : ∀ l : List α, ((l.filter p).map f).sum = (l.map fun i => if p i then f i else 0).sum
  | [] => rfl
  | x :: l => by
    rw [List.filter_cons, List.map_cons, List.sum_cons, ← sum_filter p f l]
    split <;> simp
theorem sum_mem (o n : Nat) (a : Nat → Nat) : ((mem o n).map a).sum = sg n o a := sum_filter _ _ _
theorem cast_sum {α : Type} (f : α → Nat) (g : α → Int) : ∀ (l : List α), (∀ x ∈ l, g x = (f x : Int)) → (l.map g).sum = ((l.map f).sum : Nat)
  | [], _ => rfl
  | x :: l, h => by
    have h1 := cast_sum f g l fun y hy => h y (List.mem_cons_of_mem _ hy)
    have h2 := h x (List.mem_cons_self ..)
    simp only [List.map_cons, List.sum_cons]
    omega
theorem total_sg {am : List Int} {a : Nat → Nat} {o : Nat} (h : ∀ i, i < am.length → am.getD i 0 = (a i : Int)) : total am o = (sg am.length o a : Nat) := by
  rw [← sum_mem]
  refine cast_sum _ _ _ fun i hi => h i ?_
  exact List.mem_range.mp (List.mem_filter.mp hi).1
theorem avail_sg {ar : List Int} {a : Nat → Nat} {acc : List Nat} {o : Nat} (h : ∀ i, i < ar.length → ar.getD i 0 = (a i : Int)) : avail ar acc o = (sg ar.length (joint acc o) a : Nat) := by
  rw [← sum_mem]
  refine cast_sum _ _ _ fun i hi => h i ?_
  exact List.mem_range.mp (List.mem_filter.mp hi).1

/-! ### 3. The specification's words -/
theorem contains_eq (o i : Nat) : Kp399.contains o i = o.testBit i := by
  rw [Nat.testBit_eq_decide_div_mod_eq]
  unfold Kp399.contains
  rw [Bool.eq_iff_iff]
  simp
theorem filter_mem (o n : Nat) : (List.range n).filter (Kp399.contains o) = mem o n := List.filter_congr fun i _ => contains_eq o i
theorem mem_zero (n : Nat) : mem 0 n = [] := List.filter_eq_nil_iff.mpr fun i _ => by simp
theorem orderSets_eq (s : Stock) : Kp399.orderSets s = (List.range (2 ^ s.orders.length)).map fun o => mem o s.orders.length := List.map_congr_left fun o _ => filter_mem o _
theorem foldl_or (g : Nat → Nat) (j : Nat) : ∀ (l : List Nat) (f : Nat), (l.foldl (fun f i => f ||| g i) f).testBit j = (f.testBit j || l.any fun i => (g i).testBit j)
  | [], f => by simp
  | x :: l, f => by
    rw [List.foldl_cons, foldl_or g j l, Nat.testBit_or, List.any_cons, Bool.or_assoc]
theorem joint_bit (acc : List Nat) (o j : Nat) : (joint acc o).testBit j = (mem o acc.length).any fun i => (acc.getD i 0).testBit j := by
  unfold joint
  rw [foldl_or, Nat.zero_testBit, Bool.false_or]
abbrev acc (s : Stock) : List Nat := s.orders.map Order.lots
abbrev ci (n : Nat) : Int := (n : Int)
abbrev ar (s : Stock) : List Int := s.lots.map ci
abbrev wa (s : Stock) : List Int := s.orders.map fun o => ci o.area
theorem getD_map' {α β : Type} (f : α → β) (l : List α) (i : Nat) (d : α) (e : β) (h : f d = e) : (l.map f).getD i e = f (l.getD i d) := by
  rw [List.getD_eq_getElem?_getD, List.getD_eq_getElem?_getD, List.getElem?_map]
  cases l[i]? with
  | none => exact h.symm
  | some x => rfl
theorem acc_at (s : Stock) (i : Nat) : (acc s).getD i 0 = (Kp399.orderAt s i).lots := getD_map' Order.lots s.orders i ⟨0, 0⟩ 0 rfl
theorem wa_at (s : Stock) (i : Nat) : (wa s).getD i 0 = ((Kp399.orderAt s i).area : Int) := getD_map' (fun o : Order => ci o.area) s.orders i ⟨0, 0⟩ 0 rfl
theorem ci_at (l : List Nat) (i : Nat) : (l.map ci).getD i 0 = ((l.getD i 0 : Nat) : Int) := getD_map' ci l i 0 0 rfl
theorem joint_touch (s : Stock) (o j : Nat) : ((mem o s.orders.length).any fun i => Kp399.accepts s i j) = (joint (acc s) o).testBit j := by
  rw [joint_bit, List.length_map]
  refine List.any_congr rfl fun i => ?_
  show Kp399.contains _ _ = _
  rw [contains_eq, acc_at]
theorem zipIdx_map {β : Type} (h : Nat → Nat → β) (l : List Nat) : (l.zipIdx.map fun x => h x.1 x.2) = (List.range l.length).map fun j => h (l.getD j 0) j := by
  refine List.ext_getElem? fun i => ?_
  rw [List.getElem?_map, List.getElem?_map, List.getElem?_zipIdx]
  rcases Nat.lt_or_ge i l.length with hi | hi
  · rw [List.getElem?_eq_getElem hi, List.getElem?_range hi]
    simp [hi, List.getD_eq_getElem?_getD]
  · rw [List.getElem?_eq_none hi, List.getElem?_eq_none (by rw [List.length_range]; exact hi)]
    rfl
theorem available_sg (s : Stock) (o : Nat) : Kp399.available s (mem o s.orders.length) = sg s.lots.length (joint (acc s) o) fun j => s.lots.getD j 0 := by
  unfold Kp399.available sg
  refine congrArg List.sum ?_
  rw [zipIdx_map fun (a j : Nat) => if (mem o s.orders.length).any (fun i => Kp399.accepts s i j) = true then a else 0]
  refine List.map_congr_left fun j _ => ?_
  rw [joint_touch]
theorem wanted_sg (s : Stock) (o : Nat) : Kp399.wanted s (mem o s.orders.length) = sg s.orders.length o fun i => (Kp399.orderAt s i).area := sum_mem _ _ _
theorem avail_eq (s : Stock) (o : Nat) : avail (ar s) (acc s) o = (Kp399.available s (mem o s.orders.length) : Nat) := by
  rw [available_sg, avail_sg (a := fun j => s.lots.getD j 0) fun i _ => ci_at _ _, List.length_map]
theorem total_eq (am : List Nat) (o : Nat) : total (am.map ci) o = (sg am.length o fun i => am.getD i 0 : Nat) := by
  rw [total_sg (a := fun j => am.getD j 0) fun i _ => ci_at _ _, List.length_map]
theorem total_wa (s : Stock) (o : Nat) : total (wa s) o = (Kp399.wanted s (mem o s.orders.length) : Nat) := by
  rw [wanted_sg, total_sg (a := fun i => (Kp399.orderAt s i).area) fun i _ => wa_at _ _, List.length_map]
theorem slack_wa (s : Stock) (o : Nat) : slack (ar s) (acc s) (wa s) o = (Kp399.available s (mem o s.orders.length) : Int) - (Kp399.wanted s (mem o s.orders.length) : Int) := by
  unfold slack
  rw [avail_eq, total_wa]
theorem short_eq (s : Stock) (o : Nat) : short (ar s) (acc s) (wa s) o = (Kp399.shortage s (mem o s.orders.length) : Nat) := by
  unfold short Kp399.shortage
  rw [slack_wa]
  split <;> omega

/-! ### 4. The worst set, what is served -/
theorem shortage_nil (s : Stock) : Kp399.shortage s [] = 0 := by
  unfold Kp399.shortage Kp399.wanted
  simp
theorem worst_fold (s : Stock) : ∀ (l : List Nat) (p : Int × Nat) (W : List Nat), W = mem p.2 s.orders.length → p.1 = (Kp399.shortage s W : Nat) →
    (l.map fun o => mem o s.orders.length).foldl (fun (worst l : List Nat) => if Kp399.shortage s worst < Kp399.shortage s l then l else worst) W = mem (l.foldl (worstStep (ar s) (acc s) (wa s)) p).2 s.orders.length ∧
    (l.foldl (worstStep (ar s) (acc s) (wa s)) p).1 = (Kp399.shortage s (mem (l.foldl (worstStep (ar s) (acc s) (wa s)) p).2 s.orders.length) : Nat)
  | [], p, W, h1, h2 => ⟨h1, h1 ▸ h2⟩
  | o :: l, p, W, h1, h2 => by
    rw [List.map_cons, List.foldl_cons, List.foldl_cons]
    unfold worstStep
    rw [short_eq, h2]
    by_cases c : Kp399.shortage s W < Kp399.shortage s (mem o s.orders.length)
    · rw [if_pos c, if_pos (by omega)]
      exact worst_fold s l _ _ rfl rfl
    · rw [if_neg c, if_neg (by omega)]
      exact worst_fold s l p W h1 h2
theorem worst_both (s : Stock) : Kp399.worstSet s = mem (worst (ar s) (acc s) (wa s)).2 s.orders.length ∧ (worst (ar s) (acc s) (wa s)).1 = (Kp399.shortage s (Kp399.worstSet s) : Nat) := by
  have h := worst_fold s (List.range (2 ^ s.orders.length)) (0, 0) [] (mem_zero _).symm (by rw [shortage_nil]; rfl)
  have e : (List.range (2 ^ s.orders.length)).foldl (worstStep (ar s) (acc s) (wa s)) (0, 0) = worst (ar s) (acc s) (wa s) := by
    unfold worst
    rw [List.length_map]
  rw [e, ← orderSets_eq] at h
  have h1 : Kp399.worstSet s = mem (worst (ar s) (acc s) (wa s)).2 s.orders.length := h.1
  exact ⟨h1, by rw [h1]; exact h.2⟩
theorem wanted_all (s : Stock) : (wa s).sum = (Kp399.wanted s (Kp399.allOrders s) : Nat) := by
  have e : wa s = (List.range s.orders.length).map fun i => ((Kp399.orderAt s i).area : Int) := by
    refine List.ext_getElem? fun i => ?_
    rw [List.getElem?_map, List.getElem?_map]
    rcases Nat.lt_or_ge i s.orders.length with hi | hi
    · rw [List.getElem?_eq_getElem hi, List.getElem?_range hi]
      simp [hi, Kp399.orderAt, List.getD_eq_getElem?_getD]
    · rw [List.getElem?_eq_none hi, List.getElem?_eq_none (by rw [List.length_range]; exact hi)]
      rfl
  rw [e]
  exact cast_sum _ _ _ fun _ _ => rfl
theorem shortage_le (s : Stock) : Kp399.shortage s (Kp399.worstSet s) ≤ Kp399.wanted s (Kp399.allOrders s) := by
  rw [(worst_both s).1]
  refine Nat.le_trans (Nat.sub_le _ _) ?_
  rw [wanted_sg]
  exact sg_all_le
theorem served_eq (s : Stock) : served (ar s) (acc s) (wa s) = (Kp399.maxServed s : Nat) := by
  unfold served Kp399.maxServed
  rw [wanted_all, (worst_both s).2]
  have := shortage_le s
  omega
theorem foldl_max (s : Stock) : ∀ (l : List (List Nat)) (W : List Nat), Kp399.shortage s W ≤ Kp399.shortage s (l.foldl (fun (worst l : List Nat) => if Kp399.shortage s worst < Kp399.shortage s l then l else worst) W) ∧
    (∀ x ∈ l, Kp399.shortage s x ≤ Kp399.shortage s (l.foldl (fun (worst l : List Nat) => if Kp399.shortage s worst < Kp399.shortage s l then l else worst) W)) ∧
    (l.foldl (fun (worst l : List Nat) => if Kp399.shortage s worst < Kp399.shortage s l then l else worst) W = W ∨ l.foldl (fun (worst l : List Nat) => if Kp399.shortage s worst < Kp399.shortage s l then l else worst) W ∈ l)
  | [], W => ⟨Nat.le_refl _, fun x h => absurd h (by simp), .inl rfl⟩
  | y :: l, W => by
    rw [List.foldl_cons]
    by_cases c : Kp399.shortage s W < Kp399.shortage s y
    · rw [if_pos c]
      obtain ⟨h1, h2, h3⟩ := foldl_max s l y
      refine ⟨by omega, fun x hx => ?_, .inr ?_⟩
      · rcases List.mem_cons.mp hx with rfl | hx
        · exact h1
        · exact h2 x hx
      · rcases h3 with h3 | h3
        · rw [h3]
          exact List.mem_cons_self ..
        · exact List.mem_cons_of_mem _ h3
    · rw [if_neg c]
      obtain ⟨h1, h2, h3⟩ := foldl_max s l W
      refine ⟨h1, fun x hx => ?_, ?_⟩
      · rcases List.mem_cons.mp hx with rfl | hx
        · omega
        · exact h2 x hx
      · rcases h3 with h3 | h3
        · exact .inl h3
        · exact .inr (List.mem_cons_of_mem _ h3)
theorem worst_ge (s : Stock) {o : Nat} (ho : o < 2 ^ s.orders.length) : Kp399.shortage s (mem o s.orders.length) ≤ Kp399.shortage s (Kp399.worstSet s) := by
  refine (foldl_max s (Kp399.orderSets s) []).2.1 _ ?_
  rw [orderSets_eq]
  exact List.mem_map.mpr ⟨o, List.mem_range.mpr ho, rfl⟩
theorem worst_in (s : Stock) : ∃ o, o < 2 ^ s.orders.length ∧ Kp399.worstSet s = mem o s.orders.length := by
  rcases (foldl_max s (Kp399.orderSets s) []).2.2 with h | h
  · exact ⟨0, Nat.pow_pos (by decide), Eq.trans h (mem_zero _).symm⟩
  · rw [orderSets_eq] at h
    obtain ⟨o, ho, e⟩ := List.mem_map.mp h
    refine ⟨o, List.mem_range.mp ho, ?_⟩
    rw [e]
    show Kp399.worstSet s = _
    unfold Kp399.worstSet
    rw [orderSets_eq]
/-- more of a lot never makes less -/
theorem served_mono (s : Stock) (j : Nat) (hj : j < s.lots.length) : Kp399.maxServed s ≤ Kp399.maxServed (Kp399.withLot s j (s.lots.getD j 0 + 1)) := by
  obtain ⟨o, ho, e⟩ := worst_in (Kp399.withLot s j (s.lots.getD j 0 + 1))
  have h1 := worst_ge s ho
  have h2 : Kp399.available s (mem o s.orders.length) ≤ Kp399.available (Kp399.withLot s j (s.lots.getD j 0 + 1)) (mem o s.orders.length) := by
    have a1 := available_sg s o
    have a2 := available_sg (Kp399.withLot s j (s.lots.getD j 0 + 1)) o
    have e2 : mem o (Kp399.withLot s j (s.lots.getD j 0 + 1)).orders.length = mem o s.orders.length := rfl
    rw [e2] at a2
    rw [a1, a2]
    have el : (Kp399.withLot s j (s.lots.getD j 0 + 1)).lots.length = s.lots.length := List.length_set
    rw [el]
    refine sg_le fun i hi => ?_
    show s.lots.getD i 0 ≤ (s.lots.set j (s.lots.getD j 0 + 1)).getD i 0
    rw [List.getD_eq_getElem?_getD, List.getD_eq_getElem?_getD, List.getElem?_set]
    split
    · rename_i e
      subst e
      simp [hj]
    · exact Nat.le_refl _
  have h3 : Kp399.shortage (Kp399.withLot s j (s.lots.getD j 0 + 1)) (Kp399.worstSet (Kp399.withLot s j (s.lots.getD j 0 + 1))) ≤ Kp399.shortage s (Kp399.worstSet s) := by
    rw [e]
    refine Nat.le_trans ?_ h1
    exact Nat.sub_le_sub_left h2 _
  exact Nat.sub_le_sub_left h3 _
end Lc
namespace Lc
open Kp399 (Stock Order)
/-! ### 5. Hall's condition -/
def lotsOf (s : Stock) (j : Nat) : Nat := s.lots.getD j 0
def Hall (s : Stock) (a : Nat → Nat) : Prop := ∀ o, o < 2 ^ s.orders.length → sg s.orders.length o a ≤ sg s.lots.length (joint (acc s) o) (lotsOf s)
theorem canServe_iff (s : Stock) (am : List Nat) : Kp399.canServe s am = true ↔ Hall s fun i => am.getD i 0 := by
  unfold Kp399.canServe
  rw [orderSets_eq, List.all_eq_true]
  constructor
  · intro h o ho
    have h1 := h (mem o s.orders.length) (List.mem_map.mpr ⟨o, List.mem_range.mpr ho, rfl⟩)
    rw [decide_eq_true_eq, sum_mem, available_sg] at h1
    exact h1
  · intro h l hl
    obtain ⟨o, ho, rfl⟩ := List.mem_map.mp hl
    rw [decide_eq_true_eq, sum_mem, available_sg]
    exact h o (List.mem_range.mp ho)
theorem slack_sg (s : Stock) {M : List Int} {a : Nat → Nat} (hl : M.length = s.orders.length) (h : ∀ i, i < M.length → M.getD i 0 = (a i : Int)) (o : Nat) :
    slack (ar s) (acc s) M o = (sg s.lots.length (joint (acc s) o) (lotsOf s) : Int) - (sg s.orders.length o a : Int) := by
  unfold slack
  rw [total_sg h, hl, avail_eq, available_sg]
  rfl
theorem can_eq (s : Stock) (am : List Nat) (hl : am.length = s.orders.length) : can (ar s) (acc s) (am.map ci) = Kp399.canServe s am := by
  rw [Bool.eq_iff_iff, canServe_iff]
  unfold can
  rw [List.all_eq_true, List.length_map]
  constructor
  · intro h o ho
    have h1 := h o (List.mem_range.mpr ho)
    rw [slack_sg s (a := fun i => am.getD i 0) (by rw [List.length_map]; exact hl) fun i _ => ci_at _ _] at h1
    have h2 := of_decide_eq_false ((Bool.not_eq_true' _).mp h1)
    omega
  · intro h o ho
    have h1 := h o (List.mem_range.mp ho)
    rw [slack_sg s (a := fun i => am.getD i 0) (by rw [List.length_map]; exact hl) fun i _ => ci_at _ _]
    rw [Bool.not_eq_true']
    exact decide_eq_false (by omega)
theorem wa_map (s : Stock) : wa s = (s.orders.map Order.area).map ci := by
  rw [List.map_map]
  rfl
theorem can_all (s : Stock) : can (ar s) (acc s) (wa s) = Kp399.canServe s (s.orders.map Order.area) := by
  rw [wa_map]
  exact can_eq s _ (List.length_map _)

/-! ### 6. The greatest number that passes, the least of some -/
theorem find_top (p : Nat → Bool) (v : Nat) (hp : p v = true) : ∀ m, v ≤ m → (∀ x, v < x → x ≤ m → p x = false) → ((List.range (m + 1)).reverse.find? p).getD 0 = v
  | m, hv, hn => by
    rw [List.range_succ, List.reverse_append, List.reverse_cons, List.reverse_nil, List.nil_append, List.singleton_append, List.find?_cons]
    by_cases e : v = m
    · subst e
      rw [hp]
      rfl
    · rw [hn m (by omega) (Nat.le_refl _)]
      match m, hv, hn, e with
      | 0, hv, _, e => exact absurd (Nat.le_zero.mp hv) e
      | m + 1, hv, hn, e => exact find_top p v hp m (by omega) fun x h1 h2 => hn x h1 (by omega)
theorem fold_min (c : Nat → Bool) (g : Nat → Int) (st : Int → Nat → Int) (hst : ∀ f o, st f o = if c o = true then mn f (g o) else f) : ∀ (l : List Nat) (w : Int),
    l.foldl st w ≤ w ∧ (∀ o ∈ l, c o = true → l.foldl st w ≤ g o) ∧ (l.foldl st w = w ∨ ∃ o ∈ l, c o = true ∧ l.foldl st w = g o)
  | [], w => ⟨Int.le_refl _, fun o h => absurd h (by simp), .inl rfl⟩
  | y :: l, w => by
    rw [List.foldl_cons, hst]
    by_cases hc : c y = true
    · rw [if_pos hc]
      obtain ⟨h1, h2, h3⟩ := fold_min c g st hst l (mn w (g y))
      have hm : mn w (g y) ≤ w ∧ mn w (g y) ≤ g y ∧ (mn w (g y) = w ∨ mn w (g y) = g y) := by
        unfold mn
        split <;> omega
      refine ⟨by omega, fun x hx hxc => ?_, ?_⟩
      · rcases List.mem_cons.mp hx with rfl | hx
        · omega
        · exact h2 x hx hxc
      · rcases h3 with h3 | ⟨o, ho, hoc, e⟩
        · rcases hm.2.2 with q | q
          · exact .inl (h3.trans q)
          · exact .inr ⟨y, List.mem_cons_self .., hc, h3.trans q⟩
        · exact .inr ⟨o, List.mem_cons_of_mem _ ho, hoc, e⟩
    · rw [if_neg hc]
      obtain ⟨h1, h2, h3⟩ := fold_min c g st hst l w
      refine ⟨h1, fun x hx hxc => ?_, ?_⟩
      · rcases List.mem_cons.mp hx with rfl | hx
        · exact absurd hxc hc
        · exact h2 x hx hxc
      · rcases h3 with h3 | ⟨o, ho, hoc, e⟩
        · exact .inl h3
        · exact .inr ⟨o, List.mem_cons_of_mem _ ho, hoc, e⟩

/-! ### 7. The priority amounts -/
theorem app_at (A : List Nat) (x i : Nat) : (A ++ [x]).getD i 0 = if i = A.length then x else A.getD i 0 := by
  rw [List.getD_eq_getElem?_getD, List.getD_eq_getElem?_getD, List.getElem?_append]
  split
  · rw [if_neg (by omega)]
  · split
    · rename_i e
      subst e
      simp
    · rw [List.getElem?_eq_none (by simp; omega), List.getElem?_eq_none (by omega)]
theorem at_end (A : List Nat) {i : Nat} (h : A.length ≤ i) : A.getD i 0 = 0 := by
  rw [List.getD_eq_getElem?_getD, List.getElem?_eq_none h]
  rfl
/-- the amounts so far, the later ones 0 -/
def padded (A : List Nat) (r : Nat) : List Int := A.map ci ++ List.replicate r 0
theorem padded_at (A : List Nat) (r i : Nat) : (padded A r).getD i 0 = ((A.getD i 0 : Nat) : Int) := by
  unfold padded
  rw [List.getD_eq_getElem?_getD, List.getD_eq_getElem?_getD, List.getElem?_append, List.length_map]
  split
  · rename_i h
    rw [List.getElem?_map, List.getElem?_eq_getElem h]
    rfl
  · rename_i h
    rw [List.getElem?_eq_none (l := A) (by omega), List.getElem?_replicate]
    split <;> rfl
theorem padded_len (A : List Nat) (r : Nat) : (padded A r).length = A.length + r := by
  unfold padded
  rw [List.length_append, List.length_map, List.length_replicate]
theorem padded_set (A : List Nat) (r : Nat) (x : Nat) : (padded A (r + 1)).set A.length (x : Int) = padded (A ++ [x]) r := by
  unfold padded
  rw [List.set_append_right _ _ (by rw [List.length_map]; exact Nat.le_refl _), List.length_map, Nat.sub_self, List.replicate_succ, List.set_cons_zero, List.map_append, List.append_assoc]
  rfl
def specStep (s : Stock) (amounts : List Nat) (i : Nat) : List Nat := amounts ++ [((List.range ((Kp399.orderAt s i).area + 1)).reverse.find? fun x => Kp399.canServe s (amounts ++ [x])).getD 0]
theorem prio_step (s : Stock) {A : List Nat} {r : Nat} (hn : A.length + (r + 1) = s.orders.length) (hA : Hall s fun i => A.getD i 0) :
    priosStep (ar s) (acc s) (wa s) (padded A (r + 1)) A.length = padded (specStep s A A.length) r ∧ (Hall s fun i => (specStep s A A.length).getD i 0) := by
  have hsl := slack_sg s (M := padded A (r + 1)) (a := fun i => A.getD i 0) (by rw [padded_len]; exact hn) fun i _ => padded_at A (r + 1) i
  have fm := fold_min (fun o => o.testBit A.length) (slack (ar s) (acc s) (padded A (r + 1))) (prioStep (ar s) (acc s) (padded A (r + 1)) A.length) (fun _ _ => rfl) (List.range (2 ^ s.orders.length)) ((wa s).getD A.length 0)
  have eP : (List.range (2 ^ s.orders.length)).foldl (prioStep (ar s) (acc s) (padded A (r + 1)) A.length) ((wa s).getD A.length 0) = prio1 (ar s) (acc s) (padded A (r + 1)) A.length ((wa s).getD A.length 0) := by
    unfold prio1
    rw [List.length_map]
  rw [eP] at fm
  obtain ⟨v, hv⟩ : ∃ v, v = prio1 (ar s) (acc s) (padded A (r + 1)) A.length ((wa s).getD A.length 0) := ⟨_, rfl⟩
  rw [← hv, wa_at] at fm
  obtain ⟨h1, h2, h3⟩ := fm
  have h0 : 0 ≤ v := by
    rcases h3 with h3 | ⟨o, ho, _, e⟩
    · omega
    · rw [hsl] at e
      have := hA o (List.mem_range.mp ho)
      omega
  have add : ∀ (x o : Nat), sg s.orders.length o (fun i => (A ++ [x]).getD i 0) = sg s.orders.length o (fun i => A.getD i 0) + if o.testBit A.length then x else 0 := fun x o => by
    refine sg_add (k := A.length) (by omega) (fun i _ hik => ?_) ?_
    · show (A ++ [x]).getD i 0 = A.getD i 0
      rw [app_at, if_neg hik]
    · show (A ++ [x]).getD A.length 0 = A.getD A.length 0 + x
      rw [app_at, if_pos rfl, at_end A (Nat.le_refl _), Nat.zero_add]
  have good : Hall s fun i => (A ++ [v.toNat]).getD i 0 := fun o ho => by
    rw [add]
    have q := hA o ho
    by_cases hb : o.testBit A.length = true
    · rw [if_pos hb]
      have := h2 o (List.mem_range.mpr ho) hb
      rw [hsl] at this
      omega
    · rw [if_neg hb]
      exact q
  have eS : specStep s A A.length = A ++ [v.toNat] := by
    unfold specStep
    refine congrArg (fun x => A ++ [x]) ?_
    refine find_top _ _ ((canServe_iff s _).mpr good) _ (by omega) fun x hx hxm => ?_
    cases q : Kp399.canServe s (A ++ [x]) with
    | false => rfl
    | true =>
      have qx := (canServe_iff s _).mp q
      rcases h3 with h3 | ⟨o, ho, hoc, e⟩
      · omega
      · have z := qx o (List.mem_range.mp ho)
        rw [add, if_pos hoc] at z
        rw [hsl] at e
        omega
  rw [eS]
  refine ⟨?_, good⟩
  have e1 : priosStep (ar s) (acc s) (wa s) (padded A (r + 1)) A.length = (padded A (r + 1)).set A.length v := by
    unfold priosStep
    rw [hv]
  rw [e1, show v = ((v.toNat : Nat) : Int) by omega, padded_set]
  rfl
theorem hall_zero (s : Stock) : Hall s fun i => ([] : List Nat).getD i 0 := fun o _ => by
  have e : sg s.orders.length o (fun i => ([] : List Nat).getD i 0) = 0 := by
    have h : ∀ n, sg n o (fun i => ([] : List Nat).getD i 0) = 0 := fun n => by
      induction n with
      | zero => rfl
      | succ n ih =>
        rw [sg_succ, ih]
        simp
    exact h _
  rw [e]
  exact Nat.zero_le _
theorem prios_upto (s : Stock) : ∀ k, k ≤ s.orders.length → ((List.range k).foldl (specStep s) []).length = k ∧
    (List.range k).foldl (priosStep (ar s) (acc s) (wa s)) (padded [] s.orders.length) = padded ((List.range k).foldl (specStep s) []) (s.orders.length - k) ∧ (Hall s fun i => ((List.range k).foldl (specStep s) []).getD i 0)
  | 0, _ => ⟨rfl, rfl, hall_zero s⟩
  | k + 1, hk => by
    obtain ⟨h1, h2, h3⟩ := prios_upto s k (by omega)
    rw [List.range_succ, List.foldl_append, List.foldl_append]
    simp only [List.foldl_cons, List.foldl_nil]
    have e : s.orders.length - k = (s.orders.length - (k + 1)) + 1 := by omega
    rw [h2, e]
    have q := prio_step s (A := (List.range k).foldl (specStep s) []) (r := s.orders.length - (k + 1)) (by omega) h3
    rw [h1] at q
    refine ⟨?_, q.1, q.2⟩
    show (_ ++ [_]).length = _
    rw [List.length_append, h1]
    rfl
theorem prios_all (s : Stock) : prios (ar s) (acc s) (wa s) = (Kp399.priorityAmounts s).map ci ∧ (Kp399.priorityAmounts s).length = s.orders.length ∧ Kp399.canServe s (Kp399.priorityAmounts s) = true := by
  obtain ⟨h1, h2, h3⟩ := prios_upto s s.orders.length (Nat.le_refl _)
  have e : (List.range s.orders.length).foldl (specStep s) [] = Kp399.priorityAmounts s := rfl
  rw [e] at h1 h2 h3
  refine ⟨?_, h1, (canServe_iff s _).mpr h3⟩
  have e0 : prios (ar s) (acc s) (wa s) = (List.range s.orders.length).foldl (priosStep (ar s) (acc s) (wa s)) (padded [] s.orders.length) := by
    unfold prios padded
    rw [List.length_map, List.map_map]
    refine congrArg (fun z => List.foldl (priosStep (ar s) (acc s) (wa s)) z (List.range s.orders.length)) ?_
    rw [List.map_nil, List.nil_append]
    exact List.map_const' ..
  rw [e0, h2, Nat.sub_self]
  unfold padded
  rw [List.replicate_zero, List.append_nil]

/-! ### 8. The cuts -/
theorem set_at (l : List Nat) {j : Nat} (x i : Nat) (hj : j < l.length) : (l.set j x).getD i 0 = if i = j then x else l.getD i 0 := by
  rw [List.getD_eq_getElem?_getD, List.getD_eq_getElem?_getD, List.getElem?_set]
  by_cases e : j = i
  · subst e
    rw [if_pos rfl, if_pos hj, if_pos rfl]
    rfl
  · rw [if_neg e, if_neg fun z => e z.symm]
structure Rel (s : Stock) (c : Kp399.Cutting) (p : List Int × Cut) : Prop where
  cuts : p.1 = c.cuts.map ci
  left : p.2.left = c.stock.lots.map ci
  rests : p.2.rests = c.amounts.map ci
  orders : c.stock.orders = s.orders
  len : c.stock.lots.length = s.lots.length
  lenA : c.amounts.length = s.orders.length
  hall : Hall c.stock fun i => c.amounts.getD i 0
/-- an order that accepts a lot: its sets have the lot -/
theorem joint_has {ac : List Nat} {o i j : Nat} (hi : i < ac.length) (ho : o.testBit i = true) (ha : (ac.getD i 0).testBit j = true) : (joint ac o).testBit j = true := by
  rw [joint_bit, List.any_eq_true]
  exact ⟨i, List.mem_filter.mpr ⟨List.mem_range.mpr hi, ho⟩, ha⟩
/-- how Hall's condition goes on when x is cut from the lot j for the order i -/
theorem hall_cut {t : Stock} {R : List Nat} {i j x : Nat} (hR : R.length = t.orders.length) (hi : i < t.orders.length) (hj : j < t.lots.length) (hx : x ≤ R.getD i 0) (hy : x ≤ t.lots.getD j 0) (ha : ((acc t).getD i 0).testBit j = true) (h : Hall t fun k => R.getD k 0) :
    (Hall (Kp399.takeFromLot t j x) fun k => (R.set i (R.getD i 0 - x)).getD k 0) ↔ ∀ o, o < 2 ^ t.orders.length → touched (acc t) o i j = true → sg t.orders.length o (fun k => R.getD k 0) + x ≤ sg t.lots.length (joint (acc t) o) (lotsOf t) := by
  have e1 : ∀ o, sg t.orders.length o (fun k => R.getD k 0) = sg t.orders.length o (fun k => (R.set i (R.getD i 0 - x)).getD k 0) + if o.testBit i then x else 0 := fun o => by
    refine sg_add (k := i) hi (fun k _ hk => ?_) ?_
    · show R.getD k 0 = (R.set i (R.getD i 0 - x)).getD k 0
      rw [set_at _ _ _ (by omega), if_neg hk]
    · show R.getD i 0 = (R.set i (R.getD i 0 - x)).getD i 0 + x
      rw [set_at _ _ _ (by omega), if_pos rfl]
      omega
  have e2 : ∀ o, sg t.lots.length (joint (acc t) o) (lotsOf t) = sg t.lots.length (joint (acc t) o) (lotsOf (Kp399.takeFromLot t j x)) + if (joint (acc t) o).testBit j then x else 0 := fun o => by
    refine sg_add (k := j) hj (fun k _ hk => ?_) ?_
    · show t.lots.getD k 0 = (t.lots.set j (t.lots.getD j 0 - x)).getD k 0
      rw [set_at _ _ _ hj, if_neg hk]
    · show t.lots.getD j 0 = (t.lots.set j (t.lots.getD j 0 - x)).getD j 0 + x
      rw [set_at _ _ _ hj, if_pos rfl]
      omega
  have el : (Kp399.takeFromLot t j x).lots.length = t.lots.length := List.length_set
  constructor
  · intro q o ho ht
    have z := q o ho
    rw [el] at z
    have z' : sg t.orders.length o (fun k => (R.set i (R.getD i 0 - x)).getD k 0) ≤ sg t.lots.length (joint (acc t) o) (lotsOf (Kp399.takeFromLot t j x)) := z
    unfold touched at ht
    rw [Bool.and_eq_true, Bool.not_eq_true'] at ht
    rw [e1, e2, if_pos ht.2, ht.1]
    simp only [Bool.false_eq_true, if_false]
    omega
  · intro q o ho
    rw [el]
    show sg t.orders.length o (fun k => (R.set i (R.getD i 0 - x)).getD k 0) ≤ sg t.lots.length (joint (acc t) o) (lotsOf (Kp399.takeFromLot t j x))
    have z := h o ho
    by_cases b1 : o.testBit i = true
    · have b2 := joint_has (by rw [List.length_map]; exact hi) b1 ha
      rw [e1, e2, if_pos b1, if_pos b2] at z
      omega
    · by_cases b2 : (joint (acc t) o).testBit j = true
      · have y := q o ho (by unfold touched; rw [b2, Bool.eq_false_iff.mpr b1]; rfl)
        rw [e1, e2, if_neg b1, if_pos b2] at y
        omega
      · rw [e1, e2, if_neg b1, if_neg b2] at z
        omega
theorem take_zero (t : Stock) (j : Nat) : Kp399.takeFromLot t j 0 = t := by
  unfold Kp399.takeFromLot
  rw [Nat.sub_zero]
  have e : t.lots.set j (t.lots.getD j 0) = t.lots := by
    refine List.ext_getElem? fun i => ?_
    rw [List.getElem?_set]
    split
    · rename_i h
      subst h
      split
      · rename_i h
        rw [List.getElem?_eq_getElem h, List.getD_eq_getElem?_getD, List.getElem?_eq_getElem h]
        rfl
      · rename_i h
        rw [List.getElem?_eq_none (by omega)]
    · rfl
  rw [e]
theorem set_same (l : List Nat) (i : Nat) : l.set i (l.getD i 0 - 0) = l := by
  have e := take_zero ⟨l, []⟩ i
  exact congrArg Stock.lots e
/-- one cut: the mirror's number is the specification's, and Hall's condition stands behind it -/
theorem cut_one {t : Stock} {R : List Nat} {i j : Nat} (hR : R.length = t.orders.length) (hi : i < t.orders.length) (hj : j < t.lots.length) (h : Hall t fun k => R.getD k 0) :
    ∃ x, cut1 (acc t) ⟨t.lots.map ci, R.map ci⟩ i j = (x : Nat) ∧ x ≤ R.getD i 0 ∧ x ≤ t.lots.getD j 0 ∧ (Hall (Kp399.takeFromLot t j x) fun k => (R.set i (R.getD i 0 - x)).getD k 0) ∧
      (if Kp399.accepts t i j then ((List.range (min (R.getD i 0) (t.lots.getD j 0) + 1)).reverse.find? fun x => Kp399.canServe (Kp399.takeFromLot t j x) (R.set i (R.getD i 0 - x))).getD 0 else 0) = x := by
  have ea : Kp399.accepts t i j = ((acc t).getD i 0).testBit j := by
    rw [acc_at]
    exact contains_eq _ _
  rw [ea]
  by_cases ha : ((acc t).getD i 0).testBit j = true
  · rw [if_pos ha]
    have hsl := slack_sg t (M := R.map ci) (a := fun i => R.getD i 0) (by rw [List.length_map]; exact hR) fun i _ => ci_at R i
    have fm := fold_min (fun o => touched (acc t) o i j) (slack (ar t) (acc t) (R.map ci)) (cutStep (acc t) ⟨ar t, R.map ci⟩ i j) (fun _ _ => rfl) (List.range (2 ^ t.orders.length)) (mn ((R.map ci).getD i 0) ((ar t).getD j 0))
    have eP : cut1 (acc t) ⟨ar t, R.map ci⟩ i j = (List.range (2 ^ t.orders.length)).foldl (cutStep (acc t) ⟨ar t, R.map ci⟩ i j) (mn ((R.map ci).getD i 0) ((ar t).getD j 0)) := by
      unfold cut1
      rw [if_pos ha, List.length_map]
    rw [← eP, ci_at, ci_at] at fm
    obtain ⟨v, hv⟩ : ∃ v, v = cut1 (acc t) ⟨ar t, R.map ci⟩ i j := ⟨_, rfl⟩
    rw [← hv] at fm ⊢
    obtain ⟨h1, h2, h3⟩ := fm
    have hm : mn ((R.getD i 0 : Nat) : Int) ((t.lots.getD j 0 : Nat) : Int) = ((min (R.getD i 0) (t.lots.getD j 0) : Nat) : Int) := by
      unfold mn
      split <;> omega
    rw [hm] at h1 h3
    have h0 : 0 ≤ v := by
      rcases h3 with h3 | ⟨o, ho, _, e⟩
      · omega
      · rw [hsl] at e
        have := h o (List.mem_range.mp ho)
        omega
    have good : Hall (Kp399.takeFromLot t j v.toNat) fun k => (R.set i (R.getD i 0 - v.toNat)).getD k 0 := by
      refine (hall_cut hR hi hj (by omega) (by omega) ha h).mpr fun o ho ht => ?_
      have q := h2 o (List.mem_range.mpr ho) ht
      rw [hsl] at q
      omega
    refine ⟨v.toNat, by omega, by omega, by omega, good, ?_⟩
    refine find_top _ _ ((canServe_iff _ _).mpr good) _ (by omega) fun x hx hxm => ?_
    cases q : Kp399.canServe (Kp399.takeFromLot t j x) (R.set i (R.getD i 0 - x)) with
    | false => rfl
    | true =>
      have y1 : x ≤ R.getD i 0 := Nat.le_trans hxm (Nat.min_le_left _ _)
      have y2 : x ≤ t.lots.getD j 0 := Nat.le_trans hxm (Nat.min_le_right _ _)
      have qx := (hall_cut hR hi hj y1 y2 ha h).mp ((canServe_iff _ _).mp q)
      rcases h3 with h3 | ⟨o, ho, hoc, e⟩
      · omega
      · have z := qx o (List.mem_range.mp ho) hoc
        rw [hsl] at e
        omega
  · rw [if_neg ha]
    refine ⟨0, ?_, Nat.zero_le _, Nat.zero_le _, ?_, rfl⟩
    · unfold cut1
      rw [if_neg ha]
      rfl
    · rw [take_zero, set_same]
      exact h
theorem map_set (l : List Nat) (i x : Nat) : (l.map ci).set i (x : Int) = (l.set i x).map ci := (List.map_set (f := ci)).symm
theorem rel_step {s : Stock} {c : Kp399.Cutting} {p : List Int × Cut} {i j : Nat} (hi : i < s.orders.length) (hj : j < s.lots.length) (r : Rel s c p) : Rel s (Kp399.cutFromLot i c j) (rowStep (acc s) i p j) := by
  obtain ⟨pc, left, rests⟩ := p
  obtain ⟨cs, t, R⟩ := c
  have e1 : pc = cs.map ci := r.cuts
  have e2 : left = t.lots.map ci := r.left
  have e3 : rests = R.map ci := r.rests
  have e4 : t.orders = s.orders := r.orders
  have e5 : t.lots.length = s.lots.length := r.len
  have e6 : R.length = s.orders.length := r.lenA
  have e7 : Hall t fun k => R.getD k 0 := r.hall
  have ea : acc s = acc t := by
    unfold acc
    rw [e4]
  obtain ⟨x, x1, x2, x3, x4, x5⟩ := cut_one (i := i) (j := j) (by rw [e4]; exact e6) (by rw [e4]; exact hi) (by omega) e7
  subst e1 e2 e3
  have eS : Kp399.cutFromLot i ⟨cs, t, R⟩ j = ⟨cs ++ [x], Kp399.takeFromLot t j x, R.set i (R.getD i 0 - x)⟩ := by
    unfold Kp399.cutFromLot
    simp only []
    rw [x5]
  have eM : rowStep (acc s) i (cs.map ci, ⟨t.lots.map ci, R.map ci⟩) j = (cs.map ci ++ [(x : Int)], ⟨(t.lots.map ci).set j ((t.lots.map ci).getD j 0 - (x : Int)), (R.map ci).set i ((R.map ci).getD i 0 - (x : Int))⟩) := by
    unfold rowStep
    rw [ea, x1]
    rfl
  rw [eS, eM]
  refine ⟨?_, ?_, ?_, e4, ?_, ?_, x4⟩
  · show cs.map ci ++ [(x : Int)] = (cs ++ [x]).map ci
    rw [List.map_append]
    rfl
  · show (t.lots.map ci).set j ((t.lots.map ci).getD j 0 - (x : Int)) = (t.lots.set j (t.lots.getD j 0 - x)).map ci
    rw [ci_at, ← map_set, show (((t.lots.getD j 0 - x : Nat)) : Int) = ((t.lots.getD j 0 : Nat) : Int) - (x : Int) by omega]
  · show (R.map ci).set i ((R.map ci).getD i 0 - (x : Int)) = (R.set i (R.getD i 0 - x)).map ci
    rw [ci_at, ← map_set, show (((R.getD i 0 - x : Nat)) : Int) = ((R.getD i 0 : Nat) : Int) - (x : Int) by omega]
  · exact List.length_set.trans e5
  · exact List.length_set.trans e6
theorem rel_row {s : Stock} {i : Nat} (hi : i < s.orders.length) : ∀ (l : List Nat), (∀ j ∈ l, j < s.lots.length) → ∀ {c : Kp399.Cutting} {p : List Int × Cut}, Rel s c p → Rel s (l.foldl (Kp399.cutFromLot i) c) (l.foldl (rowStep (acc s) i) p)
  | [], _, _, _, r => r
  | j :: l, h, _, _, r => rel_row hi l (fun k hk => h k (List.mem_cons_of_mem _ hk)) (rel_step hi (h j (List.mem_cons_self ..)) r)
def specPlan (s : Stock) (r : List (List Nat) × Stock × List Nat) (i : Nat) : List (List Nat) × Stock × List Nat :=
  (r.1 ++ [((List.range s.lots.length).foldl (Kp399.cutFromLot i) ⟨[], r.2.1, r.2.2⟩).cuts], ((List.range s.lots.length).foldl (Kp399.cutFromLot i) ⟨[], r.2.1, r.2.2⟩).stock, ((List.range s.lots.length).foldl (Kp399.cutFromLot i) ⟨[], r.2.1, r.2.2⟩).amounts)
theorem cutPlan_eq (s : Stock) (am : List Nat) : Kp399.cutPlan s am = ((List.range s.orders.length).foldl (specPlan s) ([], s, am)).1 := rfl
theorem plan_fold {s : Stock} : ∀ (l : List Nat), (∀ i ∈ l, i < s.orders.length) → ∀ (r : List (List Nat) × Stock × List Nat) (p : List Int × Cut), Rel s ⟨r.1.flatten, r.2.1, r.2.2⟩ p →
    Rel s ⟨(l.foldl (specPlan s) r).1.flatten, (l.foldl (specPlan s) r).2.1, (l.foldl (specPlan s) r).2.2⟩ (l.foldl (planStep (acc s)) p)
  | [], _, _, _, h => h
  | i :: l, hl, r, p, h => by
    rw [List.foldl_cons, List.foldl_cons]
    refine plan_fold l (fun k hk => hl k (List.mem_cons_of_mem _ hk)) _ _ ?_
    have h0 : Rel s ⟨[], r.2.1, r.2.2⟩ ([], p.2) := ⟨rfl, h.left, h.rests, h.orders, h.len, h.lenA, h.hall⟩
    have q := rel_row (i := i) (hl i (List.mem_cons_self ..)) (List.range s.lots.length) (fun j hj => List.mem_range.mp hj) h0
    have el : p.2.left.length = s.lots.length := by
      rw [h.left, List.length_map]
      exact h.len
    have er : row (acc s) i p.2 = (List.range s.lots.length).foldl (rowStep (acc s) i) ([], p.2) := by
      unfold row
      rw [el]
    rw [← er] at q
    refine ⟨?_, q.left, q.rests, q.orders, q.len, q.lenA, q.hall⟩
    show p.1 ++ (row (acc s) i p.2).1 = (r.1 ++ [_]).flatten.map ci
    rw [List.flatten_append, List.flatten_singleton, List.map_append]
    exact congr (congrArg _ h.cuts) q.cuts
theorem row_lots (t : Stock) (R : List Nat) (i : Nat) : ∀ k, k ≤ t.lots.length → ((List.range k).foldl (Kp399.cutFromLot i) ⟨[], t, R⟩).cuts.length = k ∧ ((List.range k).foldl (Kp399.cutFromLot i) ⟨[], t, R⟩).stock.lots.length = t.lots.length ∧
    ∀ j, ((List.range k).foldl (Kp399.cutFromLot i) ⟨[], t, R⟩).stock.lots.getD j 0 = t.lots.getD j 0 - ((List.range k).foldl (Kp399.cutFromLot i) ⟨[], t, R⟩).cuts.getD j 0
  | 0, _ => ⟨rfl, rfl, fun j => by simp⟩
  | k + 1, hk => by
    obtain ⟨h1, h2, h3⟩ := row_lots t R i k (by omega)
    rw [List.range_succ, List.foldl_append]
    simp only [List.foldl_cons, List.foldl_nil]
    obtain ⟨c, hc⟩ : ∃ c, c = (List.range k).foldl (Kp399.cutFromLot i) ⟨[], t, R⟩ := ⟨_, rfl⟩
    rw [← hc] at h1 h2 h3 ⊢
    obtain ⟨x, hx⟩ : ∃ x, Kp399.cutFromLot i c k = ⟨c.cuts ++ [x], Kp399.takeFromLot c.stock k x, c.amounts.set i (c.amounts.getD i 0 - x)⟩ := ⟨_, rfl⟩
    rw [hx]
    refine ⟨?_, List.length_set.trans h2, fun j => ?_⟩
    · show (c.cuts ++ [x]).length = k + 1
      rw [List.length_append, h1]
      rfl
    · show (c.stock.lots.set k (c.stock.lots.getD k 0 - x)).getD j 0 = t.lots.getD j 0 - (c.cuts ++ [x]).getD j 0
      rw [set_at _ _ _ (by omega), app_at, h1]
      by_cases e : j = k
      · subst e
        rw [if_pos rfl, if_pos rfl, h3, at_end c.cuts (by omega)]
        omega
      · rw [if_neg e, if_neg e, h3]
theorem plan_lots {s : Stock} : ∀ (l : List Nat) (r : List (List Nat) × Stock × List Nat), r.2.1.lots.length = s.lots.length → (∀ j, r.2.1.lots.getD j 0 = s.lots.getD j 0 - (r.1.map fun c => c.getD j 0).sum) →
    ∀ j, (l.foldl (specPlan s) r).2.1.lots.getD j 0 = s.lots.getD j 0 - ((l.foldl (specPlan s) r).1.map fun c => c.getD j 0).sum
  | [], _, _, h => h
  | i :: l, r, hl, h => by
    rw [List.foldl_cons]
    obtain ⟨h1, h2, h3⟩ := row_lots r.2.1 r.2.2 i s.lots.length (by omega)
    refine plan_lots l _ (h2.trans hl) fun j => ?_
    show ((List.range s.lots.length).foldl (Kp399.cutFromLot i) ⟨[], r.2.1, r.2.2⟩).stock.lots.getD j 0 = s.lots.getD j 0 - ((r.1 ++ [((List.range s.lots.length).foldl (Kp399.cutFromLot i) ⟨[], r.2.1, r.2.2⟩).cuts]).map fun c => c.getD j 0).sum
    rw [h3, h, List.map_append, List.sum_append, List.map_cons, List.map_nil, List.sum_cons, List.sum_nil]
    omega
theorem plan_eq (s : Stock) : (plan (ar s) (acc s) (wa s)).1 = (Kp399.cutPlan s (Kp399.priorityAmounts s)).flatten.map ci ∧ (plan (ar s) (acc s) (wa s)).2.left = (Kp399.leftovers s).map ci := by
  obtain ⟨p1, p2, p3⟩ := prios_all s
  have h0 : Rel s ⟨[], s, Kp399.priorityAmounts s⟩ ([], ⟨ar s, prios (ar s) (acc s) (wa s)⟩) := ⟨rfl, rfl, p1, rfl, rfl, p2, (canServe_iff s _).mp p3⟩
  have q := plan_fold (List.range s.orders.length) (fun i hi => List.mem_range.mp hi) ([], s, Kp399.priorityAmounts s) _ h0
  have e : plan (ar s) (acc s) (wa s) = (List.range s.orders.length).foldl (planStep (acc s)) ([], ⟨ar s, prios (ar s) (acc s) (wa s)⟩) := by
    unfold plan
    rw [List.length_map]
  rw [← e] at q
  refine ⟨q.cuts, q.left.trans (congrArg (List.map ci) ?_)⟩
  have hl := plan_lots (s := s) (List.range s.orders.length) ([], s, Kp399.priorityAmounts s) rfl fun j => by simp
  show ((List.range s.orders.length).foldl (specPlan s) ([], s, Kp399.priorityAmounts s)).2.1.lots = Kp399.leftovers s
  refine List.ext_getElem? fun j => ?_
  unfold Kp399.leftovers
  rw [List.getElem?_map]
  have hlen : ((List.range s.orders.length).foldl (specPlan s) ([], s, Kp399.priorityAmounts s)).2.1.lots.length = s.lots.length := q.len
  rcases Nat.lt_or_ge j s.lots.length with hj | hj
  · rw [List.getElem?_range hj]
    have z := hl j
    rw [List.getD_eq_getElem?_getD, List.getElem?_eq_getElem (by omega)] at z
    rw [List.getElem?_eq_getElem (by omega)]
    exact congrArg some z
  · rw [List.getElem?_eq_none (by omega), List.getElem?_eq_none (by rw [List.length_range]; exact hj)]
    rfl
end Lc
namespace Lc
/-! ### 9. The list of calls, read one call at a time -/
/-- how many numbers a call has -/
def arity : List Nat := [0, 1, 2, 1, 1, 1, 2, 2, 2, 0, 0, 1, 0, 0, 0, 0, 0, 2, 2, 1, 2, 0]
def mkCall (n : Nat) (ns : List Nat) : Option Kp399.Call := match n, ns with
  | 0, [] => some .create
  | 1, [a] => some (.addLot a)
  | 2, [a, b] => some (.addOrder a b)
  | 3, [a] => some (.removeOrder a)
  | 4, [a] => some (.getOrder a)
  | 5, [a] => some (.getLot a)
  | 6, [a, b] => some (.setLotArea a b)
  | 7, [a, b] => some (.setAcceptedLots a b)
  | 8, [a, b] => some (.setOrderArea a b)
  | 9, [] => some .maxServed
  | 10, [] => some .worstSet
  | 11, [a] => some (.shortage a)
  | 12, l => some (.canServe l)
  | 13, [] => some .priorityAmounts
  | 14, [] => some .cutPlan
  | 15, [] => some .leftovers
  | 16, [] => some .canServeAll
  | 17, [a, b] => some (.maxServedWithLot a b)
  | 18, [a, b] => some (.maxServedWithOrder a b)
  | 19, [a] => some (.gainOfLot a)
  | 20, [a, b] => some (.swapPriorities a b)
  | 21, [] => some .status
  | _, _ => none
/-- the head of a list of calls: the number n, its arguments ns, the rest t -/
structure Head (p : Int) (r : List Int) (c : List (List Int)) (t : List Int) (n : Nat) (ns : List Nat) (x : Kp399.Call) : Prop where
  num : p = (n : Int)
  lt : n < 22
  isCall : mkCall n ns = some x
  few : ns.length ≤ 8
  form : (n ≠ 12 ∧ r = ns.map (fun (k : Nat) => (k : Int)) ++ t ∧ arity[n]? = some ns.length) ∨ (n = 12 ∧ r = (ns.length : Int) :: (ns.map (fun (k : Nat) => (k : Int)) ++ t))
  call : Kp399Neutral.callOf (PyKp399.whole c) = some x
theorem nat_of {a : Int} (h : Kp399Neutral.natural a = true) : a = ((a.toNat : Nat) : Int) := by
  unfold Kp399Neutral.natural at h
  rw [Bool.and_eq_true, decide_eq_true_eq] at h
  omega
theorem shape_cases {p : Int} {nk : Nat × Nat} (h : PyKp399.shape p = some nk) : ∃ n : Nat, p = (n : Int) ∧ n < 22 := by
  unfold PyKp399.shape at h
  by_cases hp : 0 ≤ p ∧ p < 22
  · exact ⟨p.toNat, by omega, by omega⟩
  · repeat rw [if_neg (by omega)] at h
    cases h
theorem call0 {p : Int} {r : List Int} {c : List (List Int)} {t : List Int} (hs : PyKp399.shape p = some (0, 0)) (h : PyFlat.call PyKp399.shape (p :: r) = some (c, t)) : c = [[p]] ∧ r = t := by
  unfold PyFlat.call at h
  simp only [hs, PyFlat.rows, Nat.not_lt_zero, if_false, List.take_zero, List.drop_zero, Option.some.injEq, Prod.mk.injEq] at h
  exact ⟨h.1.symm, h.2⟩
theorem call1 {p : Int} {r : List Int} {c : List (List Int)} {t : List Int} (hs : PyKp399.shape p = some (1, 0)) (h : PyFlat.call PyKp399.shape (p :: r) = some (c, t)) : ∃ a, c = [[p, a]] ∧ r = a :: t := by
  unfold PyFlat.call at h
  simp only [hs, PyFlat.rows] at h
  match r, h with
  | [], h => simp at h
  | a :: r, h =>
    simp at h
    exact ⟨a, h.1.symm, by rw [h.2]⟩
theorem call2 {p : Int} {r : List Int} {c : List (List Int)} {t : List Int} (hs : PyKp399.shape p = some (2, 0)) (h : PyFlat.call PyKp399.shape (p :: r) = some (c, t)) : ∃ a b, c = [[p, a, b]] ∧ r = a :: b :: t := by
  unfold PyFlat.call at h
  simp only [hs, PyFlat.rows] at h
  match r, h with
  | [], h => simp at h
  | [a], h => simp at h
  | a :: b :: r, h =>
    simp at h
    exact ⟨a, b, h.1.symm, by rw [h.2]⟩
theorem callR {p : Int} {r : List Int} {c : List (List Int)} {t : List Int} (hs : PyKp399.shape p = some (0, 1)) (h : PyFlat.call PyKp399.shape (p :: r) = some (c, t)) : ∃ l : List Int, c = [[p], l] ∧ r = (l.length : Int) :: (l ++ t) := by
  unfold PyFlat.call at h
  simp only [hs, PyFlat.rows, PyFlat.row] at h
  match r, h with
  | [], h => simp at h
  | m :: r, h =>
    simp only [Nat.not_lt_zero, if_false, List.take_zero, List.drop_zero] at h
    by_cases e : 0 ≤ m ∧ m.toNat ≤ r.length
    · simp only [if_pos e, Option.some.injEq, Prod.mk.injEq] at h
      refine ⟨r.take m.toNat, h.1.symm, ?_⟩
      rw [List.length_take, Nat.min_eq_left e.2, ← h.2, List.take_append_drop, show ((m.toNat : Nat) : Int) = m by omega]
    · rw [if_neg e] at h
      cases h
theorem nats_of : ∀ (l : List Int), l.all Kp399Neutral.natural = true → l = (l.map Int.toNat).map fun (k : Nat) => (k : Int)
  | [], _ => rfl
  | a :: l, h => by
    rw [List.all_cons, Bool.and_eq_true] at h
    rw [List.map_cons, List.map_cons, ← nats_of l h.2, ← nat_of h.1]
theorem head_of {p : Int} {r : List Int} {c : List (List Int)} {t : List Int} (h : PyFlat.call PyKp399.shape (p :: r) = some (c, t)) (ha : Kp399Neutral.asked1 (PyKp399.whole c) = true) : ∃ n ns x, Head p r c t n ns x := by
  have hs : ∃ nk, PyKp399.shape p = some nk := by
    unfold PyFlat.call at h
    cases e : PyKp399.shape p with
    | none => simp [e] at h
    | some nk => exact ⟨nk, rfl⟩
  obtain ⟨nk, hs⟩ := hs
  obtain ⟨n, rfl, hn⟩ := shape_cases hs
  have go0 : ∀ x, PyKp399.shape (n : Int) = some (0, 0) → mkCall n [] = some x → n ≠ 12 → arity[n]? = some 0 → Kp399Neutral.callOf (PyKp399.whole [[(n : Int)]]) = some x → ∃ n' ns x, Head (n : Int) r c t n' ns x := fun x h0 h1 h2 h3 h4 => by
    obtain ⟨rfl, rfl⟩ := call0 h0 h
    exact ⟨n, [], x, rfl, hn, h1, by decide, .inl ⟨h2, rfl, h3⟩, h4⟩
  have go1 : ∀ x : Nat → Kp399.Call, PyKp399.shape (n : Int) = some (1, 0) → (∀ a, mkCall n [a] = some (x a)) → n ≠ 12 → arity[n]? = some 1 → (∀ a, Kp399Neutral.asked1 (PyKp399.whole [[(n : Int), a]]) = Kp399Neutral.natural a) → (∀ a, Kp399Neutral.callOf (PyKp399.whole [[(n : Int), a]]) = some (x a.toNat)) → ∃ n' ns x, Head (n : Int) r c t n' ns x := fun x h0 h1 h2 h3 h5 h4 => by
    obtain ⟨a, rfl, rfl⟩ := call1 h0 h
    rw [h5] at ha
    exact ⟨n, [a.toNat], x a.toNat, rfl, hn, h1 _, (by show 1 ≤ 8; decide), .inl ⟨h2, by rw [List.map_cons, List.map_nil, ← nat_of ha]; rfl, h3⟩, h4 a⟩
  have go2 : ∀ x : Nat → Nat → Kp399.Call, PyKp399.shape (n : Int) = some (2, 0) → (∀ a b, mkCall n [a, b] = some (x a b)) → n ≠ 12 → arity[n]? = some 2 → (∀ a b, Kp399Neutral.asked1 (PyKp399.whole [[(n : Int), a, b]]) = (Kp399Neutral.natural a && Kp399Neutral.natural b)) → (∀ a b, Kp399Neutral.callOf (PyKp399.whole [[(n : Int), a, b]]) = some (x a.toNat b.toNat)) → ∃ n' ns x, Head (n : Int) r c t n' ns x := fun x h0 h1 h2 h3 h5 h4 => by
    obtain ⟨a, b, rfl, rfl⟩ := call2 h0 h
    rw [h5, Bool.and_eq_true] at ha
    exact ⟨n, [a.toNat, b.toNat], x a.toNat b.toNat, rfl, hn, h1 _ _, (by show 2 ≤ 8; decide), .inl ⟨h2, by rw [List.map_cons, List.map_cons, List.map_nil, ← nat_of ha.1, ← nat_of ha.2]; rfl, h3⟩, h4 a b⟩
  match n, hn, hs, h, go0, go1, go2 with
  | 0, _, _, _, go0, _, _ => exact go0 _ rfl rfl (by decide) rfl rfl
  | 1, _, _, _, _, go1, _ => exact go1 _ rfl (fun _ => rfl) (by decide) rfl (fun _ => rfl) fun _ => rfl
  | 2, _, _, _, _, _, go2 => exact go2 _ rfl (fun _ _ => rfl) (by decide) rfl (fun _ _ => rfl) fun _ _ => rfl
  | 3, _, _, _, _, go1, _ => exact go1 _ rfl (fun _ => rfl) (by decide) rfl (fun _ => rfl) fun _ => rfl
  | 4, _, _, _, _, go1, _ => exact go1 _ rfl (fun _ => rfl) (by decide) rfl (fun _ => rfl) fun _ => rfl
  | 5, _, _, _, _, go1, _ => exact go1 _ rfl (fun _ => rfl) (by decide) rfl (fun _ => rfl) fun _ => rfl
  | 6, _, _, _, _, _, go2 => exact go2 _ rfl (fun _ _ => rfl) (by decide) rfl (fun _ _ => rfl) fun _ _ => rfl
  | 7, _, _, _, _, _, go2 => exact go2 _ rfl (fun _ _ => rfl) (by decide) rfl (fun _ _ => rfl) fun _ _ => rfl
  | 8, _, _, _, _, _, go2 => exact go2 _ rfl (fun _ _ => rfl) (by decide) rfl (fun _ _ => rfl) fun _ _ => rfl
  | 9, _, _, _, go0, _, _ => exact go0 _ rfl rfl (by decide) rfl rfl
  | 10, _, _, _, go0, _, _ => exact go0 _ rfl rfl (by decide) rfl rfl
  | 11, _, _, _, _, go1, _ => exact go1 _ rfl (fun _ => rfl) (by decide) rfl (fun _ => rfl) fun _ => rfl
  | 12, hn, _, h, _, _, _ =>
    obtain ⟨l, rfl, rfl⟩ := callR rfl h
    have ha' : (l.all Kp399Neutral.natural && decide (l.length ≤ 8)) = true := ha
    rw [Bool.and_eq_true, decide_eq_true_eq] at ha'
    refine ⟨12, l.map Int.toNat, _, rfl, hn, rfl, by rw [List.length_map]; exact ha'.2, .inr ⟨rfl, ?_⟩, rfl⟩
    rw [← nats_of l ha'.1, List.length_map]
  | 13, _, _, _, go0, _, _ => exact go0 _ rfl rfl (by decide) rfl rfl
  | 14, _, _, _, go0, _, _ => exact go0 _ rfl rfl (by decide) rfl rfl
  | 15, _, _, _, go0, _, _ => exact go0 _ rfl rfl (by decide) rfl rfl
  | 16, _, _, _, go0, _, _ => exact go0 _ rfl rfl (by decide) rfl rfl
  | 17, _, _, _, _, _, go2 => exact go2 _ rfl (fun _ _ => rfl) (by decide) rfl (fun _ _ => rfl) fun _ _ => rfl
  | 18, _, _, _, _, _, go2 => exact go2 _ rfl (fun _ _ => rfl) (by decide) rfl (fun _ _ => rfl) fun _ _ => rfl
  | 19, _, _, _, _, go1, _ => exact go1 _ rfl (fun _ => rfl) (by decide) rfl (fun _ => rfl) fun _ => rfl
  | 20, _, _, _, _, _, go2 => exact go2 _ rfl (fun _ _ => rfl) (by decide) rfl (fun _ _ => rfl) fun _ _ => rfl
  | 21, _, _, _, go0, _, _ => exact go0 _ rfl rfl (by decide) rfl rfl

/-- what the list of calls l still has to say behind out: t is left of it, the state is st -/
structure Left (l : List Int) (at' : Nat) (st : Kp399.State) (out : List Int) : Prop where
  ex : ∃ (f : Nat) (t : List Int) (raw : List (List (List Int))), l.drop at' = t ∧ at' ≤ l.length ∧ PyFlat.calls PyKp399.shape f t = some raw ∧ (∀ c ∈ raw, Kp399Neutral.asked1 (PyKp399.whole c) = true) ∧
    out ++ PyFlat.told (PyFlat.played Kp399Neutral.step st (raw.map PyKp399.whole)) = PyKp399.answers l
  few : (PyKp399.answers l).length ≤ 10000000
theorem left_start {l : List Int} (h : PyKp399.answers_asked l = true) : Left l 0 none [] := by
  unfold PyKp399.answers_asked at h
  cases e : PyFlat.calls PyKp399.shape l.length l with
  | none => simp [e] at h
  | some raw =>
    simp only [e, Bool.and_eq_true] at h
    obtain ⟨⟨⟨⟨_, _⟩, _⟩, h4⟩, h5⟩ := h
    refine ⟨⟨l.length, l, raw, rfl, Nat.zero_le _, e, fun c hc => ?_, ?_⟩, of_decide_eq_true h5⟩
    · unfold Kp399Neutral.asked at h4
      simp only [Bool.and_eq_true, List.all_eq_true] at h4
      exact h4.2.2 _ (List.mem_map.mpr ⟨c, hc, rfl⟩)
    · unfold PyKp399.answers PyKp399.calls
      rw [e]
      rfl
theorem left_end {l : List Int} {at' : Nat} {st : Kp399.State} {out : List Int} (L : Left l at' st out) (h : l.length ≤ at') : out = PyKp399.answers l := by
  obtain ⟨f, t, raw, rfl, _, e, _, q⟩ := L.ex
  rw [List.drop_eq_nil_of_le h] at e
  have e2 : raw = [] := by
    cases f <;> (unfold PyFlat.calls at e; exact (Option.some.inj e).symm)
  subst e2
  rw [← q]
  exact (List.append_nil _).symm
theorem drop_more {α : Type} {l t : List α} {k : Nat} : ∀ (u : List α), l.drop k = u ++ t → l.drop (k + u.length) = t := fun u h => by
  rw [← List.drop_drop, h, List.drop_left]
theorem left_turn {l : List Int} {at' : Nat} {st : Kp399.State} {out : List Int} (L : Left l at' st out) (h : at' < l.length) : ∃ (p : Int) (r t : List Int) (c : List (List Int)) (n : Nat) (ns : List Nat) (x : Kp399.Call),
    l.drop at' = p :: r ∧ Head p r c t n ns x ∧ (∀ k, l.drop k = t → k ≤ l.length → Left l k (Kp399.step st x).1 (out ++ ((((Kp399.step st x).2.nums.length + 1 : Nat) : Int) :: ((Kp399.step st x).2.num :: (Kp399.step st x).2.nums)))) ∧
    out.length + ((Kp399.step st x).2.nums.length + 2) ≤ 10000000 := by
  obtain ⟨f, t0, raw, e0, _, e, ha, q⟩ := L.ex
  have few := L.few
  match t0, e0, e with
  | [], e0, _ =>
    have := congrArg List.length e0
    rw [List.length_drop] at this
    simp at this
    omega
  | p :: r, e0, e =>
    match f, e with
    | 0, e => simp [PyFlat.calls] at e
    | f + 1, e =>
      unfold PyFlat.calls at e
      cases hc : PyFlat.call PyKp399.shape (p :: r) with
      | none => simp [hc] at e
      | some ct =>
        obtain ⟨c, t⟩ := ct
        cases hr : PyFlat.calls PyKp399.shape f t with
        | none => simp [hc, hr] at e
        | some cs =>
          simp only [hc, hr, Option.some.injEq] at e
          subst e
          obtain ⟨n, ns, x, hd⟩ := head_of hc (ha c (List.mem_cons_self ..))
          have es : ∀ st, Kp399Neutral.step st (PyKp399.whole c) = ((Kp399.step st x).1, (Kp399.step st x).2.num :: (Kp399.step st x).2.nums) := fun st => by
            unfold Kp399Neutral.step
            rw [hd.call]
          have eq : PyFlat.told (PyFlat.played Kp399Neutral.step st ((c :: cs).map PyKp399.whole)) = ((((Kp399.step st x).2.nums.length + 1 : Nat) : Int) :: ((Kp399.step st x).2.num :: (Kp399.step st x).2.nums)) ++ PyFlat.told (PyFlat.played Kp399Neutral.step (Kp399.step st x).1 (cs.map PyKp399.whole)) := by
            rw [List.map_cons]
            unfold PyFlat.told
            rw [PyFlat.played, List.flatMap_cons, es]
            rfl
          rw [eq, ← List.append_assoc] at q
          refine ⟨p, r, t, c, n, ns, x, e0, hd, fun k hk hkl => ⟨⟨f, t, cs, hk, hkl, hr, fun d hd => ha d (List.mem_cons_of_mem _ hd), q⟩, few⟩, ?_⟩
          rw [← q] at few
          rw [List.length_append, List.length_append, List.length_cons, List.length_cons] at few
          omega
end Lc
/-! The walk: where the defs stand, words for the heap, the rules that the layer lacks. -/
namespace Lc
open PySem PySem.Spec PyProof.Rows L2
def top (i : Nat) : Stmt := PySem.Challenge.pw_lotcutter_s01_answers.main.body.getD i (.Pass ⟨0, 0, 0, 0⟩)
/-- a def of the module: its name, its parameters, its statement, its address -/
structure Dn (K : PySem.W.Frag) (mg : Str → Option Value) (x : Str) (ps : List Str) (st : Stmt) (f : Addr) : Prop where
  ex : ∃ fd : FuncData, L2.Fun K x x st f fd ∧ mg x = some (.ref f) ∧ Binds K fd ps []
abbrev VL (xs : List Int) : List V := xs.map V.int
section
variable {P : Program} {w : World} {K : PySem.W.Frag} {mg : Str → Option Value} {base : Heap}
theorem Dn.ok {x : Str} {ps N : List Str} {st : Stmt} {f : Addr} {k : Nat} {sp : Sp} (D : Dn K mg x ps st f) (S : FnScope N ps (defScope st)) (len : ∀ vs H Q E, sp vs H Q E → vs.length = ps.length)
    (hbody : ∀ (cdv : Value) (A : Around) (outer : List Env) (s : Shared) (H : Hp) (vs : List V) (Q : VK) (E : XK), Room k (A.deeper (envOfC x (defScope st) s.heap.objs.size f cdv)) → sp vs H Q E →
      ∃ t, PSs (cxOf CX0 P w K mg base N x (defScope st) f cdv A outer s H E).nox (defBody st) t ∧ t { nx := fun _ H' => Q .non H', rt := Q } (start N vs) H) : C8.Cal P w K mg base (k + 1) x sp [] := by
  obtain ⟨fd, F, hm, b⟩ := D.ex
  exact ⟨f, fd, ps, [], F.ok S len hbody, hm, F.kp, b, .nil⟩
end
/-! ### rules -/
section
variable {X : Cx}
/-- xs[i] by values, for xs[i] -= e -/
def rGetN (K : PySem.W.Frag) : V → V → Hp → VK → Prop := fun o i H Q => ∃ (p : Addr) (xs : List V) (j : Nat) (v : V), o = .ref p ∧ i = .int (j : Int) ∧ SqL K H p xs ∧ xs[j]? = some v ∧ Q v H
theorem get_list : PGet X (rGetN X.K) := by
  intro pins s σ H o i ov iv Q I rx ry h
  obtain ⟨p, xs, j, z, rfl, rfl, hq, he, q⟩ := h
  cases rx
  obtain ⟨t, rfl⟩ := ry
  obtain ⟨its, r, pl, hz⟩ := I.list hq
  obtain ⟨w, ew, rw'⟩ := r.get he
  have hj : j < xs.length := (List.getElem?_eq_some_iff.mp he).1
  have hn := line63
  exact wpAny_getItem_list pl.isList (Int.natCast_nonneg _) (by omega) (by rw [Int.toNat_natCast]; simpa using ew) ⟨z, H, I, rw', q⟩
/-- a | b of masks -/
theorem op_orN : OpR X (binaryOp .BitOr) (fun x y H Q => ∃ n m : Nat, x = .int (n : Int) ∧ y = .int (m : Int) ∧ Q (.int ((n ||| m : Nat) : Int)) H) := by
  intro pins s σ H x y v u Q I rx ry h
  obtain ⟨n, m, rfl, rfl, q⟩ := h
  refine op_or pins s σ H _ _ v u Q I rx ry ⟨_, _, rfl, rfl, ?_⟩
  show Q (V.int (Builtin.bitOr (n : Int) (m : Int))) H
  rw [bitOr_nn (Int.natCast_nonneg _) (Int.natCast_nonneg _), Int.toNat_natCast, Int.toNat_natCast]
  exact q
end
/-! ### lists -/
theorem vl_at {xs : List Int} {i : Nat} (h : i < xs.length) : (VL xs)[i]? = some (V.int (xs.getD i 0)) := by
  rw [List.getElem?_map, List.getD_eq_getElem?_getD, List.getElem?_eq_getElem h]
  rfl
theorem vl_atI {xs : List Int} {i : Nat} (h : i < xs.length) : atI (VL xs) (i : Int) = some (V.int (xs.getD i 0)) := atI_nat (vl_at h)
theorem cl_atI {xs : List Nat} {i : Nat} (h : i < xs.length) : atI (VL (xs.map ci)) (i : Int) = some (V.int ((xs.getD i 0 : Nat) : Int)) := by
  rw [vl_atI (by rw [List.length_map]; exact h), ci_at]
theorem vl_len (xs : List Int) : (VL xs).length = xs.length := List.length_map _
theorem cl_len (xs : List Nat) : (VL (xs.map ci)).length = xs.length := by rw [vl_len, List.length_map]
theorem ixN_nat {n i : Nat} (h : i < n) : ixN n (i : Int) = some i := by
  unfold ixN
  rw [if_pos (Int.natCast_nonneg _), if_pos (by omega), Int.toNat_natCast]
theorem vl_set (xs : List Int) (i : Nat) (x : Int) : (VL xs).set i (.int x) = VL (xs.set i x) := (List.map_set (f := V.int)).symm
theorem vl_app (xs ys : List Int) : VL (xs ++ ys) = VL xs ++ VL ys := List.map_append
theorem size_le {n : Nat} (h : n ≤ 1000) : n ≤ sizeLine := Nat.le_trans h (by decide)
end Lc
namespace Lc
open PySem PySem.Spec PyProof.Rows L2
/-- the built-ins still stand under their names -/
structure Bn (mg : Str → Option Value) : Prop where
  range : mg "range" = none
  len : mg "len" = none
  sum : mg "sum" = none
  max : mg "max" = none
  min : mg "min" = none
  all : mg "all" = none
  list : mg "list" = none
theorem mem_succ (m i : Nat) : mem m (i + 1) = mem m i ++ if m.testBit i = true then [i] else [] := by
  unfold mem
  rw [List.range_succ, List.filter_append, List.filter_cons]
  rfl
theorem mem_len (m n : Nat) : (mem m n).length ≤ n := by
  have h := List.length_filter_le (fun i => m.testBit i) (List.range n)
  rw [List.length_range] at h
  exact h
theorem Same.laid {H H1 : Hp} {D : Addr} {o : HO} (s : Same H H1) (h : H D = none) : Same H (upd H1 D o) := fun b u e => by
  rw [upd_ne (ne_of_none e h)]
  exact s b u e
theorem Same.new {H : Hp} {D : Addr} {o : HO} (h : H D = none) : Same H (upd H D o) := Same.laid (Same.refl H) h

/-! ### promises -/
def spHas : Sp := fun vs H Q _ => ∃ m e : Nat, vs = [.int (m : Int), .int (e : Int)] ∧ Q (.bl (m.testBit e)) H
def spCount : Sp := fun vs H Q _ => ∃ n : Nat, vs = [.int (n : Int)] ∧ n ≤ 1000 ∧ Q (.int ((2 ^ n : Nat) : Int)) H
def spSetOf : Sp := fun vs H Q _ => ∃ m n : Nat, vs = [.int (m : Int), .int (n : Int)] ∧ n ≤ 1000 ∧ Q (.bl (decide (m < 2 ^ n))) H
def spMem : Sp := fun vs H Q _ => ∃ m n : Nat, vs = [.int (m : Int), .int (n : Int)] ∧ n ≤ 1000 ∧ ∀ (H' : Hp) (p : Addr), Same H H' → H p = none → H' p = some (.lst (VL ((mem m n).map ci))) → Q (.ref p) H'
def spJoint (K : PySem.W.Frag) : Sp := fun vs H Q _ => ∃ (c : Addr) (acc : List Nat) (o : Nat), vs = [.ref c, .int (o : Int)] ∧ SqL K H c (VL (acc.map ci)) ∧ acc.length ≤ 1000 ∧ ∀ H' : Hp, Same H H' → Q (.int ((joint acc o : Nat) : Int)) H'

section
variable {P : Program} {w : World} {K : PySem.W.Frag} {mg : Str → Option Value} {base : Heap}
theorem scHas : FnScope ["mask", "element"] ["mask", "element"] (defScope (top 12)) := ⟨rfl, rfl, rfl, by decide +kernel, rfl, by decide +kernel, by decide +kernel⟩
theorem ok_has {f : Addr} (D : Dn K mg "has" ["mask", "element"] (top 12) f) : C8.Cal P w K mg base 1 "has" spHas [] := by
  refine D.ok scHas (fun vs H Q E h => ?_) (fun cdv A outer s H vs Q E hr h => ?_)
  · obtain ⟨m, e, rfl, _⟩ := h
    rfl
  · obtain ⟨m, e, rfl, k⟩ := h
    refine ⟨_, pss_one (ps_ret (pe_cmpR op_eq (pe_op op_odd (pe_op op_shrN (pv 0) (pv 1)) pe_int) pe_int (nomark _))), ?_⟩
    refine ⟨_, rfl, _, rfl, _, _, rfl, rfl, m / 2 ^ e, ?_, rfl, rfl, ?_⟩
    · rw [Int.natCast_ediv, Int.natCast_pow]
      rfl
    · have q : decide (V.int ((m / 2 ^ e % 2 : Nat) : Int) = V.int 1) = m.testBit e := by
        rw [Nat.testBit_eq_decide_div_mod_eq]
        refine decide_eq_decide.mpr ⟨fun z => ?_, fun z => by rw [z]; rfl⟩
        injection z with z
        omega
      show Q (.bl (decide (V.int ((m / 2 ^ e % 2 : Nat) : Int) = V.int 1))) H
      rw [q]
      exact k
theorem scCount : FnScope ["many"] ["many"] (defScope (top 13)) := ⟨rfl, rfl, rfl, by decide +kernel, rfl, by decide +kernel, by decide +kernel⟩
theorem ok_count {f : Addr} (D : Dn K mg "set_count" ["many"] (top 13) f) : C8.Cal P w K mg base 1 "set_count" spCount [] := by
  refine D.ok scCount (fun vs H Q E h => ?_) (fun cdv A outer s H vs Q E hr h => ?_)
  · obtain ⟨n, rfl, _⟩ := h
    rfl
  · obtain ⟨n, rfl, hn, k⟩ := h
    refine ⟨_, pss_one (ps_ret (pe_op op_oneShl pe_int (pv 0))), ?_⟩
    refine ⟨_, rfl, n, rfl, rfl, by omega, ?_⟩
    rw [Int.natCast_pow] at k
    exact k
theorem scSetOf : FnScope ["mask", "many"] ["mask", "many"] (defScope (top 14)) := ⟨rfl, rfl, rfl, by decide +kernel, rfl, by decide +kernel, by decide +kernel⟩
theorem ok_setof {f : Addr} (D : Dn K mg "is_set_of" ["mask", "many"] (top 14) f) (cCount : C8.Cal P w K mg base 1 "set_count" spCount []) : C8.Cal P w K mg base 2 "is_set_of" spSetOf [] := by
  refine D.ok scSetOf (fun vs H Q E h => ?_) (fun cdv A outer s H vs Q E hr h => ?_)
  · obtain ⟨m, n, rfl, _⟩ := h
    rfl
  · obtain ⟨m, n, rfl, hn, k⟩ := h
    refine ⟨_, pss_one (ps_ret (pe_cmpR op_lt (pv 0) (C8.pe_c cCount hr (by decide) rfl (pa_cons (pv 1) pa_nil)) (nomark _))), ?_⟩
    refine ⟨_, rfl, _, rfl, n, rfl, hn, _, _, rfl, rfl, ?_⟩
    have e : decide ((m : Int) < ((2 ^ n : Nat) : Int)) = decide (m < 2 ^ n) := decide_eq_decide.mpr Int.ofNat_lt
    show Q (.bl (decide ((m : Int) < ((2 ^ n : Nat) : Int)))) H
    rw [e]
    exact k
theorem scMem : FnScope ["mask", "many", "element"] ["mask", "many"] (defScope (top 15)) := ⟨rfl, rfl, rfl, by decide +kernel, rfl, by decide +kernel, by decide +kernel⟩
theorem ok_mem {f : Addr} (D : Dn K mg "members" ["mask", "many"] (top 15) f) (B : Bn mg) (cHas : C8.Cal P w K mg base 1 "has" spHas []) : C8.Cal P w K mg base 2 "members" spMem [] := by
  refine D.ok scMem (fun vs H Q E h => ?_) (fun cdv A outer s H vs Q E hr h => ?_)
  · obtain ⟨m, n, rfl, _⟩ := h
    rfl
  · obtain ⟨m, n, rfl, hn, k⟩ := h
    refine ⟨_, pss_one (ps_ret (pe_lc (own := [("element", 2)]) (g := gName 2) rfl scMem.nd (pi_range1 (by rfl) B.range (pa_cons (pv 1) pa_nil)) (blkOk_by (own := [("element", 2)]) (N := ["mask", "many", "element"]) (sc := defScope (top 15)) (by decide +kernel))
      (fun _ _ _ _ _ => pg_name (i := 2) scMem.nd rfl (Or.inl rfl)) (fun _ _ _ _ _ => pts_one (pt_val (C8.pe_c cHas hr (by decide) rfl (pa_cons (pv 0) (pa_cons (pv 2) pa_nil))))) (fun _ _ _ _ _ => pv 2))), ?_⟩
    refine ⟨_, rfl, _, rfl, by omega, by omega, fun L hL => lc_range (lo := 0) (n := (n : Int).toNat) (fun i H' => Same H H' ∧ H' L = some (.lst (VL ((mem m i).map ci)))) ⟨Same.new hL, upd_same⟩ ?_ ?_⟩
    · rintro i H' hi ⟨s1, h1⟩
      rw [Int.zero_add]
      refine ⟨rfl, _, rfl, _, rfl, m, i, rfl, _, rfl, ?_⟩
      have len : (VL ((mem m i).map ci)).length < sizeLine := by
        rw [cl_len]
        have := mem_len m i
        have z : 1000 < sizeLine := by decide
        omega
      cases q : m.testBit i with
      | true =>
        refine iteT ⟨_, rfl, _, h1, len, Same.laid s1 hL, ?_⟩
        rw [upd_same, mem_succ, if_pos q, List.map_append, vl_app]
        rfl
      | false =>
        refine iteF ⟨s1, ?_⟩
        rw [mem_succ, if_neg (by rw [q]; decide), List.append_nil]
        exact h1
    · rintro H' ⟨s1, h1⟩
      rw [Int.toNat_natCast] at h1
      exact k H' L s1 hL h1
theorem scJoint : FnScope ["accepts", "orders", "found", "order"] ["accepts", "orders"] (defScope (top 17)) := ⟨rfl, rfl, rfl, by decide +kernel, rfl, by decide +kernel, by decide +kernel⟩
theorem ok_joint {f : Addr} (D : Dn K mg "joint_lots" ["accepts", "orders"] (top 17) f) (B : Bn mg) (cMem : C8.Cal P w K mg base 2 "members" spMem []) : C8.Cal P w K mg base 3 "joint_lots" (spJoint K) [] := by
  refine D.ok scJoint (fun vs H Q E h => ?_) (fun cdv A outer s H vs Q E hr h => ?_)
  · obtain ⟨c, acc, o, rfl, _⟩ := h
    rfl
  · obtain ⟨c, acc, o, rfl, hc, hn, k⟩ := h
    refine ⟨_, pss_cons (ps_set (i := 2) scJoint.nd rfl (Or.inl rfl) pe_int)
      (pss_cons (ps_for PassesOwn.never rfl (pi_list (C8.pe_c cMem hr (by decide) rfl (pa_cons (pv 1) (pa_cons (pe_callB call_len_seq (by rfl) B.len PySem.boot_len (pa_cons (pv 0) pa_nil)) pa_nil)))) (pg_name (i := 3) scJoint.nd rfl (Or.inl rfl))
        (pss_one (ps_set (i := 2) scJoint.nd rfl (Or.inl rfl) (pe_op op_orN (pv 2) (pe_ix ix_list (pv 0) (pv 3) (fun _ _ => rfl))))))
      (pss_one (ps_ret (pv 2)))), ?_⟩
    refine ⟨_, rfl, _, rfl, _, _, rfl, .inl hc, ?_⟩
    rw [cl_len]
    refine ⟨o, acc.length, rfl, hn, fun H1 l s1 _ hl => ?_⟩
    refine ⟨l, rfl, ⟨_, SqL.of hl⟩, for_list (K := K) (a := l) (xs := VL ((mem o acc.length).map ci)) (fun i σ H' => ∃ v : Option V, σ = [some (.ref c), some (.int (o : Int)), some (.int (((((mem o acc.length).take i).foldl (fun f i => f ||| acc.getD i 0) 0 : Nat)) : Int)), v] ∧ H' = H1)
      ⟨none, rfl, rfl⟩ (fun i σ H' _ ⟨_, _, e⟩ => by rw [e]; exact SqL.of hl) ?_ ?_⟩
    · rintro i x σ H' hi ⟨v, rfl, rfl⟩
      have hi2 : i < (mem o acc.length).length := by
        have z := (List.getElem?_eq_some_iff.mp hi).1
        rw [cl_len] at z
        exact z
      have ex : x = .int (((mem o acc.length).getD i 0 : Nat) : Int) := by
        rw [vl_at (by rw [List.length_map]; exact hi2), ci_at] at hi
        exact (Option.some.inj hi).symm
      subst ex
      have hm : (mem o acc.length).getD i 0 < acc.length := by
        rw [List.getD_eq_getElem?_getD, List.getElem?_eq_getElem hi2]
        exact List.mem_range.mp (List.mem_filter.mp (List.getElem_mem hi2)).1
      refine ⟨_, rfl, _, rfl, _, rfl, _, _, _, _, rfl, rfl, Same.seq s1 hc, cl_atI hm, _, _, rfl, rfl, ?_⟩
      refine ⟨some (.int (((mem o acc.length).getD i 0 : Nat) : Int)), ?_, rfl⟩
      have e : (mem o acc.length).take (i + 1) = (mem o acc.length).take i ++ [(mem o acc.length).getD i 0] := by
        rw [List.take_add_one, List.getD_eq_getElem?_getD, List.getElem?_eq_getElem hi2]
        rfl
      rw [e, List.foldl_append]
      rfl
    · rintro σ H' ⟨v, rfl, rfl⟩
      rw [cl_len, List.take_length]
      exact ⟨_, rfl, k _ s1⟩
end
end Lc
namespace Lc
open PySem PySem.Spec PyProof.Rows L2
theorem take_more {α : Type} {l : List α} {i : Nat} {x : α} (h : l[i]? = some x) : l.take (i + 1) = l.take i ++ [x] := by
  rw [List.take_add_one, h]
  rfl
theorem cl_item {l : List Nat} {i : Nat} {x : V} (h : (VL (l.map ci))[i]? = some x) : ∃ n : Nat, l[i]? = some n ∧ x = .int (n : Int) := by
  rw [List.getElem?_map, List.getElem?_map] at h
  cases e : l[i]? with
  | none =>
    rw [e] at h
    cases h
  | some n =>
    rw [e] at h
    exact ⟨n, rfl, (Option.some.inj h).symm⟩
theorem mem_lt {m n i x : Nat} (h : (mem m n)[i]? = some x) : x < n := by
  obtain ⟨h1, h2⟩ := List.getElem?_eq_some_iff.mp h
  rw [← h2]
  exact List.mem_range.mp (List.mem_filter.mp (List.getElem_mem h1)).1
theorem pow_small {n : Nat} (h : n ≤ 8) : ((2 ^ n : Nat) : Int) < 2 ^ 62 := by
  have e : 2 ^ n ≤ 2 ^ 8 := Nat.pow_le_pow_right (by decide) h
  omega

theorem pow_low (n : Nat) : -(2 ^ 62) ≤ ((2 ^ n : Nat) : Int) := Int.le_trans (by decide) (Int.natCast_nonneg _)

def spAvail (K : PySem.W.Frag) : Sp := fun vs H Q _ => ∃ (a c : Addr) (ar : List Int) (acc : List Nat) (o : Nat), vs = [.ref a, .ref c, .int (o : Int)] ∧ SqL K H a (VL ar) ∧ SqL K H c (VL (acc.map ci)) ∧ ar.length ≤ 8 ∧ acc.length ≤ 8 ∧ ∀ H' : Hp, Same H H' → Q (.int (avail ar acc o)) H'
def spTotal (K : PySem.W.Frag) : Sp := fun vs H Q _ => ∃ (m : Addr) (am : List Int) (o : Nat), vs = [.ref m, .int (o : Int)] ∧ SqL K H m (VL am) ∧ am.length ≤ 8 ∧ ∀ H' : Hp, Same H H' → Q (.int (total am o)) H'
/-- areas, accepts, amounts as they lie in the heap -/
structure Tri (K : PySem.W.Frag) (H : Hp) (a c m : Addr) (ar : List Int) (acc : List Nat) (am : List Int) : Prop where
  sa : SqL K H a (VL ar)
  sc : SqL K H c (VL (acc.map ci))
  sm : SqL K H m (VL am)
  la : ar.length ≤ 8
  lc : acc.length ≤ 8
  lm : am.length ≤ 8
theorem Tri.same {K : PySem.W.Frag} {H H' : Hp} {a c m : Addr} {ar : List Int} {acc : List Nat} {am : List Int} (t : Tri K H a c m ar acc am) (s : Same H H') : Tri K H' a c m ar acc am := ⟨s.seq t.sa, s.seq t.sc, s.seq t.sm, t.la, t.lc, t.lm⟩
def spSlack (K : PySem.W.Frag) : Sp := fun vs H Q _ => ∃ (a c m : Addr) (ar : List Int) (acc : List Nat) (am : List Int) (o : Nat), vs = [.ref a, .ref c, .ref m, .int (o : Int)] ∧ Tri K H a c m ar acc am ∧ ∀ H' : Hp, Same H H' → Q (.int (slack ar acc am o)) H'
def spCan (K : PySem.W.Frag) : Sp := fun vs H Q _ => ∃ (a c m : Addr) (ar : List Int) (acc : List Nat) (am : List Int), vs = [.ref a, .ref c, .ref m] ∧ Tri K H a c m ar acc am ∧ ∀ H' : Hp, Same H H' → Q (.bl (can ar acc am)) H'
def spShort (K : PySem.W.Frag) : Sp := fun vs H Q _ => ∃ (a c m : Addr) (ar : List Int) (acc : List Nat) (am : List Int) (o : Nat), vs = [.ref a, .ref c, .ref m, .int (o : Int)] ∧ Tri K H a c m ar acc am ∧ ∀ H' : Hp, Same H H' → Q (.int (short ar acc am o)) H'
def spWorst (K : PySem.W.Frag) : Sp := fun vs H Q _ => ∃ (a c m : Addr) (ar : List Int) (acc : List Nat) (am : List Int), vs = [.ref a, .ref c, .ref m] ∧ Tri K H a c m ar acc am ∧
  ∀ (H' : Hp) (p : Addr), Same H H' → H p = none → H' p = some (.tup [.int (worst ar acc am).1, .int (((worst ar acc am).2 : Nat) : Int)]) → Q (.ref p) H'
def spServed (K : PySem.W.Frag) : Sp := fun vs H Q _ => ∃ (a c m : Addr) (ar : List Int) (acc : List Nat) (am : List Int), vs = [.ref a, .ref c, .ref m] ∧ Tri K H a c m ar acc am ∧ ∀ H' : Hp, Same H H' → Q (.int (served ar acc am)) H'
def spWith (K : PySem.W.Frag) : Sp := fun vs H Q _ => ∃ (a : Addr) (ar : List Int) (j : Nat) (x : Int), vs = [.ref a, .int (j : Int), .int x] ∧ SqL K H a (VL ar) ∧ j < ar.length ∧
  ∀ (H' : Hp) (p : Addr), Same H H' → H p = none → H' p = some (.lst (VL (ar.set j x))) → Q (.ref p) H'
def spTouch (K : PySem.W.Frag) : Sp := fun vs H Q _ => ∃ (c : Addr) (acc : List Nat) (o i j : Nat), vs = [.ref c, .int (o : Int), .int (i : Int), .int (j : Int)] ∧ SqL K H c (VL (acc.map ci)) ∧ acc.length ≤ 8 ∧ ∀ H' : Hp, Same H H' → Q (.bl (touched acc o i j)) H'

section
variable {P : Program} {w : World} {K : PySem.W.Frag} {mg : Str → Option Value} {base : Heap}
theorem scAvail : FnScope ["areas", "accepts", "orders", "lots", "lot"] ["areas", "accepts", "orders"] (defScope (top 18)) := ⟨rfl, rfl, rfl, by decide +kernel, rfl, by decide +kernel, by decide +kernel⟩
theorem ok_avail {f : Addr} (D : Dn K mg "available" ["areas", "accepts", "orders"] (top 18) f) (B : Bn mg) (cMem : C8.Cal P w K mg base 2 "members" spMem []) (cJoint : C8.Cal P w K mg base 3 "joint_lots" (spJoint K) []) : C8.Cal P w K mg base 4 "available" (spAvail K) [] := by
  refine D.ok scAvail (fun vs H Q E h => ?_) (fun cdv A outer s H vs Q E hr h => ?_)
  · obtain ⟨a, c, ar, acc, o, rfl, _⟩ := h
    rfl
  · obtain ⟨a, c, ar, acc, o, rfl, ha, hc, la, lc, k⟩ := h
    refine ⟨_, pss_cons (ps_set (i := 3) scAvail.nd rfl (Or.inl rfl) (C8.pe_c cJoint hr (by decide) rfl (pa_cons (pv 1) (pa_cons (pv 2) pa_nil))))
      (pss_one (ps_ret (pe_callB (cr_sum rfl) (by rfl) B.sum (by decide +kernel) (pa_cons
        (pe_lc (own := [("lot", 4)]) (g := gName 4) (tt := tYes) rfl scAvail.nd (pi_list (C8.pe_c cMem hr (by decide) rfl (pa_cons (pv 3) (pa_cons (pe_callB call_len_seq (by rfl) B.len PySem.boot_len (pa_cons (pv 0) pa_nil)) pa_nil))))
          (blkOk_by (own := [("lot", 4)]) (N := ["areas", "accepts", "orders", "lots", "lot"]) (sc := defScope (top 18)) (by decide +kernel))
          (fun _ _ _ _ _ => pg_name (i := 4) scAvail.nd rfl (Or.inl rfl)) (fun _ _ _ _ _ => pts_nil) (fun _ _ _ _ _ => pe_ix (r := rIxL K) ix_list (pv 0) (pv 4) (fun _ _ => rfl))) pa_nil)))), ?_⟩
    refine ⟨_, rfl, _, rfl, c, acc, o, rfl, hc, Nat.le_trans lc (by decide), fun H1 s1 => ?_⟩
    refine ⟨_, rfl, _, rfl, a, _, rfl, .inl (s1.seq ha), ?_⟩
    rw [vl_len]
    refine ⟨joint acc o, ar.length, rfl, Nat.le_trans la (by decide), fun H2 l s2 _ hl => ?_⟩
    refine ⟨l, rfl, ⟨_, SqL.of hl⟩, fun L hL => lc_list (K := K) (a := l) (xs := VL ((mem (joint acc o) ar.length).map ci)) (fun i H' => Same H2 H' ∧ H' L = some (.lst (VL (((mem (joint acc o) ar.length).take i).map fun j => ar.getD j 0)))) ⟨Same.new hL, upd_same⟩ (fun i H' _ q => q.1.seq (SqL.of hl)) ?_ ?_⟩
    · rintro i x H' hi ⟨s3, h3⟩
      obtain ⟨n, hn, rfl⟩ := cl_item hi
      have hlt := mem_lt hn
      refine ⟨rfl, _, rfl, _, rfl, _, _, _, _, rfl, rfl, s3.seq (s2.seq (s1.seq ha)), vl_atI hlt, _, h3, ?_, Same.laid s3 hL, ?_⟩
      · rw [vl_len, List.length_map, List.length_take]
        have := mem_len (joint acc o) ar.length
        have z : 1000 < sizeLine := by decide
        omega
      · rw [upd_same, take_more hn, List.map_append, vl_app]
        rfl
    · rintro H' ⟨s3, h3⟩
      rw [cl_len, List.take_length] at h3
      exact ⟨L, _, rfl, SqL.of h3, k _ (s1.trans (s2.trans s3))⟩
theorem scTotal : FnScope ["amounts", "orders", "order"] ["amounts", "orders"] (defScope (top 19)) := ⟨rfl, rfl, rfl, by decide +kernel, rfl, by decide +kernel, by decide +kernel⟩
theorem ok_total {f : Addr} (D : Dn K mg "total_of" ["amounts", "orders"] (top 19) f) (B : Bn mg) (cMem : C8.Cal P w K mg base 2 "members" spMem []) : C8.Cal P w K mg base 3 "total_of" (spTotal K) [] := by
  refine D.ok scTotal (fun vs H Q E h => ?_) (fun cdv A outer s H vs Q E hr h => ?_)
  · obtain ⟨m, am, o, rfl, _⟩ := h
    rfl
  · obtain ⟨m, am, o, rfl, hm, lm, k⟩ := h
    refine ⟨_, pss_one (ps_ret (pe_callB (cr_sum rfl) (by rfl) B.sum (by decide +kernel) (pa_cons
        (pe_lc (own := [("order", 2)]) (g := gName 2) (tt := tYes) rfl scTotal.nd (pi_list (C8.pe_c cMem hr (by decide) rfl (pa_cons (pv 1) (pa_cons (pe_callB call_len_seq (by rfl) B.len PySem.boot_len (pa_cons (pv 0) pa_nil)) pa_nil))))
          (blkOk_by (own := [("order", 2)]) (N := ["amounts", "orders", "order"]) (sc := defScope (top 19)) (by decide +kernel))
          (fun _ _ _ _ _ => pg_name (i := 2) scTotal.nd rfl (Or.inl rfl)) (fun _ _ _ _ _ => pts_nil) (fun _ _ _ _ _ => pe_ix (r := rIxL K) ix_list (pv 0) (pv 2) (fun _ _ => rfl))) pa_nil))), ?_⟩
    refine ⟨_, rfl, _, rfl, m, _, rfl, .inl hm, ?_⟩
    rw [vl_len]
    refine ⟨o, am.length, rfl, Nat.le_trans lm (by decide), fun H2 l s2 _ hl => ?_⟩
    refine ⟨l, rfl, ⟨_, SqL.of hl⟩, fun L hL => lc_list (K := K) (a := l) (xs := VL ((mem o am.length).map ci)) (fun i H' => Same H2 H' ∧ H' L = some (.lst (VL (((mem o am.length).take i).map fun j => am.getD j 0)))) ⟨Same.new hL, upd_same⟩ (fun i H' _ q => q.1.seq (SqL.of hl)) ?_ ?_⟩
    · rintro i x H' hi ⟨s3, h3⟩
      obtain ⟨n, hn, rfl⟩ := cl_item hi
      have hlt := mem_lt hn
      refine ⟨rfl, _, rfl, _, rfl, _, _, _, _, rfl, rfl, s3.seq (s2.seq hm), vl_atI hlt, _, h3, ?_, Same.laid s3 hL, ?_⟩
      · rw [vl_len, List.length_map, List.length_take]
        have := mem_len o am.length
        have z : 1000 < sizeLine := by decide
        omega
      · rw [upd_same, take_more hn, List.map_append, vl_app]
        rfl
    · rintro H' ⟨s3, h3⟩
      rw [cl_len, List.take_length] at h3
      exact ⟨L, _, rfl, SqL.of h3, k _ (s2.trans s3)⟩
theorem scSlack : FnScope ["areas", "accepts", "amounts", "orders"] ["areas", "accepts", "amounts", "orders"] (defScope (top 20)) := ⟨rfl, rfl, rfl, by decide +kernel, rfl, by decide +kernel, by decide +kernel⟩
theorem ok_slack {f : Addr} (D : Dn K mg "slack" ["areas", "accepts", "amounts", "orders"] (top 20) f) (cAvail : C8.Cal P w K mg base 4 "available" (spAvail K) []) (cTotal : C8.Cal P w K mg base 3 "total_of" (spTotal K) []) : C8.Cal P w K mg base 5 "slack" (spSlack K) [] := by
  refine D.ok scSlack (fun vs H Q E h => ?_) (fun cdv A outer s H vs Q E hr h => ?_)
  · obtain ⟨a, c, m, ar, acc, am, o, rfl, _⟩ := h
    rfl
  · obtain ⟨a, c, m, ar, acc, am, o, rfl, t, k⟩ := h
    refine ⟨_, pss_one (ps_ret (pe_op op_sub (C8.pe_c cAvail hr (by decide) rfl (pa_cons (pv 0) (pa_cons (pv 1) (pa_cons (pv 3) pa_nil)))) (C8.pe_c cTotal hr (by decide) rfl (pa_cons (pv 2) (pa_cons (pv 3) pa_nil))))), ?_⟩
    refine ⟨_, rfl, _, rfl, _, rfl, a, c, ar, acc, o, rfl, t.sa, t.sc, t.la, t.lc, fun H1 s1 => ?_⟩
    refine ⟨_, rfl, _, rfl, m, am, o, rfl, s1.seq t.sm, t.lm, fun H2 s2 => ?_⟩
    exact ⟨_, _, rfl, rfl, k _ (s1.trans s2)⟩
theorem scCan : FnScope ["areas", "accepts", "amounts", "orders"] ["areas", "accepts", "amounts"] (defScope (top 21)) := ⟨rfl, rfl, rfl, by decide +kernel, rfl, by decide +kernel, by decide +kernel⟩
theorem ok_can {f : Addr} (D : Dn K mg "can_serve" ["areas", "accepts", "amounts"] (top 21) f) (B : Bn mg) (cCount : C8.Cal P w K mg base 1 "set_count" spCount []) (cSlack : C8.Cal P w K mg base 5 "slack" (spSlack K) []) : C8.Cal P w K mg base 6 "can_serve" (spCan K) [] := by
  refine D.ok scCan (fun vs H Q E h => ?_) (fun cdv A outer s H vs Q E hr h => ?_)
  · obtain ⟨a, c, m, ar, acc, am, rfl, _⟩ := h
    rfl
  · obtain ⟨a, c, m, ar, acc, am, rfl, t, k⟩ := h
    refine ⟨_, pss_cons (ps_for PassesOwn.never rfl (pi_range1 (by rfl) B.range (pa_cons (C8.pe_c cCount hr (by decide) rfl (pa_cons (pe_callB call_len_seq (by rfl) B.len PySem.boot_len (pa_cons (pv 1) pa_nil)) pa_nil)) pa_nil)) (pg_name (i := 3) scCan.nd rfl (Or.inl rfl))
        (pss_one (ps_if (pt_cmpR op_lt (C8.pe_c cSlack hr (by decide) rfl (pa_cons (pv 0) (pa_cons (pv 1) (pa_cons (pv 2) (pa_cons (pv 3) pa_nil))))) pe_int (nomark _)) (pss_one (ps_ret pe_bl)) pss_nil)))
      (pss_one (ps_ret pe_bl)), ?_⟩
    refine ⟨_, rfl, _, _, rfl, .inl t.sc, ?_⟩
    rw [cl_len]
    refine ⟨acc.length, rfl, Nat.le_trans t.lc (by decide), _, rfl, pow_low _, pow_small t.lc, for_range (lo := 0) (n := (((2 ^ acc.length : Nat)) : Int).toNat) (fun i σ H' => ∃ v : Option V, σ = [some (.ref a), some (.ref c), some (.ref m), v] ∧ Same H H' ∧ ∀ o, o < i → ¬ slack ar acc am o < 0)
      ⟨none, rfl, Same.refl H, fun o ho => absurd ho (Nat.not_lt_zero _)⟩ ?_ ?_⟩
    · rintro i σ H' hi ⟨v, rfl, s1, q⟩
      rw [Int.toNat_natCast] at hi
      rw [Int.zero_add]
      refine ⟨_, rfl, _, rfl, _, rfl, _, rfl, a, c, m, ar, acc, am, i, rfl, t.same s1, fun H2 s2 => ?_⟩
      refine ⟨_, _, rfl, rfl, _, rfl, ?_⟩
      by_cases z : slack ar acc am i < 0
      · rw [decide_eq_true z]
        refine iteT ?_
        have e : can ar acc am = false := by
          unfold can
          rw [List.all_eq_false]
          exact ⟨i, List.mem_range.mpr hi, by rw [decide_eq_true z]; decide⟩
        rw [e] at k
        exact k _ (s1.trans s2)
      · rw [decide_eq_false z]
        refine iteF ⟨_, rfl, s1.trans s2, fun o ho => ?_⟩
        by_cases e : o = i
        · rw [e]
          exact z
        · exact q o (by omega)
    · rintro σ H' ⟨v, rfl, s1, q⟩
      rw [Int.toNat_natCast] at q
      have e : can ar acc am = true := by
        unfold can
        rw [List.all_eq_true]
        intro o ho
        rw [decide_eq_false (q o (List.mem_range.mp ho))]
        rfl
      rw [e] at k
      exact k _ s1
theorem scShort : FnScope ["areas", "accepts", "wants", "orders"] ["areas", "accepts", "wants", "orders"] (defScope (top 22)) := ⟨rfl, rfl, rfl, by decide +kernel, rfl, by decide +kernel, by decide +kernel⟩
theorem ok_short {f : Addr} (D : Dn K mg "shortage_of" ["areas", "accepts", "wants", "orders"] (top 22) f) (B : Bn mg) (cSlack : C8.Cal P w K mg base 5 "slack" (spSlack K) []) : C8.Cal P w K mg base 6 "shortage_of" (spShort K) [] := by
  refine D.ok scShort (fun vs H Q E h => ?_) (fun cdv A outer s H vs Q E hr h => ?_)
  · obtain ⟨a, c, m, ar, acc, am, o, rfl, _⟩ := h
    rfl
  · obtain ⟨a, c, m, ar, acc, am, o, rfl, t, k⟩ := h
    refine ⟨_, pss_one (ps_ret (pe_callB (call_max2 rfl) (by rfl) B.max (by decide +kernel) (pa_cons (pe_op op_sub pe_int (C8.pe_c cSlack hr (by decide) rfl (pa_cons (pv 0) (pa_cons (pv 1) (pa_cons (pv 2) (pa_cons (pv 3) pa_nil)))))) (pa_cons pe_int pa_nil)))), ?_⟩
    refine ⟨_, rfl, _, rfl, _, rfl, _, rfl, a, c, m, ar, acc, am, o, rfl, t, fun H1 s1 => ?_⟩
    exact ⟨_, _, rfl, rfl, _, _, rfl, k _ s1⟩
theorem scWorst : FnScope ["areas", "accepts", "wants", "greatest", "found", "orders", "shortage"] ["areas", "accepts", "wants"] (defScope (top 23)) := ⟨rfl, rfl, rfl, by decide +kernel, rfl, by decide +kernel, by decide +kernel⟩
theorem ok_worst {f : Addr} (D : Dn K mg "worst_set" ["areas", "accepts", "wants"] (top 23) f) (B : Bn mg) (cCount : C8.Cal P w K mg base 1 "set_count" spCount []) (cShort : C8.Cal P w K mg base 6 "shortage_of" (spShort K) []) : C8.Cal P w K mg base 7 "worst_set" (spWorst K) [] := by
  refine D.ok scWorst (fun vs H Q E h => ?_) (fun cdv A outer s H vs Q E hr h => ?_)
  · obtain ⟨a, c, m, ar, acc, am, rfl, _⟩ := h
    rfl
  · obtain ⟨a, c, m, ar, acc, am, rfl, t, k⟩ := h
    refine ⟨_, pss_cons (ps_set (i := 3) scWorst.nd rfl (Or.inl rfl) pe_int) (pss_cons (ps_set (i := 4) scWorst.nd rfl (Or.inl rfl) pe_int)
      (pss_cons (ps_for PassesOwn.never rfl (pi_range1 (by rfl) B.range (pa_cons (C8.pe_c cCount hr (by decide) rfl (pa_cons (pe_callB call_len_seq (by rfl) B.len PySem.boot_len (pa_cons (pv 2) pa_nil)) pa_nil)) pa_nil)) (pg_name (i := 5) scWorst.nd rfl (Or.inl rfl))
        (pss_cons (ps_set (i := 6) scWorst.nd rfl (Or.inl rfl) (C8.pe_c cShort hr (by decide) rfl (pa_cons (pv 0) (pa_cons (pv 1) (pa_cons (pv 2) (pa_cons (pv 5) pa_nil))))))
          (pss_one (ps_if (pt_cmpR op_gt (pv 6) (pv 3) (nomark _)) (pss_cons (ps_set (i := 3) scWorst.nd rfl (Or.inl rfl) (pv 6)) (pss_one (ps_set (i := 4) scWorst.nd rfl (Or.inl rfl) (pv 5)))) pss_nil))))
      (pss_one (ps_ret (pe_tup (pa_cons (pv 3) (pa_cons (pv 4) pa_nil))))))), ?_⟩
    refine ⟨_, rfl, _, _, rfl, .inl t.sm, ?_⟩
    rw [vl_len]
    refine ⟨am.length, rfl, Nat.le_trans t.lm (by decide), _, rfl, pow_low _, pow_small t.lm, for_range (lo := 0) (n := (((2 ^ am.length : Nat)) : Int).toNat) (fun i σ H' => ∃ v u : Option V, σ = [some (.ref a), some (.ref c), some (.ref m), some (.int ((List.range i).foldl (worstStep ar acc am) (0, 0)).1), some (.int ((((List.range i).foldl (worstStep ar acc am) (0, 0)).2 : Nat) : Int)), v, u] ∧ Same H H')
      ⟨none, none, rfl, Same.refl H⟩ ?_ ?_⟩
    · rintro i σ H' hi ⟨v, u, rfl, s1⟩
      rw [Int.zero_add]
      refine ⟨_, rfl, _, rfl, _, rfl, _, rfl, a, c, m, ar, acc, am, i, rfl, t.same s1, fun H2 s2 => ?_⟩
      refine ⟨_, rfl, _, rfl, _, _, rfl, rfl, _, rfl, ?_⟩
      rw [List.range_succ, List.foldl_append]
      generalize (List.range i).foldl (worstStep ar acc am) (0, 0) = p
      show if decide (p.1 < short ar acc am i) = true then _ else _
      by_cases z : p.1 < short ar acc am i
      · have e : [i].foldl (worstStep ar acc am) p = (short ar acc am i, i) := if_pos z
        rw [decide_eq_true z]
        refine iteT ⟨_, rfl, _, rfl, some (.int (i : Int)), some (.int (short ar acc am i)), ?_, s1.trans s2⟩
        rw [e]
        rfl
      · have e : [i].foldl (worstStep ar acc am) p = p := if_neg z
        rw [decide_eq_false z]
        refine iteF ⟨some (.int (i : Int)), some (.int (short ar acc am i)), ?_, s1.trans s2⟩
        rw [e]
        rfl
    · rintro σ H' ⟨v, u, rfl, s1⟩
      rw [Int.toNat_natCast]
      refine ⟨_, rfl, _, rfl, (by show 2 ≤ sizeLine; decide), fun p hp => ?_⟩
      exact k _ p (Same.trans s1 (Same.new hp)) (s1.free hp) upd_same
theorem scServed : FnScope ["areas", "accepts", "wants", "shortage", "orders"] ["areas", "accepts", "wants"] (defScope (top 24)) := ⟨rfl, rfl, rfl, by decide +kernel, rfl, by decide +kernel, by decide +kernel⟩
theorem ok_served {f : Addr} (D : Dn K mg "max_served" ["areas", "accepts", "wants"] (top 24) f) (B : Bn mg) (cWorst : C8.Cal P w K mg base 7 "worst_set" (spWorst K) []) : C8.Cal P w K mg base 8 "max_served" (spServed K) [] := by
  refine D.ok scServed (fun vs H Q E h => ?_) (fun cdv A outer s H vs Q E hr h => ?_)
  · obtain ⟨a, c, m, ar, acc, am, rfl, _⟩ := h
    rfl
  · obtain ⟨a, c, m, ar, acc, am, rfl, t, k⟩ := h
    refine ⟨_, pss_cons (ps_asg (C8.pe_c cWorst hr (by decide) rfl (pa_cons (pv 0) (pa_cons (pv 1) (pa_cons (pv 2) pa_nil)))) (pg_tup (by rfl) (pgs_cons (pg_name (i := 3) scServed.nd rfl (.inl rfl)) (pgs_cons (pg_name (i := 4) scServed.nd rfl (.inl rfl)) pgs_nil))))
      (pss_one (ps_ret (pe_op op_sub (pe_callB (cr_sum rfl) (by rfl) B.sum (by decide +kernel) (pa_cons (pv 2) pa_nil)) (pv 3)))), ?_⟩
    refine ⟨_, rfl, _, rfl, _, rfl, a, c, m, ar, acc, am, rfl, t, fun H1 p s1 _ hp => ?_⟩
    refine ⟨p, _, rfl, SqT.of hp, rfl, _, _, rfl, _, _, rfl, rfl, ?_⟩
    refine ⟨_, rfl, m, am, rfl, s1.seq t.sm, _, rfl, _, _, rfl, rfl, ?_⟩
    exact k _ s1
theorem scWith : FnScope ["areas", "lot", "area", "found"] ["areas", "lot", "area"] (defScope (top 25)) := ⟨rfl, rfl, rfl, by decide +kernel, rfl, by decide +kernel, by decide +kernel⟩
theorem ok_with {f : Addr} (D : Dn K mg "with_lot_area" ["areas", "lot", "area"] (top 25) f) (B : Bn mg) : C8.Cal P w K mg base 1 "with_lot_area" (spWith K) [] := by
  refine D.ok scWith (fun vs H Q E h => ?_) (fun cdv A outer s H vs Q E hr h => ?_)
  · obtain ⟨a, ar, j, x, rfl, _⟩ := h
    rfl
  · obtain ⟨a, ar, j, x, rfl, ha, hj, k⟩ := h
    refine ⟨_, pss_cons (ps_set (i := 3) scWith.nd rfl (Or.inl rfl) (pe_callTy call_list_of (by rfl) B.list (by decide +kernel) (pa_cons (pv 0) pa_nil)))
      (pss_cons (ps_asg (pv 2) (pg_sub (pv 3) (pv 1) set_list)) (pss_one (ps_ret (pv 3)))), ?_⟩
    refine ⟨_, rfl, a, _, rfl, .inl ha, fun l hl => ?_⟩
    refine ⟨_, rfl, _, rfl, _, rfl, l, _, _, j, rfl, rfl, upd_same, ixN_nat (by rw [vl_len]; exact hj), ?_⟩
    refine ⟨_, rfl, ?_⟩
    rw [upd_upd, vl_set]
    exact k _ l (Same.new hl) hl upd_same
theorem scTouch : FnScope ["accepts", "orders", "order", "lot"] ["accepts", "orders", "order", "lot"] (defScope (top 26)) := ⟨rfl, rfl, rfl, by decide +kernel, rfl, by decide +kernel, by decide +kernel⟩
theorem ok_touch {f : Addr} (D : Dn K mg "is_touched" ["accepts", "orders", "order", "lot"] (top 26) f) (cHas : C8.Cal P w K mg base 1 "has" spHas []) (cJoint : C8.Cal P w K mg base 3 "joint_lots" (spJoint K) []) : C8.Cal P w K mg base 4 "is_touched" (spTouch K) [] := by
  refine D.ok scTouch (fun vs H Q E h => ?_) (fun cdv A outer s H vs Q E hr h => ?_)
  · obtain ⟨c, acc, o, i, j, rfl, _⟩ := h
    rfl
  · obtain ⟨c, acc, o, i, j, rfl, hc, lc, k⟩ := h
    refine ⟨_, pss_one (ps_ret (pe_and (pe_not (C8.pe_c cHas hr (by decide) rfl (pa_cons (pv 1) (pa_cons (pv 2) pa_nil)))) (pe_one (C8.pe_c cHas hr (by decide) rfl (pa_cons (C8.pe_c cJoint hr (by decide) rfl (pa_cons (pv 0) (pa_cons (pv 1) pa_nil))) (pa_cons (pv 3) pa_nil)))))), ?_⟩
    refine ⟨_, rfl, _, rfl, o, i, rfl, _, rfl, _, rfl, ?_⟩
    have e : touched acc o i j = (!o.testBit i && (joint acc o).testBit j) := rfl
    cases q : o.testBit i with
    | true =>
      refine iteF ?_
      rw [e, q] at k
      exact k _ (Same.refl H)
    | false =>
      refine iteT ⟨_, rfl, _, rfl, c, acc, o, rfl, hc, Nat.le_trans lc (by decide), fun H1 s1 => ?_⟩
      refine ⟨_, rfl, joint acc o, j, rfl, ?_⟩
      rw [e, q] at k
      exact k _ s1
end
end Lc
namespace Lc
open PySem PySem.Spec PyProof.Rows L2
/-! ### frames -/
/-- all that was tracked stands, but at the addresses S -/
def But (S : List Addr) (H H' : Hp) : Prop := ∀ b o, H b = some o → b ∉ S → H' b = some o
theorem Same.but {S : List Addr} {H H' : Hp} (s : Same H H') : But S H H' := fun b o e _ => s b o e
theorem But.trans {S : List Addr} {H H1 H2 : Hp} (a : But S H H1) (b : But S H1 H2) : But S H H2 := fun c o e n => b c o (a c o e n) n
theorem But.refl (S : List Addr) (H : Hp) : But S H H := fun _ _ e _ => e
theorem But.upd {S : List Addr} {H H1 : Hp} {a : Addr} {o : HO} (s : But S H H1) (h : a ∈ S ∨ H a = none) : But S H (upd H1 a o) := fun b u e n => by
  have ne : b ≠ a := fun z => by
    subst z
    rcases h with h | h
    · exact n h
    · rw [h] at e
      cases e
  rw [upd_ne ne]
  exact s b u e n
theorem But.ne {S : List Addr} {H H' : Hp} {a : Addr} (s : But S H H') (hS : a ∉ S) (h : H' a = none) : H a = none := by
  cases q : H a with
  | none => rfl
  | some o =>
    rw [s a o q hS] at h
    cases h

/-! ### lengths in the mirror -/
theorem priosStep_len (ar : List Int) (acc : List Nat) (wa am : List Int) (i : Nat) : (priosStep ar acc wa am i).length = am.length := List.length_set
theorem prios_fold_len (ar : List Int) (acc : List Nat) (wa : List Int) : ∀ (l : List Nat) (am : List Int), (l.foldl (priosStep ar acc wa) am).length = am.length
  | [], _ => rfl
  | i :: l, am => by rw [List.foldl_cons, prios_fold_len ar acc wa l, priosStep_len]
theorem prios_len (ar : List Int) (acc : List Nat) (wa : List Int) : (prios ar acc wa).length = wa.length := by
  unfold prios
  rw [prios_fold_len, List.length_map]
theorem row_len (acc : List Nat) (i : Nat) (c : Cut) : ∀ k, ((List.range k).foldl (rowStep acc i) ([], c)).1.length = k ∧ ((List.range k).foldl (rowStep acc i) ([], c)).2.left.length = c.left.length ∧ ((List.range k).foldl (rowStep acc i) ([], c)).2.rests.length = c.rests.length
  | 0 => ⟨rfl, rfl, rfl⟩
  | k + 1 => by
    obtain ⟨h1, h2, h3⟩ := row_len acc i c k
    rw [List.range_succ, List.foldl_append]
    generalize (List.range k).foldl (rowStep acc i) ([], c) = p at h1 h2 h3 ⊢
    refine ⟨?_, ?_, ?_⟩
    · show (p.1 ++ [_]).length = _
      rw [List.length_append, h1]
      rfl
    · exact List.length_set.trans h2
    · exact List.length_set.trans h3
theorem plan_len (acc : List Nat) (c : Cut) : ∀ k, ((List.range k).foldl (planStep acc) ([], c)).1.length = k * c.left.length ∧ ((List.range k).foldl (planStep acc) ([], c)).2.left.length = c.left.length ∧ ((List.range k).foldl (planStep acc) ([], c)).2.rests.length = c.rests.length
  | 0 => ⟨by simp, rfl, rfl⟩
  | k + 1 => by
    obtain ⟨h1, h2, h3⟩ := plan_len acc c k
    rw [List.range_succ, List.foldl_append]
    generalize (List.range k).foldl (planStep acc) ([], c) = p at h1 h2 h3 ⊢
    obtain ⟨r1, r2, r3⟩ := row_len acc k p.2 p.2.left.length
    refine ⟨?_, r2.trans h2, r3.trans h3⟩
    show (p.1 ++ (row acc k p.2).1).length = _
    have e : (row acc k p.2).1.length = p.2.left.length := r1
    rw [List.length_append, h1, e, h2, Nat.succ_mul]

/-! ### a cutting in the heap -/
structure CutAt (C : Addr) (H : Hp) (p dx ll lr : Addr) (c : Cut) : Prop where
  ins : H p = some (.ins C dx [("left", .ref ll), ("rests", .ref lr)])
  left : H ll = some (.lst (VL c.left))
  rests : H lr = some (.lst (VL c.rests))
  ne : ll ≠ lr
theorem CutAt.same {C : Addr} {H H' : Hp} {p dx ll lr : Addr} {c : Cut} (t : CutAt C H p dx ll lr c) (s : Same H H') : CutAt C H' p dx ll lr c := ⟨s _ _ t.ins, s _ _ t.left, s _ _ t.rests, t.ne⟩
theorem lkc_left {a b : V} : List.lookup ("left" : Str) ([("left", a), ("rests", b)] : List (Str × V)) = some a := by
  have e : (("left" : Str) == ("left" : Str)) = true := beq_self_eq_true _
  simp only [List.lookup, e]
theorem lkc_rests {a b : V} : List.lookup ("rests" : Str) ([("left", a), ("rests", b)] : List (Str × V)) = some b := by
  have e : (("rests" : Str) == ("rests" : Str)) = true := beq_self_eq_true _
  have e2 : (("rests" : Str) == ("left" : Str)) = false := by decide +kernel
  simp only [List.lookup, e, e2]
theorem lkc_cut {a b : V} : List.lookup ("cut" : Str) ([("left", a), ("rests", b)] : List (Str × V)) = none := by
  have e1 : (("cut" : Str) == ("left" : Str)) = false := by decide +kernel
  have e2 : (("cut" : Str) == ("rests" : Str)) = false := by decide +kernel
  simp only [List.lookup, e1, e2]
theorem put_two {a b : Str} {x y : V} (h : ¬ a = b) : putF b y (putF a x []) = [(a, x), (b, y)] := by
  show (if a = b then [(a, y)] else (a, x) :: [(b, y)]) = _
  rw [if_neg h]

def spPrio1 (K : PySem.W.Frag) : Sp := fun vs H Q _ => ∃ (a c m : Addr) (ar : List Int) (acc : List Nat) (am : List Int) (i : Nat) (want : Int), vs = [.ref a, .ref c, .ref m, .int (i : Int), .int want] ∧ Tri K H a c m ar acc am ∧ ∀ H' : Hp, Same H H' → Q (.int (prio1 ar acc am i want)) H'
def spPrios (K : PySem.W.Frag) : Sp := fun vs H Q _ => ∃ (a c m : Addr) (ar : List Int) (acc : List Nat) (wa : List Int), vs = [.ref a, .ref c, .ref m] ∧ Tri K H a c m ar acc wa ∧
  ∀ (H' : Hp) (p : Addr), Same H H' → H p = none → H' p = some (.lst (VL (prios ar acc wa))) → Q (.ref p) H'
def spCutInit (K : PySem.W.Frag) (C : Addr) : Sp := fun vs H Q _ => ∃ (p dx a m : Addr) (ar am : List Int), vs = [.ref p, .ref a, .ref m] ∧ H p = some (.ins C dx []) ∧ SqL K H a (VL ar) ∧ SqL K H m (VL am) ∧
  ∀ (H' : Hp) (ll lr : Addr), H ll = none → H lr = none → CutAt C H' p dx ll lr ⟨ar, am⟩ → (∀ b o, H b = some o → b ≠ p → H' b = some o) → Q .non H'
def spCutCut (C : Addr) : Sp := fun vs H Q _ => ∃ (p dx ll lr : Addr) (c : Cut) (i j : Nat) (x : Int), vs = [.ref p, .int (i : Int), .int (j : Int), .int x] ∧ CutAt C H p dx ll lr c ∧ i < c.rests.length ∧ j < c.left.length ∧
  ∀ H' : Hp, But [ll, lr] H H' → CutAt C H' p dx ll lr (c.cut i j x) → Q .non H'
def spGreatest (K : PySem.W.Frag) (C : Addr) : Sp := fun vs H Q _ => ∃ (p dx ll lr ca : Addr) (c : Cut) (acc : List Nat) (i j : Nat), vs = [.ref p, .ref ca, .int (i : Int), .int (j : Int)] ∧ CutAt C H p dx ll lr c ∧ SqL K H ca (VL (acc.map ci)) ∧ c.left.length ≤ 8 ∧ c.rests.length ≤ 8 ∧ acc.length ≤ 8 ∧
  i < acc.length ∧ i < c.rests.length ∧ j < c.left.length ∧ ∀ H' : Hp, Same H H' → Q (.int (cut1 acc c i j)) H'
def spRow (C : Addr) : Sp := fun vs H Q _ => ∃ (p dx ll lr ca : Addr) (c : Cut) (acc : List Nat) (i : Nat), vs = [.ref p, .ref ca, .int (i : Int)] ∧ CutAt C H p dx ll lr c ∧ H ca = some (.lst (VL (acc.map ci))) ∧ ca ∉ [ll, lr] ∧ c.left.length ≤ 8 ∧ c.rests.length ≤ 8 ∧ acc.length ≤ 8 ∧
  i < acc.length ∧ i < c.rests.length ∧ ∀ (H' : Hp) (r : Addr), But [ll, lr] H H' → CutAt C H' p dx ll lr (row acc i c).2 → H r = none → H' r = some (.lst (VL (row acc i c).1)) → Q (.ref r) H'
def spPlan (K : PySem.W.Frag) : Sp := fun vs H Q _ => ∃ (a c m : Addr) (ar : List Int) (acc : List Nat) (wa : List Int), vs = [.ref a, .ref c, .ref m] ∧ Tri K H a c m ar acc wa ∧ H c = some (.lst (VL (acc.map ci))) ∧ acc.length = wa.length ∧
  ∀ (H' : Hp) (p fl ll : Addr), Same H H' → H fl = none → H ll = none → H' fl = some (.lst (VL (plan ar acc wa).1)) → H' ll = some (.lst (VL (plan ar acc wa).2.left)) → H' p = some (.tup [.ref fl, .ref ll]) → Q (.ref p) H'
/-- what the top has of Cutting -/
structure TxC (K : PySem.W.Frag) (mg : Str → Option Value) (C : Addr) : Prop where
  cl : Cls K C
  nL : NoAttr K C "left"
  nR : NoAttr K C "rests"
  gC : mg "Cutting" = some (.ref C)

section
variable {P : Program} {w : World} {K : PySem.W.Frag} {mg : Str → Option Value} {base : Heap}
theorem scPrio1 : FnScope ["areas", "accepts", "amounts", "order", "want", "found", "orders"] ["areas", "accepts", "amounts", "order", "want"] (defScope (top 28)) := ⟨rfl, rfl, rfl, by decide +kernel, rfl, by decide +kernel, by decide +kernel⟩
theorem ok_prio1 {f : Addr} (D : Dn K mg "priority_amount" ["areas", "accepts", "amounts", "order", "want"] (top 28) f) (B : Bn mg) (cHas : C8.Cal P w K mg base 1 "has" spHas []) (cCount : C8.Cal P w K mg base 1 "set_count" spCount []) (cSlack : C8.Cal P w K mg base 5 "slack" (spSlack K) []) : C8.Cal P w K mg base 6 "priority_amount" (spPrio1 K) [] := by
  refine D.ok scPrio1 (fun vs H Q E h => ?_) (fun cdv A outer s H vs Q E hr h => ?_)
  · obtain ⟨a, c, m, ar, acc, am, i, want, rfl, _⟩ := h
    rfl
  · obtain ⟨a, c, m, ar, acc, am, i, want, rfl, t, k⟩ := h
    refine ⟨_, pss_cons (ps_set (i := 5) scPrio1.nd rfl (Or.inl rfl) (pv 4))
      (pss_cons (ps_for PassesOwn.never rfl (pi_range1 (by rfl) B.range (pa_cons (C8.pe_c cCount hr (by decide) rfl (pa_cons (pe_callB call_len_seq (by rfl) B.len PySem.boot_len (pa_cons (pv 1) pa_nil)) pa_nil)) pa_nil)) (pg_name (i := 6) scPrio1.nd rfl (Or.inl rfl))
        (pss_one (ps_if (pt_val (C8.pe_c cHas hr (by decide) rfl (pa_cons (pv 6) (pa_cons (pv 3) pa_nil))))
          (pss_one (ps_set (i := 5) scPrio1.nd rfl (Or.inl rfl) (pe_callB (call_min2 rfl) (by rfl) B.min (by decide +kernel) (pa_cons (pv 5) (pa_cons (C8.pe_c cSlack hr (by decide) rfl (pa_cons (pv 0) (pa_cons (pv 1) (pa_cons (pv 2) (pa_cons (pv 6) pa_nil))))) pa_nil))))) pss_nil)))
      (pss_one (ps_ret (pv 5)))), ?_⟩
    refine ⟨_, rfl, _, rfl, _, _, rfl, .inl t.sc, ?_⟩
    rw [cl_len]
    refine ⟨acc.length, rfl, Nat.le_trans t.lc (by decide), _, rfl, pow_low _, pow_small t.lc, for_range (lo := 0) (n := (((2 ^ acc.length : Nat)) : Int).toNat) (fun o σ H' => ∃ v : Option V, σ = [some (.ref a), some (.ref c), some (.ref m), some (.int (i : Int)), some (.int want), some (.int ((List.range o).foldl (prioStep ar acc am i) want)), v] ∧ Same H H')
      ⟨none, rfl, Same.refl H⟩ ?_ ?_⟩
    · rintro o σ H' ho ⟨v, rfl, s1⟩
      rw [Int.zero_add]
      refine ⟨_, rfl, _, rfl, o, i, rfl, _, rfl, ?_⟩
      have e : ∀ f, [o].foldl (prioStep ar acc am i) f = if o.testBit i = true then mn f (slack ar acc am o) else f := fun _ => rfl
      rw [List.range_succ, List.foldl_append, e]
      generalize (List.range o).foldl (prioStep ar acc am i) want = f
      cases q : o.testBit i with
      | true =>
        refine iteT ⟨_, rfl, _, rfl, _, rfl, _, rfl, _, rfl, a, c, m, ar, acc, am, o, rfl, t.same s1, fun H2 s2 => ?_⟩
        refine ⟨_, _, rfl, some (.int (o : Int)), ?_, s1.trans s2⟩
        rw [if_pos rfl]
        rfl
      | false =>
        refine iteF ⟨some (.int (o : Int)), ?_, s1⟩
        rw [if_neg (by decide)]
        rfl
    · rintro σ H' ⟨v, rfl, s1⟩
      rw [Int.toNat_natCast]
      exact ⟨_, rfl, k _ s1⟩
theorem scPrios : FnScope ["areas", "accepts", "wants", "amounts", "order", "want"] ["areas", "accepts", "wants"] (defScope (top 29)) := ⟨rfl, rfl, rfl, by decide +kernel, rfl, by decide +kernel, by decide +kernel⟩
theorem ok_prios {f : Addr} (D : Dn K mg "priority_amounts" ["areas", "accepts", "wants"] (top 29) f) (B : Bn mg) (cPrio1 : C8.Cal P w K mg base 6 "priority_amount" (spPrio1 K) []) : C8.Cal P w K mg base 7 "priority_amounts" (spPrios K) [] := by
  refine D.ok scPrios (fun vs H Q E h => ?_) (fun cdv A outer s H vs Q E hr h => ?_)
  · obtain ⟨a, c, m, ar, acc, wa, rfl, _⟩ := h
    rfl
  · obtain ⟨a, c, m, ar, acc, wa, rfl, t, k⟩ := h
    refine ⟨_, pss_cons (ps_setLc (i := 3) (own := [("want", 5)]) (g := gName 5) (tt := tYes) (by rfl) scPrios.nd rfl rfl (sw_true rfl rfl rfl (by decide +kernel)) (pi_list (pv 2)) (blkOk_by (own := [("want", 5)]) (N := ["areas", "accepts", "wants", "amounts", "order", "want"]) (sc := defScope (top 29)) (by decide +kernel))
        (fun _ _ _ _ _ => pg_name (i := 5) scPrios.nd rfl (Or.inl rfl)) (fun _ _ _ _ _ => pts_nil) (fun _ _ _ _ _ => pe_int))
      (pss_cons (ps_for PassesOwn.never rfl (pi_range1 (by rfl) B.range (pa_cons (pe_callB call_len_seq (by rfl) B.len PySem.boot_len (pa_cons (pv 2) pa_nil)) pa_nil)) (pg_name (i := 4) scPrios.nd rfl (Or.inl rfl))
        (pss_one (ps_asg (C8.pe_c cPrio1 hr (by decide) rfl (pa_cons (pv 0) (pa_cons (pv 1) (pa_cons (pv 3) (pa_cons (pv 4) (pa_cons (pe_ix ix_list (pv 2) (pv 4) (fun _ _ => rfl)) pa_nil)))))) (pg_sub (pv 3) (pv 4) set_list))))
      (pss_one (ps_ret (pv 3)))), ?_⟩
    refine ⟨_, rfl, m, rfl, ⟨_, t.sm⟩, fun L hL => lc_list (K := K) (a := m) (xs := VL wa) (fun i H' => Same H H' ∧ H' L = some (.lst (VL ((wa.take i).map fun _ => 0)))) ⟨Same.new hL, upd_same⟩ (fun i H' _ q => q.1.seq t.sm) ?_ ?_⟩
    · rintro i x H' hi ⟨s3, h3⟩
      have hlt : i < wa.length := by
        have z := (List.getElem?_eq_some_iff.mp hi).1
        rw [vl_len] at z
        exact z
      refine ⟨rfl, _, h3, ?_, Same.laid s3 hL, ?_⟩
      · rw [vl_len, List.length_map, List.length_take]
        have := t.lm
        have z : 1000 < sizeLine := by decide
        omega
      · rw [upd_same, take_more (List.getElem?_eq_getElem hlt), List.map_append, vl_app]
        rfl
    · rintro H1 ⟨s1, h1⟩
      rw [vl_len, List.take_length] at h1
      refine ⟨_, rfl, _, _, rfl, .inl (s1.seq t.sm), ?_⟩
      rw [vl_len]
      have lm := t.lm
      refine ⟨_, rfl, by omega, by omega, for_range (lo := 0) (n := ((wa.length : Nat) : Int).toNat) (fun i σ H' => ∃ u : Option V, σ = [some (.ref a), some (.ref c), some (.ref m), some (.ref L), u, none] ∧ Same H H' ∧ H' L = some (.lst (VL ((List.range i).foldl (priosStep ar acc wa) (wa.map fun _ => 0)))))
        ⟨none, rfl, s1, h1⟩ ?_ ?_⟩
      · rintro i σ H' hi ⟨u, rfl, s2, h2⟩
        rw [Int.toNat_natCast] at hi
        rw [Int.zero_add]
        have ln : ((List.range i).foldl (priosStep ar acc wa) (wa.map fun _ => 0)).length = wa.length := by rw [prios_fold_len, List.length_map]
        refine ⟨_, rfl, _, rfl, _, rfl, _, rfl, _, rfl, _, rfl, _, _, _, _, rfl, rfl, s2.seq t.sm, vl_atI hi, ?_⟩
        refine ⟨a, c, L, ar, acc, _, i, _, rfl, ⟨s2.seq t.sa, s2.seq t.sc, SqL.of h2, t.la, t.lc, by rw [ln]; exact lm⟩, fun H3 s3 => ?_⟩
        refine ⟨_, rfl, _, rfl, L, _, _, i, rfl, rfl, s3 _ _ h2, ixN_nat (by rw [vl_len, ln]; exact hi), ?_⟩
        refine ⟨some (.int (i : Int)), rfl, Same.laid (s2.trans s3) hL, ?_⟩
        rw [upd_same, vl_set, List.range_succ, List.foldl_append]
        rfl
      · rintro σ H' ⟨u, rfl, s2, h2⟩
        rw [Int.toNat_natCast] at h2
        exact ⟨_, rfl, k _ L s2 hL h2⟩
abbrev sCutInit : Stmt := inClass (top 30) 0
abbrev sCutCut : Stmt := inClass (top 30) 1
theorem scCutInit : FnScope ["self", "areas", "amounts"] ["self", "areas", "amounts"] (defScope sCutInit) := ⟨rfl, rfl, rfl, by decide +kernel, rfl, by decide +kernel, by decide +kernel⟩
theorem ok_cutinit {C f : Addr} {fd : FuncData} (F : L2.Fun K "__init__" "Cutting.__init__" sCutInit f fd) (T : TxC K mg C) (B : Bn mg) : FnOk P w K mg base CX0 1 f fd ["self", "areas", "amounts"] (spCutInit K C) := by
  refine F.ok scCutInit (fun vs H Q E h => ?_) (fun cdv A outer s H vs Q E hr h => ?_)
  · obtain ⟨p, dx, a, m, ar, am, rfl, _⟩ := h
    rfl
  · obtain ⟨p, dx, a, m, ar, am, rfl, hp, ha, hm, k⟩ := h
    refine ⟨_, pss_cons (ps_fld (pv 0) (pe_callTy call_list_of (by rfl) B.list (by decide +kernel) (pa_cons (pv 1) pa_nil)) rfl) (pss_one (ps_fld (pv 0) (pe_callTy call_list_of (by rfl) B.list (by decide +kernel) (pa_cons (pv 2) pa_nil)) rfl)), ?_⟩
    refine ⟨_, rfl, a, _, rfl, .inl ha, fun l hl => ?_⟩
    have n1 : p ≠ l := ne_of_none hp hl
    refine ⟨_, rfl, p, C, dx, [], rfl, (by rw [upd_ne n1]; exact hp), T.cl, T.nL, (by show 0 < 1000; decide), ?_⟩
    -- the second list is read behind the store
    have hm1 : SqL K (upd (upd H l (.lst (VL ar))) p (.ins C dx (putF "left" (.ref l) []))) m (VL am) := by
      rcases hm with (h | ⟨o, h⟩) | h
      · have ne2 : m ≠ p := ne_of h hp (by intro z; cases z)
        exact .inl (.inl (by rw [upd_ne ne2, upd_ne (ne_of_none h hl)]; exact h))
      · have ne2 : m ≠ p := ne_of h hp (by intro z; cases z)
        exact .inl (.inr ⟨o, by rw [upd_ne ne2, upd_ne (ne_of_none h hl)]; exact h⟩)
      · exact .inr h
    refine ⟨_, rfl, m, _, rfl, .inl hm1, fun r hr2 => ?_⟩
    have n2 : r ≠ p := fun z => by
      rw [z, upd_same] at hr2
      cases hr2
    have n3 : r ≠ l := fun z => by
      rw [z, upd_ne n1.symm, upd_same] at hr2
      cases hr2
    have hr0 : H r = none := by
      rw [upd_ne n2, upd_ne n3] at hr2
      exact hr2
    refine ⟨_, rfl, p, C, dx, _, rfl, (by rw [upd_ne n2.symm]; exact upd_same), T.cl, T.nR, (by show 1 < 1000; decide), ?_⟩
    refine k _ l r hl hr0 ⟨?_, ?_, ?_, n3.symm⟩ fun b o e hb => ?_
    · rw [upd_same, put_two (by decide +kernel)]
    · rw [upd_ne n1.symm, upd_ne n3.symm, upd_ne n1.symm, upd_same]
    · rw [upd_ne n2, upd_same]
    · rw [upd_ne hb, upd_ne (ne_of_none e hr0), upd_ne hb, upd_ne (ne_of_none e hl)]
      exact e
theorem scCutCut : FnScope ["self", "order", "lot", "amount"] ["self", "order", "lot", "amount"] (defScope sCutCut) := ⟨rfl, rfl, rfl, by decide +kernel, rfl, by decide +kernel, by decide +kernel⟩
theorem ok_cutcut {C f : Addr} {fd : FuncData} (F : L2.Fun K "cut" "Cutting.cut" sCutCut f fd) (T : TxC K mg C) : FnOk P w K mg base CX0 1 f fd ["self", "order", "lot", "amount"] (spCutCut C) := by
  refine F.ok scCutCut (fun vs H Q E h => ?_) (fun cdv A outer s H vs Q E hr h => ?_)
  · obtain ⟨p, dx, ll, lr, c, i, j, x, rfl, _⟩ := h
    rfl
  · obtain ⟨p, dx, ll, lr, c, i, j, x, rfl, t, hi, hj, k⟩ := h
    refine ⟨_, pss_cons (ps_augS (pe_fld (pv 0) rfl) (pv 2) get_list (pv 3) ip_sub set_list) (pss_one (ps_augS (pe_fld (pv 0) rfl) (pv 1) get_list (pv 3) ip_sub set_list)), ?_⟩
    have n1 : p ≠ ll := ne_of t.ins t.left (by intro z; cases z)
    have n2 : p ≠ lr := ne_of t.ins t.rests (by intro z; cases z)
    refine ⟨_, rfl, p, C, dx, _, _, rfl, t.ins, T.cl, T.nL, lkc_left, _, rfl, ll, _, j, _, rfl, rfl, SqL.of t.left, vl_at hj, _, rfl, _, _, rfl, rfl, ll, _, _, j, rfl, rfl, t.left, ixN_nat (by rw [vl_len]; exact hj), ?_⟩
    rw [vl_set]
    refine ⟨_, rfl, p, C, dx, _, _, rfl, (by rw [upd_ne n1]; exact t.ins), T.cl, T.nR, lkc_rests, _, rfl, lr, _, i, _, rfl, rfl, SqL.of (by rw [upd_ne t.ne.symm]; exact t.rests), vl_at hi, _, rfl, _, _, rfl, rfl, lr, _, _, i, rfl, rfl, (by rw [upd_ne t.ne.symm]; exact t.rests), ixN_nat (by rw [vl_len]; exact hi), ?_⟩
    rw [vl_set]
    refine k _ (((But.refl _ H).upd (.inl (by simp))).upd (.inl (by simp))) ⟨?_, ?_, ?_, t.ne⟩
    · rw [upd_ne n2, upd_ne n1]
      exact t.ins
    · rw [upd_ne t.ne, upd_same]
      rfl
    · rw [upd_same]
      rfl
theorem scGreatest : FnScope ["cutting", "accepts", "order", "lot", "found", "orders"] ["cutting", "accepts", "order", "lot"] (defScope (top 31)) := ⟨rfl, rfl, rfl, by decide +kernel, rfl, by decide +kernel, by decide +kernel⟩
theorem ok_greatest {C f : Addr} (D : Dn K mg "greatest_cut" ["cutting", "accepts", "order", "lot"] (top 31) f) (B : Bn mg) (T : TxC K mg C) (cHas : C8.Cal P w K mg base 1 "has" spHas []) (cCount : C8.Cal P w K mg base 1 "set_count" spCount []) (cTouch : C8.Cal P w K mg base 4 "is_touched" (spTouch K) []) (cSlack : C8.Cal P w K mg base 5 "slack" (spSlack K) []) : C8.Cal P w K mg base 6 "greatest_cut" (spGreatest K C) [] := by
  refine D.ok scGreatest (fun vs H Q E h => ?_) (fun cdv A outer s H vs Q E hr h => ?_)
  · obtain ⟨p, dx, ll, lr, ca, c, acc, i, j, rfl, _⟩ := h
    rfl
  · obtain ⟨p, dx, ll, lr, ca, c, acc, i, j, rfl, t, hc, l1, l2, l3, hi, hi2, hj, k⟩ := h
    refine ⟨_, pss_cons (ps_if (pt_not (pt_val (C8.pe_c cHas hr (by decide) rfl (pa_cons (pe_ix ix_list (pv 1) (pv 2) (fun _ _ => rfl)) (pa_cons (pv 3) pa_nil))))) (pss_one (ps_ret pe_int)) pss_nil)
      (pss_cons (ps_set (i := 4) scGreatest.nd rfl (Or.inl rfl) (pe_callB (call_min2 rfl) (by rfl) B.min (by decide +kernel) (pa_cons (pe_ix ix_list (pe_fld (pv 0) rfl) (pv 2) (fun _ _ => rfl)) (pa_cons (pe_ix ix_list (pe_fld (pv 0) rfl) (pv 3) (fun _ _ => rfl)) pa_nil))))
      (pss_cons (ps_for PassesOwn.never rfl (pi_range1 (by rfl) B.range (pa_cons (C8.pe_c cCount hr (by decide) rfl (pa_cons (pe_callB call_len_seq (by rfl) B.len PySem.boot_len (pa_cons (pv 1) pa_nil)) pa_nil)) pa_nil)) (pg_name (i := 5) scGreatest.nd rfl (Or.inl rfl))
        (pss_one (ps_if (pt_val (C8.pe_c cTouch hr (by decide) rfl (pa_cons (pv 1) (pa_cons (pv 5) (pa_cons (pv 2) (pa_cons (pv 3) pa_nil))))))
          (pss_one (ps_set (i := 4) scGreatest.nd rfl (Or.inl rfl) (pe_callB (call_min2 rfl) (by rfl) B.min (by decide +kernel) (pa_cons (pv 4) (pa_cons (C8.pe_c cSlack hr (by decide) rfl (pa_cons (pe_fld (pv 0) rfl) (pa_cons (pv 1) (pa_cons (pe_fld (pv 0) rfl) (pa_cons (pv 5) pa_nil))))) pa_nil))))) pss_nil)))
      (pss_one (ps_ret (pv 4))))), ?_⟩
    refine ⟨_, rfl, _, rfl, _, _, _, _, rfl, rfl, hc, cl_atI hi, _, rfl, acc.getD i 0, j, rfl, _, rfl, ?_⟩
    cases q : (acc.getD i 0).testBit j with
    | false =>
      refine iteT ?_
      have e : cut1 acc c i j = 0 := by
        unfold cut1
        rw [q]
        rfl
      rw [e] at k
      exact k _ (Same.refl H)
    | true =>
      refine iteF ?_
      refine ⟨_, rfl, p, C, dx, _, _, rfl, t.ins, T.cl, T.nR, lkc_rests, _, rfl, _, _, _, _, rfl, rfl, SqL.of t.rests, vl_atI hi2, _, rfl, p, C, dx, _, _, rfl, t.ins, T.cl, T.nL, lkc_left, _, rfl, _, _, _, _, rfl, rfl, SqL.of t.left, vl_atI hj, _, _, rfl, ?_⟩
      refine ⟨_, rfl, _, _, rfl, .inl hc, ?_⟩
      rw [cl_len]
      have ek : cut1 acc c i j = (List.range (2 ^ acc.length)).foldl (cutStep acc c i j) (mn (c.rests.getD i 0) (c.left.getD j 0)) := by
        unfold cut1
        rw [if_pos q]
      rw [ek] at k
      refine ⟨acc.length, rfl, Nat.le_trans l3 (by decide), _, rfl, pow_low _, pow_small l3, for_range (lo := 0) (n := (((2 ^ acc.length : Nat)) : Int).toNat) (fun o σ H' => ∃ v : Option V, σ = [some (.ref p), some (.ref ca), some (.int (i : Int)), some (.int (j : Int)), some (.int ((List.range o).foldl (cutStep acc c i j) (mn (c.rests.getD i 0) (c.left.getD j 0)))), v] ∧ Same H H')
        ⟨none, rfl, Same.refl H⟩ ?_ ?_⟩
      · rintro o σ H' ho ⟨v, rfl, s1⟩
        rw [Int.zero_add]
        refine ⟨_, rfl, _, rfl, _, rfl, _, rfl, ca, acc, o, i, j, rfl, s1.seq hc, l3, fun H2 s2 => ⟨_, rfl, ?_⟩⟩
        have e : ∀ f, [o].foldl (cutStep acc c i j) f = if touched acc o i j = true then mn f (slack c.left acc c.rests o) else f := fun _ => rfl
        rw [List.range_succ, List.foldl_append, e]
        generalize (List.range o).foldl (cutStep acc c i j) (mn (c.rests.getD i 0) (c.left.getD j 0)) = f
        have s12 := s1.trans s2
        have t2 := t.same s12
        cases q2 : touched acc o i j with
        | true =>
          refine iteT ⟨_, rfl, _, rfl, p, C, dx, _, _, rfl, t2.ins, T.cl, T.nL, lkc_left, _, rfl, _, rfl, p, C, dx, _, _, rfl, t2.ins, T.cl, T.nR, lkc_rests, _, rfl, ll, ca, lr, c.left, acc, c.rests, o, rfl, ⟨SqL.of t2.left, s12.seq hc, SqL.of t2.rests, l1, l3, l2⟩, fun H3 s3 => ?_⟩
          refine ⟨_, _, rfl, some (.int (o : Int)), ?_, s12.trans s3⟩
          rw [if_pos rfl]
          rfl
        | false =>
          refine iteF ⟨some (.int (o : Int)), ?_, s12⟩
          rw [if_neg (by decide)]
          rfl
      · rintro σ H' ⟨v, rfl, s1⟩
        rw [Int.toNat_natCast]
        exact ⟨_, rfl, k _ s1⟩
end
end Lc
namespace Lc
open PySem PySem.Spec PyProof.Rows L2
theorem CutAt.upd {C : Addr} {H : Hp} {p dx ll lr r : Addr} {c : Cut} {o : HO} (t : CutAt C H p dx ll lr c) (n1 : p ≠ r) (n2 : ll ≠ r) (n3 : lr ≠ r) : CutAt C (upd H r o) p dx ll lr c :=
  ⟨by rw [upd_ne n1]; exact t.ins, by rw [upd_ne n2]; exact t.left, by rw [upd_ne n3]; exact t.rests, t.ne⟩
theorem But.same {S : List Addr} {H H1 H2 : Hp} (s : Same H H1) (b : But S H1 H2) (h : ∀ a ∈ S, H a = none) : Same H H2 := fun d o e => b d o (s d o e) fun z => by
  rw [h d z] at e
  cases e
section
variable {P : Program} {w : World} {K : PySem.W.Frag} {mg : Str → Option Value} {base : Heap}
theorem scRow : FnScope ["cutting", "accepts", "order", "row", "lot", "amount"] ["cutting", "accepts", "order"] (defScope (top 32)) := ⟨rfl, rfl, rfl, by decide +kernel, rfl, by decide +kernel, by decide +kernel⟩
theorem ok_row {C f : Addr} (D : Dn K mg "cut_order" ["cutting", "accepts", "order"] (top 32) f) (B : Bn mg) (T : TxC K mg C) (cGreatest : C8.Cal P w K mg base 6 "greatest_cut" (spGreatest K C) []) (cCut : C8.Met P w K mg base 1 C "cut" (spCutCut C) []) : C8.Cal P w K mg base 7 "cut_order" (spRow C) [] := by
  refine D.ok scRow (fun vs H Q E h => ?_) (fun cdv A outer s H vs Q E hr h => ?_)
  · obtain ⟨p, dx, ll, lr, ca, c, acc, i, rfl, _⟩ := h
    rfl
  · obtain ⟨p, dx, ll, lr, ca, c, acc, i, rfl, t, hc, hca, l1, l2, l3, hi, hi2, k⟩ := h
    refine ⟨_, pss_cons (ps_set (i := 3) scRow.nd rfl (Or.inl rfl) (pe_lst pa_nil))
      (pss_cons (ps_for PassesOwn.never rfl (pi_range1 (by rfl) B.range (pa_cons (pe_callB call_len_seq (by rfl) B.len PySem.boot_len (pa_cons (pe_fld (pv 0) rfl) pa_nil)) pa_nil)) (pg_name (i := 4) scRow.nd rfl (Or.inl rfl))
        (pss_cons (ps_set (i := 5) scRow.nd rfl (Or.inl rfl) (C8.pe_c cGreatest hr (by decide) rfl (pa_cons (pv 0) (pa_cons (pv 1) (pa_cons (pv 2) (pa_cons (pv 4) pa_nil))))))
        (pss_cons (ps_expr (C8.pe_mt cCut hr (by decide) (pv 0) (pa_cons (pv 2) (pa_cons (pv 4) (pa_cons (pv 5) pa_nil)))))
        (pss_one (ps_expr (pe_bm PySem.F.plainAttrs_list PySem.F.slot_list_append PySem.F.type_list_append mt_append (pv 3) (pa_cons (pv 5) pa_nil)))))))
      (pss_one (ps_ret (pv 3)))), ?_⟩
    refine ⟨Nat.zero_le _, fun r hr0 => ?_⟩
    have n1 : p ≠ r := ne_of_none t.ins hr0
    have n2 : ll ≠ r := ne_of_none t.left hr0
    have n3 : lr ≠ r := ne_of_none t.rests hr0
    have n4 : r ∉ [ll, lr] := by
      simp only [List.mem_cons, List.not_mem_nil, or_false, not_or]
      exact ⟨n2.symm, n3.symm⟩
    refine ⟨_, rfl, p, C, dx, _, _, rfl, (t.upd n1 n2 n3).ins, T.cl, T.nL, lkc_left, _, _, rfl, .inl (SqL.of (t.upd n1 n2 n3).left), ?_⟩
    rw [vl_len]
    refine ⟨_, rfl, by omega, by omega, for_range (lo := 0) (n := ((c.left.length : Nat) : Int).toNat) (fun j σ H' => ∃ v u : Option V, σ = [some (.ref p), some (.ref ca), some (.int (i : Int)), some (.ref r), v, u] ∧ But [ll, lr] H H' ∧
        CutAt C H' p dx ll lr ((List.range j).foldl (rowStep acc i) ([], c)).2 ∧ H' r = some (.lst (VL ((List.range j).foldl (rowStep acc i) ([], c)).1)))
      ⟨none, none, rfl, (But.refl _ H).upd (.inr hr0), t.upd n1 n2 n3, upd_same⟩ ?_ ?_⟩
    · rintro j σ H' hj ⟨v, u, rfl, b1, t1, h1⟩
      rw [Int.toNat_natCast] at hj
      rw [Int.zero_add]
      obtain ⟨r1, r2, r3⟩ := row_len acc i c j
      rw [List.range_succ, List.foldl_append]
      generalize (List.range j).foldl (rowStep acc i) ([], c) = q at r1 r2 r3 t1 h1 ⊢
      have hc1 : H' ca = some (.lst (VL (acc.map ci))) := b1 _ _ hc hca
      refine ⟨_, rfl, _, rfl, _, rfl, _, rfl, p, dx, ll, lr, ca, q.2, acc, i, j, rfl, t1, SqL.of hc1, by omega, by omega, l3, hi, by omega, by omega, fun H2 s2 => ?_⟩
      have t2 := t1.same s2
      refine ⟨_, rfl, p, dx, _, rfl, t2.ins, lkc_cut, _, rfl, _, rfl, _, rfl, p, dx, ll, lr, q.2, i, j, _, rfl, t2, by omega, by omega, fun H3 b3 t3 => ?_⟩
      have h3 : H3 r = some (.lst (VL q.1)) := b3 _ _ (s2 _ _ h1) n4
      refine ⟨_, rfl, .inl ⟨rfl, _, SqL.of h3⟩, _, rfl, r, _, _, rfl, rfl, h3, ?_, ?_⟩
      · rw [vl_len, r1]
        have z : 1000 < sizeLine := by decide
        omega
      · refine ⟨some (.int (j : Int)), some (.int (cut1 acc q.2 i j)), rfl, ((b1.trans (Same.but s2)).trans b3).upd (.inr hr0), t3.upd n1 n2 n3, ?_⟩
        rw [upd_same]
        exact congrArg (fun z => some (HO.lst z)) (vl_app q.1 [cut1 acc q.2 i j]).symm
    · rintro σ H' ⟨v, u, rfl, b1, t1, h1⟩
      rw [Int.toNat_natCast] at t1 h1
      exact ⟨_, rfl, k H' r b1 t1 hr0 h1⟩
theorem scPlan : FnScope ["areas", "accepts", "wants", "cutting", "found", "order"] ["areas", "accepts", "wants"] (defScope (top 33)) := ⟨rfl, rfl, rfl, by decide +kernel, rfl, by decide +kernel, by decide +kernel⟩
theorem ok_plan {C f : Addr} (D : Dn K mg "priority_cuts" ["areas", "accepts", "wants"] (top 33) f) (B : Bn mg) (T : TxC K mg C) (cPrios : C8.Cal P w K mg base 7 "priority_amounts" (spPrios K) []) (cMk : C8.Mak P w K mg base 1 "Cutting" C (spCutInit K C) []) (cRow : C8.Cal P w K mg base 7 "cut_order" (spRow C) []) : C8.Cal P w K mg base 8 "priority_cuts" (spPlan K) [] := by
  refine D.ok scPlan (fun vs H Q E h => ?_) (fun cdv A outer s H vs Q E hr h => ?_)
  · obtain ⟨a, c, m, ar, acc, wa, rfl, _⟩ := h
    rfl
  · obtain ⟨a, c, m, ar, acc, wa, rfl, t, hc, hl, k⟩ := h
    refine ⟨_, pss_cons (ps_set (i := 3) scPlan.nd rfl (Or.inl rfl) (C8.pe_mk cMk hr (by decide) rfl (pa_cons (pv 0) (pa_cons (C8.pe_c cPrios hr (by decide) rfl (pa_cons (pv 0) (pa_cons (pv 1) (pa_cons (pv 2) pa_nil)))) pa_nil))))
      (pss_cons (ps_set (i := 4) scPlan.nd rfl (Or.inl rfl) (pe_lst pa_nil))
      (pss_cons (ps_for PassesOwn.never rfl (pi_range1 (by rfl) B.range (pa_cons (pe_callB call_len_seq (by rfl) B.len PySem.boot_len (pa_cons (pv 1) pa_nil)) pa_nil)) (pg_name (i := 5) scPlan.nd rfl (Or.inl rfl))
        (pss_one (ps_expr (pe_bm PySem.F.plainAttrs_list PySem.F.slot_list_extend PySem.F.type_list_extend mt_extend (pv 4) (pa_cons (C8.pe_c cRow hr (by decide) rfl (pa_cons (pv 3) (pa_cons (pv 1) (pa_cons (pv 5) pa_nil)))) pa_nil)))))
      (pss_one (ps_ret (pe_tup (pa_cons (pv 4) (pa_cons (pe_fld (pv 3) rfl) pa_nil))))))), ?_⟩
    refine ⟨_, rfl, _, rfl, _, rfl, _, rfl, a, c, m, ar, acc, wa, rfl, t, fun H1 pa s1 npa hpa => ?_⟩
    intro x dx nx ndx nex
    have sM : Same H1 (upd (upd H1 dx (.own x)) x (.ins C dx [])) := fun b o e => by
      rw [upd_ne (ne_of_none e nx), upd_ne (ne_of_none e ndx)]
      exact e
    refine ⟨x, dx, a, pa, ar, _, rfl, upd_same, sM.seq (s1.seq t.sa), sM.seq (SqL.of hpa), fun H2 ll lr nll nlr t2 kp => ⟨rfl, ?_⟩⟩
    have s2 : Same H1 H2 := Same.made nx ndx kp
    have s02 := s1.trans s2
    have hll : H ll = none := s1.free (sM.free nll)
    have hlr : H lr = none := s1.free (sM.free nlr)
    have hx0 : H x = none := s1.free nx
    have hS : ∀ b ∈ [ll, lr], H b = none := fun b hb => by
      rcases List.mem_cons.mp hb with rfl | hb
      · exact hll
      · rcases List.mem_cons.mp hb with rfl | hb
        · exact hlr
        · cases hb
    have hcS : c ∉ [ll, lr] := fun z => by
      rw [hS c z] at hc
      cases hc
    refine ⟨Nat.zero_le _, fun fl hfl => ?_⟩
    have n1 : x ≠ fl := ne_of_none t2.ins hfl
    have n2 : ll ≠ fl := ne_of_none t2.left hfl
    have n3 : lr ≠ fl := ne_of_none t2.rests hfl
    have hfl0 : H fl = none := s02.free hfl
    have n4 : fl ∉ [ll, lr] := by
      simp only [List.mem_cons, List.not_mem_nil, or_false, not_or]
      exact ⟨n2.symm, n3.symm⟩
    refine ⟨_, rfl, _, _, rfl, .inl ((Same.laid s02 hfl0).seq (SqL.of hc)), ?_⟩
    rw [cl_len]
    have lc := t.lc
    have la := t.la
    have lm := t.lm
    refine ⟨_, rfl, by omega, by omega, for_range (lo := 0) (n := ((acc.length : Nat) : Int).toNat) (fun i σ H' => ∃ v : Option V, σ = [some (.ref a), some (.ref c), some (.ref m), some (.ref x), some (.ref fl), v] ∧ Same H H' ∧
        CutAt C H' x dx ll lr ((List.range i).foldl (planStep acc) ([], ⟨ar, prios ar acc wa⟩)).2 ∧ H' fl = some (.lst (VL ((List.range i).foldl (planStep acc) ([], ⟨ar, prios ar acc wa⟩)).1)))
      ⟨none, rfl, Same.laid s02 hfl0, t2.upd n1 n2 n3, upd_same⟩ ?_ ?_⟩
    · rintro i σ H' hi ⟨v, rfl, s3, t3, h3⟩
      rw [Int.toNat_natCast] at hi
      rw [Int.zero_add]
      obtain ⟨r1, r2, r3⟩ := plan_len acc ⟨ar, prios ar acc wa⟩ i
      have e4 : (prios ar acc wa).length = wa.length := prios_len ar acc wa
      rw [List.range_succ, List.foldl_append]
      generalize (List.range i).foldl (planStep acc) ([], ⟨ar, prios ar acc wa⟩) = q at r1 r2 r3 t3 h3 ⊢
      have r1' : q.1.length = i * ar.length := r1
      have r2' : q.2.left.length = ar.length := r2
      have r3' : q.2.rests.length = (prios ar acc wa).length := r3
      refine ⟨_, rfl, .inl ⟨rfl, _, SqL.of h3⟩, _, rfl, _, rfl, _, rfl, x, dx, ll, lr, c, q.2, acc, i, rfl, t3, s3 _ _ hc, hcS, by omega, by omega, lc, hi, by omega, fun H4 r b4 t4 nr h4 => ?_⟩
      have h5 : H4 fl = some (.lst (VL q.1)) := b4 _ _ h3 n4
      have e5 : (row acc i q.2).1.length = q.2.left.length := (row_len acc i q.2 q.2.left.length).1
      refine ⟨fl, r, _, _, rfl, rfl, h5, h4, ?_, ?_⟩
      · rw [vl_len, vl_len, r1', e5, r2']
        have z : 1000 < sizeLine := by decide
        have z2 : i * ar.length ≤ 8 * 8 := Nat.mul_le_mul (by omega) la
        omega
      · refine ⟨some (.int (i : Int)), rfl, Same.laid (But.same s3 b4 hS) hfl0, t4.upd n1 n2 n3, ?_⟩
        rw [upd_same]
        exact congrArg (fun z => some (HO.lst z)) (vl_app q.1 (row acc i q.2).1).symm
    · rintro σ H' ⟨v, rfl, s3, t3, h3⟩
      rw [Int.toNat_natCast] at t3 h3
      refine ⟨_, rfl, _, rfl, x, C, dx, _, _, rfl, t3.ins, T.cl, T.nL, lkc_left, (by show 2 ≤ sizeLine; decide), fun p hp => ?_⟩
      have np : ∀ b o, H' b = some o → upd H' p (.tup [.ref fl, .ref ll]) b = some o := Same.new hp
      exact k _ p fl ll (s3.trans np) hfl0 hll (np _ _ h3) (np _ _ t3.left) upd_same
end
end Lc
namespace Lc
open PySem PySem.Spec PyProof.Rows L2
open Kp399 (Stock Order)
/-! ### the stock in the heap -/
structure StAt (C : Addr) (H : Hp) (p dx la lw lc : Addr) (s : Stock) : Prop where
  ins : H p = some (.ins C dx [("areas", .ref la), ("wants", .ref lw), ("accepts", .ref lc)])
  hA : H la = some (.lst (VL (ar s)))
  hW : H lw = some (.lst (VL (wa s)))
  hC : H lc = some (.lst (VL ((acc s).map ci)))
  n1 : la ≠ lw
  n2 : la ≠ lc
  n3 : lw ≠ lc
  b1 : s.lots.length ≤ 6
  b2 : s.orders.length ≤ 6
theorem StAt.same {C : Addr} {H H' : Hp} {p dx la lw lc : Addr} {s : Stock} (t : StAt C H p dx la lw lc s) (e : Same H H') : StAt C H' p dx la lw lc s := ⟨e _ _ t.ins, e _ _ t.hA, e _ _ t.hW, e _ _ t.hC, t.n1, t.n2, t.n3, t.b1, t.b2⟩
theorem StAt.tri {C : Addr} {K : PySem.W.Frag} {H : Hp} {p dx la lw lc : Addr} {s : Stock} (t : StAt C H p dx la lw lc s) : Tri K H la lc lw (ar s) (acc s) (wa s) :=
  ⟨SqL.of t.hA, SqL.of t.hC, SqL.of t.hW, by rw [List.length_map]; exact Nat.le_trans t.b1 (by decide), by rw [List.length_map]; exact Nat.le_trans t.b2 (by decide), by rw [List.length_map]; exact Nat.le_trans t.b2 (by decide)⟩
theorem StAt.pA {C : Addr} {H : Hp} {p dx la lw lc : Addr} {s : Stock} (t : StAt C H p dx la lw lc s) : p ≠ la := ne_of t.ins t.hA (by intro z; cases z)
theorem StAt.pW {C : Addr} {H : Hp} {p dx la lw lc : Addr} {s : Stock} (t : StAt C H p dx la lw lc s) : p ≠ lw := ne_of t.ins t.hW (by intro z; cases z)
theorem StAt.pC {C : Addr} {H : Hp} {p dx la lw lc : Addr} {s : Stock} (t : StAt C H p dx la lw lc s) : p ≠ lc := ne_of t.ins t.hC (by intro z; cases z)
theorem StAt.laid {C : Addr} {H : Hp} {p dx la lw lc r : Addr} {s : Stock} {o : HO} (t : StAt C H p dx la lw lc s) (h : H r = none) : StAt C (upd H r o) p dx la lw lc s := t.same (Same.new h)
theorem la_len (s : Stock) : (VL (ar s)).length = s.lots.length := by rw [vl_len, List.length_map]
theorem lw_len (s : Stock) : (VL (wa s)).length = s.orders.length := by rw [vl_len, List.length_map]
theorem lc_len (s : Stock) : (VL ((acc s).map ci)).length = s.orders.length := by rw [cl_len, List.length_map]
theorem beq_str {a b : Str} (h : ¬ a = b) : (a == b) = false := beq_eq_false_iff_ne.mpr h
theorem lks_areas {a b c : V} : List.lookup ("areas" : Str) ([("areas", a), ("wants", b), ("accepts", c)] : List (Str × V)) = some a := by
  have e : (("areas" : Str) == ("areas" : Str)) = true := beq_self_eq_true _
  simp only [List.lookup, e]
theorem lks_wants {a b c : V} : List.lookup ("wants" : Str) ([("areas", a), ("wants", b), ("accepts", c)] : List (Str × V)) = some b := by
  have e : (("wants" : Str) == ("wants" : Str)) = true := beq_self_eq_true _
  have e2 : (("wants" : Str) == ("areas" : Str)) = false := by decide +kernel
  simp only [List.lookup, e, e2]
theorem lks_accepts {a b c : V} : List.lookup ("accepts" : Str) ([("areas", a), ("wants", b), ("accepts", c)] : List (Str × V)) = some c := by
  have e : (("accepts" : Str) == ("accepts" : Str)) = true := beq_self_eq_true _
  have e2 : (("accepts" : Str) == ("areas" : Str)) = false := by decide +kernel
  have e3 : (("accepts" : Str) == ("wants" : Str)) = false := by decide +kernel
  simp only [List.lookup, e, e2, e3]
theorem lks_no {m : Str} {a b c : V} (h1 : (m == ("areas" : Str)) = false) (h2 : (m == ("wants" : Str)) = false) (h3 : (m == ("accepts" : Str)) = false) : List.lookup m ([("areas", a), ("wants", b), ("accepts", c)] : List (Str × V)) = none := by
  simp only [List.lookup, h1, h2, h3]
theorem put_three {a b c : Str} {x y z : V} (h1 : ¬ a = b) (h2 : ¬ a = c) (h3 : ¬ b = c) : putF c z (putF b y (putF a x [])) = [(a, x), (b, y), (c, z)] := by
  rw [put_two h1]
  show (if a = c then _ else (a, x) :: (if b = c then _ else (b, y) :: [(c, z)])) = _
  rw [if_neg h2, if_neg h3]
theorem vl_erase : ∀ (l : List Int) (k : Nat), (VL l).eraseIdx k = VL (l.eraseIdx k)
  | [], _ => rfl
  | _ :: _, 0 => rfl
  | x :: l, k + 1 => congrArg (fun z => V.int x :: z) (vl_erase l k)
theorem map_erase {α β : Type} (f : α → β) : ∀ (l : List α) (k : Nat), (l.map f).eraseIdx k = (l.eraseIdx k).map f
  | [], _ => rfl
  | _ :: _, 0 => rfl
  | x :: l, k + 1 => congrArg (fun z => f x :: z) (map_erase f l k)
/-- a name of the module stands for this value -/
def Kn (mg : Str → Option Value) (x : Str) (v : V) : Prop := ∃ u, mg x = some u ∧ RelV v u
structure TxS (K : PySem.W.Frag) (mg : Str → Option Value) (C : Addr) : Prop where
  cl : Cls K C
  nA : NoAttr K C "areas"
  nW : NoAttr K C "wants"
  nC : NoAttr K C "accepts"
  gC : mg "Stock" = some (.ref C)
structure Cs (mg : Str → Option Value) : Prop where
  noStock : Kn mg "NO_STOCK" (.int (-11))
  notThere : Kn mg "NOT_THERE" (.int (-2))
  outOf : Kn mg "OUT_OF_LIMITS" (.int (-22))
  full : Kn mg "FULL" (.int (-28))
  mostLots : Kn mg "MOST_LOTS" (.int 6)
  mostOrders : Kn mg "MOST_ORDERS" (.int 6)
  mostArea : Kn mg "MOST_AREA" (.int 40)
  leastWanted : Kn mg "LEAST_WANTED" (.int 1)
  mostAmount : Kn mg "MOST_AMOUNT" (.int 99)
  create : Kn mg "CREATE" (.int 0)
  canServe : Kn mg "CAN_SERVE" (.int 12)

/-! ### promises of Stock's methods -/
def spStInit (C : Addr) : Sp := fun vs H Q _ => ∃ p dx : Addr, vs = [.ref p] ∧ H p = some (.ins C dx []) ∧
  ∀ (H' : Hp) (la lw lc : Addr), H la = none → H lw = none → H lc = none → StAt C H' p dx la lw lc ⟨[], []⟩ → (∀ b o, H b = some o → b ≠ p → H' b = some o) → Q .non H'
def spSt (C : Addr) (pre : Stock → List Nat → Prop) (to : Stock → List Nat → Stock) : Sp := fun vs H Q _ => ∃ (p dx la lw lc : Addr) (s : Stock) (ns : List Nat), vs = .ref p :: VL (ns.map ci) ∧ StAt C H p dx la lw lc s ∧ pre s ns ∧
  ∀ H' : Hp, StAt C H' p dx la lw lc (to s ns) → But [la, lw, lc] H H' → Q .non H'
def spAddLot (C : Addr) : Sp := fun vs H Q _ => ∃ (p dx la lw lc : Addr) (s : Stock) (x : Nat), vs = [.ref p, .int (x : Int)] ∧ StAt C H p dx la lw lc s ∧ s.lots.length < 6 ∧
  ∀ H' : Hp, StAt C H' p dx la lw lc { s with lots := s.lots ++ [x] } → But [la, lw, lc] H H' → Q .non H'
def spSetLot (C : Addr) : Sp := fun vs H Q _ => ∃ (p dx la lw lc : Addr) (s : Stock) (j x : Nat), vs = [.ref p, .int (j : Int), .int (x : Int)] ∧ StAt C H p dx la lw lc s ∧ j < s.lots.length ∧
  ∀ H' : Hp, StAt C H' p dx la lw lc (Kp399.withLot s j x) → But [la, lw, lc] H H' → Q .non H'
def spAddOrder (C : Addr) : Sp := fun vs H Q _ => ∃ (p dx la lw lc : Addr) (s : Stock) (x y : Nat), vs = [.ref p, .int (x : Int), .int (y : Int)] ∧ StAt C H p dx la lw lc s ∧ s.orders.length < 6 ∧
  ∀ H' : Hp, StAt C H' p dx la lw lc { s with orders := s.orders ++ [⟨x, y⟩] } → But [la, lw, lc] H H' → Q .non H'
def spSetOrder (C : Addr) : Sp := fun vs H Q _ => ∃ (p dx la lw lc : Addr) (s : Stock) (i x y : Nat), vs = [.ref p, .int (i : Int), .int (x : Int), .int (y : Int)] ∧ StAt C H p dx la lw lc s ∧ i < s.orders.length ∧
  ∀ H' : Hp, StAt C H' p dx la lw lc { s with orders := s.orders.set i ⟨x, y⟩ } → But [la, lw, lc] H H' → Q .non H'
def spDrop (C : Addr) : Sp := fun vs H Q _ => ∃ (p dx la lw lc : Addr) (s : Stock) (i : Nat), vs = [.ref p, .int (i : Int)] ∧ StAt C H p dx la lw lc s ∧ i < s.orders.length ∧
  ∀ H' : Hp, StAt C H' p dx la lw lc { s with orders := s.orders.eraseIdx i } → But [la, lw, lc] H H' → Q .non H'
/-- a look at the stock -/
def spLook (C : Addr) (f : Stock → Nat → Bool) : Sp := fun vs H Q _ => ∃ (p dx la lw lc : Addr) (s : Stock) (i : Nat), vs = [.ref p, .int (i : Int)] ∧ StAt C H p dx la lw lc s ∧ Q (.bl (f s i)) H
def spNum (f : Nat → Bool) : Sp := fun vs H Q _ => ∃ i : Nat, vs = [.int (i : Int)] ∧ Q (.bl (f i)) H
def spMay (C : Addr) : Sp := fun vs H Q _ => ∃ (p dx la lw lc : Addr) (s : Stock) (x y : Nat), vs = [.ref p, .int (x : Int), .int (y : Int)] ∧ StAt C H p dx la lw lc s ∧ Q (.bl (Kp399.validOrderArea x && Kp399.validLotSet s y)) H

section
variable {P : Program} {w : World} {K : PySem.W.Frag} {mg : Str → Option Value} {base : Heap}
abbrev sSt (j : Nat) : Stmt := inClass (top 35) j
theorem scStInit : FnScope ["self"] ["self"] (defScope (sSt 0)) := ⟨rfl, rfl, rfl, by decide +kernel, rfl, by decide +kernel, by decide +kernel⟩
theorem ok_stinit {C f : Addr} {fd : FuncData} (F : L2.Fun K "__init__" "Stock.__init__" (sSt 0) f fd) (T : TxS K mg C) : FnOk P w K mg base CX0 1 f fd ["self"] (spStInit C) := by
  refine F.ok scStInit (fun vs H Q E h => ?_) (fun cdv A outer s H vs Q E hr h => ?_)
  · obtain ⟨p, dx, rfl, _⟩ := h
    rfl
  · obtain ⟨p, dx, rfl, hp, k⟩ := h
    refine ⟨_, pss_cons (ps_fld (pv 0) (pe_lst pa_nil) rfl) (pss_cons (ps_fld (pv 0) (pe_lst pa_nil) rfl) (pss_one (ps_fld (pv 0) (pe_lst pa_nil) rfl))), ?_⟩
    refine ⟨Nat.zero_le _, fun la hla => ?_⟩
    have n1 : p ≠ la := ne_of_none hp hla
    refine ⟨_, rfl, p, C, dx, [], rfl, (by rw [upd_ne n1]; exact hp), T.cl, T.nA, (by show 0 < 1000; decide), ?_⟩
    refine ⟨Nat.zero_le _, fun lw hlw => ?_⟩
    have n2 : lw ≠ p := fun z => by
      rw [z, upd_same] at hlw
      cases hlw
    have n3 : lw ≠ la := fun z => by
      rw [z, upd_ne n1.symm, upd_same] at hlw
      cases hlw
    have hlw0 : H lw = none := by
      rw [upd_ne n2, upd_ne n3] at hlw
      exact hlw
    refine ⟨_, rfl, p, C, dx, _, rfl, (by rw [upd_ne n2.symm]; exact upd_same), T.cl, T.nW, (by show 1 < 1000; decide), ?_⟩
    refine ⟨Nat.zero_le _, fun lc hlc => ?_⟩
    have n4 : lc ≠ p := fun z => by
      rw [z, upd_same] at hlc
      cases hlc
    have n5 : lc ≠ lw := fun z => by
      rw [z, upd_ne n2, upd_same] at hlc
      cases hlc
    have n6 : lc ≠ la := fun z => by
      rw [z, upd_ne n1.symm, upd_ne n3.symm, upd_ne n1.symm, upd_same] at hlc
      cases hlc
    have hlc0 : H lc = none := by
      rw [upd_ne n4, upd_ne n5, upd_ne n4, upd_ne n6] at hlc
      exact hlc
    refine ⟨_, rfl, p, C, dx, _, rfl, (by rw [upd_ne n4.symm]; exact upd_same), T.cl, T.nC, (by rw [put_two (by decide +kernel)]; show 2 < 1000; decide), ?_⟩
    refine k _ la lw lc hla hlw0 hlc0 ⟨?_, ?_, ?_, ?_, n3.symm, n6.symm, n5.symm, Nat.zero_le _, Nat.zero_le _⟩ fun b o e hb => ?_
    · rw [upd_same, put_three (by decide +kernel) (by decide +kernel) (by decide +kernel)]
    · rw [upd_ne n1.symm, upd_ne n6.symm, upd_ne n1.symm, upd_ne n3.symm, upd_ne n1.symm, upd_same]
      rfl
    · rw [upd_ne n2, upd_ne n5.symm, upd_ne n2, upd_same]
      rfl
    · rw [upd_ne n4, upd_same]
      rfl
    · rw [upd_ne hb, upd_ne (ne_of_none e hlc0), upd_ne hb, upd_ne (ne_of_none e hlw0), upd_ne hb, upd_ne (ne_of_none e hla)]
      exact e
theorem scAddLot : FnScope ["self", "area"] ["self", "area"] (defScope (sSt 1)) := ⟨rfl, rfl, rfl, by decide +kernel, rfl, by decide +kernel, by decide +kernel⟩
theorem ok_addlot {C f : Addr} {fd : FuncData} (F : L2.Fun K "add_lot" "Stock.add_lot" (sSt 1) f fd) (T : TxS K mg C) : FnOk P w K mg base CX0 1 f fd ["self", "area"] (spAddLot C) := by
  refine F.ok scAddLot (fun vs H Q E h => ?_) (fun cdv A outer s H vs Q E hr h => ?_)
  · obtain ⟨p, dx, la, lw, lc, s, x, rfl, _⟩ := h
    rfl
  · obtain ⟨p, dx, la, lw, lc, s, x, rfl, t, hl, k⟩ := h
    refine ⟨_, pss_one (ps_expr (pe_bm PySem.F.plainAttrs_list PySem.F.slot_list_append PySem.F.type_list_append mt_append (pe_fld (pv 0) rfl) (pa_cons (pv 1) pa_nil))), ?_⟩
    refine ⟨_, rfl, p, C, dx, _, _, rfl, t.ins, T.cl, T.nA, lks_areas, .inl ⟨rfl, _, SqL.of t.hA⟩, _, rfl, la, _, _, rfl, rfl, t.hA, ?_, ?_⟩
    · rw [la_len]
      have z : 1000 < sizeLine := by decide
      omega
    · refine k _ ⟨?_, ?_, ?_, ?_, t.n1, t.n2, t.n3, ?_, t.b2⟩ ((But.refl _ H).upd (.inl (by simp)))
      · rw [upd_ne t.pA]
        exact t.ins
      · rw [upd_same]
        show _ = some (HO.lst (VL ((s.lots ++ [x]).map ci)))
        rw [List.map_append, vl_app]
        rfl
      · rw [upd_ne t.n1.symm]
        exact t.hW
      · rw [upd_ne t.n2.symm]
        exact t.hC
      · show (s.lots ++ [x]).length ≤ 6
        rw [List.length_append, List.length_singleton]
        omega
theorem scSetLot : FnScope ["self", "lot", "area"] ["self", "lot", "area"] (defScope (sSt 2)) := ⟨rfl, rfl, rfl, by decide +kernel, rfl, by decide +kernel, by decide +kernel⟩
theorem ok_setlot {C f : Addr} {fd : FuncData} (F : L2.Fun K "set_lot" "Stock.set_lot" (sSt 2) f fd) (T : TxS K mg C) : FnOk P w K mg base CX0 1 f fd ["self", "lot", "area"] (spSetLot C) := by
  refine F.ok scSetLot (fun vs H Q E h => ?_) (fun cdv A outer s H vs Q E hr h => ?_)
  · obtain ⟨p, dx, la, lw, lc, s, j, x, rfl, _⟩ := h
    rfl
  · obtain ⟨p, dx, la, lw, lc, s, j, x, rfl, t, hl, k⟩ := h
    refine ⟨_, pss_one (ps_asg (pv 2) (pg_sub (pe_fld (pv 0) rfl) (pv 1) set_list)), ?_⟩
    refine ⟨_, rfl, _, rfl, p, C, dx, _, _, rfl, t.ins, T.cl, T.nA, lks_areas, _, rfl, la, _, _, j, rfl, rfl, t.hA, ixN_nat (by rw [la_len]; exact hl), ?_⟩
    refine k _ ⟨?_, ?_, ?_, ?_, t.n1, t.n2, t.n3, ?_, t.b2⟩ ((But.refl _ H).upd (.inl (by simp)))
    · rw [upd_ne t.pA]
      exact t.ins
    · rw [upd_same, vl_set, map_set]
      rfl
    · rw [upd_ne t.n1.symm]
      exact t.hW
    · rw [upd_ne t.n2.symm]
      exact t.hC
    · show (s.lots.set j x).length ≤ 6
      rw [List.length_set]
      exact t.b1
theorem scAddOrder : FnScope ["self", "area", "lots"] ["self", "area", "lots"] (defScope (sSt 3)) := ⟨rfl, rfl, rfl, by decide +kernel, rfl, by decide +kernel, by decide +kernel⟩
theorem ok_addorder {C f : Addr} {fd : FuncData} (F : L2.Fun K "add_order" "Stock.add_order" (sSt 3) f fd) (T : TxS K mg C) : FnOk P w K mg base CX0 1 f fd ["self", "area", "lots"] (spAddOrder C) := by
  refine F.ok scAddOrder (fun vs H Q E h => ?_) (fun cdv A outer s H vs Q E hr h => ?_)
  · obtain ⟨p, dx, la, lw, lc, s, x, y, rfl, _⟩ := h
    rfl
  · obtain ⟨p, dx, la, lw, lc, s, x, y, rfl, t, hl, k⟩ := h
    refine ⟨_, pss_cons (ps_expr (pe_bm PySem.F.plainAttrs_list PySem.F.slot_list_append PySem.F.type_list_append mt_append (pe_fld (pv 0) rfl) (pa_cons (pv 1) pa_nil)))
      (pss_one (ps_expr (pe_bm PySem.F.plainAttrs_list PySem.F.slot_list_append PySem.F.type_list_append mt_append (pe_fld (pv 0) rfl) (pa_cons (pv 2) pa_nil)))), ?_⟩
    have z : 1000 < sizeLine := by decide
    refine ⟨_, rfl, p, C, dx, _, _, rfl, t.ins, T.cl, T.nW, lks_wants, .inl ⟨rfl, _, SqL.of t.hW⟩, _, rfl, lw, _, _, rfl, rfl, t.hW, by rw [lw_len]; omega, ?_⟩
    have hC2 : upd H lw (.lst (VL (wa s) ++ [.int (x : Int)])) lc = some (.lst (VL ((acc s).map ci))) := by rw [upd_ne t.n3.symm]; exact t.hC
    have hP2 := (upd_ne (o := HO.lst (VL (wa s) ++ [.int (x : Int)])) t.pW).trans t.ins
    refine ⟨_, rfl, p, C, dx, _, _, rfl, hP2, T.cl, T.nC, lks_accepts, .inl ⟨rfl, _, SqL.of hC2⟩, _, rfl, lc, _, _, rfl, rfl, hC2, by rw [lc_len]; omega, ?_⟩
    refine k _ ⟨?_, ?_, ?_, ?_, t.n1, t.n2, t.n3, t.b1, ?_⟩ (((But.refl _ H).upd (.inl (by simp))).upd (.inl (by simp)))
    · rw [upd_ne t.pC, upd_ne t.pW]
      exact t.ins
    · rw [upd_ne t.n2, upd_ne t.n1]
      exact t.hA
    · rw [upd_ne t.n3, upd_same]
      show _ = some (HO.lst (VL ((s.orders ++ [(⟨x, y⟩ : Order)]).map fun o : Order => ci o.area)))
      rw [List.map_append, vl_app]
      rfl
    · rw [upd_same]
      show _ = some (HO.lst (VL (((s.orders ++ [(⟨x, y⟩ : Order)]).map Order.lots).map ci)))
      rw [List.map_append, List.map_append, vl_app]
      rfl
    · show (s.orders ++ [_]).length ≤ 6
      rw [List.length_append, List.length_singleton]
      omega
theorem scSetOrder : FnScope ["self", "order", "area", "lots"] ["self", "order", "area", "lots"] (defScope (sSt 4)) := ⟨rfl, rfl, rfl, by decide +kernel, rfl, by decide +kernel, by decide +kernel⟩
theorem ok_setorder {C f : Addr} {fd : FuncData} (F : L2.Fun K "set_order" "Stock.set_order" (sSt 4) f fd) (T : TxS K mg C) : FnOk P w K mg base CX0 1 f fd ["self", "order", "area", "lots"] (spSetOrder C) := by
  refine F.ok scSetOrder (fun vs H Q E h => ?_) (fun cdv A outer s H vs Q E hr h => ?_)
  · obtain ⟨p, dx, la, lw, lc, s, i, x, y, rfl, _⟩ := h
    rfl
  · obtain ⟨p, dx, la, lw, lc, s, i, x, y, rfl, t, hl, k⟩ := h
    refine ⟨_, pss_cons (ps_asg (pv 2) (pg_sub (pe_fld (pv 0) rfl) (pv 1) set_list)) (pss_one (ps_asg (pv 3) (pg_sub (pe_fld (pv 0) rfl) (pv 1) set_list))), ?_⟩
    refine ⟨_, rfl, _, rfl, p, C, dx, _, _, rfl, t.ins, T.cl, T.nW, lks_wants, _, rfl, lw, _, _, i, rfl, rfl, t.hW, ixN_nat (by rw [lw_len]; exact hl), ?_⟩
    refine ⟨_, rfl, _, rfl, p, C, dx, _, _, rfl, (by rw [upd_ne t.pW]; exact t.ins), T.cl, T.nC, lks_accepts, _, rfl, lc, _, _, i, rfl, rfl, (by rw [upd_ne t.n3.symm]; exact t.hC), ixN_nat (by rw [lc_len]; exact hl), ?_⟩
    refine k _ ⟨?_, ?_, ?_, ?_, t.n1, t.n2, t.n3, t.b1, ?_⟩ (((But.refl _ H).upd (.inl (by simp))).upd (.inl (by simp)))
    · rw [upd_ne t.pC, upd_ne t.pW]
      exact t.ins
    · rw [upd_ne t.n2, upd_ne t.n1]
      exact t.hA
    · rw [upd_ne t.n3, upd_same, vl_set]
      show _ = some (HO.lst (VL ((s.orders.set i ⟨x, y⟩).map fun o : Order => ci o.area)))
      rw [List.map_set]
    · rw [upd_same, vl_set, map_set]
      show _ = some (HO.lst (VL (((s.orders.set i ⟨x, y⟩).map Order.lots).map ci)))
      rw [List.map_set (f := Order.lots)]
    · show (s.orders.set i _).length ≤ 6
      rw [List.length_set]
      exact t.b2
theorem scDrop : FnScope ["self", "order"] ["self", "order"] (defScope (sSt 5)) := ⟨rfl, rfl, rfl, by decide +kernel, rfl, by decide +kernel, by decide +kernel⟩
theorem ok_drop {C f : Addr} {fd : FuncData} (F : L2.Fun K "drop_order" "Stock.drop_order" (sSt 5) f fd) (T : TxS K mg C) : FnOk P w K mg base CX0 1 f fd ["self", "order"] (spDrop C) := by
  refine F.ok scDrop (fun vs H Q E h => ?_) (fun cdv A outer s H vs Q E hr h => ?_)
  · obtain ⟨p, dx, la, lw, lc, s, i, rfl, _⟩ := h
    rfl
  · obtain ⟨p, dx, la, lw, lc, s, i, rfl, t, hl, k⟩ := h
    refine ⟨_, pss_cons (ps_expr (pe_bm PySem.F.plainAttrs_list PySem.F.slot_list_pop PySem.F.type_list_pop mt_popAt (pe_fld (pv 0) rfl) (pa_cons (pv 1) pa_nil)))
      (pss_one (ps_expr (pe_bm PySem.F.plainAttrs_list PySem.F.slot_list_pop PySem.F.type_list_pop mt_popAt (pe_fld (pv 0) rfl) (pa_cons (pv 1) pa_nil)))), ?_⟩
    have b2 := t.b2
    have sx : ∀ n : Nat, i < n → seqIndex? (i : Int) n = some i := fun n h => by
      rw [seqIndex_of (Int.natCast_nonneg _) (by omega), Int.toNat_natCast]
    refine ⟨_, rfl, p, C, dx, _, _, rfl, t.ins, T.cl, T.nW, lks_wants, .inl ⟨rfl, _, SqL.of t.hW⟩, _, rfl, lw, _, _, i, _, rfl, rfl, t.hW, by omega, by omega, sx _ (by rw [lw_len]; exact hl), List.getElem?_eq_getElem (by rw [lw_len]; exact hl), ?_⟩
    have hC2 : upd H lw (.lst ((VL (wa s)).eraseIdx i)) lc = some (.lst (VL ((acc s).map ci))) := by rw [upd_ne t.n3.symm]; exact t.hC
    have hP2 := (upd_ne (o := HO.lst ((VL (wa s)).eraseIdx i)) t.pW).trans t.ins
    refine ⟨_, rfl, p, C, dx, _, _, rfl, hP2, T.cl, T.nC, lks_accepts, .inl ⟨rfl, _, SqL.of hC2⟩, _, rfl, lc, _, _, i, _, rfl, rfl, hC2, by omega, by omega, sx _ (by rw [lc_len]; exact hl), List.getElem?_eq_getElem (by rw [lc_len]; exact hl), ?_⟩
    refine k _ ⟨?_, ?_, ?_, ?_, t.n1, t.n2, t.n3, t.b1, ?_⟩ (((But.refl _ H).upd (.inl (by simp))).upd (.inl (by simp)))
    · rw [upd_ne t.pC, upd_ne t.pW]
      exact t.ins
    · rw [upd_ne t.n2, upd_ne t.n1]
      exact t.hA
    · rw [upd_ne t.n3, upd_same, vl_erase, map_erase]
    · rw [upd_same, vl_erase, map_erase, map_erase]
    · show (s.orders.eraseIdx i).length ≤ 6
      rw [List.length_eraseIdx]
      split <;> omega
/-! ### looks -/
theorem scIsLot : FnScope ["stock", "lot"] ["stock", "lot"] (defScope (top 36)) := ⟨rfl, rfl, rfl, by decide +kernel, rfl, by decide +kernel, by decide +kernel⟩
theorem ok_islot {C f : Addr} (D : Dn K mg "is_lot" ["stock", "lot"] (top 36) f) (T : TxS K mg C) (B : Bn mg) : C8.Cal P w K mg base 1 "is_lot" (spLook C Kp399.isLot) [] := by
  refine D.ok scIsLot (fun vs H Q E h => ?_) (fun cdv A outer s H vs Q E hr h => ?_)
  · obtain ⟨p, dx, la, lw, lc, s, i, rfl, _⟩ := h
    rfl
  · obtain ⟨p, dx, la, lw, lc, s, i, rfl, t, k⟩ := h
    refine ⟨_, pss_one (ps_ret (pe_cmpR op_lt (pv 1) (pe_callB call_len_seq (by rfl) B.len PySem.boot_len (pa_cons (pe_fld (pv 0) rfl) pa_nil)) (nomark _))), ?_⟩
    refine ⟨_, rfl, _, rfl, p, C, dx, _, _, rfl, t.ins, T.cl, T.nA, lks_areas, la, _, rfl, .inl (SqL.of t.hA), _, _, rfl, rfl, ?_⟩
    rw [la_len]
    show Q (.bl (decide ((i : Int) < ((s.lots.length : Nat) : Int)))) H
    rw [decide_eq_decide.mpr Int.ofNat_lt]
    exact k
theorem scIsOrder : FnScope ["stock", "order"] ["stock", "order"] (defScope (top 37)) := ⟨rfl, rfl, rfl, by decide +kernel, rfl, by decide +kernel, by decide +kernel⟩
theorem ok_isorder {C f : Addr} (D : Dn K mg "is_order" ["stock", "order"] (top 37) f) (T : TxS K mg C) (B : Bn mg) : C8.Cal P w K mg base 1 "is_order" (spLook C Kp399.isOrder) [] := by
  refine D.ok scIsOrder (fun vs H Q E h => ?_) (fun cdv A outer s H vs Q E hr h => ?_)
  · obtain ⟨p, dx, la, lw, lc, s, i, rfl, _⟩ := h
    rfl
  · obtain ⟨p, dx, la, lw, lc, s, i, rfl, t, k⟩ := h
    refine ⟨_, pss_one (ps_ret (pe_cmpR op_lt (pv 1) (pe_callB call_len_seq (by rfl) B.len PySem.boot_len (pa_cons (pe_fld (pv 0) rfl) pa_nil)) (nomark _))), ?_⟩
    refine ⟨_, rfl, _, rfl, p, C, dx, _, _, rfl, t.ins, T.cl, T.nW, lks_wants, lw, _, rfl, .inl (SqL.of t.hW), _, _, rfl, rfl, ?_⟩
    rw [lw_len]
    show Q (.bl (decide ((i : Int) < ((s.orders.length : Nat) : Int)))) H
    rw [decide_eq_decide.mpr Int.ofNat_lt]
    exact k
theorem scLotArea : FnScope ["area"] ["area"] (defScope (top 38)) := ⟨rfl, rfl, rfl, by decide +kernel, rfl, by decide +kernel, by decide +kernel⟩
theorem ok_lotarea {f : Addr} (D : Dn K mg "is_lot_area" ["area"] (top 38) f) (Z : Cs mg) : C8.Cal P w K mg base 1 "is_lot_area" (spNum Kp399.validLotArea) [] := by
  refine D.ok scLotArea (fun vs H Q E h => ?_) (fun cdv A outer s H vs Q E hr h => ?_)
  · obtain ⟨i, rfl, _⟩ := h
    rfl
  · obtain ⟨i, rfl, k⟩ := h
    refine ⟨_, pss_one (ps_ret (pe_cmpR op_le (pv 0) (C8.pe_gc rfl Z.mostArea) (nomark _))), ?_⟩
    refine ⟨_, rfl, _, _, rfl, rfl, ?_⟩
    show Q (.bl (decide ((i : Int) ≤ ((40 : Nat) : Int)))) H
    rw [decide_eq_decide.mpr Int.ofNat_le]
    exact k
theorem scWantArea : FnScope ["area"] ["area"] (defScope (top 39)) := ⟨rfl, rfl, rfl, by decide +kernel, rfl, by decide +kernel, by decide +kernel⟩
theorem ok_wantarea {f : Addr} (D : Dn K mg "is_wanted_area" ["area"] (top 39) f) (Z : Cs mg) : C8.Cal P w K mg base 1 "is_wanted_area" (spNum Kp399.validOrderArea) [] := by
  refine D.ok scWantArea (fun vs H Q E h => ?_) (fun cdv A outer s H vs Q E hr h => ?_)
  · obtain ⟨i, rfl, _⟩ := h
    rfl
  · obtain ⟨i, rfl, k⟩ := h
    refine ⟨_, pss_one (ps_ret (pe_chain op_le op_le (C8.pe_gc rfl Z.leastWanted) (pv 0) (C8.pe_gc rfl Z.mostArea))), ?_⟩
    have e : Kp399.validOrderArea i = (decide (1 ≤ i) && decide (i ≤ 40)) := rfl
    have e1 : decide ((1 : Int) ≤ (i : Int)) = decide (1 ≤ i) := decide_eq_decide.mpr (Int.ofNat_le (m := 1))
    have e2 : decide ((i : Int) ≤ (40 : Int)) = decide (i ≤ 40) := decide_eq_decide.mpr (Int.ofNat_le (n := 40))
    refine ⟨_, rfl, _, _, rfl, rfl, _, rfl, ?_⟩
    show if decide ((1 : Int) ≤ (i : Int)) = true then _ else _
    rw [e1]
    cases q : decide (1 ≤ i) with
    | true =>
      refine iteT ⟨_, _, rfl, rfl, ?_⟩
      show Q (.bl (decide ((i : Int) ≤ (40 : Int)))) H
      rw [e, q] at k
      rw [e2]
      exact k
    | false =>
      refine iteF ?_
      rw [e, q] at k
      exact k
theorem scAreLots : FnScope ["stock", "lots"] ["stock", "lots"] (defScope (top 40)) := ⟨rfl, rfl, rfl, by decide +kernel, rfl, by decide +kernel, by decide +kernel⟩
theorem ok_arelots {C f : Addr} (D : Dn K mg "are_lots" ["stock", "lots"] (top 40) f) (T : TxS K mg C) (B : Bn mg) (cSetOf : C8.Cal P w K mg base 2 "is_set_of" spSetOf []) : C8.Cal P w K mg base 3 "are_lots" (spLook C Kp399.validLotSet) [] := by
  refine D.ok scAreLots (fun vs H Q E h => ?_) (fun cdv A outer s H vs Q E hr h => ?_)
  · obtain ⟨p, dx, la, lw, lc, s, i, rfl, _⟩ := h
    rfl
  · obtain ⟨p, dx, la, lw, lc, s, i, rfl, t, k⟩ := h
    refine ⟨_, pss_one (ps_ret (C8.pe_c cSetOf hr (by decide) rfl (pa_cons (pv 1) (pa_cons (pe_callB call_len_seq (by rfl) B.len PySem.boot_len (pa_cons (pe_fld (pv 0) rfl) pa_nil)) pa_nil)))), ?_⟩
    refine ⟨_, rfl, _, rfl, p, C, dx, _, _, rfl, t.ins, T.cl, T.nA, lks_areas, la, _, rfl, .inl (SqL.of t.hA), ?_⟩
    rw [la_len]
    exact ⟨i, _, rfl, Nat.le_trans t.b1 (by decide), k⟩
def ordersOk (s : Stock) (i : Nat) : Bool := decide (i < 2 ^ s.orders.length)
theorem scAreOrders : FnScope ["stock", "orders"] ["stock", "orders"] (defScope (top 41)) := ⟨rfl, rfl, rfl, by decide +kernel, rfl, by decide +kernel, by decide +kernel⟩
theorem ok_areorders {C f : Addr} (D : Dn K mg "are_orders" ["stock", "orders"] (top 41) f) (T : TxS K mg C) (B : Bn mg) (cSetOf : C8.Cal P w K mg base 2 "is_set_of" spSetOf []) : C8.Cal P w K mg base 3 "are_orders" (spLook C ordersOk) [] := by
  refine D.ok scAreOrders (fun vs H Q E h => ?_) (fun cdv A outer s H vs Q E hr h => ?_)
  · obtain ⟨p, dx, la, lw, lc, s, i, rfl, _⟩ := h
    rfl
  · obtain ⟨p, dx, la, lw, lc, s, i, rfl, t, k⟩ := h
    refine ⟨_, pss_one (ps_ret (C8.pe_c cSetOf hr (by decide) rfl (pa_cons (pv 1) (pa_cons (pe_callB call_len_seq (by rfl) B.len PySem.boot_len (pa_cons (pe_fld (pv 0) rfl) pa_nil)) pa_nil)))), ?_⟩
    refine ⟨_, rfl, _, rfl, p, C, dx, _, _, rfl, t.ins, T.cl, T.nW, lks_wants, lw, _, rfl, .inl (SqL.of t.hW), ?_⟩
    rw [lw_len]
    exact ⟨i, _, rfl, Nat.le_trans t.b2 (by decide), k⟩
theorem scMay : FnScope ["stock", "area", "lots"] ["stock", "area", "lots"] (defScope (top 42)) := ⟨rfl, rfl, rfl, by decide +kernel, rfl, by decide +kernel, by decide +kernel⟩
theorem ok_may {C f : Addr} (D : Dn K mg "may_be_order" ["stock", "area", "lots"] (top 42) f) (cWant : C8.Cal P w K mg base 1 "is_wanted_area" (spNum Kp399.validOrderArea) []) (cLots : C8.Cal P w K mg base 3 "are_lots" (spLook C Kp399.validLotSet) []) : C8.Cal P w K mg base 4 "may_be_order" (spMay C) [] := by
  refine D.ok scMay (fun vs H Q E h => ?_) (fun cdv A outer s H vs Q E hr h => ?_)
  · obtain ⟨p, dx, la, lw, lc, s, x, y, rfl, _⟩ := h
    rfl
  · obtain ⟨p, dx, la, lw, lc, s, x, y, rfl, t, k⟩ := h
    refine ⟨_, pss_one (ps_ret (pe_and (C8.pe_c cWant hr (by decide) rfl (pa_cons (pv 1) pa_nil)) (pe_one (C8.pe_c cLots hr (by decide) rfl (pa_cons (pv 0) (pa_cons (pv 2) pa_nil)))))), ?_⟩
    refine ⟨_, rfl, x, rfl, _, rfl, ?_⟩
    cases q : Kp399.validOrderArea x with
    | true =>
      rw [q] at k
      exact iteT ⟨_, rfl, _, rfl, p, dx, la, lw, lc, s, y, rfl, t, k⟩
    | false =>
      rw [q] at k
      exact iteF k
end
end Lc
namespace Lc
open PySem PySem.Spec PyProof.Rows L2
open Kp399 (Stock Order)
/-! ### the operations: one promise for each number -/
def ansOf (a : Kp399.Ans) : List Int := a.num :: a.nums
def spOp (C : Addr) (n : Nat) : Sp := fun vs H Q _ => ∃ (p dx la lw lc na : Addr) (s : Stock) (ns : List Nat) (x : Kp399.Call), vs = [.ref p, .ref na] ∧ StAt C H p dx la lw lc s ∧ H na = some (.lst (VL (ns.map ci))) ∧ na ∉ [la, lw, lc] ∧ ns.length ≤ 8 ∧ mkCall n ns = some x ∧
  ∀ (H' : Hp) (r : Addr) (s' : Stock), (Kp399.step (some s) x).1 = some s' → StAt C H' p dx la lw lc s' → But [la, lw, lc] H H' → H r = none → H' r = some (.lst (VL (ansOf (Kp399.step (some s) x).2))) → Q (.ref r) H'
/-- the end of an operation: the list of its answer is new -/
theorem fin_do {C : Addr} {H H1 : Hp} {p dx la lw lc r : Addr} {s s' : Stock} {x : Kp399.Call} {ans : Kp399.Ans} {xs : List V} {Q : VK}
    (k : ∀ (H' : Hp) (r : Addr) (s' : Stock), (Kp399.step (some s) x).1 = some s' → StAt C H' p dx la lw lc s' → But [la, lw, lc] H H' → H r = none → H' r = some (.lst (VL (ansOf (Kp399.step (some s) x).2))) → Q (.ref r) H')
    (t : StAt C H1 p dx la lw lc s') (b : But [la, lw, lc] H H1) (hr : H1 r = none) (e : Kp399.step (some s) x = (some s', ans)) (hx : xs = VL (ansOf ans)) : Q (.ref r) (upd H1 r (.lst xs)) := by
  have nS : r ∉ [la, lw, lc] := fun z => by
    rcases List.mem_cons.mp z with rfl | z
    · rw [t.hA] at hr
      cases hr
    · rcases List.mem_cons.mp z with rfl | z
      · rw [t.hW] at hr
        cases hr
      · rcases List.mem_cons.mp z with rfl | z
        · rw [t.hC] at hr
          cases hr
        · cases z
  have h0 : H r = none := b.ne nS hr
  refine k _ r s' (by rw [e]) (t.laid hr) (b.upd (.inr h0)) h0 ?_
  rw [upd_same, e, hx]
theorem mk1 {ns : List Nat} {x : Kp399.Call} {g : Nat → Kp399.Call} {n : Nat} (h0 : mkCall n [] = none) (h1 : ∀ a, mkCall n [a] = some (g a)) (h2 : ∀ a b l, mkCall n (a :: b :: l) = none) (h : mkCall n ns = some x) : ∃ a, ns = [a] ∧ x = g a := by
  match ns, h with
  | [], h =>
    rw [h0] at h
    cases h
  | [a], h =>
    rw [h1] at h
    exact ⟨a, rfl, (Option.some.inj h).symm⟩
  | a :: b :: l, h =>
    rw [h2] at h
    cases h
theorem mk2 {ns : List Nat} {x : Kp399.Call} {g : Nat → Nat → Kp399.Call} {n : Nat} (h0 : mkCall n [] = none) (h1 : ∀ a, mkCall n [a] = none) (h2 : ∀ a b, mkCall n [a, b] = some (g a b)) (h3 : ∀ a b c l, mkCall n (a :: b :: c :: l) = none) (h : mkCall n ns = some x) : ∃ a b, ns = [a, b] ∧ x = g a b := by
  match ns, h with
  | [], h =>
    rw [h0] at h
    cases h
  | [a], h =>
    rw [h1] at h
    cases h
  | [a, b], h =>
    rw [h2] at h
    exact ⟨a, b, rfl, (Option.some.inj h).symm⟩
  | a :: b :: c :: l, h =>
    rw [h3] at h
    cases h
theorem mk0 {ns : List Nat} {x y : Kp399.Call} {n : Nat} (h0 : mkCall n [] = some y) (h1 : ∀ a l, mkCall n (a :: l) = none) (h : mkCall n ns = some x) : ns = [] ∧ x = y := by
  match ns, h with
  | [], h =>
    rw [h0] at h
    exact ⟨rfl, (Option.some.inj h).symm⟩
  | a :: l, h =>
    rw [h1] at h
    cases h
theorem one_at (a : Nat) : atI (VL ([a].map ci)) 0 = some (V.int (a : Int)) := cl_atI (xs := [a]) (i := 0) (by show 0 < 1; decide)
theorem len1 (v : V) : [v].length ≤ sizeLine := (by decide : 1 ≤ sizeLine)
theorem len2 (v u : V) : [v, u].length ≤ sizeLine := (by decide : 2 ≤ sizeLine)
theorem len3 (v u z : V) : [v, u, z].length ≤ sizeLine := (by decide : 3 ≤ sizeLine)
theorem len4 (v u z y : V) : [v, u, z, y].length ≤ sizeLine := (by decide : 4 ≤ sizeLine)
theorem dec_int (n m : Nat) : decide (V.int (n : Int) = V.int (m : Int)) = decide (n = m) := by
  refine decide_eq_decide.mpr ⟨fun z => ?_, fun z => by rw [z]⟩
  injection z with z
  omega
section
variable {P : Program} {w : World} {K : PySem.W.Frag} {mg : Str → Option Value} {base : Heap}
theorem scDo1 : FnScope ["stock", "numbers", "area"] ["stock", "numbers"] (defScope (top 59)) := ⟨rfl, rfl, rfl, by decide +kernel, rfl, by decide +kernel, by decide +kernel⟩
theorem ok_do1 {C f : Addr} (D : Dn K mg "do_add_lot" ["stock", "numbers"] (top 59) f) (B : Bn mg) (Z : Cs mg) (T : TxS K mg C) (cLotArea : C8.Cal P w K mg base 1 "is_lot_area" (spNum Kp399.validLotArea) []) (cAddLot : C8.Met P w K mg base 1 C "add_lot" (spAddLot C) []) : C8.Cal P w K mg base 10 "do_add_lot" (spOp C 1) [] := by
  refine D.ok scDo1 (fun vs H Q E h => ?_) (fun cdv A outer s H vs Q E hr h => ?_)
  · obtain ⟨p, dx, la, lw, lc, na, s, ns, x, rfl, _⟩ := h
    rfl
  · obtain ⟨p, dx, la, lw, lc, na, s, ns, x, rfl, t, hN, hS, hl, hx, k⟩ := h
    obtain ⟨a, rfl, rfl⟩ := mk1 rfl (fun _ => rfl) (fun _ _ _ => rfl) hx
    refine ⟨_, pss_cons (ps_set (i := 2) scDo1.nd rfl (Or.inl rfl) (pe_ix ix_list (pv 1) pe_int (fun _ _ => rfl)))
      (pss_cons (ps_if (pt_not (pt_val (C8.pe_c cLotArea hr (by decide) rfl (pa_cons (pv 2) pa_nil)))) (pss_one (ps_ret (pe_lst (pa_cons (C8.pe_gc rfl Z.outOf) pa_nil)))) pss_nil)
      (pss_cons (ps_if (pt_cmpR op_eq (pe_callB call_len_seq (by rfl) B.len PySem.boot_len (pa_cons (pe_fld (pv 0) rfl) pa_nil)) (C8.pe_gc rfl Z.mostLots) (nomark _)) (pss_one (ps_ret (pe_lst (pa_cons (C8.pe_gc rfl Z.full) pa_nil)))) pss_nil)
      (pss_cons (ps_expr (C8.pe_mt cAddLot hr (by decide) (pv 0) (pa_cons (pv 2) pa_nil)))
      (pss_one (ps_ret (pe_lst (pa_cons (pe_op op_sub (pe_callB call_len_seq (by rfl) B.len PySem.boot_len (pa_cons (pe_fld (pv 0) rfl) pa_nil)) pe_int) pa_nil))))))), ?_⟩
    refine ⟨_, rfl, na, _, _, _, rfl, rfl, SqL.of hN, one_at a, _, rfl, a, rfl, _, rfl, ?_⟩
    cases q : Kp399.validLotArea a with
    | false => exact iteT ⟨len1 _, fun r hr => fin_do k t (But.refl _ H) hr (if_pos q) rfl⟩
    | true =>
      have q' : ¬ Kp399.validLotArea a = false := by rw [q]; decide
      refine iteF ⟨_, rfl, p, C, dx, _, _, rfl, t.ins, T.cl, T.nA, lks_areas, la, _, rfl, .inl (SqL.of t.hA), rfl, _, rfl, ?_⟩
      rw [la_len]
      show if decide (V.int ((s.lots.length : Nat) : Int) = V.int ((6 : Nat) : Int)) = true then _ else _
      rw [dec_int]
      have b1 := t.b1
      by_cases z : s.lots.length = 6
      · rw [decide_eq_true z]
        exact iteT ⟨len1 _, fun r hr => fin_do k t (But.refl _ H) hr ((if_neg q').trans (if_pos (Nat.le_of_eq z.symm))) rfl⟩
      · rw [decide_eq_false z]
        refine iteF ⟨_, rfl, p, dx, _, rfl, t.ins, lks_no (by decide +kernel) (by decide +kernel) (by decide +kernel), _, rfl, p, dx, la, lw, lc, s, a, rfl, t, by omega, fun H1 t1 b1 => ?_⟩
        refine ⟨_, rfl, p, C, dx, _, _, rfl, t1.ins, T.cl, T.nA, lks_areas, la, _, rfl, .inl (SqL.of t1.hA), _, _, rfl, rfl, len1 _, fun r hr => ?_⟩
        refine fin_do k t1 b1 hr ((if_neg q').trans (if_neg (by show ¬ 6 ≤ s.lots.length; omega))) ?_
        rw [la_len]
        show [V.int ((((s.lots ++ [a]).length : Nat) : Int) - 1)] = [V.int ((s.lots.length : Nat) : Int)]
        rw [List.length_append, List.length_singleton]
        exact congrArg (fun z => [V.int z]) (by omega)
theorem two_ne (a b : Nat) : (VL ([a, b].map ci)).length = 2 := rfl
theorem scDo2 : FnScope ["stock", "numbers", "area", "lots"] ["stock", "numbers"] (defScope (top 60)) := ⟨rfl, rfl, rfl, by decide +kernel, rfl, by decide +kernel, by decide +kernel⟩
theorem ok_do2 {C f : Addr} (D : Dn K mg "do_add_order" ["stock", "numbers"] (top 60) f) (B : Bn mg) (Z : Cs mg) (T : TxS K mg C) (cMay : C8.Cal P w K mg base 4 "may_be_order" (spMay C) []) (cAddOrder : C8.Met P w K mg base 1 C "add_order" (spAddOrder C) []) : C8.Cal P w K mg base 10 "do_add_order" (spOp C 2) [] := by
  refine D.ok scDo2 (fun vs H Q E h => ?_) (fun cdv A outer s H vs Q E hr h => ?_)
  · obtain ⟨p, dx, la, lw, lc, na, s, ns, x, rfl, _⟩ := h
    rfl
  · obtain ⟨p, dx, la, lw, lc, na, s, ns, x, rfl, t, hN, hS, hl, hx, k⟩ := h
    obtain ⟨a, b, rfl, rfl⟩ := mk2 rfl (fun _ => rfl) (fun _ _ => rfl) (fun _ _ _ _ => rfl) hx
    refine ⟨_, pss_cons (ps_asg (pv 1) (pg_unl (by rfl) (pgs_cons (pg_name (i := 2) scDo2.nd rfl (.inl rfl)) (pgs_cons (pg_name (i := 3) scDo2.nd rfl (.inl rfl)) pgs_nil))))
      (pss_cons (ps_if (pt_not (pt_val (C8.pe_c cMay hr (by decide) rfl (pa_cons (pv 0) (pa_cons (pv 2) (pa_cons (pv 3) pa_nil)))))) (pss_one (ps_ret (pe_lst (pa_cons (C8.pe_gc rfl Z.outOf) pa_nil)))) pss_nil)
      (pss_cons (ps_if (pt_cmpR op_eq (pe_callB call_len_seq (by rfl) B.len PySem.boot_len (pa_cons (pe_fld (pv 0) rfl) pa_nil)) (C8.pe_gc rfl Z.mostOrders) (nomark _)) (pss_one (ps_ret (pe_lst (pa_cons (C8.pe_gc rfl Z.full) pa_nil)))) pss_nil)
      (pss_cons (ps_expr (C8.pe_mt cAddOrder hr (by decide) (pv 0) (pa_cons (pv 2) (pa_cons (pv 3) pa_nil))))
      (pss_one (ps_ret (pe_lst (pa_cons (pe_op op_sub (pe_callB call_len_seq (by rfl) B.len PySem.boot_len (pa_cons (pe_fld (pv 0) rfl) pa_nil)) pe_int) pa_nil))))))), ?_⟩
    refine ⟨_, rfl, na, _, rfl, SqL.of hN, rfl, _, _, rfl, _, _, rfl, rfl, ?_⟩
    refine ⟨_, rfl, _, rfl, _, rfl, p, dx, la, lw, lc, s, a, b, rfl, t, _, rfl, ?_⟩
    have hq : (Kp399.validOrderArea a = false ∨ Kp399.validLotSet s b = false) ↔ (Kp399.validOrderArea a && Kp399.validLotSet s b) = false := by
      cases Kp399.validOrderArea a <;> cases Kp399.validLotSet s b <;> decide
    cases q : (Kp399.validOrderArea a && Kp399.validLotSet s b) with
    | false => exact iteT ⟨len1 _, fun r hr => fin_do k t (But.refl _ H) hr (if_pos (hq.mpr q)) rfl⟩
    | true =>
      have q' : ¬ (Kp399.validOrderArea a = false ∨ Kp399.validLotSet s b = false) := fun z => by
        rw [hq.mp z] at q
        cases q
      refine iteF ⟨_, rfl, p, C, dx, _, _, rfl, t.ins, T.cl, T.nW, lks_wants, lw, _, rfl, .inl (SqL.of t.hW), rfl, _, rfl, ?_⟩
      rw [lw_len]
      show if decide (V.int ((s.orders.length : Nat) : Int) = V.int ((6 : Nat) : Int)) = true then _ else _
      rw [dec_int]
      have b2 := t.b2
      by_cases z : s.orders.length = 6
      · rw [decide_eq_true z]
        exact iteT ⟨len1 _, fun r hr => fin_do k t (But.refl _ H) hr ((if_neg q').trans (if_pos (Nat.le_of_eq z.symm))) rfl⟩
      · rw [decide_eq_false z]
        refine iteF ⟨_, rfl, p, dx, _, rfl, t.ins, lks_no (by decide +kernel) (by decide +kernel) (by decide +kernel), _, rfl, _, rfl, p, dx, la, lw, lc, s, a, b, rfl, t, by omega, fun H1 t1 b1 => ?_⟩
        refine ⟨_, rfl, p, C, dx, _, _, rfl, t1.ins, T.cl, T.nW, lks_wants, lw, _, rfl, .inl (SqL.of t1.hW), _, _, rfl, rfl, len1 _, fun r hr => ?_⟩
        refine fin_do k t1 b1 hr ((if_neg q').trans (if_neg (by show ¬ 6 ≤ s.orders.length; omega))) ?_
        rw [lw_len]
        show [V.int ((((s.orders ++ [_]).length : Nat) : Int) - 1)] = [V.int ((s.orders.length : Nat) : Int)]
        rw [List.length_append, List.length_singleton]
        exact congrArg (fun z => [V.int z]) (by omega)
theorem scDo3 : FnScope ["stock", "numbers", "order"] ["stock", "numbers"] (defScope (top 61)) := ⟨rfl, rfl, rfl, by decide +kernel, rfl, by decide +kernel, by decide +kernel⟩
theorem is_true {s : Stock} {i : Nat} (h : Kp399.isOrder s i = true) : i < s.orders.length := of_decide_eq_true h
theorem lot_true {s : Stock} {i : Nat} (h : Kp399.isLot s i = true) : i < s.lots.length := of_decide_eq_true h
theorem ok_do3 {C f : Addr} (D : Dn K mg "do_remove_order" ["stock", "numbers"] (top 61) f) (B : Bn mg) (Z : Cs mg) (T : TxS K mg C) (cIs : C8.Cal P w K mg base 1 "is_order" (spLook C Kp399.isOrder) []) (cDrop : C8.Met P w K mg base 1 C "drop_order" (spDrop C) []) : C8.Cal P w K mg base 10 "do_remove_order" (spOp C 3) [] := by
  refine D.ok scDo3 (fun vs H Q E h => ?_) (fun cdv A outer s H vs Q E hr h => ?_)
  · obtain ⟨p, dx, la, lw, lc, na, s, ns, x, rfl, _⟩ := h
    rfl
  · obtain ⟨p, dx, la, lw, lc, na, s, ns, x, rfl, t, hN, hS, hl, hx, k⟩ := h
    obtain ⟨a, rfl, rfl⟩ := mk1 rfl (fun _ => rfl) (fun _ _ _ => rfl) hx
    refine ⟨_, pss_cons (ps_set (i := 2) scDo3.nd rfl (Or.inl rfl) (pe_ix ix_list (pv 1) pe_int (fun _ _ => rfl)))
      (pss_cons (ps_if (pt_not (pt_val (C8.pe_c cIs hr (by decide) rfl (pa_cons (pv 0) (pa_cons (pv 2) pa_nil))))) (pss_one (ps_ret (pe_lst (pa_cons (C8.pe_gc rfl Z.notThere) pa_nil)))) pss_nil)
      (pss_cons (ps_expr (C8.pe_mt cDrop hr (by decide) (pv 0) (pa_cons (pv 2) pa_nil)))
      (pss_one (ps_ret (pe_lst (pa_cons (pe_callB call_len_seq (by rfl) B.len PySem.boot_len (pa_cons (pe_fld (pv 0) rfl) pa_nil)) pa_nil)))))), ?_⟩
    refine ⟨_, rfl, na, _, _, _, rfl, rfl, SqL.of hN, one_at a, _, rfl, _, rfl, p, dx, la, lw, lc, s, a, rfl, t, _, rfl, ?_⟩
    cases q : Kp399.isOrder s a with
    | false => exact iteT ⟨len1 _, fun r hr => fin_do k t (But.refl _ H) hr (if_neg (by rw [q]; decide)) rfl⟩
    | true =>
      refine iteF ⟨_, rfl, p, dx, _, rfl, t.ins, lks_no (by decide +kernel) (by decide +kernel) (by decide +kernel), _, rfl, p, dx, la, lw, lc, s, a, rfl, t, is_true q, fun H1 t1 b1 => ?_⟩
      refine ⟨_, rfl, p, C, dx, _, _, rfl, t1.ins, T.cl, T.nW, lks_wants, lw, _, rfl, .inl (SqL.of t1.hW), len1 _, fun r hr => ?_⟩
      refine fin_do k t1 b1 hr (if_pos q) ?_
      rw [lw_len]
      show [V.int (((s.orders.eraseIdx a).length : Nat) : Int)] = [V.int ((s.orders.length - 1 : Nat) : Int)]
      rw [List.length_eraseIdx_of_lt (is_true q)]
theorem scDo4 : FnScope ["stock", "numbers", "order"] ["stock", "numbers"] (defScope (top 62)) := ⟨rfl, rfl, rfl, by decide +kernel, rfl, by decide +kernel, by decide +kernel⟩
theorem ar_at {s : Stock} {j : Nat} (h : j < s.lots.length) : atI (VL (ar s)) (j : Int) = some (V.int ((s.lots.getD j 0 : Nat) : Int)) := cl_atI h
theorem wa_atI {s : Stock} {i : Nat} (h : i < s.orders.length) : atI (VL (wa s)) (i : Int) = some (V.int (((Kp399.orderAt s i).area : Nat) : Int)) := by
  rw [vl_atI (by rw [List.length_map]; exact h), wa_at]
theorem acc_atI {s : Stock} {i : Nat} (h : i < s.orders.length) : atI (VL ((acc s).map ci)) (i : Int) = some (V.int (((Kp399.orderAt s i).lots : Nat) : Int)) := by
  rw [cl_atI (by rw [List.length_map]; exact h), acc_at]
theorem ok_do4 {C f : Addr} (D : Dn K mg "do_get_order" ["stock", "numbers"] (top 62) f) (Z : Cs mg) (T : TxS K mg C) (cIs : C8.Cal P w K mg base 1 "is_order" (spLook C Kp399.isOrder) []) : C8.Cal P w K mg base 10 "do_get_order" (spOp C 4) [] := by
  refine D.ok scDo4 (fun vs H Q E h => ?_) (fun cdv A outer s H vs Q E hr h => ?_)
  · obtain ⟨p, dx, la, lw, lc, na, s, ns, x, rfl, _⟩ := h
    rfl
  · obtain ⟨p, dx, la, lw, lc, na, s, ns, x, rfl, t, hN, hS, hl, hx, k⟩ := h
    obtain ⟨a, rfl, rfl⟩ := mk1 rfl (fun _ => rfl) (fun _ _ _ => rfl) hx
    refine ⟨_, pss_cons (ps_set (i := 2) scDo4.nd rfl (Or.inl rfl) (pe_ix ix_list (pv 1) pe_int (fun _ _ => rfl)))
      (pss_cons (ps_if (pt_not (pt_val (C8.pe_c cIs hr (by decide) rfl (pa_cons (pv 0) (pa_cons (pv 2) pa_nil))))) (pss_one (ps_ret (pe_lst (pa_cons (C8.pe_gc rfl Z.notThere) pa_nil)))) pss_nil)
      (pss_one (ps_ret (pe_lst (pa_cons (pe_ix ix_list (pe_fld (pv 0) rfl) (pv 2) (fun _ _ => rfl)) (pa_cons (pe_ix ix_list (pe_fld (pv 0) rfl) (pv 2) (fun _ _ => rfl)) pa_nil)))))), ?_⟩
    refine ⟨_, rfl, na, _, _, _, rfl, rfl, SqL.of hN, one_at a, _, rfl, _, rfl, p, dx, la, lw, lc, s, a, rfl, t, _, rfl, ?_⟩
    cases q : Kp399.isOrder s a with
    | false => exact iteT ⟨len1 _, fun r hr => fin_do (ans := Kp399.single (-2)) k t (But.refl _ H) hr (congrArg (fun z => (some s, z)) (if_neg (by rw [q]; decide))) rfl⟩
    | true =>
      refine iteF ⟨_, rfl, p, C, dx, _, _, rfl, t.ins, T.cl, T.nW, lks_wants, _, rfl, lw, _, _, _, rfl, rfl, SqL.of t.hW, wa_atI (is_true q), ?_⟩
      refine ⟨_, rfl, p, C, dx, _, _, rfl, t.ins, T.cl, T.nC, lks_accepts, _, rfl, lc, _, _, _, rfl, rfl, SqL.of t.hC, acc_atI (is_true q), len2 _ _, fun r hr => ?_⟩
      exact fin_do k t (But.refl _ H) hr (congrArg (fun z => (some s, z)) (if_pos q)) rfl
theorem scDo5 : FnScope ["stock", "numbers", "lot"] ["stock", "numbers"] (defScope (top 63)) := ⟨rfl, rfl, rfl, by decide +kernel, rfl, by decide +kernel, by decide +kernel⟩
theorem ok_do5 {C f : Addr} (D : Dn K mg "do_get_lot" ["stock", "numbers"] (top 63) f) (Z : Cs mg) (T : TxS K mg C) (cIs : C8.Cal P w K mg base 1 "is_lot" (spLook C Kp399.isLot) []) : C8.Cal P w K mg base 10 "do_get_lot" (spOp C 5) [] := by
  refine D.ok scDo5 (fun vs H Q E h => ?_) (fun cdv A outer s H vs Q E hr h => ?_)
  · obtain ⟨p, dx, la, lw, lc, na, s, ns, x, rfl, _⟩ := h
    rfl
  · obtain ⟨p, dx, la, lw, lc, na, s, ns, x, rfl, t, hN, hS, hl, hx, k⟩ := h
    obtain ⟨a, rfl, rfl⟩ := mk1 rfl (fun _ => rfl) (fun _ _ _ => rfl) hx
    refine ⟨_, pss_cons (ps_set (i := 2) scDo5.nd rfl (Or.inl rfl) (pe_ix ix_list (pv 1) pe_int (fun _ _ => rfl)))
      (pss_cons (ps_if (pt_not (pt_val (C8.pe_c cIs hr (by decide) rfl (pa_cons (pv 0) (pa_cons (pv 2) pa_nil))))) (pss_one (ps_ret (pe_lst (pa_cons (C8.pe_gc rfl Z.notThere) pa_nil)))) pss_nil)
      (pss_one (ps_ret (pe_lst (pa_cons (pe_ix ix_list (pe_fld (pv 0) rfl) (pv 2) (fun _ _ => rfl)) pa_nil))))), ?_⟩
    refine ⟨_, rfl, na, _, _, _, rfl, rfl, SqL.of hN, one_at a, _, rfl, _, rfl, p, dx, la, lw, lc, s, a, rfl, t, _, rfl, ?_⟩
    cases q : Kp399.isLot s a with
    | false => exact iteT ⟨len1 _, fun r hr => fin_do (ans := Kp399.single (-2)) k t (But.refl _ H) hr (congrArg (fun z => (some s, z)) (if_neg (by rw [q]; decide))) rfl⟩
    | true =>
      refine iteF ⟨_, rfl, p, C, dx, _, _, rfl, t.ins, T.cl, T.nA, lks_areas, _, rfl, la, _, _, _, rfl, rfl, SqL.of t.hA, ar_at (lot_true q), len1 _, fun r hr => ?_⟩
      exact fin_do k t (But.refl _ H) hr (congrArg (fun z => (some s, z)) (if_pos q)) rfl
theorem scDo6 : FnScope ["stock", "numbers", "lot", "area", "old"] ["stock", "numbers"] (defScope (top 64)) := ⟨rfl, rfl, rfl, by decide +kernel, rfl, by decide +kernel, by decide +kernel⟩
theorem ok_do6 {C f : Addr} (D : Dn K mg "do_set_lot_area" ["stock", "numbers"] (top 64) f) (Z : Cs mg) (T : TxS K mg C) (cIs : C8.Cal P w K mg base 1 "is_lot" (spLook C Kp399.isLot) []) (cLotArea : C8.Cal P w K mg base 1 "is_lot_area" (spNum Kp399.validLotArea) []) (cSetLot : C8.Met P w K mg base 1 C "set_lot" (spSetLot C) []) : C8.Cal P w K mg base 10 "do_set_lot_area" (spOp C 6) [] := by
  refine D.ok scDo6 (fun vs H Q E h => ?_) (fun cdv A outer s H vs Q E hr h => ?_)
  · obtain ⟨p, dx, la, lw, lc, na, s, ns, x, rfl, _⟩ := h
    rfl
  · obtain ⟨p, dx, la, lw, lc, na, s, ns, x, rfl, t, hN, hS, hl, hx, k⟩ := h
    obtain ⟨a, b, rfl, rfl⟩ := mk2 rfl (fun _ => rfl) (fun _ _ => rfl) (fun _ _ _ _ => rfl) hx
    refine ⟨_, pss_cons (ps_asg (pv 1) (pg_unl (by rfl) (pgs_cons (pg_name (i := 2) scDo6.nd rfl (.inl rfl)) (pgs_cons (pg_name (i := 3) scDo6.nd rfl (.inl rfl)) pgs_nil))))
      (pss_cons (ps_if (pt_not (pt_val (C8.pe_c cIs hr (by decide) rfl (pa_cons (pv 0) (pa_cons (pv 2) pa_nil))))) (pss_one (ps_ret (pe_lst (pa_cons (C8.pe_gc rfl Z.notThere) pa_nil)))) pss_nil)
      (pss_cons (ps_if (pt_not (pt_val (C8.pe_c cLotArea hr (by decide) rfl (pa_cons (pv 3) pa_nil)))) (pss_one (ps_ret (pe_lst (pa_cons (C8.pe_gc rfl Z.outOf) pa_nil)))) pss_nil)
      (pss_cons (ps_set (i := 4) scDo6.nd rfl (Or.inl rfl) (pe_ix ix_list (pe_fld (pv 0) rfl) (pv 2) (fun _ _ => rfl)))
      (pss_cons (ps_expr (C8.pe_mt cSetLot hr (by decide) (pv 0) (pa_cons (pv 2) (pa_cons (pv 3) pa_nil))))
      (pss_one (ps_ret (pe_lst (pa_cons (pv 4) pa_nil)))))))), ?_⟩
    refine ⟨_, rfl, na, _, rfl, SqL.of hN, rfl, _, _, rfl, _, _, rfl, rfl, ?_⟩
    refine ⟨_, rfl, _, rfl, p, dx, la, lw, lc, s, a, rfl, t, _, rfl, ?_⟩
    cases q : Kp399.isLot s a with
    | false => exact iteT ⟨len1 _, fun r hr => fin_do k t (But.refl _ H) hr (if_pos q) rfl⟩
    | true =>
      have q' : ¬ Kp399.isLot s a = false := by rw [q]; decide
      refine iteF ⟨_, rfl, b, rfl, _, rfl, ?_⟩
      cases q2 : Kp399.validLotArea b with
      | false => exact iteT ⟨len1 _, fun r hr => fin_do k t (But.refl _ H) hr ((if_neg q').trans (if_neg (by rw [q2]; decide))) rfl⟩
      | true =>
        refine iteF ⟨_, rfl, p, C, dx, _, _, rfl, t.ins, T.cl, T.nA, lks_areas, _, rfl, la, _, _, _, rfl, rfl, SqL.of t.hA, ar_at (lot_true q), ?_⟩
        refine ⟨_, rfl, p, dx, _, rfl, t.ins, lks_no (by decide +kernel) (by decide +kernel) (by decide +kernel), _, rfl, _, rfl, p, dx, la, lw, lc, s, a, b, rfl, t, lot_true q, fun H1 t1 b1 => ?_⟩
        refine ⟨_, rfl, len1 _, fun r hr => ?_⟩
        exact fin_do k t1 b1 hr ((if_neg q').trans (if_pos q2)) rfl
theorem scDo7 : FnScope ["stock", "numbers", "order", "lots", "old"] ["stock", "numbers"] (defScope (top 65)) := ⟨rfl, rfl, rfl, by decide +kernel, rfl, by decide +kernel, by decide +kernel⟩
theorem ok_do7 {C f : Addr} (D : Dn K mg "do_set_accepted_lots" ["stock", "numbers"] (top 65) f) (Z : Cs mg) (T : TxS K mg C) (cIs : C8.Cal P w K mg base 1 "is_order" (spLook C Kp399.isOrder) []) (cLots : C8.Cal P w K mg base 3 "are_lots" (spLook C Kp399.validLotSet) []) (cSet : C8.Met P w K mg base 1 C "set_order" (spSetOrder C) []) : C8.Cal P w K mg base 10 "do_set_accepted_lots" (spOp C 7) [] := by
  refine D.ok scDo7 (fun vs H Q E h => ?_) (fun cdv A outer s H vs Q E hr h => ?_)
  · obtain ⟨p, dx, la, lw, lc, na, s, ns, x, rfl, _⟩ := h
    rfl
  · obtain ⟨p, dx, la, lw, lc, na, s, ns, x, rfl, t, hN, hS, hl, hx, k⟩ := h
    obtain ⟨a, b, rfl, rfl⟩ := mk2 rfl (fun _ => rfl) (fun _ _ => rfl) (fun _ _ _ _ => rfl) hx
    refine ⟨_, pss_cons (ps_asg (pv 1) (pg_unl (by rfl) (pgs_cons (pg_name (i := 2) scDo7.nd rfl (.inl rfl)) (pgs_cons (pg_name (i := 3) scDo7.nd rfl (.inl rfl)) pgs_nil))))
      (pss_cons (ps_if (pt_not (pt_val (C8.pe_c cIs hr (by decide) rfl (pa_cons (pv 0) (pa_cons (pv 2) pa_nil))))) (pss_one (ps_ret (pe_lst (pa_cons (C8.pe_gc rfl Z.notThere) pa_nil)))) pss_nil)
      (pss_cons (ps_if (pt_not (pt_val (C8.pe_c cLots hr (by decide) rfl (pa_cons (pv 0) (pa_cons (pv 3) pa_nil))))) (pss_one (ps_ret (pe_lst (pa_cons (C8.pe_gc rfl Z.outOf) pa_nil)))) pss_nil)
      (pss_cons (ps_set (i := 4) scDo7.nd rfl (Or.inl rfl) (pe_ix ix_list (pe_fld (pv 0) rfl) (pv 2) (fun _ _ => rfl)))
      (pss_cons (ps_expr (C8.pe_mt cSet hr (by decide) (pv 0) (pa_cons (pv 2) (pa_cons (pe_ix ix_list (pe_fld (pv 0) rfl) (pv 2) (fun _ _ => rfl)) (pa_cons (pv 3) pa_nil)))))
      (pss_one (ps_ret (pe_lst (pa_cons (pv 4) pa_nil)))))))), ?_⟩
    refine ⟨_, rfl, na, _, rfl, SqL.of hN, rfl, _, _, rfl, _, _, rfl, rfl, ?_⟩
    refine ⟨_, rfl, _, rfl, p, dx, la, lw, lc, s, a, rfl, t, _, rfl, ?_⟩
    cases q : Kp399.isOrder s a with
    | false => exact iteT ⟨len1 _, fun r hr => fin_do k t (But.refl _ H) hr (if_pos q) rfl⟩
    | true =>
      have q' : ¬ Kp399.isOrder s a = false := by rw [q]; decide
      refine iteF ⟨_, rfl, _, rfl, p, dx, la, lw, lc, s, b, rfl, t, _, rfl, ?_⟩
      cases q2 : Kp399.validLotSet s b with
      | false => exact iteT ⟨len1 _, fun r hr => fin_do k t (But.refl _ H) hr ((if_neg q').trans (if_neg (by rw [q2]; decide))) rfl⟩
      | true =>
        refine iteF ⟨_, rfl, p, C, dx, _, _, rfl, t.ins, T.cl, T.nC, lks_accepts, _, rfl, lc, _, _, _, rfl, rfl, SqL.of t.hC, acc_atI (is_true q), ?_⟩
        refine ⟨_, rfl, p, dx, _, rfl, t.ins, lks_no (by decide +kernel) (by decide +kernel) (by decide +kernel), _, rfl, _, rfl, p, C, dx, _, _, rfl, t.ins, T.cl, T.nW, lks_wants, _, rfl, lw, _, _, _, rfl, rfl, SqL.of t.hW, wa_atI (is_true q), _, rfl, p, dx, la, lw, lc, s, a, _, b, rfl, t, is_true q, fun H1 t1 b1 => ?_⟩
        refine ⟨_, rfl, len1 _, fun r hr => ?_⟩
        exact fin_do k t1 b1 hr ((if_neg q').trans (if_pos q2)) rfl
theorem scDo8 : FnScope ["stock", "numbers", "order", "area", "old"] ["stock", "numbers"] (defScope (top 66)) := ⟨rfl, rfl, rfl, by decide +kernel, rfl, by decide +kernel, by decide +kernel⟩
theorem ok_do8 {C f : Addr} (D : Dn K mg "do_set_order_area" ["stock", "numbers"] (top 66) f) (Z : Cs mg) (T : TxS K mg C) (cIs : C8.Cal P w K mg base 1 "is_order" (spLook C Kp399.isOrder) []) (cWant : C8.Cal P w K mg base 1 "is_wanted_area" (spNum Kp399.validOrderArea) []) (cSet : C8.Met P w K mg base 1 C "set_order" (spSetOrder C) []) : C8.Cal P w K mg base 10 "do_set_order_area" (spOp C 8) [] := by
  refine D.ok scDo8 (fun vs H Q E h => ?_) (fun cdv A outer s H vs Q E hr h => ?_)
  · obtain ⟨p, dx, la, lw, lc, na, s, ns, x, rfl, _⟩ := h
    rfl
  · obtain ⟨p, dx, la, lw, lc, na, s, ns, x, rfl, t, hN, hS, hl, hx, k⟩ := h
    obtain ⟨a, b, rfl, rfl⟩ := mk2 rfl (fun _ => rfl) (fun _ _ => rfl) (fun _ _ _ _ => rfl) hx
    refine ⟨_, pss_cons (ps_asg (pv 1) (pg_unl (by rfl) (pgs_cons (pg_name (i := 2) scDo8.nd rfl (.inl rfl)) (pgs_cons (pg_name (i := 3) scDo8.nd rfl (.inl rfl)) pgs_nil))))
      (pss_cons (ps_if (pt_not (pt_val (C8.pe_c cIs hr (by decide) rfl (pa_cons (pv 0) (pa_cons (pv 2) pa_nil))))) (pss_one (ps_ret (pe_lst (pa_cons (C8.pe_gc rfl Z.notThere) pa_nil)))) pss_nil)
      (pss_cons (ps_if (pt_not (pt_val (C8.pe_c cWant hr (by decide) rfl (pa_cons (pv 3) pa_nil)))) (pss_one (ps_ret (pe_lst (pa_cons (C8.pe_gc rfl Z.outOf) pa_nil)))) pss_nil)
      (pss_cons (ps_set (i := 4) scDo8.nd rfl (Or.inl rfl) (pe_ix ix_list (pe_fld (pv 0) rfl) (pv 2) (fun _ _ => rfl)))
      (pss_cons (ps_expr (C8.pe_mt cSet hr (by decide) (pv 0) (pa_cons (pv 2) (pa_cons (pv 3) (pa_cons (pe_ix ix_list (pe_fld (pv 0) rfl) (pv 2) (fun _ _ => rfl)) pa_nil)))))
      (pss_one (ps_ret (pe_lst (pa_cons (pv 4) pa_nil)))))))), ?_⟩
    refine ⟨_, rfl, na, _, rfl, SqL.of hN, rfl, _, _, rfl, _, _, rfl, rfl, ?_⟩
    refine ⟨_, rfl, _, rfl, p, dx, la, lw, lc, s, a, rfl, t, _, rfl, ?_⟩
    cases q : Kp399.isOrder s a with
    | false => exact iteT ⟨len1 _, fun r hr => fin_do k t (But.refl _ H) hr (if_pos q) rfl⟩
    | true =>
      have q' : ¬ Kp399.isOrder s a = false := by rw [q]; decide
      refine iteF ⟨_, rfl, b, rfl, _, rfl, ?_⟩
      cases q2 : Kp399.validOrderArea b with
      | false => exact iteT ⟨len1 _, fun r hr => fin_do k t (But.refl _ H) hr ((if_neg q').trans (if_neg (by rw [q2]; decide))) rfl⟩
      | true =>
        refine iteF ⟨_, rfl, p, C, dx, _, _, rfl, t.ins, T.cl, T.nW, lks_wants, _, rfl, lw, _, _, _, rfl, rfl, SqL.of t.hW, wa_atI (is_true q), ?_⟩
        refine ⟨_, rfl, p, dx, _, rfl, t.ins, lks_no (by decide +kernel) (by decide +kernel) (by decide +kernel), _, rfl, _, rfl, _, rfl, p, C, dx, _, _, rfl, t.ins, T.cl, T.nC, lks_accepts, _, rfl, lc, _, _, _, rfl, rfl, SqL.of t.hC, acc_atI (is_true q), p, dx, la, lw, lc, s, a, b, _, rfl, t, is_true q, fun H1 t1 b1 => ?_⟩
        refine ⟨_, rfl, len1 _, fun r hr => ?_⟩
        exact fin_do k t1 b1 hr ((if_neg q').trans (if_pos q2)) rfl
theorem scDo20 : FnScope ["stock", "numbers", "first", "second", "area", "lots"] ["stock", "numbers"] (defScope (top 67)) := ⟨rfl, rfl, rfl, by decide +kernel, rfl, by decide +kernel, by decide +kernel⟩
theorem ok_do20 {C f : Addr} (D : Dn K mg "do_swap_priorities" ["stock", "numbers"] (top 67) f) (Z : Cs mg) (T : TxS K mg C) (cIs : C8.Cal P w K mg base 1 "is_order" (spLook C Kp399.isOrder) []) (cSet : C8.Met P w K mg base 1 C "set_order" (spSetOrder C) []) : C8.Cal P w K mg base 10 "do_swap_priorities" (spOp C 20) [] := by
  refine D.ok scDo20 (fun vs H Q E h => ?_) (fun cdv A outer s H vs Q E hr h => ?_)
  · obtain ⟨p, dx, la, lw, lc, na, s, ns, x, rfl, _⟩ := h
    rfl
  · obtain ⟨p, dx, la, lw, lc, na, s, ns, x, rfl, t, hN, hS, hl, hx, k⟩ := h
    obtain ⟨a, b, rfl, rfl⟩ := mk2 rfl (fun _ => rfl) (fun _ _ => rfl) (fun _ _ _ _ => rfl) hx
    refine ⟨_, pss_cons (ps_asg (pv 1) (pg_unl (by rfl) (pgs_cons (pg_name (i := 2) scDo20.nd rfl (.inl rfl)) (pgs_cons (pg_name (i := 3) scDo20.nd rfl (.inl rfl)) pgs_nil))))
      (pss_cons (ps_if (PW.pt (pw_or (pt_not (pt_val (C8.pe_c cIs hr (by decide) rfl (pa_cons (pv 0) (pa_cons (pv 2) pa_nil))))) (pw_or1 (pt_not (pt_val (C8.pe_c cIs hr (by decide) rfl (pa_cons (pv 0) (pa_cons (pv 3) pa_nil)))))))) (pss_one (ps_ret (pe_lst (pa_cons (C8.pe_gc rfl Z.notThere) pa_nil)))) pss_nil)
      (pss_cons (ps_par (i := 4) (j := 5) (by rfl) scDo20.nd rfl rfl (by decide) rfl rfl (pa_cons (pe_ix ix_list (pe_fld (pv 0) rfl) (pv 2) (fun _ _ => rfl)) (pa_cons (pe_ix ix_list (pe_fld (pv 0) rfl) (pv 2) (fun _ _ => rfl)) pa_nil)) (by rfl))
      (pss_cons (ps_expr (C8.pe_mt cSet hr (by decide) (pv 0) (pa_cons (pv 2) (pa_cons (pe_ix ix_list (pe_fld (pv 0) rfl) (pv 3) (fun _ _ => rfl)) (pa_cons (pe_ix ix_list (pe_fld (pv 0) rfl) (pv 3) (fun _ _ => rfl)) pa_nil)))))
      (pss_cons (ps_expr (C8.pe_mt cSet hr (by decide) (pv 0) (pa_cons (pv 3) (pa_cons (pv 4) (pa_cons (pv 5) pa_nil)))))
      (pss_one (ps_ret (pe_lst (pa_cons pe_int pa_nil)))))))), ?_⟩
    refine ⟨_, rfl, na, _, rfl, SqL.of hN, rfl, _, _, rfl, _, _, rfl, rfl, ?_⟩
    refine ⟨_, rfl, _, rfl, p, dx, la, lw, lc, s, a, rfl, t, _, rfl, ?_⟩
    cases q : Kp399.isOrder s a with
    | false => exact iteT (iteT ⟨len1 _, fun r hr => fin_do k t (But.refl _ H) hr (if_neg (by rw [q, Bool.false_and]; decide)) rfl⟩)
    | true =>
      refine iteF ⟨_, rfl, _, rfl, p, dx, la, lw, lc, s, b, rfl, t, _, rfl, ?_⟩
      cases q2 : Kp399.isOrder s b with
      | false => exact iteT ⟨len1 _, fun r hr => fin_do k t (But.refl _ H) hr (if_neg (by rw [q, q2]; decide)) rfl⟩
      | true =>
        refine iteF ?_
        refine ⟨_, rfl, p, C, dx, _, _, rfl, t.ins, T.cl, T.nW, lks_wants, _, rfl, lw, _, _, _, rfl, rfl, SqL.of t.hW, wa_atI (is_true q), _, rfl, p, C, dx, _, _, rfl, t.ins, T.cl, T.nC, lks_accepts, _, rfl, lc, _, _, _, rfl, rfl, SqL.of t.hC, acc_atI (is_true q), _, _, rfl, ?_⟩
        refine ⟨_, rfl, p, dx, _, rfl, t.ins, lks_no (by decide +kernel) (by decide +kernel) (by decide +kernel), _, rfl, _, rfl, p, C, dx, _, _, rfl, t.ins, T.cl, T.nW, lks_wants, _, rfl, lw, _, _, _, rfl, rfl, SqL.of t.hW, wa_atI (is_true q2), _, rfl, p, C, dx, _, _, rfl, t.ins, T.cl, T.nC, lks_accepts, _, rfl, lc, _, _, _, rfl, rfl, SqL.of t.hC, acc_atI (is_true q2), p, dx, la, lw, lc, s, a, _, _, rfl, t, is_true q, fun H1 t1 b1 => ?_⟩
        refine ⟨_, rfl, p, dx, _, rfl, t1.ins, lks_no (by decide +kernel) (by decide +kernel) (by decide +kernel), _, rfl, _, rfl, _, rfl, p, dx, la, lw, lc, _, b, _, _, rfl, t1, by show b < (s.orders.set a _).length; rw [List.length_set]; exact is_true q2, fun H2 t2 b2 => ?_⟩
        refine ⟨len1 _, fun r hr => ?_⟩
        exact fin_do k t2 (b1.trans b2) hr (if_pos (by rw [q, q2]; rfl)) rfl
theorem scDo21 : FnScope ["stock", "numbers"] ["stock", "numbers"] (defScope (top 68)) := ⟨rfl, rfl, rfl, by decide +kernel, rfl, by decide +kernel, by decide +kernel⟩
theorem ar_sum (s : Stock) : (ar s).sum = ((s.lots.sum : Nat) : Int) := by
  have e := cast_sum (fun n : Nat => n) (fun n : Nat => (n : Int)) s.lots fun _ _ => rfl
  rw [List.map_id''] at e
  · exact e
  · intro _
    rfl
theorem ok_do21 {C f : Addr} (D : Dn K mg "do_status" ["stock", "numbers"] (top 68) f) (B : Bn mg) (T : TxS K mg C) : C8.Cal P w K mg base 10 "do_status" (spOp C 21) [] := by
  refine D.ok scDo21 (fun vs H Q E h => ?_) (fun cdv A outer s H vs Q E hr h => ?_)
  · obtain ⟨p, dx, la, lw, lc, na, s, ns, x, rfl, _⟩ := h
    rfl
  · obtain ⟨p, dx, la, lw, lc, na, s, ns, x, rfl, t, hN, hS, hl, hx, k⟩ := h
    obtain ⟨rfl, rfl⟩ := mk0 rfl (fun _ _ => rfl) hx
    refine ⟨_, pss_one (ps_ret (pe_lst (pa_cons (pe_callB call_len_seq (by rfl) B.len PySem.boot_len (pa_cons (pe_fld (pv 0) rfl) pa_nil)) (pa_cons (pe_callB call_len_seq (by rfl) B.len PySem.boot_len (pa_cons (pe_fld (pv 0) rfl) pa_nil))
      (pa_cons (pe_callB (cr_sum rfl) (by rfl) B.sum (by decide +kernel) (pa_cons (pe_fld (pv 0) rfl) pa_nil)) (pa_cons (pe_callB (cr_sum rfl) (by rfl) B.sum (by decide +kernel) (pa_cons (pe_fld (pv 0) rfl) pa_nil)) pa_nil)))))), ?_⟩
    refine ⟨_, rfl, p, C, dx, _, _, rfl, t.ins, T.cl, T.nA, lks_areas, la, _, rfl, .inl (SqL.of t.hA), _, rfl, p, C, dx, _, _, rfl, t.ins, T.cl, T.nW, lks_wants, lw, _, rfl, .inl (SqL.of t.hW), _, rfl, p, C, dx, _, _, rfl, t.ins, T.cl, T.nA, lks_areas, la, ar s, rfl, SqL.of t.hA, _, rfl, p, C, dx, _, _, rfl, t.ins, T.cl, T.nW, lks_wants, lw, wa s, rfl, SqL.of t.hW, len4 _ _ _ _, fun r hr => ?_⟩
    refine fin_do k t (But.refl _ H) hr rfl ?_
    rw [la_len, lw_len, ar_sum, wanted_all]
    rfl
end
end Lc
namespace Lc
open PySem PySem.Spec PyProof.Rows L2
open Kp399 (Stock Order)
def spServedBy (C : Addr) : Sp := fun vs H Q _ => ∃ (p dx la lw lc : Addr) (s : Stock), vs = [.ref p] ∧ StAt C H p dx la lw lc s ∧ ∀ H' : Hp, Same H H' → Q (.int ((Kp399.maxServed s : Nat) : Int)) H'
def spServedLot (C : Addr) : Sp := fun vs H Q _ => ∃ (p dx la lw lc : Addr) (s : Stock) (j x : Nat), vs = [.ref p, .int (j : Int), .int (x : Int)] ∧ StAt C H p dx la lw lc s ∧ j < s.lots.length ∧ ∀ H' : Hp, Same H H' → Q (.int ((Kp399.maxServed (Kp399.withLot s j x) : Nat) : Int)) H'
def amountsOk (s : Stock) (ns : List Nat) : Bool := decide (ns.length = s.orders.length) && ns.all fun x => decide (x ≤ 99)
def spAmounts (C : Addr) : Sp := fun vs H Q _ => ∃ (p dx la lw lc na : Addr) (s : Stock) (ns : List Nat), vs = [.ref p, .ref na] ∧ StAt C H p dx la lw lc s ∧ H na = some (.lst (VL (ns.map ci))) ∧ ns.length ≤ 8 ∧ ∀ H' : Hp, Same H H' → Q (.bl (amountsOk s ns)) H'
theorem ci_sum (l : List Nat) : (l.map ci).sum = ((l.sum : Nat) : Int) := by
  have e := cast_sum (fun n : Nat => n) (fun n : Nat => (n : Int)) l fun _ _ => rfl
  rw [List.map_id''] at e
  · exact e
  · intro _
    rfl
theorem single_eq (n : Nat) : VL (ansOf (Kp399.single (n : Int))) = [V.int (n : Int)] := rfl
theorem list_eq (l : List Nat) : VL (ansOf (Kp399.listResult l)) = V.int ((l.length : Nat) : Int) :: VL (l.map ci) := rfl
theorem nat_eq (n : Nat) (l : List Nat) : VL (ansOf (Kp399.natResult n l)) = V.int (n : Int) :: VL (l.map ci) := rfl
section
variable {P : Program} {w : World} {K : PySem.W.Frag} {mg : Str → Option Value} {base : Heap}
theorem scServedBy : FnScope ["stock"] ["stock"] (defScope (top 44)) := ⟨rfl, rfl, rfl, by decide +kernel, rfl, by decide +kernel, by decide +kernel⟩
theorem ok_servedby {C f : Addr} (D : Dn K mg "served_by" ["stock"] (top 44) f) (T : TxS K mg C) (cServed : C8.Cal P w K mg base 8 "max_served" (spServed K) []) : C8.Cal P w K mg base 9 "served_by" (spServedBy C) [] := by
  refine D.ok scServedBy (fun vs H Q E h => ?_) (fun cdv A outer s H vs Q E hr h => ?_)
  · obtain ⟨p, dx, la, lw, lc, s, rfl, _⟩ := h
    rfl
  · obtain ⟨p, dx, la, lw, lc, s, rfl, t, k⟩ := h
    refine ⟨_, pss_one (ps_ret (C8.pe_c cServed hr (by decide) rfl (pa_cons (pe_fld (pv 0) rfl) (pa_cons (pe_fld (pv 0) rfl) (pa_cons (pe_fld (pv 0) rfl) pa_nil))))), ?_⟩
    refine ⟨_, rfl, p, C, dx, _, _, rfl, t.ins, T.cl, T.nA, lks_areas, _, rfl, p, C, dx, _, _, rfl, t.ins, T.cl, T.nC, lks_accepts, _, rfl, p, C, dx, _, _, rfl, t.ins, T.cl, T.nW, lks_wants, la, lc, lw, ar s, acc s, wa s, rfl, t.tri, fun H1 s1 => ?_⟩
    show Q (.int (served (ar s) (acc s) (wa s))) H1
    rw [served_eq]
    exact k _ s1
theorem scServedLot : FnScope ["stock", "lot", "area"] ["stock", "lot", "area"] (defScope (top 45)) := ⟨rfl, rfl, rfl, by decide +kernel, rfl, by decide +kernel, by decide +kernel⟩
theorem ok_servedlot {C f : Addr} (D : Dn K mg "served_with_lot" ["stock", "lot", "area"] (top 45) f) (T : TxS K mg C) (cServed : C8.Cal P w K mg base 8 "max_served" (spServed K) []) (cWith : C8.Cal P w K mg base 1 "with_lot_area" (spWith K) []) : C8.Cal P w K mg base 9 "served_with_lot" (spServedLot C) [] := by
  refine D.ok scServedLot (fun vs H Q E h => ?_) (fun cdv A outer s H vs Q E hr h => ?_)
  · obtain ⟨p, dx, la, lw, lc, s, j, x, rfl, _⟩ := h
    rfl
  · obtain ⟨p, dx, la, lw, lc, s, j, x, rfl, t, hj, k⟩ := h
    refine ⟨_, pss_one (ps_ret (C8.pe_c cServed hr (by decide) rfl (pa_cons (C8.pe_c cWith hr (by decide) rfl (pa_cons (pe_fld (pv 0) rfl) (pa_cons (pv 1) (pa_cons (pv 2) pa_nil)))) (pa_cons (pe_fld (pv 0) rfl) (pa_cons (pe_fld (pv 0) rfl) pa_nil))))), ?_⟩
    refine ⟨_, rfl, p, C, dx, _, _, rfl, t.ins, T.cl, T.nA, lks_areas, _, rfl, _, rfl, la, ar s, j, (x : Int), rfl, SqL.of t.hA, by rw [List.length_map]; exact hj, fun H1 l s1 nl hl => ?_⟩
    have t1 := t.same s1
    have e : (ar s).set j (x : Int) = ar (Kp399.withLot s j x) := map_set s.lots j x
    rw [e] at hl
    refine ⟨_, rfl, p, C, dx, _, _, rfl, t1.ins, T.cl, T.nC, lks_accepts, _, rfl, p, C, dx, _, _, rfl, t1.ins, T.cl, T.nW, lks_wants, l, lc, lw, _, acc s, wa s, rfl, ⟨SqL.of hl, t1.tri.sc, t1.tri.sm, ?_, (t1.tri (K := K)).lc, (t1.tri (K := K)).lm⟩, fun H2 s2 => ?_⟩
    · rw [← e, List.length_set, List.length_map]
      exact Nat.le_trans t.b1 (by decide)
    · show Q (.int (served (ar (Kp399.withLot s j x)) (acc (Kp399.withLot s j x)) (wa (Kp399.withLot s j x)))) H2
      rw [served_eq]
      exact k _ (s1.trans s2)
theorem scDo9 : FnScope ["stock", "numbers"] ["stock", "numbers"] (defScope (top 46)) := ⟨rfl, rfl, rfl, by decide +kernel, rfl, by decide +kernel, by decide +kernel⟩
theorem ok_do9 {C f : Addr} (D : Dn K mg "do_max_served" ["stock", "numbers"] (top 46) f) (cBy : C8.Cal P w K mg base 9 "served_by" (spServedBy C) []) : C8.Cal P w K mg base 10 "do_max_served" (spOp C 9) [] := by
  refine D.ok scDo9 (fun vs H Q E h => ?_) (fun cdv A outer s H vs Q E hr h => ?_)
  · obtain ⟨p, dx, la, lw, lc, na, s, ns, x, rfl, _⟩ := h
    rfl
  · obtain ⟨p, dx, la, lw, lc, na, s, ns, x, rfl, t, hN, hS, hl, hx, k⟩ := h
    obtain ⟨rfl, rfl⟩ := mk0 rfl (fun _ _ => rfl) hx
    refine ⟨_, pss_one (ps_ret (pe_lst (pa_cons (C8.pe_c cBy hr (by decide) rfl (pa_cons (pv 0) pa_nil)) pa_nil))), ?_⟩
    refine ⟨_, rfl, p, dx, la, lw, lc, s, rfl, t, fun H1 s1 => ⟨len1 _, fun r hr => ?_⟩⟩
    exact fin_do k (t.same s1) (Same.but s1) hr rfl rfl
theorem scDo10 : FnScope ["stock", "numbers", "shortage", "orders", "found"] ["stock", "numbers"] (defScope (top 47)) := ⟨rfl, rfl, rfl, by decide +kernel, rfl, by decide +kernel, by decide +kernel⟩
theorem ok_do10 {C f : Addr} (D : Dn K mg "do_worst_set" ["stock", "numbers"] (top 47) f) (B : Bn mg) (T : TxS K mg C) (cWorst : C8.Cal P w K mg base 7 "worst_set" (spWorst K) []) (cMem : C8.Cal P w K mg base 2 "members" spMem []) : C8.Cal P w K mg base 10 "do_worst_set" (spOp C 10) [] := by
  refine D.ok scDo10 (fun vs H Q E h => ?_) (fun cdv A outer s H vs Q E hr h => ?_)
  · obtain ⟨p, dx, la, lw, lc, na, s, ns, x, rfl, _⟩ := h
    rfl
  · obtain ⟨p, dx, la, lw, lc, na, s, ns, x, rfl, t, hN, hS, hl, hx, k⟩ := h
    obtain ⟨rfl, rfl⟩ := mk0 rfl (fun _ _ => rfl) hx
    refine ⟨_, pss_cons (ps_asg (C8.pe_c cWorst hr (by decide) rfl (pa_cons (pe_fld (pv 0) rfl) (pa_cons (pe_fld (pv 0) rfl) (pa_cons (pe_fld (pv 0) rfl) pa_nil)))) (pg_tup (by rfl) (pgs_cons (pg_name (i := 2) scDo10.nd rfl (.inl rfl)) (pgs_cons (pg_name (i := 3) scDo10.nd rfl (.inl rfl)) pgs_nil))))
      (pss_cons (ps_set (i := 4) scDo10.nd rfl (Or.inl rfl) (C8.pe_c cMem hr (by decide) rfl (pa_cons (pv 3) (pa_cons (pe_callB call_len_seq (by rfl) B.len PySem.boot_len (pa_cons (pe_fld (pv 0) rfl) pa_nil)) pa_nil))))
      (pss_one (ps_ret (pe_op op_cat (pe_lst (pa_cons (pv 2) (pa_cons (pe_callB call_len_seq (by rfl) B.len PySem.boot_len (pa_cons (pv 4) pa_nil)) pa_nil))) (pv 4))))), ?_⟩
    refine ⟨_, rfl, p, C, dx, _, _, rfl, t.ins, T.cl, T.nA, lks_areas, _, rfl, p, C, dx, _, _, rfl, t.ins, T.cl, T.nC, lks_accepts, _, rfl, p, C, dx, _, _, rfl, t.ins, T.cl, T.nW, lks_wants, la, lc, lw, ar s, acc s, wa s, rfl, t.tri, fun H1 q s1 _ hq => ?_⟩
    have t1 := t.same s1
    obtain ⟨w1, w2⟩ := worst_both s
    refine ⟨q, _, rfl, SqT.of hq, rfl, _, _, rfl, _, _, rfl, rfl, ?_⟩
    refine ⟨_, rfl, _, rfl, p, C, dx, _, _, rfl, t1.ins, T.cl, T.nW, lks_wants, lw, _, rfl, .inl (SqL.of t1.hW), ?_⟩
    rw [lw_len]
    have b2 := t.b2
    refine ⟨_, _, rfl, by omega, fun H2 g s2 ng hg => ?_⟩
    rw [← w1] at hg
    have t2 := t1.same s2
    refine ⟨_, rfl, _, rfl, g, _, rfl, .inl (SqL.of hg), len2 _ _, fun l hl2 => ?_⟩
    have ngl : g ≠ l := ne_of_none hg hl2
    refine ⟨_, rfl, l, g, _, _, rfl, rfl, upd_same, (by rw [upd_ne ngl]; exact hg), ?_, fun r hr2 => ?_⟩
    · rw [cl_len, w1]
      have := mem_len (worst (ar s) (acc s) (wa s)).2 s.orders.length
      show 2 + _ ≤ sizeLine
      have z : 1000 < sizeLine := by decide
      omega
    · have s3 : Same H (upd H2 l (.lst [V.int (worst (ar s) (acc s) (wa s)).1, V.int (((VL ((Kp399.worstSet s).map ci)).length : Nat) : Int)])) := Same.trans (s1.trans s2) (Same.new hl2)
      refine fin_do (ans := Kp399.natResult (Kp399.shortage s (Kp399.worstSet s)) ((Kp399.worstSet s).length :: Kp399.worstSet s)) k (t.same s3) (Same.but s3) hr2 rfl ?_
      rw [cl_len, w2]
      rfl
theorem scDo11 : FnScope ["stock", "numbers", "orders", "shortage"] ["stock", "numbers"] (defScope (top 48)) := ⟨rfl, rfl, rfl, by decide +kernel, rfl, by decide +kernel, by decide +kernel⟩
theorem ok_do11 {C f : Addr} (D : Dn K mg "do_shortage" ["stock", "numbers"] (top 48) f) (Z : Cs mg) (T : TxS K mg C) (cAre : C8.Cal P w K mg base 3 "are_orders" (spLook C ordersOk) []) (cShort : C8.Cal P w K mg base 6 "shortage_of" (spShort K) []) (cTotal : C8.Cal P w K mg base 3 "total_of" (spTotal K) []) (cAvail : C8.Cal P w K mg base 4 "available" (spAvail K) []) : C8.Cal P w K mg base 10 "do_shortage" (spOp C 11) [] := by
  refine D.ok scDo11 (fun vs H Q E h => ?_) (fun cdv A outer s H vs Q E hr h => ?_)
  · obtain ⟨p, dx, la, lw, lc, na, s, ns, x, rfl, _⟩ := h
    rfl
  · obtain ⟨p, dx, la, lw, lc, na, s, ns, x, rfl, t, hN, hS, hl, hx, k⟩ := h
    obtain ⟨a, rfl, rfl⟩ := mk1 rfl (fun _ => rfl) (fun _ _ _ => rfl) hx
    refine ⟨_, pss_cons (ps_set (i := 2) scDo11.nd rfl (Or.inl rfl) (pe_ix ix_list (pv 1) pe_int (fun _ _ => rfl)))
      (pss_cons (ps_if (pt_not (pt_val (C8.pe_c cAre hr (by decide) rfl (pa_cons (pv 0) (pa_cons (pv 2) pa_nil))))) (pss_one (ps_ret (pe_lst (pa_cons (C8.pe_gc rfl Z.outOf) pa_nil)))) pss_nil)
      (pss_cons (ps_set (i := 3) scDo11.nd rfl (Or.inl rfl) (C8.pe_c cShort hr (by decide) rfl (pa_cons (pe_fld (pv 0) rfl) (pa_cons (pe_fld (pv 0) rfl) (pa_cons (pe_fld (pv 0) rfl) (pa_cons (pv 2) pa_nil))))))
      (pss_one (ps_ret (pe_lst (pa_cons (pv 3) (pa_cons (C8.pe_c cTotal hr (by decide) rfl (pa_cons (pe_fld (pv 0) rfl) (pa_cons (pv 2) pa_nil))) (pa_cons (C8.pe_c cAvail hr (by decide) rfl (pa_cons (pe_fld (pv 0) rfl) (pa_cons (pe_fld (pv 0) rfl) (pa_cons (pv 2) pa_nil)))) pa_nil)))))))), ?_⟩
    refine ⟨_, rfl, na, _, _, _, rfl, rfl, SqL.of hN, one_at a, _, rfl, _, rfl, p, dx, la, lw, lc, s, a, rfl, t, _, rfl, ?_⟩
    by_cases z : a < 2 ^ s.orders.length
    · have e : ordersOk s a = true := decide_eq_true z
      rw [e]
      refine iteF ⟨_, rfl, p, C, dx, _, _, rfl, t.ins, T.cl, T.nA, lks_areas, _, rfl, p, C, dx, _, _, rfl, t.ins, T.cl, T.nC, lks_accepts, _, rfl, p, C, dx, _, _, rfl, t.ins, T.cl, T.nW, lks_wants, _, rfl, la, lc, lw, ar s, acc s, wa s, a, rfl, t.tri, fun H1 s1 => ?_⟩
      have t1 := t.same s1
      refine ⟨_, rfl, _, rfl, p, C, dx, _, _, rfl, t1.ins, T.cl, T.nW, lks_wants, _, rfl, lw, wa s, a, rfl, (t1.tri (K := K)).sm, (t1.tri (K := K)).lm, fun H2 s2 => ?_⟩
      have t2 := t1.same s2
      refine ⟨_, rfl, p, C, dx, _, _, rfl, t2.ins, T.cl, T.nA, lks_areas, _, rfl, p, C, dx, _, _, rfl, t2.ins, T.cl, T.nC, lks_accepts, _, rfl, la, lc, ar s, acc s, a, rfl, (t2.tri (K := K)).sa, (t2.tri (K := K)).sc, (t2.tri (K := K)).la, (t2.tri (K := K)).lc, fun H3 s3 => ?_⟩
      refine ⟨len3 _ _ _, fun r hr2 => ?_⟩
      have sA := s1.trans (s2.trans s3)
      refine fin_do (ans := Kp399.natResult (Kp399.shortage s (mem a s.orders.length)) [Kp399.wanted s (mem a s.orders.length), Kp399.available s (mem a s.orders.length)]) k (t.same sA) (Same.but sA) hr2 ?_ ?_
      · refine congrArg (fun z => (some s, z)) ((if_neg (by omega)).trans ?_)
        show Kp399.natResult (Kp399.shortage s ((List.range s.orders.length).filter (Kp399.contains a))) [Kp399.wanted s ((List.range s.orders.length).filter (Kp399.contains a)), Kp399.available s ((List.range s.orders.length).filter (Kp399.contains a))] = _
        rw [filter_mem]
      · rw [short_eq, total_wa, avail_eq]
        rfl
    · have e : ordersOk s a = false := decide_eq_false z
      rw [e]
      exact iteT ⟨len1 _, fun r hr => fin_do (ans := Kp399.single (-22)) k t (But.refl _ H) hr (congrArg (fun z => (some s, z)) (if_pos (by omega))) rfl⟩
theorem scAmounts : FnScope ["stock", "amounts", "amount"] ["stock", "amounts"] (defScope (top 49)) := ⟨rfl, rfl, rfl, by decide +kernel, rfl, by decide +kernel, by decide +kernel⟩
theorem bl_map_app (l : List Bool) (b : Bool) : (l ++ [b]).map V.bl = l.map V.bl ++ [V.bl b] := by
  rw [List.map_append]
  rfl
theorem ok_amounts {C f : Addr} (D : Dn K mg "are_amounts" ["stock", "amounts"] (top 49) f) (B : Bn mg) (Z : Cs mg) (T : TxS K mg C) : C8.Cal P w K mg base 1 "are_amounts" (spAmounts C) [] := by
  refine D.ok scAmounts (fun vs H Q E h => ?_) (fun cdv A outer s H vs Q E hr h => ?_)
  · obtain ⟨p, dx, la, lw, lc, na, s, ns, rfl, _⟩ := h
    rfl
  · obtain ⟨p, dx, la, lw, lc, na, s, ns, rfl, t, hN, hl, k⟩ := h
    refine ⟨_, pss_one (ps_ret (pe_and (pe_cmpR op_eq (pe_callB call_len_seq (by rfl) B.len PySem.boot_len (pa_cons (pv 1) pa_nil)) (pe_callB call_len_seq (by rfl) B.len PySem.boot_len (pa_cons (pe_fld (pv 0) rfl) pa_nil)) (nomark _))
      (pe_one (pe_callB (cr_all rfl) (by rfl) B.all (by decide +kernel) (pa_cons
        (pe_lc (own := [("amount", 2)]) (g := gName 2) (tt := tYes) rfl scAmounts.nd (pi_list (pv 1)) (blkOk_by (own := [("amount", 2)]) (N := ["stock", "amounts", "amount"]) (sc := defScope (top 49)) (by decide +kernel))
          (fun _ _ _ _ _ => pg_name (i := 2) scAmounts.nd rfl (Or.inl rfl)) (fun _ _ _ _ _ => pts_nil) (fun _ _ _ _ _ => pe_cmpR op_le (pv 2) (C8.pe_gc rfl Z.mostAmount) (nomark _))) pa_nil))))), ?_⟩
    refine ⟨_, rfl, na, _, rfl, .inl (SqL.of hN), _, rfl, p, C, dx, _, _, rfl, t.ins, T.cl, T.nW, lks_wants, lw, _, rfl, .inl (SqL.of t.hW), rfl, _, rfl, ?_⟩
    rw [cl_len, lw_len, dec_int]
    have e0 : amountsOk s ns = (decide (ns.length = s.orders.length) && ns.all fun x => decide (x ≤ 99)) := rfl
    rw [e0] at k
    cases q : decide (ns.length = s.orders.length) with
    | false =>
      rw [q] at k
      exact iteF (k _ (Same.refl H))
    | true =>
      rw [q] at k
      refine iteT ⟨_, rfl, na, rfl, ⟨_, SqL.of hN⟩, fun L hL => lc_list (K := K) (a := na) (xs := VL (ns.map ci)) (fun i H' => Same H H' ∧ H' L = some (.lst (((ns.take i).map fun x => decide (x ≤ 99)).map V.bl))) ⟨Same.new hL, upd_same⟩ (fun i H' _ q => q.1.seq (SqL.of hN)) ?_ ?_⟩
      · rintro i x H' hi ⟨s1, h1⟩
        obtain ⟨n, hn, rfl⟩ := cl_item hi
        refine ⟨rfl, _, rfl, _, _, rfl, rfl, _, h1, ?_, Same.laid s1 hL, ?_⟩
        · rw [List.length_map, List.length_map, List.length_take]
          have z : 1000 < sizeLine := by decide
          omega
        · rw [upd_same, take_more hn, List.map_append]
          have e : decide ((n : Int) ≤ 99) = decide (n ≤ 99) := decide_eq_decide.mpr (Int.ofNat_le (n := 99))
          show some (HO.lst (((ns.take i).map fun x => decide (x ≤ 99)).map V.bl ++ [V.bl (decide ((n : Int) ≤ 99))])) = some (HO.lst (((ns.take i).map (fun x => decide (x ≤ 99)) ++ [decide (n ≤ 99)]).map V.bl))
          rw [e, bl_map_app]
      · rintro H' ⟨s1, h1⟩
        rw [cl_len, List.take_length] at h1
        refine ⟨L, _, rfl, SqL.of h1, ?_⟩
        rw [List.all_map]
        exact k _ s1
theorem scDo12 : FnScope ["stock", "numbers"] ["stock", "numbers"] (defScope (top 50)) := ⟨rfl, rfl, rfl, by decide +kernel, rfl, by decide +kernel, by decide +kernel⟩
theorem any_all (ns : List Nat) : (ns.any fun x => decide (99 < x)) = !(ns.all fun x => decide (x ≤ 99)) := by
  rw [List.not_all_eq_any_not]
  refine List.any_congr rfl fun x => ?_
  by_cases h : x ≤ 99
  · rw [decide_eq_true h, decide_eq_false (by omega)]
    rfl
  · rw [decide_eq_false h, decide_eq_true (by omega)]
    rfl
theorem ok_do12 {C f : Addr} (D : Dn K mg "do_can_serve" ["stock", "numbers"] (top 50) f) (Z : Cs mg) (T : TxS K mg C) (cAm : C8.Cal P w K mg base 1 "are_amounts" (spAmounts C) []) (cCan : C8.Cal P w K mg base 6 "can_serve" (spCan K) []) : C8.Cal P w K mg base 10 "do_can_serve" (spOp C 12) [] := by
  refine D.ok scDo12 (fun vs H Q E h => ?_) (fun cdv A outer s H vs Q E hr h => ?_)
  · obtain ⟨p, dx, la, lw, lc, na, s, ns, x, rfl, _⟩ := h
    rfl
  · obtain ⟨p, dx, la, lw, lc, na, s, ns, x, rfl, t, hN, hS, hl, hx, k⟩ := h
    obtain rfl : Kp399.Call.canServe ns = x := Option.some.inj hx
    refine ⟨_, pss_cons (ps_if (pt_not (pt_val (C8.pe_c cAm hr (by decide) rfl (pa_cons (pv 0) (pa_cons (pv 1) pa_nil))))) (pss_one (ps_ret (pe_lst (pa_cons (C8.pe_gc rfl Z.outOf) pa_nil)))) pss_nil)
      (pss_one (ps_ret (pe_lst (pa_cons (pe_ifExp (pt_val (C8.pe_c cCan hr (by decide) rfl (pa_cons (pe_fld (pv 0) rfl) (pa_cons (pe_fld (pv 0) rfl) (pa_cons (pv 1) pa_nil))))) pe_int pe_int) pa_nil)))), ?_⟩
    refine ⟨_, rfl, _, rfl, p, dx, la, lw, lc, na, s, ns, rfl, t, hN, hl, fun H1 s1 => ⟨_, rfl, ?_⟩⟩
    have t1 := t.same s1
    have hq : (ns.length ≠ s.orders.length ∨ (ns.any fun x => decide (99 < x)) = true) ↔ amountsOk s ns = false := by
      unfold amountsOk
      rw [any_all]
      by_cases e : ns.length = s.orders.length
      · rw [decide_eq_true e]
        cases ns.all fun x => decide (x ≤ 99) <;> simp [e]
      · rw [decide_eq_false e]
        simp [e]
    cases q : amountsOk s ns with
    | false => exact iteT ⟨len1 _, fun r hr => fin_do (ans := Kp399.single (-22)) k t1 (Same.but s1) hr (congrArg (fun z => (some s, z)) (if_pos (hq.mpr q))) rfl⟩
    | true =>
      have q' : ¬ (ns.length ≠ s.orders.length ∨ (ns.any fun x => decide (99 < x)) = true) := fun z => by
        rw [hq.mp z] at q
        cases q
      have el : ns.length = s.orders.length := Decidable.byContradiction fun z => q' (.inl z)
      refine iteF ⟨_, rfl, p, C, dx, _, _, rfl, t1.ins, T.cl, T.nA, lks_areas, _, rfl, p, C, dx, _, _, rfl, t1.ins, T.cl, T.nC, lks_accepts, _, rfl, la, lc, na, ar s, acc s, ns.map ci, rfl, ⟨t1.tri.sa, t1.tri.sc, SqL.of (s1 _ _ hN), (t1.tri (K := K)).la, (t1.tri (K := K)).lc, by rw [List.length_map]; exact hl⟩, fun H2 s2 => ⟨_, rfl, ?_⟩⟩
      have sA := s1.trans s2
      have ce := can_eq s ns el
      rw [ce]
      have fin : ∀ (b : Bool), Kp399.canServe s ns = b → Kp399.step (some s) (.canServe ns) = (some s, Kp399.boolResult b) := fun b e => congrArg (fun z => (some s, z)) ((if_neg q').trans (congrArg Kp399.boolResult e))
      cases q2 : Kp399.canServe s ns with
      | true => exact iteT ⟨len1 _, fun r hr => fin_do k (t.same sA) (Same.but sA) hr (fin true q2) rfl⟩
      | false => exact iteF ⟨len1 _, fun r hr => fin_do k (t.same sA) (Same.but sA) hr (fin false q2) rfl⟩
theorem scDo13 : FnScope ["stock", "numbers"] ["stock", "numbers"] (defScope (top 51)) := ⟨rfl, rfl, rfl, by decide +kernel, rfl, by decide +kernel, by decide +kernel⟩
theorem ok_do13 {C f : Addr} (D : Dn K mg "do_priority_amounts" ["stock", "numbers"] (top 51) f) (B : Bn mg) (T : TxS K mg C) (cPrios : C8.Cal P w K mg base 7 "priority_amounts" (spPrios K) []) : C8.Cal P w K mg base 10 "do_priority_amounts" (spOp C 13) [] := by
  refine D.ok scDo13 (fun vs H Q E h => ?_) (fun cdv A outer s H vs Q E hr h => ?_)
  · obtain ⟨p, dx, la, lw, lc, na, s, ns, x, rfl, _⟩ := h
    rfl
  · obtain ⟨p, dx, la, lw, lc, na, s, ns, x, rfl, t, hN, hS, hl, hx, k⟩ := h
    obtain ⟨rfl, rfl⟩ := mk0 rfl (fun _ _ => rfl) hx
    refine ⟨_, pss_one (ps_ret (pe_op op_cat (pe_lst (pa_cons (pe_callB call_len_seq (by rfl) B.len PySem.boot_len (pa_cons (pe_fld (pv 0) rfl) pa_nil)) pa_nil)) (C8.pe_c cPrios hr (by decide) rfl (pa_cons (pe_fld (pv 0) rfl) (pa_cons (pe_fld (pv 0) rfl) (pa_cons (pe_fld (pv 0) rfl) pa_nil)))))), ?_⟩
    refine ⟨_, rfl, p, C, dx, _, _, rfl, t.ins, T.cl, T.nW, lks_wants, lw, _, rfl, .inl (SqL.of t.hW), len1 _, fun l hl2 => ?_⟩
    have t1 := t.laid (o := .lst [V.int (((VL (wa s)).length : Nat) : Int)]) hl2
    refine ⟨_, rfl, p, C, dx, _, _, rfl, t1.ins, T.cl, T.nA, lks_areas, _, rfl, p, C, dx, _, _, rfl, t1.ins, T.cl, T.nC, lks_accepts, _, rfl, p, C, dx, _, _, rfl, t1.ins, T.cl, T.nW, lks_wants, la, lc, lw, ar s, acc s, wa s, rfl, t1.tri, fun H2 g s2 ng hg => ?_⟩
    obtain ⟨p1, p2, _⟩ := prios_all s
    rw [p1] at hg
    have b2 := t.b2
    refine ⟨l, g, _, _, rfl, rfl, s2 _ _ upd_same, hg, ?_, fun r hr2 => ?_⟩
    · rw [cl_len, p2]
      show 1 + _ ≤ sizeLine
      have z : 1000 < sizeLine := by decide
      omega
    · have sA : Same H H2 := Same.trans (Same.new hl2) s2
      refine fin_do (ans := Kp399.listResult (Kp399.priorityAmounts s)) k (t.same sA) (Same.but sA) hr2 rfl ?_
      rw [list_eq, p2, lw_len]
      rfl
theorem scDo14 : FnScope ["stock", "numbers", "cuts", "left"] ["stock", "numbers"] (defScope (top 52)) := ⟨rfl, rfl, rfl, by decide +kernel, rfl, by decide +kernel, by decide +kernel⟩
theorem accwa (s : Stock) : (acc s).length = (wa s).length := by rw [List.length_map, List.length_map]
theorem plan_small (s : Stock) (h1 : s.lots.length ≤ 6) (h2 : s.orders.length ≤ 6) : (Kp399.cutPlan s (Kp399.priorityAmounts s)).flatten.length ≤ 36 := by
  have e := congrArg List.length (plan_eq s).1
  rw [List.length_map] at e
  rw [← e]
  have q := (plan_len (acc s) ⟨ar s, prios (ar s) (acc s) (wa s)⟩ (acc s).length).1
  have q' : (plan (ar s) (acc s) (wa s)).1.length = (acc s).length * (ar s).length := q
  rw [q', List.length_map, List.length_map]
  exact Nat.mul_le_mul h2 h1
theorem ok_do14 {C f : Addr} (D : Dn K mg "do_cut_plan" ["stock", "numbers"] (top 52) f) (B : Bn mg) (T : TxS K mg C) (cPlan : C8.Cal P w K mg base 8 "priority_cuts" (spPlan K) []) (cPrios : C8.Cal P w K mg base 7 "priority_amounts" (spPrios K) []) : C8.Cal P w K mg base 10 "do_cut_plan" (spOp C 14) [] := by
  refine D.ok scDo14 (fun vs H Q E h => ?_) (fun cdv A outer s H vs Q E hr h => ?_)
  · obtain ⟨p, dx, la, lw, lc, na, s, ns, x, rfl, _⟩ := h
    rfl
  · obtain ⟨p, dx, la, lw, lc, na, s, ns, x, rfl, t, hN, hS, hl, hx, k⟩ := h
    obtain ⟨rfl, rfl⟩ := mk0 rfl (fun _ _ => rfl) hx
    refine ⟨_, pss_cons (ps_asg (C8.pe_c cPlan hr (by decide) rfl (pa_cons (pe_fld (pv 0) rfl) (pa_cons (pe_fld (pv 0) rfl) (pa_cons (pe_fld (pv 0) rfl) pa_nil)))) (pg_tup (by rfl) (pgs_cons (pg_name (i := 2) scDo14.nd rfl (.inl rfl)) (pgs_cons (pg_name (i := 3) scDo14.nd rfl (.inl rfl)) pgs_nil))))
      (pss_one (ps_ret (pe_op op_cat (pe_lst (pa_cons (pe_callB (cr_sum rfl) (by rfl) B.sum (by decide +kernel) (pa_cons (C8.pe_c cPrios hr (by decide) rfl (pa_cons (pe_fld (pv 0) rfl) (pa_cons (pe_fld (pv 0) rfl) (pa_cons (pe_fld (pv 0) rfl) pa_nil)))) pa_nil)) pa_nil)) (pv 2)))), ?_⟩
    refine ⟨_, rfl, p, C, dx, _, _, rfl, t.ins, T.cl, T.nA, lks_areas, _, rfl, p, C, dx, _, _, rfl, t.ins, T.cl, T.nC, lks_accepts, _, rfl, p, C, dx, _, _, rfl, t.ins, T.cl, T.nW, lks_wants, la, lc, lw, ar s, acc s, wa s, rfl, t.tri, t.hC, accwa s, fun H1 q fl ll s1 nfl nll hfl hll hq => ?_⟩
    obtain ⟨e1, e2⟩ := plan_eq s
    obtain ⟨p1, p2, _⟩ := prios_all s
    rw [e1] at hfl
    have t1 := t.same s1
    refine ⟨q, _, rfl, SqT.of hq, rfl, _, _, rfl, _, _, rfl, rfl, ?_⟩
    refine ⟨_, rfl, p, C, dx, _, _, rfl, t1.ins, T.cl, T.nA, lks_areas, _, rfl, p, C, dx, _, _, rfl, t1.ins, T.cl, T.nC, lks_accepts, _, rfl, p, C, dx, _, _, rfl, t1.ins, T.cl, T.nW, lks_wants, la, lc, lw, ar s, acc s, wa s, rfl, t1.tri, fun H2 g s2 ng hg => ?_⟩
    rw [p1] at hg
    refine ⟨g, _, rfl, SqL.of hg, len1 _, fun l hl2 => ?_⟩
    have hf2 := s2 _ _ hfl
    have nfl2 : fl ≠ l := ne_of_none hf2 hl2
    refine ⟨_, rfl, l, fl, _, _, rfl, rfl, upd_same, (by rw [upd_ne nfl2]; exact hf2), ?_, fun r hr2 => ?_⟩
    · rw [cl_len]
      have := plan_small s t.b1 t.b2
      show 1 + _ ≤ sizeLine
      have z : 1000 < sizeLine := by decide
      omega
    · have sA : Same H (upd H2 l (.lst [V.int ((Kp399.priorityAmounts s).map ci).sum])) := Same.trans (s1.trans s2) (Same.new hl2)
      refine fin_do (ans := Kp399.natResult (Kp399.priorityAmounts s).sum (Kp399.cutPlan s (Kp399.priorityAmounts s)).flatten) k (t.same sA) (Same.but sA) hr2 rfl ?_
      rw [nat_eq, ci_sum]
      rfl
theorem scDo15 : FnScope ["stock", "numbers", "cuts", "left"] ["stock", "numbers"] (defScope (top 53)) := ⟨rfl, rfl, rfl, by decide +kernel, rfl, by decide +kernel, by decide +kernel⟩
theorem left_small (s : Stock) (h1 : s.lots.length ≤ 6) : (Kp399.leftovers s).length ≤ 6 := by
  unfold Kp399.leftovers
  rw [List.length_map, List.length_range]
  exact h1
theorem ok_do15 {C f : Addr} (D : Dn K mg "do_leftovers" ["stock", "numbers"] (top 53) f) (B : Bn mg) (T : TxS K mg C) (cPlan : C8.Cal P w K mg base 8 "priority_cuts" (spPlan K) []) : C8.Cal P w K mg base 10 "do_leftovers" (spOp C 15) [] := by
  refine D.ok scDo15 (fun vs H Q E h => ?_) (fun cdv A outer s H vs Q E hr h => ?_)
  · obtain ⟨p, dx, la, lw, lc, na, s, ns, x, rfl, _⟩ := h
    rfl
  · obtain ⟨p, dx, la, lw, lc, na, s, ns, x, rfl, t, hN, hS, hl, hx, k⟩ := h
    obtain ⟨rfl, rfl⟩ := mk0 rfl (fun _ _ => rfl) hx
    refine ⟨_, pss_cons (ps_asg (C8.pe_c cPlan hr (by decide) rfl (pa_cons (pe_fld (pv 0) rfl) (pa_cons (pe_fld (pv 0) rfl) (pa_cons (pe_fld (pv 0) rfl) pa_nil)))) (pg_tup (by rfl) (pgs_cons (pg_name (i := 2) scDo15.nd rfl (.inl rfl)) (pgs_cons (pg_name (i := 3) scDo15.nd rfl (.inl rfl)) pgs_nil))))
      (pss_one (ps_ret (pe_op op_cat (pe_lst (pa_cons (pe_callB call_len_seq (by rfl) B.len PySem.boot_len (pa_cons (pv 3) pa_nil)) pa_nil)) (pv 3)))), ?_⟩
    refine ⟨_, rfl, p, C, dx, _, _, rfl, t.ins, T.cl, T.nA, lks_areas, _, rfl, p, C, dx, _, _, rfl, t.ins, T.cl, T.nC, lks_accepts, _, rfl, p, C, dx, _, _, rfl, t.ins, T.cl, T.nW, lks_wants, la, lc, lw, ar s, acc s, wa s, rfl, t.tri, t.hC, accwa s, fun H1 q fl ll s1 nfl nll hfl hll hq => ?_⟩
    obtain ⟨e1, e2⟩ := plan_eq s
    rw [e2] at hll
    refine ⟨q, _, rfl, SqT.of hq, rfl, _, _, rfl, _, _, rfl, rfl, ?_⟩
    refine ⟨_, rfl, ll, _, rfl, .inl (SqL.of hll), len1 _, fun l hl2 => ?_⟩
    have nll2 : ll ≠ l := ne_of_none hll hl2
    refine ⟨_, rfl, l, ll, _, _, rfl, rfl, upd_same, (by rw [upd_ne nll2]; exact hll), ?_, fun r hr2 => ?_⟩
    · rw [cl_len]
      have := left_small s t.b1
      show 1 + _ ≤ sizeLine
      have z : 1000 < sizeLine := by decide
      omega
    · have sA : Same H (upd H1 l (.lst [V.int (((VL ((Kp399.leftovers s).map ci)).length : Nat) : Int)])) := Same.trans s1 (Same.new hl2)
      refine fin_do (ans := Kp399.listResult (Kp399.leftovers s)) k (t.same sA) (Same.but sA) hr2 rfl ?_
      rw [list_eq, cl_len]
      rfl
theorem scDo16 : FnScope ["stock", "numbers"] ["stock", "numbers"] (defScope (top 54)) := ⟨rfl, rfl, rfl, by decide +kernel, rfl, by decide +kernel, by decide +kernel⟩
theorem ok_do16 {C f : Addr} (D : Dn K mg "do_can_serve_all" ["stock", "numbers"] (top 54) f) (T : TxS K mg C) (cCan : C8.Cal P w K mg base 6 "can_serve" (spCan K) []) : C8.Cal P w K mg base 10 "do_can_serve_all" (spOp C 16) [] := by
  refine D.ok scDo16 (fun vs H Q E h => ?_) (fun cdv A outer s H vs Q E hr h => ?_)
  · obtain ⟨p, dx, la, lw, lc, na, s, ns, x, rfl, _⟩ := h
    rfl
  · obtain ⟨p, dx, la, lw, lc, na, s, ns, x, rfl, t, hN, hS, hl, hx, k⟩ := h
    obtain ⟨rfl, rfl⟩ := mk0 rfl (fun _ _ => rfl) hx
    refine ⟨_, pss_one (ps_ret (pe_lst (pa_cons (pe_ifExp (pt_val (C8.pe_c cCan hr (by decide) rfl (pa_cons (pe_fld (pv 0) rfl) (pa_cons (pe_fld (pv 0) rfl) (pa_cons (pe_fld (pv 0) rfl) pa_nil))))) pe_int pe_int) pa_nil))), ?_⟩
    refine ⟨_, rfl, p, C, dx, _, _, rfl, t.ins, T.cl, T.nA, lks_areas, _, rfl, p, C, dx, _, _, rfl, t.ins, T.cl, T.nC, lks_accepts, _, rfl, p, C, dx, _, _, rfl, t.ins, T.cl, T.nW, lks_wants, la, lc, lw, ar s, acc s, wa s, rfl, t.tri, fun H2 sA => ⟨_, rfl, ?_⟩⟩
    rw [can_all]
    have fin : ∀ (b : Bool), Kp399.canServe s (s.orders.map Order.area) = b → Kp399.step (some s) .canServeAll = (some s, Kp399.boolResult b) := fun b e => congrArg (fun z => (some s, z)) (congrArg Kp399.boolResult e)
    cases q2 : Kp399.canServe s (s.orders.map Order.area) with
    | true => exact iteT ⟨len1 _, fun r hr => fin_do k (t.same sA) (Same.but sA) hr (fin true q2) rfl⟩
    | false => exact iteF ⟨len1 _, fun r hr => fin_do k (t.same sA) (Same.but sA) hr (fin false q2) rfl⟩
theorem scDo17 : FnScope ["stock", "numbers", "lot", "area"] ["stock", "numbers"] (defScope (top 55)) := ⟨rfl, rfl, rfl, by decide +kernel, rfl, by decide +kernel, by decide +kernel⟩
theorem ok_do17 {C f : Addr} (D : Dn K mg "do_max_served_with_lot" ["stock", "numbers"] (top 55) f) (Z : Cs mg) (cIs : C8.Cal P w K mg base 1 "is_lot" (spLook C Kp399.isLot) []) (cLotArea : C8.Cal P w K mg base 1 "is_lot_area" (spNum Kp399.validLotArea) []) (cLot : C8.Cal P w K mg base 9 "served_with_lot" (spServedLot C) []) : C8.Cal P w K mg base 10 "do_max_served_with_lot" (spOp C 17) [] := by
  refine D.ok scDo17 (fun vs H Q E h => ?_) (fun cdv A outer s H vs Q E hr h => ?_)
  · obtain ⟨p, dx, la, lw, lc, na, s, ns, x, rfl, _⟩ := h
    rfl
  · obtain ⟨p, dx, la, lw, lc, na, s, ns, x, rfl, t, hN, hS, hl, hx, k⟩ := h
    obtain ⟨a, b, rfl, rfl⟩ := mk2 rfl (fun _ => rfl) (fun _ _ => rfl) (fun _ _ _ _ => rfl) hx
    refine ⟨_, pss_cons (ps_asg (pv 1) (pg_unl (by rfl) (pgs_cons (pg_name (i := 2) scDo17.nd rfl (.inl rfl)) (pgs_cons (pg_name (i := 3) scDo17.nd rfl (.inl rfl)) pgs_nil))))
      (pss_cons (ps_if (pt_not (pt_val (C8.pe_c cIs hr (by decide) rfl (pa_cons (pv 0) (pa_cons (pv 2) pa_nil))))) (pss_one (ps_ret (pe_lst (pa_cons (C8.pe_gc rfl Z.notThere) pa_nil)))) pss_nil)
      (pss_cons (ps_if (pt_not (pt_val (C8.pe_c cLotArea hr (by decide) rfl (pa_cons (pv 3) pa_nil)))) (pss_one (ps_ret (pe_lst (pa_cons (C8.pe_gc rfl Z.outOf) pa_nil)))) pss_nil)
      (pss_one (ps_ret (pe_lst (pa_cons (C8.pe_c cLot hr (by decide) rfl (pa_cons (pv 0) (pa_cons (pv 2) (pa_cons (pv 3) pa_nil)))) pa_nil)))))), ?_⟩
    refine ⟨_, rfl, na, _, rfl, SqL.of hN, rfl, _, _, rfl, _, _, rfl, rfl, ?_⟩
    refine ⟨_, rfl, _, rfl, p, dx, la, lw, lc, s, a, rfl, t, _, rfl, ?_⟩
    cases q : Kp399.isLot s a with
    | false => exact iteT ⟨len1 _, fun r hr => fin_do (ans := Kp399.single (-2)) k t (But.refl _ H) hr (congrArg (fun z => (some s, z)) (if_pos q)) rfl⟩
    | true =>
      have q' : ¬ Kp399.isLot s a = false := by rw [q]; decide
      refine iteF ⟨_, rfl, b, rfl, _, rfl, ?_⟩
      cases q2 : Kp399.validLotArea b with
      | false => exact iteT ⟨len1 _, fun r hr => fin_do (ans := Kp399.single (-22)) k t (But.refl _ H) hr (congrArg (fun z => (some s, z)) ((if_neg q').trans (if_neg (by rw [q2]; decide)))) rfl⟩
      | true =>
        refine iteF ⟨_, rfl, _, rfl, _, rfl, p, dx, la, lw, lc, s, a, b, rfl, t, lot_true q, fun H1 s1 => ⟨len1 _, fun r hr => ?_⟩⟩
        exact fin_do k (t.same s1) (Same.but s1) hr (congrArg (fun z => (some s, z)) ((if_neg q').trans (if_pos q2))) rfl
theorem scDo18 : FnScope ["stock", "numbers", "area", "lots"] ["stock", "numbers"] (defScope (top 56)) := ⟨rfl, rfl, rfl, by decide +kernel, rfl, by decide +kernel, by decide +kernel⟩
theorem acc_more (s : Stock) (a b : Nat) : VL ((acc s).map ci) ++ [V.int (b : Int)] = VL ((acc { s with orders := s.orders ++ [(⟨a, b⟩ : Order)] }).map ci) := by
  show _ = VL (((s.orders ++ [(⟨a, b⟩ : Order)]).map Order.lots).map ci)
  rw [List.map_append, List.map_append, vl_app]
  rfl
theorem wa_more (s : Stock) (a b : Nat) : VL (wa s) ++ [V.int (a : Int)] = VL (wa { s with orders := s.orders ++ [(⟨a, b⟩ : Order)] }) := by
  show _ = VL ((s.orders ++ [(⟨a, b⟩ : Order)]).map fun o : Order => ci o.area)
  rw [List.map_append, vl_app]
  rfl
theorem ok_do18 {C f : Addr} (D : Dn K mg "do_max_served_with_order" ["stock", "numbers"] (top 56) f) (Z : Cs mg) (T : TxS K mg C) (cMay : C8.Cal P w K mg base 4 "may_be_order" (spMay C) []) (cServed : C8.Cal P w K mg base 8 "max_served" (spServed K) []) : C8.Cal P w K mg base 10 "do_max_served_with_order" (spOp C 18) [] := by
  refine D.ok scDo18 (fun vs H Q E h => ?_) (fun cdv A outer s H vs Q E hr h => ?_)
  · obtain ⟨p, dx, la, lw, lc, na, s, ns, x, rfl, _⟩ := h
    rfl
  · obtain ⟨p, dx, la, lw, lc, na, s, ns, x, rfl, t, hN, hS, hl, hx, k⟩ := h
    obtain ⟨a, b, rfl, rfl⟩ := mk2 rfl (fun _ => rfl) (fun _ _ => rfl) (fun _ _ _ _ => rfl) hx
    refine ⟨_, pss_cons (ps_asg (pv 1) (pg_unl (by rfl) (pgs_cons (pg_name (i := 2) scDo18.nd rfl (.inl rfl)) (pgs_cons (pg_name (i := 3) scDo18.nd rfl (.inl rfl)) pgs_nil))))
      (pss_cons (ps_if (pt_not (pt_val (C8.pe_c cMay hr (by decide) rfl (pa_cons (pv 0) (pa_cons (pv 2) (pa_cons (pv 3) pa_nil)))))) (pss_one (ps_ret (pe_lst (pa_cons (C8.pe_gc rfl Z.outOf) pa_nil)))) pss_nil)
      (pss_one (ps_ret (pe_lst (pa_cons (C8.pe_c cServed hr (by decide) rfl (pa_cons (pe_fld (pv 0) rfl) (pa_cons (pe_op op_cat (pe_fld (pv 0) rfl) (pe_lst (pa_cons (pv 3) pa_nil))) (pa_cons (pe_op op_cat (pe_fld (pv 0) rfl) (pe_lst (pa_cons (pv 2) pa_nil))) pa_nil)))) pa_nil))))), ?_⟩
    refine ⟨_, rfl, na, _, rfl, SqL.of hN, rfl, _, _, rfl, _, _, rfl, rfl, ?_⟩
    refine ⟨_, rfl, _, rfl, _, rfl, p, dx, la, lw, lc, s, a, b, rfl, t, _, rfl, ?_⟩
    cases q : (Kp399.validOrderArea a && Kp399.validLotSet s b) with
    | false => exact iteT ⟨len1 _, fun r hr => fin_do (ans := Kp399.single (-22)) k t (But.refl _ H) hr (congrArg (fun z => (some s, z)) (if_neg (by rw [q]; decide))) rfl⟩
    | true =>
      have b2 := t.b2
      have z : 1000 < sizeLine := by decide
      refine iteF ⟨_, rfl, p, C, dx, _, _, rfl, t.ins, T.cl, T.nA, lks_areas, _, rfl, p, C, dx, _, _, rfl, t.ins, T.cl, T.nC, lks_accepts, _, rfl, len1 _, fun l1 hl1 => ?_⟩
      have s1 : Same H (upd H l1 (.lst [V.int (b : Int)])) := Same.new hl1
      have t1 := t.same s1
      refine ⟨lc, l1, _, _, rfl, rfl, t1.hC, upd_same, by rw [lc_len]; show _ + 1 ≤ sizeLine; omega, fun l2 hl2 => ?_⟩
      have hn2 := Same.new (o := .lst (VL ((acc s).map ci) ++ [V.int (b : Int)])) hl2
      have t2 := t1.same hn2
      refine ⟨_, rfl, p, C, dx, _, _, rfl, t2.ins, T.cl, T.nW, lks_wants, _, rfl, len1 _, fun l3 hl3 => ?_⟩
      have hn3 := Same.new (o := .lst [V.int (a : Int)]) hl3
      have t3 := t2.same hn3
      refine ⟨lw, l3, _, _, rfl, rfl, t3.hW, upd_same, by rw [lw_len]; show _ + 1 ≤ sizeLine; omega, fun l4 hl4 => ?_⟩
      have hn4 := Same.new (o := .lst (VL (wa s) ++ [V.int (a : Int)])) hl4
      have t4 := t3.same hn4
      have h2 := hn4 _ _ (hn3 _ _ (upd_same (H := upd H l1 (.lst [V.int (b : Int)])) (a := l2) (o := .lst (VL ((acc s).map ci) ++ [V.int (b : Int)]))))
      have h4 := upd_same (H := upd (upd (upd H l1 (.lst [V.int (b : Int)])) l2 (.lst (VL ((acc s).map ci) ++ [V.int (b : Int)]))) l3 (.lst [V.int (a : Int)])) (a := l4) (o := .lst (VL (wa s) ++ [V.int (a : Int)]))
      rw [acc_more s a b] at h2
      rw [wa_more s a b] at h4
      have lo : (s.orders ++ [(⟨a, b⟩ : Order)]).length ≤ 8 := by
        rw [List.length_append, List.length_singleton]
        omega
      refine ⟨la, l2, l4, ar s, acc { s with orders := s.orders ++ [(⟨a, b⟩ : Order)] }, wa { s with orders := s.orders ++ [(⟨a, b⟩ : Order)] }, rfl, ⟨SqL.of t4.hA, ?_, ?_, (t4.tri (K := K)).la, by rw [List.length_map]; exact lo, by rw [List.length_map]; exact lo⟩, fun H5 s5 => ?_⟩
      · rw [← acc_more s a b] at h2 ⊢
        exact SqL.of h2
      · rw [← wa_more s a b] at h4 ⊢
        exact SqL.of h4
      · refine ⟨len1 _, fun r hr2 => ?_⟩
        have sA : Same H H5 := Same.trans (Same.trans (Same.trans (Same.trans s1 hn2) hn3) hn4) s5
        refine fin_do (ans := Kp399.single (Kp399.maxServed { s with orders := s.orders ++ [(⟨a, b⟩ : Order)] } : Nat)) k (t.same sA) (Same.but sA) hr2 (congrArg (fun z => (some s, z)) (if_pos q)) ?_
        rw [single_eq, ← served_eq]
theorem scDo19 : FnScope ["stock", "numbers", "lot"] ["stock", "numbers"] (defScope (top 57)) := ⟨rfl, rfl, rfl, by decide +kernel, rfl, by decide +kernel, by decide +kernel⟩
theorem ok_do19 {C f : Addr} (D : Dn K mg "do_gain_of_lot" ["stock", "numbers"] (top 57) f) (Z : Cs mg) (T : TxS K mg C) (cIs : C8.Cal P w K mg base 1 "is_lot" (spLook C Kp399.isLot) []) (cLot : C8.Cal P w K mg base 9 "served_with_lot" (spServedLot C) []) (cBy : C8.Cal P w K mg base 9 "served_by" (spServedBy C) []) : C8.Cal P w K mg base 10 "do_gain_of_lot" (spOp C 19) [] := by
  refine D.ok scDo19 (fun vs H Q E h => ?_) (fun cdv A outer s H vs Q E hr h => ?_)
  · obtain ⟨p, dx, la, lw, lc, na, s, ns, x, rfl, _⟩ := h
    rfl
  · obtain ⟨p, dx, la, lw, lc, na, s, ns, x, rfl, t, hN, hS, hl, hx, k⟩ := h
    obtain ⟨a, rfl, rfl⟩ := mk1 rfl (fun _ => rfl) (fun _ _ _ => rfl) hx
    refine ⟨_, pss_cons (ps_set (i := 2) scDo19.nd rfl (Or.inl rfl) (pe_ix ix_list (pv 1) pe_int (fun _ _ => rfl)))
      (pss_cons (ps_if (pt_not (pt_val (C8.pe_c cIs hr (by decide) rfl (pa_cons (pv 0) (pa_cons (pv 2) pa_nil))))) (pss_one (ps_ret (pe_lst (pa_cons (C8.pe_gc rfl Z.notThere) pa_nil)))) pss_nil)
      (pss_one (ps_ret (pe_lst (pa_cons (pe_op op_sub (C8.pe_c cLot hr (by decide) rfl (pa_cons (pv 0) (pa_cons (pv 2) (pa_cons (pe_op op_add (pe_ix ix_list (pe_fld (pv 0) rfl) (pv 2) (fun _ _ => rfl)) pe_int) pa_nil)))) (C8.pe_c cBy hr (by decide) rfl (pa_cons (pv 0) pa_nil))) pa_nil))))), ?_⟩
    refine ⟨_, rfl, na, _, _, _, rfl, rfl, SqL.of hN, one_at a, _, rfl, _, rfl, p, dx, la, lw, lc, s, a, rfl, t, _, rfl, ?_⟩
    cases q : Kp399.isLot s a with
    | false => exact iteT ⟨len1 _, fun r hr => fin_do (ans := Kp399.single (-2)) k t (But.refl _ H) hr (congrArg (fun z => (some s, z)) (if_neg (by rw [q]; decide))) rfl⟩
    | true =>
      refine iteF ⟨_, rfl, _, rfl, _, rfl, p, C, dx, _, _, rfl, t.ins, T.cl, T.nA, lks_areas, _, rfl, la, _, _, _, rfl, rfl, SqL.of t.hA, ar_at (lot_true q), _, _, rfl, rfl, p, dx, la, lw, lc, s, a, s.lots.getD a 0 + 1, rfl, t, lot_true q, fun H1 s1 => ?_⟩
      have t1 := t.same s1
      refine ⟨_, rfl, p, dx, la, lw, lc, s, rfl, t1, fun H2 s2 => ⟨_, _, rfl, rfl, len1 _, fun r hr2 => ?_⟩⟩
      have sA := s1.trans s2
      refine fin_do (ans := Kp399.single (Kp399.maxServed (Kp399.withLot s a (s.lots.getD a 0 + 1)) - Kp399.maxServed s : Nat)) k (t.same sA) (Same.but sA) hr2 (congrArg (fun z => (some s, z)) (if_pos q)) ?_
      have m := served_mono s a (lot_true q)
      rw [single_eq]
      show [V.int (((Kp399.maxServed (Kp399.withLot s a (s.lots.getD a 0 + 1)) : Nat) : Int) - ((Kp399.maxServed s : Nat) : Int))] = _
      exact congrArg (fun z => [V.int z]) (by omega)
end
end Lc
namespace Lc
open PySem PySem.Spec PyProof.Rows L2
open Kp399 (Stock Order)
/-! ### the desk in the heap; S: what may change -/
def DeskAt (CD CS : Addr) (H : Hp) (d dd : Addr) (S : List Addr) : Kp399.State → Prop
  | none => S = [d] ∧ H d = some (.ins CD dd [("stock", .non)])
  | some s => ∃ p dx la lw lc : Addr, S = [d, la, lw, lc] ∧ H d = some (.ins CD dd [("stock", .ref p)]) ∧ StAt CS H p dx la lw lc s
theorem DeskAt.move {CD CS : Addr} {H H' : Hp} {d dd : Addr} {S : List Addr} {st : Kp399.State} (D : DeskAt CD CS H d dd S st) (h : ∀ b o, H b = some o → (b ∈ S ∨ ∃ C dx fs, o = .ins C dx fs) → H' b = some o) : DeskAt CD CS H' d dd S st := by
  cases st with
  | none =>
    obtain ⟨e, h1⟩ := D
    exact ⟨e, h _ _ h1 (.inr ⟨_, _, _, rfl⟩)⟩
  | some s =>
    obtain ⟨p, dx, la, lw, lc, e, h1, t⟩ := D
    subst e
    exact ⟨p, dx, la, lw, lc, rfl, h _ _ h1 (.inr ⟨_, _, _, rfl⟩), h _ _ t.ins (.inr ⟨_, _, _, rfl⟩), h _ _ t.hA (.inl (by simp)), h _ _ t.hW (.inl (by simp)), h _ _ t.hC (.inl (by simp)), t.n1, t.n2, t.n3, t.b1, t.b2⟩
theorem DeskAt.same {CD CS : Addr} {H H' : Hp} {d dd : Addr} {S : List Addr} {st : Kp399.State} (D : DeskAt CD CS H d dd S st) (s : Same H H') : DeskAt CD CS H' d dd S st := D.move fun b o e _ => s b o e
/-- a list outside is changed -/
theorem DeskAt.list {CD CS : Addr} {H : Hp} {d dd r : Addr} {S : List Addr} {st : Kp399.State} {xs : List V} {o : HO} (D : DeskAt CD CS H d dd S st) (hr : H r = some (.lst xs)) (hS : r ∉ S) : DeskAt CD CS (upd H r o) d dd S st := D.move fun b u e q => by
  have ne : b ≠ r := fun z => by
    subst z
    rcases q with q | ⟨C, dx, fs, rfl⟩
    · exact hS q
    · rw [hr] at e
      cases e
  rw [upd_ne ne]
  exact e
theorem lkd_stock {a : V} : List.lookup ("stock" : Str) ([("stock", a)] : List (Str × V)) = some a := by
  have e : (("stock" : Str) == ("stock" : Str)) = true := beq_self_eq_true _
  simp only [List.lookup, e]
theorem lkd_no {m : Str} {a : V} (h : (m == ("stock" : Str)) = false) : List.lookup m ([("stock", a)] : List (Str × V)) = none := by
  simp only [List.lookup, h]
structure TxD (K : PySem.W.Frag) (mg : Str → Option Value) (C : Addr) : Prop where
  cl : Cls K C
  nS : NoAttr K C "stock"
  gC : mg "Desk" = some (.ref C)
def spDeskInit (CD : Addr) : Sp := fun vs H Q _ => ∃ p dx : Addr, vs = [.ref p] ∧ H p = some (.ins CD dx []) ∧
  ∀ H' : Hp, H' p = some (.ins CD dx [("stock", .non)]) → (∀ b o, H b = some o → b ≠ p → H' b = some o) → Q .non H'
def spReplace (CD CS : Addr) : Sp := fun vs H Q _ => ∃ (d dd : Addr) (v : V), vs = [.ref d] ∧ H d = some (.ins CD dd [("stock", v)]) ∧
  ∀ (H' : Hp) (p dx la lw lc : Addr), H la = none → H lw = none → H lc = none → H' d = some (.ins CD dd [("stock", .ref p)]) → StAt CS H' p dx la lw lc ⟨[], []⟩ → (∀ b o, H b = some o → b ≠ d → H' b = some o) → Q .non H'
def spResult (CD CS : Addr) : Sp := fun vs H Q _ => ∃ (d dd na : Addr) (S : List Addr) (st : Kp399.State) (n : Nat) (ns : List Nat) (x : Kp399.Call), vs = [.ref d, .int (n : Int), .ref na] ∧ DeskAt CD CS H d dd S st ∧ H na = some (.lst (VL (ns.map ci))) ∧ na ∉ S ∧ ns.length ≤ 8 ∧ n < 22 ∧ mkCall n ns = some x ∧
  ∀ (H' : Hp) (r : Addr) (S' : List Addr), DeskAt CD CS H' d dd S' (Kp399.step st x).1 → But S H H' → (∀ b ∈ S', b ∈ S ∨ H b = none) → H r = none → r ∉ S' → H' r = some (.lst (VL (ansOf (Kp399.step st x).2))) → Q (.ref r) H'
def spArgs (K : PySem.W.Frag) : Sp := fun vs H Q _ => ∃ (a : Addr) (l : List Int) (k : Nat) (p : Int) (r t : List Int) (c : List (List Int)) (n : Nat) (ns : List Nat) (x : Kp399.Call), vs = [.ref a, .int (k : Int)] ∧ SqL K H a (VL l) ∧ l.drop k = p :: r ∧ Head p r c t n ns x ∧
  ∀ (H' : Hp) (q na : Addr) (k' : Nat), Same H H' → H na = none → H' na = some (.lst (VL (ns.map ci))) → H' q = some (.tup [.ref na, .int (k' : Int)]) → l.drop k' = t → k' ≤ l.length → k < k' → Q (.ref q) H'
def spAns (K : PySem.W.Frag) : Sp := fun vs H Q _ => ∃ (a : Addr) (l : List Int), vs = [.ref a] ∧ SqL K H a (VL l) ∧ PyKp399.answers_asked l = true ∧ ∀ (H' : Hp) (p : Addr), H' p = some (.lst (VL (PyKp399.answers l))) → Q (.ref p) H'
theorem create_zero {n : Nat} {ns : List Nat} (h : mkCall n ns = some .create) : n = 0 := by
  unfold mkCall at h
  split at h <;> first | rfl | cases h
theorem step_none {x : Kp399.Call} (h : x ≠ .create) : Kp399.step none x = (none, Kp399.single (-11)) := by
  cases x <;> first | rfl | exact absurd rfl h
section
variable {P : Program} {w : World} {K : PySem.W.Frag} {mg : Str → Option Value} {base : Heap}
abbrev sDk (j : Nat) : Stmt := inClass (top 72) j
theorem scDkInit : FnScope ["self"] ["self"] (defScope (sDk 0)) := ⟨rfl, rfl, rfl, by decide +kernel, rfl, by decide +kernel, by decide +kernel⟩
theorem ok_dkinit {C f : Addr} {fd : FuncData} (F : L2.Fun K "__init__" "Desk.__init__" (sDk 0) f fd) (T : TxD K mg C) : FnOk P w K mg base CX0 1 f fd ["self"] (spDeskInit C) := by
  refine F.ok scDkInit (fun vs H Q E h => ?_) (fun cdv A outer s H vs Q E hr h => ?_)
  · obtain ⟨p, dx, rfl, _⟩ := h
    rfl
  · obtain ⟨p, dx, rfl, hp, k⟩ := h
    refine ⟨_, pss_one (ps_fld (pv 0) pe_non rfl), ?_⟩
    refine ⟨_, rfl, p, C, dx, [], rfl, hp, T.cl, T.nS, (by show 0 < 1000; decide), ?_⟩
    exact k _ upd_same fun b o e hb => by
      rw [upd_ne hb]
      exact e
theorem scReplace : FnScope ["self"] ["self"] (defScope (sDk 1)) := ⟨rfl, rfl, rfl, by decide +kernel, rfl, by decide +kernel, by decide +kernel⟩
theorem put_one {a : Str} {x y : V} : putF a y [(a, x)] = [(a, y)] := if_pos rfl
theorem ok_replace {CD CS f fS : Addr} {fd fdS : FuncData} (F : L2.Fun K "replace_stock" "Desk.replace_stock" (sDk 1) f fd) (T : TxD K mg CD) (TS : TxS K mg CS) (M : Mk K CS fS) (FS : FnOk P w K mg base CX0 1 fS fdS ["self"] (spStInit CS)) (bS : Binds K fdS ["self"] []) : FnOk P w K mg base CX0 3 f fd ["self"] (spReplace CD CS) := by
  refine F.ok scReplace (fun vs H Q E h => ?_) (fun cdv A outer s H vs Q E hr h => ?_)
  · obtain ⟨d, dd, v, rfl, _⟩ := h
    rfl
  · obtain ⟨d, dd, v, rfl, hd, k⟩ := h
    refine ⟨_, pss_one (ps_fld (pv 0) (pe_make0 M FS hr rfl TS.gC bS .nil pass0) rfl), ?_⟩
    intro x dx nx ndx nex
    have sM : Same H (upd (upd H dx (.own x)) x (.ins CS dx [])) := fun b o e => by
      rw [upd_ne (ne_of_none e nx), upd_ne (ne_of_none e ndx)]
      exact e
    refine ⟨x, dx, rfl, upd_same, fun H1 la lw lc nA nW nC t kp => ⟨rfl, ?_⟩⟩
    have s1 : Same H H1 := Same.made nx ndx kp
    have hd1 := s1 _ _ hd
    refine ⟨_, rfl, d, CD, dd, _, rfl, hd1, T.cl, T.nS, (by show 1 < 1000; decide), ?_⟩
    have nd : ∀ b, H b = none → b ≠ d := fun b e z => by
      rw [z, hd] at e
      cases e
    have nA0 : H la = none := sM.free nA
    have nW0 : H lw = none := sM.free nW
    have nC0 : H lc = none := sM.free nC
    refine k _ x dx la lw lc nA0 nW0 nC0 ?_ ⟨?_, ?_, ?_, ?_, t.n1, t.n2, t.n3, t.b1, t.b2⟩ fun b o e hb => ?_
    · rw [upd_same, put_one]
    · rw [upd_ne (nd x nx)]
      exact t.ins
    · rw [upd_ne (nd la nA0)]
      exact t.hA
    · rw [upd_ne (nd lw nW0)]
      exact t.hW
    · rw [upd_ne (nd lc nC0)]
      exact t.hC
    · rw [upd_ne hb]
      exact s1 _ _ e
/-- the table of the operations -/
structure Ops (P : Program) (w : World) (K : PySem.W.Frag) (mg : Str → Option Value) (base : Heap) (CS : Addr) : Prop where
  ex : ∃ (a : Addr) (fs : List Addr), mg "OPERATIONS" = some (.ref a) ∧ (∀ H, SqT K H a (fs.map V.ref)) ∧ ∀ n, 1 ≤ n → n < 22 → ∃ f, fs[n - 1]? = some f ∧ Held P w K mg base 10 f (spOp CS n)
theorem scResult : FnScope ["desk", "number", "arguments", "operation"] ["desk", "number", "arguments"] (defScope (top 73)) := ⟨rfl, rfl, rfl, by decide +kernel, rfl, by decide +kernel, by decide +kernel⟩
theorem ok_result {CD CS f : Addr} (D : Dn K mg "result_of" ["desk", "number", "arguments"] (top 73) f) (Z : Cs mg) (T : TxD K mg CD) (O : Ops P w K mg base CS) (cRep : C8.Met P w K mg base 3 CD "replace_stock" (spReplace CD CS) []) : C8.Cal P w K mg base 11 "result_of" (spResult CD CS) [] := by
  refine D.ok scResult (fun vs H Q E h => ?_) (fun cdv A outer s H vs Q E hr h => ?_)
  · obtain ⟨d, dd, na, S, st, n, ns, x, rfl, _⟩ := h
    rfl
  · obtain ⟨d, dd, na, S, st, n, ns, x, rfl, DA, hN, hS, few, hn, hx, k⟩ := h
    obtain ⟨oa, fs, hO, hT, hH⟩ := O.ex
    have pick : ∃ (g : Addr) (SS : Addr → Option Sp), (∀ f sp, SS f = some sp → Held P w K mg base 10 f sp) ∧ (n ≠ 0 → fs[n - 1]? = some g ∧ SS g = some (spOp CS n)) := by
      by_cases z : n = 0
      · exact ⟨0, fun _ => none, (fun _ _ e => nomatch e), fun q => absurd z q⟩
      · obtain ⟨g, hg, hh⟩ := hH n (by omega) hn
        refine ⟨g, fun b => if b = g then some (spOp CS n) else none, fun f sp e => ?_, fun _ => ⟨hg, if_pos rfl⟩⟩
        by_cases y : f = g
        · simp only [if_pos y, Option.some.injEq] at e
          rw [y, ← e]
          exact hh
        · simp only [if_neg y] at e
          cases e
    obtain ⟨g, SS, hSS, hg⟩ := pick
    refine ⟨_, pss_cons (ps_if (pt_cmpR op_eq (pv 1) (C8.pe_gc rfl Z.create) (nomark _)) (pss_cons (ps_expr (C8.pe_mt0 cRep hr (by decide) (pv 0))) (pss_one (ps_ret (pe_lst (pa_cons pe_int pa_nil))))) pss_nil)
      (pss_cons (ps_if (pt_cmpR op_isN (pe_fld (pv 0) rfl) pe_non (nomark _)) (pss_one (ps_ret (pe_lst (pa_cons (C8.pe_gc rfl Z.noStock) pa_nil)))) pss_nil)
      (pss_cons (ps_set (i := 3) scResult.nd rfl (Or.inl rfl) (pe_ix (r := rIxT K) ix_tup (C8.pe_gc (v := .ref oa) rfl ⟨_, hO, rfl⟩) (pe_op op_sub (pv 1) pe_int) (fun _ _ => rfl)))
      (pss_one (ps_ret (pe_callA (i := 3) hSS hr rfl (.inl rfl) (pa_cons (pe_fld (pv 0) rfl) (pa_cons (pv 2) pa_nil))))))), ?_⟩
    refine ⟨_, rfl, rfl, _, rfl, ?_⟩
    show if decide (V.int (n : Int) = V.int ((0 : Nat) : Int)) = true then _ else _
    rw [dec_int]
    by_cases z : n = 0
    · subst z
      rw [decide_eq_true rfl]
      obtain ⟨rfl, rfl⟩ := mk0 rfl (fun _ _ => rfl) hx
      have hd : ∃ v, H d = some (.ins CD dd [("stock", v)]) ∧ d ∈ S := by
        cases st with
        | none => exact ⟨_, DA.2, by rw [DA.1]; exact List.mem_singleton.mpr rfl⟩
        | some s =>
          obtain ⟨p, dx, la, lw, lc, e, h1, _⟩ := DA
          exact ⟨_, h1, by rw [e]; exact List.mem_cons_self ..⟩
      obtain ⟨v, hd, hdS⟩ := hd
      refine iteT ⟨_, rfl, d, dd, _, rfl, hd, lkd_no (by decide +kernel), d, dd, v, rfl, hd, fun H1 p dx la lw lc nA nW nC hd1 t kp => ?_⟩
      refine ⟨len1 _, fun r hr2 => ?_⟩
      have hr0 : H r = none := by
        cases q : H r with
        | none => rfl
        | some o =>
          by_cases y : r = d
          · rw [y, hd1] at hr2
            cases hr2
          · rw [kp r o q y] at hr2
            cases hr2
      have es : Kp399.step st .create = (some ⟨[], []⟩, Kp399.single 0) := by cases st <;> rfl
      refine k _ r [d, la, lw, lc] ?_ (fun b o e hb => ?_) (fun b hb => ?_) hr0 ?_ ?_
      · rw [es]
        exact ⟨p, dx, la, lw, lc, rfl, (Same.new hr2) _ _ hd1, t.laid hr2⟩
      · rw [upd_ne (ne_of_none e hr0)]
        exact kp b o e fun y => hb (y ▸ hdS)
      · rcases List.mem_cons.mp hb with rfl | hb
        · exact .inl hdS
        · rcases List.mem_cons.mp hb with rfl | hb
          · exact .inr nA
          · rcases List.mem_cons.mp hb with rfl | hb
            · exact .inr nW
            · rcases List.mem_cons.mp hb with rfl | hb
              · exact .inr nC
              · cases hb
      · intro hb
        rcases List.mem_cons.mp hb with rfl | hb
        · rw [hd1] at hr2
          cases hr2
        · rcases List.mem_cons.mp hb with rfl | hb
          · rw [t.hA] at hr2
            cases hr2
          · rcases List.mem_cons.mp hb with rfl | hb
            · rw [t.hW] at hr2
              cases hr2
            · rcases List.mem_cons.mp hb with rfl | hb
              · rw [t.hC] at hr2
                cases hr2
              · cases hb
      · rw [upd_same, es]
        rfl
    · rw [decide_eq_false z]
      refine iteF ?_
      have nc : x ≠ .create := fun y => z (create_zero (y ▸ hx))
      cases st with
      | none =>
        obtain ⟨rfl, hd⟩ := DA
        refine ⟨_, rfl, d, CD, dd, _, _, rfl, hd, T.cl, T.nS, lkd_stock, rfl, _, rfl, ?_⟩
        refine iteT ⟨len1 _, fun r hr2 => ?_⟩
        refine k _ r [d] ?_ ((But.refl _ H).upd (.inr hr2)) (fun b hb => .inl hb) hr2 ?_ ?_
        · rw [step_none nc]
          exact ⟨rfl, (Same.new hr2) _ _ hd⟩
        · intro hb
          rw [List.mem_singleton.mp hb, hd] at hr2
          cases hr2
        · rw [upd_same, step_none nc]
          rfl
      | some s =>
        obtain ⟨p, dx, la, lw, lc, rfl, hd, t⟩ := DA
        obtain ⟨hg1, hg2⟩ := hg z
        refine ⟨_, rfl, d, CD, dd, _, _, rfl, hd, T.cl, T.nS, lkd_stock, rfl, _, rfl, ?_⟩
        refine iteF ?_
        have e1 : (n : Int) - 1 = ((n - 1 : Nat) : Int) := by omega
        have at1 : atI (fs.map V.ref) ((n : Int) - 1) = some (V.ref g) := by
          rw [e1]
          refine atI_nat ?_
          rw [List.getElem?_map, hg1]
          rfl
        refine ⟨_, rfl, _, _, rfl, rfl, oa, _, _, _, rfl, rfl, hT _, at1, ?_⟩
        have dA : d ≠ la := ne_of hd t.hA (by intro y; cases y)
        have dW : d ≠ lw := ne_of hd t.hW (by intro y; cases y)
        have dC : d ≠ lc := ne_of hd t.hC (by intro y; cases y)
        have dS : d ∉ [la, lw, lc] := by
          simp only [List.mem_cons, List.not_mem_nil, or_false, not_or]
          exact ⟨dA, dW, dC⟩
        refine ⟨g, _, rfl, hg2, _, rfl, d, CD, dd, _, _, rfl, hd, T.cl, T.nS, lkd_stock, _, rfl, p, dx, la, lw, lc, na, s, ns, x, rfl, t, hN, fun y => hS (List.mem_cons_of_mem _ y), few, hx, fun H1 r s' e t1 b1 nr hr2 => ?_⟩
        refine k H1 r [d, la, lw, lc] ?_ (fun b o q hb => b1 b o q fun y => hb (List.mem_cons_of_mem _ y)) (fun b hb => .inl hb) nr ?_ hr2
        · rw [e]
          exact ⟨p, dx, la, lw, lc, rfl, b1 _ _ hd dS, t1⟩
        · intro hb
          rcases List.mem_cons.mp hb with rfl | hb
          · rw [hd] at nr
            cases nr
          · rcases List.mem_cons.mp hb with rfl | hb
            · rw [t.hA] at nr
              cases nr
            · rcases List.mem_cons.mp hb with rfl | hb
              · rw [t.hW] at nr
                cases nr
              · rcases List.mem_cons.mp hb with rfl | hb
                · rw [t.hC] at nr
                  cases nr
                · cases hb
theorem scArgs : FnScope ["calls", "at", "begin", "many"] ["calls", "at"] (defScope (top 74)) := ⟨rfl, rfl, rfl, by decide +kernel, rfl, by decide +kernel, by decide +kernel⟩
theorem drop_at {l r : List Int} {k : Nat} {p : Int} (h : l.drop k = p :: r) : k < l.length ∧ l.getD k 0 = p ∧ l.drop (k + 1) = r := by
  have hk : k < l.length := by
    have e := congrArg List.length h
    rw [List.length_drop, List.length_cons] at e
    omega
  rw [List.drop_eq_getElem_cons hk] at h
  injection h with h1 h2
  refine ⟨hk, ?_, h2⟩
  rw [List.getD_eq_getElem?_getD, List.getElem?_eq_getElem hk]
  exact h1
theorem cut_vl {l u t : List Int} {b : Nat} (h : l.drop b = u ++ t) (hb : b ≤ l.length) : cutV (VL l) (some (b : Int)) (some ((b : Int) + ((u.length : Nat) : Int))) = VL u := by
  have e := congrArg List.length h
  rw [List.length_drop, List.length_append] at e
  have e2 : (b : Int) + ((u.length : Nat) : Int) = ((b + u.length : Nat) : Int) := by omega
  rw [e2]
  unfold cutV
  rw [HT.sIx_nat, HT.sIx_nat, vl_len, Nat.min_eq_left hb, Nat.min_eq_left (by omega), ← List.map_drop, h, ← List.map_take, Nat.add_sub_cancel_left, List.take_left]
theorem ok_args {f aA : Addr} (D : Dn K mg "arguments_at" ["calls", "at"] (top 74) f) (Z : Cs mg) (hA : mg "ARGUMENTS" = some (.ref aA)) (hT : ∀ H, SqT K H aA (VL (arity.map ci))) : C8.Cal P w K mg base 1 "arguments_at" (spArgs K) [] := by
  refine D.ok scArgs (fun vs H Q E h => ?_) (fun cdv A outer s H vs Q E hr h => ?_)
  · obtain ⟨a, l, j, p, r, t, c, n, ns, x, rfl, _⟩ := h
    rfl
  · obtain ⟨a, l, j, p, r, t, c, n, ns, x, rfl, hl, hd, hh, k⟩ := h
    refine ⟨_, pss_cons (ps_set (i := 2) scArgs.nd rfl (Or.inl rfl) (pe_op op_add (pv 1) pe_int))
      (pss_cons (ps_set (i := 3) scArgs.nd rfl (Or.inl rfl) (pe_ix (r := rIxT K) ix_tup (C8.pe_gc (v := .ref aA) rfl ⟨_, hA, rfl⟩) (pe_ix ix_list (pv 0) (pv 1) (fun _ _ => rfl)) (fun _ _ => rfl)))
      (pss_cons (ps_if (pt_cmpR op_eq (pe_ix ix_list (pv 0) (pv 1) (fun _ _ => rfl)) (C8.pe_gc rfl Z.canServe) (nomark _))
        (pss_cons (ps_set (i := 2) scArgs.nd rfl (Or.inl rfl) (pe_op op_add (pv 1) pe_int)) (pss_one (ps_set (i := 3) scArgs.nd rfl (Or.inl rfl) (pe_ix ix_list (pv 0) (pe_op op_add (pv 1) pe_int) (fun _ _ => rfl))))) pss_nil)
      (pss_one (ps_ret (pe_tup (pa_cons (pe_slice sl_list (pv 0) (po_some (pv 2)) (po_some (pe_op op_add (pv 2) (pv 3)))) (pa_cons (pe_op op_add (pv 2) (pv 3)) pa_nil))))))), ?_⟩
    obtain ⟨hj, hp, hr1⟩ := drop_at hd
    have at1 : atI (VL l) (j : Int) = some (V.int (n : Int)) := by
      rw [vl_atI hj, hp, hh.num]
    have at2 : atI (VL (arity.map ci)) (n : Int) = some (V.int ((arity.getD n 0 : Nat) : Int)) := cl_atI hh.lt
    have eb : (j : Int) + 1 = ((j + 1 : Nat) : Int) := by omega
    refine ⟨_, rfl, _, _, rfl, rfl, _, rfl, _, rfl, _, _, _, _, rfl, rfl, hl, at1, _, _, _, _, rfl, rfl, hT _, at2, ?_⟩
    refine ⟨_, rfl, _, rfl, _, _, _, _, rfl, rfl, hl, at1, rfl, _, rfl, ?_⟩
    show if decide (V.int (n : Int) = V.int ((12 : Nat) : Int)) = true then _ else _
    rw [dec_int]
    have fin : ∀ (b : Nat) (u : List Int) (Q : VK), l.drop b = u ++ t → b ≤ l.length → u = ns.map ci → j < b → (∀ (H' : Hp) (q na : Addr) (k' : Nat), Same H H' → H na = none → H' na = some (.lst (VL (ns.map ci))) → H' q = some (.tup [.ref na, .int (k' : Int)]) → l.drop k' = t → k' ≤ l.length → j < k' → Q (.ref q) H') →
        ∀ L, H L = none → ∀ q, upd H L (.lst (cutV (VL l) (some (b : Int)) (some ((b : Int) + ((u.length : Nat) : Int))))) q = none → Q (.ref q) (upd (upd H L (.lst (cutV (VL l) (some (b : Int)) (some ((b : Int) + ((u.length : Nat) : Int)))))) q (.tup [.ref L, .int ((b : Int) + ((u.length : Nat) : Int))])) := fun b u Q h1 h2 h3 h4 k L hL q hq => by
      rw [cut_vl h1 h2] at hq ⊢
      have e2 : (b : Int) + ((u.length : Nat) : Int) = ((b + u.length : Nat) : Int) := by omega
      have nq : L ≠ q := fun y => by
        rw [← y, upd_same] at hq
        cases hq
      have el := congrArg List.length h1
      rw [List.length_drop, List.length_append] at el
      refine k _ q L (b + u.length) (Same.trans (Same.new hL) (Same.new hq)) hL ?_ ?_ (drop_more u h1) (by omega) (by omega)
      · rw [upd_ne nq, upd_same, h3]
      · rw [upd_same, e2]
    rcases hh.form with ⟨n12, er, ea⟩ | ⟨n12, er⟩
    · rw [decide_eq_false n12]
      have ea2 : arity.getD n 0 = ns.length := by
        rw [List.getD_eq_getElem?_getD, ea]
        rfl
      rw [ea2]
      refine iteF ⟨_, rfl, _, rfl, _, rfl, _, rfl, _, rfl, _, _, rfl, rfl, _, rfl, _, _, rfl, hl, fun L hL => ⟨_, rfl, _, rfl, _, _, rfl, rfl, len2 _ _, ?_⟩⟩
      have q := fin (j + 1) (ns.map ci) Q (by rw [hr1, er]) (by omega) rfl (by omega) k L hL
      rw [← eb, List.length_map] at q
      exact q
    · rw [decide_eq_true n12]
      rw [er] at hr1
      obtain ⟨hj2, hp2, hr2⟩ := drop_at hr1
      have at3 : atI (VL l) ((j : Int) + 1) = some (V.int ((ns.length : Nat) : Int)) := by
        rw [eb, vl_atI hj2, hp2]
      refine iteT ⟨_, rfl, _, _, rfl, rfl, _, rfl, _, rfl, _, _, rfl, rfl, _, _, _, _, rfl, rfl, hl, at3, ?_⟩
      refine ⟨_, rfl, _, rfl, _, rfl, _, rfl, _, rfl, _, _, rfl, rfl, _, rfl, _, _, rfl, hl, fun L hL => ⟨_, rfl, _, rfl, _, _, rfl, rfl, len2 _ _, ?_⟩⟩
      have eb2 : (j : Int) + 2 = ((j + 2 : Nat) : Int) := by omega
      have q := fin (j + 2) (ns.map ci) Q hr2 (by omega) rfl (by omega) k L hL
      rw [← eb2, List.length_map] at q
      exact q
theorem scAns : FnScope ["calls", "desk", "found", "at", "arguments", "behind", "told"] ["calls"] (defScope (top 75)) := ⟨rfl, rfl, rfl, by decide +kernel, rfl, by decide +kernel, by decide +kernel⟩
theorem ok_ans {CD CS f fI : Addr} {fd fdI : FuncData} (F : L2.Fun K "answers" "answers" (top 75) f fd) (B : Bn mg) (T : TxD K mg CD) (M : Mk K CD fI) (FI : FnOk P w K mg base CX0 1 fI fdI ["self"] (spDeskInit CD)) (bI : Binds K fdI ["self"] [])
    (cArgs : C8.Cal P w K mg base 1 "arguments_at" (spArgs K) []) (cResult : C8.Cal P w K mg base 11 "result_of" (spResult CD CS) []) : FnOk P w K mg base CX0 12 f fd ["calls"] (spAns K) := by
  refine F.ok scAns (fun vs H Q E h => ?_) (fun cdv A outer s H vs Q E hr h => ?_)
  · obtain ⟨a, l, rfl, _⟩ := h
    rfl
  · obtain ⟨a, l, rfl, hl, hask, k⟩ := h
    refine ⟨_, pss_cons (ps_set (i := 1) scAns.nd rfl (Or.inl rfl) (pe_make0 M FI (hr.mono (by decide)) rfl T.gC bI .nil pass0))
      (pss_cons (ps_set (i := 2) scAns.nd rfl (Or.inl rfl) (pe_lst pa_nil))
      (pss_cons (ps_set (i := 3) scAns.nd rfl (Or.inl rfl) pe_int)
      (pss_cons (ps_while PassesOwn.never (pt_cmpR op_lt (pv 3) (pe_callB call_len_seq (by rfl) B.len PySem.boot_len (pa_cons (pv 0) pa_nil)) (nomark _))
        (pss_cons (ps_asg (C8.pe_c cArgs hr (by decide) rfl (pa_cons (pv 0) (pa_cons (pv 3) pa_nil))) (pg_tup (by rfl) (pgs_cons (pg_name (i := 4) scAns.nd rfl (.inl rfl)) (pgs_cons (pg_name (i := 5) scAns.nd rfl (.inl rfl)) pgs_nil))))
        (pss_cons (ps_set (i := 6) scAns.nd rfl (Or.inl rfl) (C8.pe_c cResult hr (by decide) rfl (pa_cons (pv 1) (pa_cons (pe_ix ix_list (pv 0) (pv 3) (fun _ _ => rfl)) (pa_cons (pv 4) pa_nil)))))
        (pss_cons (ps_expr (pe_bm PySem.F.plainAttrs_list PySem.F.slot_list_append PySem.F.type_list_append mt_append (pv 2) (pa_cons (pe_callB call_len_seq (by rfl) B.len PySem.boot_len (pa_cons (pv 6) pa_nil)) pa_nil)))
        (pss_cons (ps_expr (pe_bm PySem.F.plainAttrs_list PySem.F.slot_list_extend PySem.F.type_list_extend mt_extend (pv 2) (pa_cons (pv 6) pa_nil)))
        (pss_one (ps_set (i := 3) scAns.nd rfl (Or.inl rfl) (pv 5))))))))
      (pss_one (ps_ret (pv 2)))))), ?_⟩
    intro d dd nd ndd ne
    have sM : Same H (upd (upd H dd (.own d)) d (.ins CD dd [])) := fun b o e => by
      rw [upd_ne (ne_of_none e nd), upd_ne (ne_of_none e ndd)]
      exact e
    refine ⟨d, dd, rfl, upd_same, fun H1 hd kp => ⟨rfl, ?_⟩⟩
    have s1 : Same H H1 := Same.made nd ndd kp
    refine ⟨Nat.zero_le _, fun fl hfl => ?_⟩
    have hfl0 : H fl = none := s1.free hfl
    have nfl : fl ≠ d := fun y => by
      rw [y, hd] at hfl
      cases hfl
    refine ⟨fun m σ H' => ∃ (j : Nat) (st : Kp399.State) (out : List Int) (S : List Addr) (v u t : Option V), m = l.length - j ∧ σ = [some (.ref a), some (.ref d), some (.ref fl), some (.int (j : Int)), v, u, t] ∧ Same H H' ∧ DeskAt CD CS H' d dd S st ∧ (∀ b ∈ S, H b = none) ∧ fl ∉ S ∧ H' fl = some (.lst (VL out)) ∧ Left l j st out,
      ⟨_, 0, none, [], [d], none, none, none, rfl, rfl, Same.laid s1 hfl0, ⟨rfl, (Same.new hfl) _ _ hd⟩, fun b hb => by rw [List.mem_singleton.mp hb]; exact nd, fun y => nfl (List.mem_singleton.mp y), upd_same, left_start hask⟩, ?_⟩
    rintro m σ H2 ⟨j, st, out, S, v, u, t, rfl, rfl, s2, DA, hS, hflS, hout, L⟩
    refine ⟨_, rfl, _, rfl, a, _, rfl, .inl (s2.seq hl), _, _, rfl, rfl, _, rfl, ?_⟩
    rw [vl_len]
    have ed : decide ((j : Int) < ((l.length : Nat) : Int)) = decide (j < l.length) := decide_eq_decide.mpr Int.ofNat_lt
    show if decide ((j : Int) < ((l.length : Nat) : Int)) = true then _ else _
    rw [ed]
    by_cases z : j < l.length
    · rw [decide_eq_true z]
      obtain ⟨p, r, tt, c, n, ns, x, h0, hh, hgo, hsz⟩ := left_turn L z
      have hp : atI (VL l) (j : Int) = some (V.int (n : Int)) := by
        obtain ⟨q1, q2, _⟩ := drop_at h0
        rw [vl_atI q1, q2, hh.num]
      refine iteT ⟨fun σ' H' => ∃ (j' : Nat) (st : Kp399.State) (out : List Int) (S : List Addr) (v u t : Option V), j < j' ∧ σ' = [some (.ref a), some (.ref d), some (.ref fl), some (.int (j' : Int)), v, u, t] ∧ Same H H' ∧ DeskAt CD CS H' d dd S st ∧ (∀ b ∈ S, H b = none) ∧ fl ∉ S ∧ H' fl = some (.lst (VL out)) ∧ Left l j' st out, ?_, ?_⟩
      · rintro σ' H' ⟨j', st', out', S', v', u', t', hj, e1, e2, e3, e4, e5, e6, e7⟩
        exact ⟨l.length - j', by omega, j', st', out', S', v', u', t', rfl, e1, e2, e3, e4, e5, e6, e7⟩
      · refine ⟨_, rfl, _, rfl, a, l, j, p, r, tt, c, n, ns, x, rfl, s2.seq hl, h0, hh, fun H3 q na j' s3 nna hna hq hdr hle hlt => ?_⟩
        have DA3 := DA.same s3
        have hnaS : na ∉ S := fun y => by
          cases st with
          | none =>
            obtain ⟨rfl, h1⟩ := DA
            rw [List.mem_singleton.mp y, h1] at nna
            cases nna
          | some s =>
            obtain ⟨p, dx, la, lw, lc, rfl, h1, t⟩ := DA
            rcases List.mem_cons.mp y with rfl | y
            · rw [h1] at nna
              cases nna
            · rcases List.mem_cons.mp y with rfl | y
              · rw [t.hA] at nna
                cases nna
              · rcases List.mem_cons.mp y with rfl | y
                · rw [t.hW] at nna
                  cases nna
                · rcases List.mem_cons.mp y with rfl | y
                  · rw [t.hC] at nna
                    cases nna
                  · cases y
        refine ⟨q, _, rfl, SqT.of hq, rfl, _, _, rfl, _, _, rfl, rfl, ?_⟩
        have s23 := s2.trans s3
        refine ⟨_, rfl, _, rfl, _, rfl, _, _, _, _, rfl, rfl, s23.seq hl, hp, _, rfl, d, dd, na, S, st, n, ns, x, rfl, DA3, hna, hnaS, hh.few, hh.lt, hh.isCall, fun H4 r4 S' DA4 b4 hS' nr4 hr4S hr4 => ?_⟩
        have s4 : Same H H4 := But.same s23 b4 hS
        have hout3 := s3 _ _ hout
        have hout4 : H4 fl = some (.lst (VL out)) := b4 _ _ hout3 hflS
        have hflS' : fl ∉ S' := fun y => by
          rcases hS' fl y with y | y
          · exact hflS y
          · rw [hout3] at y
            cases y
        have hSn : ∀ b ∈ S', H b = none := fun b hb => by
          rcases hS' b hb with y | y
          · exact hS b y
          · exact s23.free y
        have nfr : fl ≠ r4 := ne_of_none hout3 nr4
        have zl : 10000000 < sizeLine := by decide
        have la : (VL (ansOf (Kp399.step st x).2)).length = (Kp399.step st x).2.nums.length + 1 := by
          rw [vl_len]
          rfl
        refine ⟨_, rfl, .inl ⟨rfl, _, SqL.of hout4⟩, _, rfl, r4, _, rfl, .inl (SqL.of hr4), fl, _, _, rfl, rfl, hout4, ?_, ?_⟩
        · rw [vl_len]
          omega
        · have DA5 : DeskAt CD CS (upd H4 fl (.lst (VL out ++ [.int (((VL (ansOf (Kp399.step st x).2)).length : Nat) : Int)]))) d dd S' (Kp399.step st x).1 := DA4.list hout4 hflS'
          have hr5 : upd H4 fl (.lst (VL out ++ [.int (((VL (ansOf (Kp399.step st x).2)).length : Nat) : Int)])) r4 = some (.lst (VL (ansOf (Kp399.step st x).2))) := by
            rw [upd_ne nfr.symm]
            exact hr4
          refine ⟨_, rfl, .inl ⟨rfl, _, SqL.of upd_same⟩, _, rfl, fl, r4, _, _, rfl, rfl, upd_same, hr5, ?_, ?_⟩
          · rw [List.length_append, List.length_singleton, la, vl_len]
            omega
          · refine ⟨_, rfl, j', (Kp399.step st x).1, _, S', _, _, _, hlt, rfl, ?_, DA5.list upd_same hflS', hSn, hflS', ?_, hgo j' hdr hle⟩
            · exact Same.laid (Same.laid s4 hfl0) hfl0
            · rw [upd_same, la, vl_app]
              refine congrArg (fun z => some (HO.lst z)) ?_
              rw [List.append_assoc]
              rfl
    · rw [decide_eq_false z]
      refine iteF ⟨_, rfl, ?_⟩
      rw [left_end L (by omega)] at hout
      exact k H2 fl hout
end
end Lc
namespace Lc
open PySem PySem.Spec PyProof.Rows L2
open Kp399 (Stock Order)
/-! ### what the top has left -/
structure DnK (K : PySem.W.Frag) (x : Str) (st : Stmt) (f : Addr) : Prop where
  ns : PySem.W.nsIn K mainGlobals x = some (some (.ref f))
  fn : ∃ fd : FuncData, L2.Fun K x x st f fd
theorem dnk_mk {K : PySem.W.Frag} {x : Str} {st : Stmt} {f : Addr} {oc : Value} {od an : Option Addr} {osl : Array (Option Value)} {kV dc pm cdv ct : Value} (a : PySem.W.nsIn K mainGlobals x = some (some (.ref f)))
    (l : K.lookup f = some ⟨oc, od, .func (PySem.W.fnOf x x (defArgs st) (defBody st) (defScope st) .none kV dc pm an cdv ct), osl⟩) (c : PySem.W.codeIn K cdv x = true) (k : PySem.W.keepIn K (.ref f) = true) : DnK K x st f := ⟨a, _, fun_mk l c k⟩
theorem DnK.dn {K : PySem.W.Frag} {h : Heap} {mg : Str → Option Value} {x : Str} {st : Stmt} {f : Addr} {ps : List Str} (d : DnK K x st f) (X : K.In h) (G : h.Ns mainGlobals mg)
    (b : ∀ (kV doc pm : Value) (an : Option Addr) (cdv ct : Value) (us : List Value), us.length = ps.length → bindArgs (PySem.W.fnOf x x (defArgs st) (defBody st) (defScope st) .none kV doc pm an cdv ct) ⟨us, []⟩ = pure (ps.zip us)) : Dn K mg x ps st f := by
  obtain ⟨fd, F⟩ := d.fn
  exact ⟨fd, F, PySem.W.mg_of X G d.ns, F.binds b⟩
structure MeK (K : PySem.W.Frag) (C : Addr) (x qual : Str) (st : Stmt) (f : Addr) : Prop where
  at_ : PySem.W.findIn K (.ref C) x = some (some (.ref f))
  fi : PySem.W.isFn K (.ref f) = true
  fn : ∃ fd : FuncData, L2.Fun K x qual st f fd
theorem mek_mk {K : PySem.W.Frag} {C : Addr} {x qual : Str} {st : Stmt} {f : Addr} {oc : Value} {od an : Option Addr} {osl : Array (Option Value)} {kV dc pm cdv ct : Value} (a : PySem.W.findIn K (.ref C) x = some (some (.ref f))) (i : PySem.W.isFn K (.ref f) = true)
    (l : K.lookup f = some ⟨oc, od, .func (PySem.W.fnOf x qual (defArgs st) (defBody st) (defScope st) .none kV dc pm an cdv ct), osl⟩) (c : PySem.W.codeIn K cdv qual = true) (k : PySem.W.keepIn K (.ref f) = true) : MeK K C x qual st f := ⟨a, i, _, fun_mk l c k⟩
structure ClK (K : PySem.W.Frag) (x : Str) (C : Addr) : Prop where
  ns : PySem.W.nsIn K mainGlobals x = some (some (.ref C))
  cl : Cls K C
  mks : PySem.W.makesIn K C = true
  kc : PySem.W.keepIn K (.ref C) = true
theorem clk_mk {K : PySem.W.Frag} {x : Str} {C : Addr} (a : PySem.W.nsIn K mainGlobals x = some (some (.ref C))) (pg : PySem.W.plainGet K C Str.empty = true) (hd : PySem.W.hasDictIn K C = true) (po : PySem.W.plainOver K C = true)
    (sa : PySem.W.findIn K (.ref C) "__setattr__" = some (some (.builtin "object.__setattr__"))) (mk : PySem.W.makesIn K C = true) (kc : PySem.W.keepIn K (.ref C) = true) : ClK K x C := ⟨a, ⟨pg, hd, po, sa⟩, mk, kc⟩
theorem met_mk {P : Program} {w : World} {K : PySem.W.Frag} {mg : Str → Option Value} {base : Heap} {C : Addr} {x qual : Str} {st : Stmt} {f : Addr} {ps : List Str} {k : Nat} {sp : Sp} (c : Cls K C) (m : MeK K C x qual st f)
    (b : ∀ (kV doc pm : Value) (an : Option Addr) (cdv ct : Value) (us : List Value), us.length = ps.length → bindArgs (PySem.W.fnOf x qual (defArgs st) (defBody st) (defScope st) .none kV doc pm an cdv ct) ⟨us, []⟩ = pure (ps.zip us))
    (ok : ∀ fd, L2.Fun K x qual st f fd → FnOk P w K mg base CX0 k f fd ps sp) : C8.Met P w K mg base k C x sp [] := by
  obtain ⟨fd, F⟩ := m.fn
  exact ⟨f, fd, ps, [], c, ⟨m.at_, m.fi, F.kp⟩, ok fd F, F.binds b, .nil⟩
theorem held_of {P : Program} {w : World} {K : PySem.W.Frag} {h : Heap} {mg : Str → Option Value} {base : Heap} {x : Str} {st : Stmt} {f : Addr} {k : Nat} {sp : Sp} (X : K.In h) (G : h.Ns mainGlobals mg) (d : DnK K x st f) (c : C8.Cal P w K mg base k x sp []) : Held P w K mg base k f sp := by
  obtain ⟨g, fd, ps, ds, ok, hm, kp, b, v⟩ := c.ex
  have e := (PySem.W.mg_of X G d.ns).symm.trans hm
  cases e
  cases v
  exact ⟨fd, ps, ok, kp, b⟩
theorem kn_of {K : PySem.W.Frag} {h : Heap} {mg : Str → Option Value} {x : Str} {i : Int} {t : Tok} (X : K.In h) (G : h.Ns mainGlobals mg) (e : PySem.W.nsIn K mainGlobals x = some (some (.int i t))) : Kn mg x (.int i) := ⟨_, PySem.W.mg_of X G e, t, rfl⟩

theorem all_mk {P : Program} {w : World} {K : PySem.W.Frag} {h : Heap} {mg : Str → Option Value} {fa CC CS CD fA aA aO : Addr} (X : K.In h) (G : h.Ns mainGlobals mg) (hfa : mg "answers" = some (.ref fa))
    {f12 f13 f14 f15 f17 f18 f19 f20 f21 f22 f23 f24 f25 f26 f28 f29 f31 f32 f33 f36 f37 f38 f39 f40 f41 f42 f44 f45 f46 f47 f48 f49 f50 f51 f52 f53 f54 f55 f56 f57 f59 f60 f61 f62 f63 f64 f65 f66 f67 f68 f73 f74 : Addr}
    {mC0 mC1 mS0 mS1 mS2 mS3 mS4 mS5 mD0 mD1 : Addr}
    {od an odA odO : Option Addr} {sl slA slO : Array (Option Value)} {oc kV dc pm cd ct : Value} {nA nO : Nat} {u0 u1 u2 u3 u4 u5 u6 u7 u8 u9 u10 t0 t1 t2 t3 t4 t5 t6 t7 t8 t9 t10 t11 t12 t13 t14 t15 t16 t17 t18 t19 t20 t21 : Tok}
    (d12 : DnK K "has" (top 12) f12)
    (d13 : DnK K "set_count" (top 13) f13)
    (d14 : DnK K "is_set_of" (top 14) f14)
    (d15 : DnK K "members" (top 15) f15)
    (d17 : DnK K "joint_lots" (top 17) f17)
    (d18 : DnK K "available" (top 18) f18)
    (d19 : DnK K "total_of" (top 19) f19)
    (d20 : DnK K "slack" (top 20) f20)
    (d21 : DnK K "can_serve" (top 21) f21)
    (d22 : DnK K "shortage_of" (top 22) f22)
    (d23 : DnK K "worst_set" (top 23) f23)
    (d24 : DnK K "max_served" (top 24) f24)
    (d25 : DnK K "with_lot_area" (top 25) f25)
    (d26 : DnK K "is_touched" (top 26) f26)
    (d28 : DnK K "priority_amount" (top 28) f28)
    (d29 : DnK K "priority_amounts" (top 29) f29)
    (d31 : DnK K "greatest_cut" (top 31) f31)
    (d32 : DnK K "cut_order" (top 32) f32)
    (d33 : DnK K "priority_cuts" (top 33) f33)
    (d36 : DnK K "is_lot" (top 36) f36)
    (d37 : DnK K "is_order" (top 37) f37)
    (d38 : DnK K "is_lot_area" (top 38) f38)
    (d39 : DnK K "is_wanted_area" (top 39) f39)
    (d40 : DnK K "are_lots" (top 40) f40)
    (d41 : DnK K "are_orders" (top 41) f41)
    (d42 : DnK K "may_be_order" (top 42) f42)
    (d44 : DnK K "served_by" (top 44) f44)
    (d45 : DnK K "served_with_lot" (top 45) f45)
    (d46 : DnK K "do_max_served" (top 46) f46)
    (d47 : DnK K "do_worst_set" (top 47) f47)
    (d48 : DnK K "do_shortage" (top 48) f48)
    (d49 : DnK K "are_amounts" (top 49) f49)
    (d50 : DnK K "do_can_serve" (top 50) f50)
    (d51 : DnK K "do_priority_amounts" (top 51) f51)
    (d52 : DnK K "do_cut_plan" (top 52) f52)
    (d53 : DnK K "do_leftovers" (top 53) f53)
    (d54 : DnK K "do_can_serve_all" (top 54) f54)
    (d55 : DnK K "do_max_served_with_lot" (top 55) f55)
    (d56 : DnK K "do_max_served_with_order" (top 56) f56)
    (d57 : DnK K "do_gain_of_lot" (top 57) f57)
    (d59 : DnK K "do_add_lot" (top 59) f59)
    (d60 : DnK K "do_add_order" (top 60) f60)
    (d61 : DnK K "do_remove_order" (top 61) f61)
    (d62 : DnK K "do_get_order" (top 62) f62)
    (d63 : DnK K "do_get_lot" (top 63) f63)
    (d64 : DnK K "do_set_lot_area" (top 64) f64)
    (d65 : DnK K "do_set_accepted_lots" (top 65) f65)
    (d66 : DnK K "do_set_order_area" (top 66) f66)
    (d67 : DnK K "do_swap_priorities" (top 67) f67)
    (d68 : DnK K "do_status" (top 68) f68)
    (d73 : DnK K "result_of" (top 73) f73)
    (d74 : DnK K "arguments_at" (top 74) f74)
    (cC : ClK K "Cutting" CC) (nC0 : PySem.W.findIn K (.ref CC) "left" = some none) (nC1 : PySem.W.findIn K (.ref CC) "rests" = some none)
    (eC0 : MeK K CC "__init__" "Cutting.__init__" (inClass (top 30) 0) mC0)
    (eC1 : MeK K CC "cut" "Cutting.cut" (inClass (top 30) 1) mC1)
    (cS : ClK K "Stock" CS) (nS0 : PySem.W.findIn K (.ref CS) "areas" = some none) (nS1 : PySem.W.findIn K (.ref CS) "wants" = some none) (nS2 : PySem.W.findIn K (.ref CS) "accepts" = some none)
    (eS0 : MeK K CS "__init__" "Stock.__init__" (inClass (top 35) 0) mS0)
    (eS1 : MeK K CS "add_lot" "Stock.add_lot" (inClass (top 35) 1) mS1)
    (eS2 : MeK K CS "set_lot" "Stock.set_lot" (inClass (top 35) 2) mS2)
    (eS3 : MeK K CS "add_order" "Stock.add_order" (inClass (top 35) 3) mS3)
    (eS4 : MeK K CS "set_order" "Stock.set_order" (inClass (top 35) 4) mS4)
    (eS5 : MeK K CS "drop_order" "Stock.drop_order" (inClass (top 35) 5) mS5)
    (cD : ClK K "Desk" CD) (nD0 : PySem.W.findIn K (.ref CD) "stock" = some none)
    (eD0 : MeK K CD "__init__" "Desk.__init__" (inClass (top 72) 0) mD0)
    (eD1 : MeK K CD "replace_stock" "Desk.replace_stock" (inClass (top 72) 1) mD1)
    (k0 : PySem.W.nsIn K mainGlobals "NO_STOCK" = some (some (.int (-11) u0)))
    (k1 : PySem.W.nsIn K mainGlobals "NOT_THERE" = some (some (.int (-2) u1)))
    (k2 : PySem.W.nsIn K mainGlobals "OUT_OF_LIMITS" = some (some (.int (-22) u2)))
    (k3 : PySem.W.nsIn K mainGlobals "FULL" = some (some (.int (-28) u3)))
    (k4 : PySem.W.nsIn K mainGlobals "MOST_LOTS" = some (some (.int 6 u4)))
    (k5 : PySem.W.nsIn K mainGlobals "MOST_ORDERS" = some (some (.int 6 u5)))
    (k6 : PySem.W.nsIn K mainGlobals "MOST_AREA" = some (some (.int 40 u6)))
    (k7 : PySem.W.nsIn K mainGlobals "LEAST_WANTED" = some (some (.int 1 u7)))
    (k8 : PySem.W.nsIn K mainGlobals "MOST_AMOUNT" = some (some (.int 99 u8)))
    (k9 : PySem.W.nsIn K mainGlobals "CREATE" = some (some (.int 0 u9)))
    (k10 : PySem.W.nsIn K mainGlobals "CAN_SERVE" = some (some (.int 12 u10)))
    (z_range : PySem.W.nsIn K mainGlobals "range" = some none)
    (z_len : PySem.W.nsIn K mainGlobals "len" = some none)
    (z_sum : PySem.W.nsIn K mainGlobals "sum" = some none)
    (z_max : PySem.W.nsIn K mainGlobals "max" = some none)
    (z_min : PySem.W.nsIn K mainGlobals "min" = some none)
    (z_all : PySem.W.nsIn K mainGlobals "all" = some none)
    (z_list : PySem.W.nsIn K mainGlobals "list" = some none)
    (aA1 : PySem.W.nsIn K mainGlobals "ARGUMENTS" = some (some (.ref aA))) (aA2 : K.lookup aA = some ⟨.type "tuple", odA, .seq #[.int 0 t0, .int 1 t1, .int 2 t2, .int 1 t3, .int 1 t4, .int 1 t5, .int 2 t6, .int 2 t7, .int 2 t8, .int 0 t9, .int 0 t10, .int 1 t11, .int 0 t12, .int 0 t13, .int 0 t14, .int 0 t15, .int 0 t16, .int 2 t17, .int 2 t18, .int 1 t19, .int 2 t20, .int 0 t21] nA, slA⟩)
    (aO1 : PySem.W.nsIn K mainGlobals "OPERATIONS" = some (some (.ref aO))) (aO2 : K.lookup aO = some ⟨.type "tuple", odO, .seq #[.ref f59, .ref f60, .ref f61, .ref f62, .ref f63, .ref f64, .ref f65, .ref f66, .ref f46, .ref f47, .ref f48, .ref f50, .ref f51, .ref f52, .ref f53, .ref f54, .ref f55, .ref f56, .ref f57, .ref f67, .ref f68] nO, slO⟩)
    (a75 : PySem.W.nsIn K mainGlobals "answers" = some (some (.ref fA))) (l75 : K.lookup fA = some ⟨oc, od, .func (PySem.W.fnOf "answers" "answers" (defArgs (top 75)) (defBody (top 75)) (defScope (top 75)) .none kV dc pm an cd ct), sl⟩) (c75 : PySem.W.codeIn K cd "answers" = true) (k75 : PySem.W.keepIn K (.ref fA) = true) :
    ∃ fd : FuncData, (∀ (s : Shared) (us : List Value), us.length = (["calls"] : List Str).length → BindsTo s fd ⟨us, []⟩ ((["calls"] : List Str).zip us)) ∧ ∀ base : Heap, K.In base → base.Ns mainGlobals mg → FnOk P w K mg base CX0 12 fa fd ["calls"] (spAns K) := by
  have e := hfa.symm.trans (PySem.W.mg_of X G a75)
  cases e
  have FA := fun_mk (st := top 75) l75 c75 k75
  refine ⟨PySem.W.fnOf "answers" "answers" (defArgs (top 75)) (defBody (top 75)) (defScope (top 75)) .none kV dc pm an cd ct, fun s us hu => match us, hu with | [_], _ => .of_eq rfl, fun base _ _ => ?_⟩
  have B : Bn mg := ⟨PySem.W.mg_none_of X G z_range, PySem.W.mg_none_of X G z_len, PySem.W.mg_none_of X G z_sum, PySem.W.mg_none_of X G z_max, PySem.W.mg_none_of X G z_min, PySem.W.mg_none_of X G z_all, PySem.W.mg_none_of X G z_list⟩
  have Z : Cs mg := ⟨kn_of X G k0, kn_of X G k1, kn_of X G k2, kn_of X G k3, kn_of X G k4, kn_of X G k5, kn_of X G k6, kn_of X G k7, kn_of X G k8, kn_of X G k9, kn_of X G k10⟩
  have TC : TxC K mg CC := ⟨cC.cl, nC0, nC1, PySem.W.mg_of X G cC.ns⟩
  have TS : TxS K mg CS := ⟨cS.cl, nS0, nS1, nS2, PySem.W.mg_of X G cS.ns⟩
  have TD : TxD K mg CD := ⟨cD.cl, nD0, PySem.W.mg_of X G cD.ns⟩
  have q12 := ok_has (P := P) (w := w) (base := base) (d12.dn (ps := ["mask", "element"]) X G (fun _ _ _ _ _ _ us hl => match us, hl with | [_, _], _ => rfl)) 
  have q13 := ok_count (P := P) (w := w) (base := base) (d13.dn (ps := ["many"]) X G (fun _ _ _ _ _ _ us hl => match us, hl with | [_], _ => rfl)) 
  have q14 := ok_setof (P := P) (w := w) (base := base) (d14.dn (ps := ["mask", "many"]) X G (fun _ _ _ _ _ _ us hl => match us, hl with | [_, _], _ => rfl)) q13
  have q15 := ok_mem (P := P) (w := w) (base := base) (d15.dn (ps := ["mask", "many"]) X G (fun _ _ _ _ _ _ us hl => match us, hl with | [_, _], _ => rfl)) B q12
  have q17 := ok_joint (P := P) (w := w) (base := base) (d17.dn (ps := ["accepts", "orders"]) X G (fun _ _ _ _ _ _ us hl => match us, hl with | [_, _], _ => rfl)) B q15
  have q18 := ok_avail (P := P) (w := w) (base := base) (d18.dn (ps := ["areas", "accepts", "orders"]) X G (fun _ _ _ _ _ _ us hl => match us, hl with | [_, _, _], _ => rfl)) B q15 q17
  have q19 := ok_total (P := P) (w := w) (base := base) (d19.dn (ps := ["amounts", "orders"]) X G (fun _ _ _ _ _ _ us hl => match us, hl with | [_, _], _ => rfl)) B q15
  have q20 := ok_slack (P := P) (w := w) (base := base) (d20.dn (ps := ["areas", "accepts", "amounts", "orders"]) X G (fun _ _ _ _ _ _ us hl => match us, hl with | [_, _, _, _], _ => rfl)) q18 q19
  have q21 := ok_can (P := P) (w := w) (base := base) (d21.dn (ps := ["areas", "accepts", "amounts"]) X G (fun _ _ _ _ _ _ us hl => match us, hl with | [_, _, _], _ => rfl)) B q13 q20
  have q22 := ok_short (P := P) (w := w) (base := base) (d22.dn (ps := ["areas", "accepts", "wants", "orders"]) X G (fun _ _ _ _ _ _ us hl => match us, hl with | [_, _, _, _], _ => rfl)) B q20
  have q23 := ok_worst (P := P) (w := w) (base := base) (d23.dn (ps := ["areas", "accepts", "wants"]) X G (fun _ _ _ _ _ _ us hl => match us, hl with | [_, _, _], _ => rfl)) B q13 q22
  have q24 := ok_served (P := P) (w := w) (base := base) (d24.dn (ps := ["areas", "accepts", "wants"]) X G (fun _ _ _ _ _ _ us hl => match us, hl with | [_, _, _], _ => rfl)) B q23
  have q25 := ok_with (P := P) (w := w) (base := base) (d25.dn (ps := ["areas", "lot", "area"]) X G (fun _ _ _ _ _ _ us hl => match us, hl with | [_, _, _], _ => rfl)) B
  have q26 := ok_touch (P := P) (w := w) (base := base) (d26.dn (ps := ["accepts", "orders", "order", "lot"]) X G (fun _ _ _ _ _ _ us hl => match us, hl with | [_, _, _, _], _ => rfl)) q12 q17
  have q28 := ok_prio1 (P := P) (w := w) (base := base) (d28.dn (ps := ["areas", "accepts", "amounts", "order", "want"]) X G (fun _ _ _ _ _ _ us hl => match us, hl with | [_, _, _, _, _], _ => rfl)) B q12 q13 q20
  have q29 := ok_prios (P := P) (w := w) (base := base) (d29.dn (ps := ["areas", "accepts", "wants"]) X G (fun _ _ _ _ _ _ us hl => match us, hl with | [_, _, _], _ => rfl)) B q28
  have gC1 := met_mk (P := P) (w := w) (mg := mg) (base := base) (ps := ["self", "order", "lot", "amount"]) cC.cl eC1 (fun _ _ _ _ _ _ us hl => match us, hl with | [_, _, _, _], _ => rfl) fun _ F => ok_cutcut F TC
  have q31 := ok_greatest (P := P) (w := w) (base := base) (d31.dn (ps := ["cutting", "accepts", "order", "lot"]) X G (fun _ _ _ _ _ _ us hl => match us, hl with | [_, _, _, _], _ => rfl)) B TC q12 q13 q26 q20
  have q32 := ok_row (P := P) (w := w) (base := base) (d32.dn (ps := ["cutting", "accepts", "order"]) X G (fun _ _ _ _ _ _ us hl => match us, hl with | [_, _, _], _ => rfl)) B TC q31 gC1
  obtain ⟨fdC, FC⟩ := eC0.fn
  have bC := FC.binds (ps := ["self", "areas", "amounts"]) (fun _ _ _ _ _ _ us hl => match us, hl with | [_, _, _], _ => rfl)
  have kC : C8.Mak P w K mg base 1 "Cutting" CC (spCutInit K CC) [] := ⟨mC0, fdC, _, [], ⟨cC.mks, eC0.at_, eC0.fi, cC.kc⟩, ok_cutinit FC TC B, PySem.W.mg_of X G cC.ns, bC, .nil⟩
  have q33 := ok_plan (P := P) (w := w) (base := base) (d33.dn (ps := ["areas", "accepts", "wants"]) X G (fun _ _ _ _ _ _ us hl => match us, hl with | [_, _, _], _ => rfl)) B TC q29 kC q32
  obtain ⟨fdS, FS⟩ := eS0.fn
  have bS := FS.binds (ps := ["self"]) (fun _ _ _ _ _ _ us hl => match us, hl with | [_], _ => rfl)
  have gS1 := met_mk (P := P) (w := w) (mg := mg) (base := base) (ps := ["self", "area"]) cS.cl eS1 (fun _ _ _ _ _ _ us hl => match us, hl with | [_, _], _ => rfl) fun _ F => ok_addlot F TS
  have gS2 := met_mk (P := P) (w := w) (mg := mg) (base := base) (ps := ["self", "lot", "area"]) cS.cl eS2 (fun _ _ _ _ _ _ us hl => match us, hl with | [_, _, _], _ => rfl) fun _ F => ok_setlot F TS
  have gS3 := met_mk (P := P) (w := w) (mg := mg) (base := base) (ps := ["self", "area", "lots"]) cS.cl eS3 (fun _ _ _ _ _ _ us hl => match us, hl with | [_, _, _], _ => rfl) fun _ F => ok_addorder F TS
  have gS4 := met_mk (P := P) (w := w) (mg := mg) (base := base) (ps := ["self", "order", "area", "lots"]) cS.cl eS4 (fun _ _ _ _ _ _ us hl => match us, hl with | [_, _, _, _], _ => rfl) fun _ F => ok_setorder F TS
  have gS5 := met_mk (P := P) (w := w) (mg := mg) (base := base) (ps := ["self", "order"]) cS.cl eS5 (fun _ _ _ _ _ _ us hl => match us, hl with | [_, _], _ => rfl) fun _ F => ok_drop F TS
  have q36 := ok_islot (P := P) (w := w) (base := base) (d36.dn (ps := ["stock", "lot"]) X G (fun _ _ _ _ _ _ us hl => match us, hl with | [_, _], _ => rfl)) TS B
  have q37 := ok_isorder (P := P) (w := w) (base := base) (d37.dn (ps := ["stock", "order"]) X G (fun _ _ _ _ _ _ us hl => match us, hl with | [_, _], _ => rfl)) TS B
  have q38 := ok_lotarea (P := P) (w := w) (base := base) (d38.dn (ps := ["area"]) X G (fun _ _ _ _ _ _ us hl => match us, hl with | [_], _ => rfl)) Z
  have q39 := ok_wantarea (P := P) (w := w) (base := base) (d39.dn (ps := ["area"]) X G (fun _ _ _ _ _ _ us hl => match us, hl with | [_], _ => rfl)) Z
  have q40 := ok_arelots (P := P) (w := w) (base := base) (d40.dn (ps := ["stock", "lots"]) X G (fun _ _ _ _ _ _ us hl => match us, hl with | [_, _], _ => rfl)) TS B q14
  have q41 := ok_areorders (P := P) (w := w) (base := base) (d41.dn (ps := ["stock", "orders"]) X G (fun _ _ _ _ _ _ us hl => match us, hl with | [_, _], _ => rfl)) TS B q14
  have q42 := ok_may (P := P) (w := w) (base := base) (d42.dn (ps := ["stock", "area", "lots"]) X G (fun _ _ _ _ _ _ us hl => match us, hl with | [_, _, _], _ => rfl)) q39 q40
  have q44 := ok_servedby (P := P) (w := w) (base := base) (d44.dn (ps := ["stock"]) X G (fun _ _ _ _ _ _ us hl => match us, hl with | [_], _ => rfl)) TS q24
  have q45 := ok_servedlot (P := P) (w := w) (base := base) (d45.dn (ps := ["stock", "lot", "area"]) X G (fun _ _ _ _ _ _ us hl => match us, hl with | [_, _, _], _ => rfl)) TS q24 q25
  have q46 := ok_do9 (P := P) (w := w) (base := base) (d46.dn (ps := ["stock", "numbers"]) X G (fun _ _ _ _ _ _ us hl => match us, hl with | [_, _], _ => rfl)) q44
  have q47 := ok_do10 (P := P) (w := w) (base := base) (d47.dn (ps := ["stock", "numbers"]) X G (fun _ _ _ _ _ _ us hl => match us, hl with | [_, _], _ => rfl)) B TS q23 q15
  have q48 := ok_do11 (P := P) (w := w) (base := base) (d48.dn (ps := ["stock", "numbers"]) X G (fun _ _ _ _ _ _ us hl => match us, hl with | [_, _], _ => rfl)) Z TS q41 q22 q19 q18
  have q49 := ok_amounts (P := P) (w := w) (base := base) (d49.dn (ps := ["stock", "amounts"]) X G (fun _ _ _ _ _ _ us hl => match us, hl with | [_, _], _ => rfl)) B Z TS
  have q50 := ok_do12 (P := P) (w := w) (base := base) (d50.dn (ps := ["stock", "numbers"]) X G (fun _ _ _ _ _ _ us hl => match us, hl with | [_, _], _ => rfl)) Z TS q49 q21
  have q51 := ok_do13 (P := P) (w := w) (base := base) (d51.dn (ps := ["stock", "numbers"]) X G (fun _ _ _ _ _ _ us hl => match us, hl with | [_, _], _ => rfl)) B TS q29
  have q52 := ok_do14 (P := P) (w := w) (base := base) (d52.dn (ps := ["stock", "numbers"]) X G (fun _ _ _ _ _ _ us hl => match us, hl with | [_, _], _ => rfl)) B TS q33 q29
  have q53 := ok_do15 (P := P) (w := w) (base := base) (d53.dn (ps := ["stock", "numbers"]) X G (fun _ _ _ _ _ _ us hl => match us, hl with | [_, _], _ => rfl)) B TS q33
  have q54 := ok_do16 (P := P) (w := w) (base := base) (d54.dn (ps := ["stock", "numbers"]) X G (fun _ _ _ _ _ _ us hl => match us, hl with | [_, _], _ => rfl)) TS q21
  have q55 := ok_do17 (P := P) (w := w) (base := base) (d55.dn (ps := ["stock", "numbers"]) X G (fun _ _ _ _ _ _ us hl => match us, hl with | [_, _], _ => rfl)) Z q36 q38 q45
  have q56 := ok_do18 (P := P) (w := w) (base := base) (d56.dn (ps := ["stock", "numbers"]) X G (fun _ _ _ _ _ _ us hl => match us, hl with | [_, _], _ => rfl)) Z TS q42 q24
  have q57 := ok_do19 (P := P) (w := w) (base := base) (d57.dn (ps := ["stock", "numbers"]) X G (fun _ _ _ _ _ _ us hl => match us, hl with | [_, _], _ => rfl)) Z TS q36 q45 q44
  have q59 := ok_do1 (P := P) (w := w) (base := base) (d59.dn (ps := ["stock", "numbers"]) X G (fun _ _ _ _ _ _ us hl => match us, hl with | [_, _], _ => rfl)) B Z TS q38 gS1
  have q60 := ok_do2 (P := P) (w := w) (base := base) (d60.dn (ps := ["stock", "numbers"]) X G (fun _ _ _ _ _ _ us hl => match us, hl with | [_, _], _ => rfl)) B Z TS q42 gS3
  have q61 := ok_do3 (P := P) (w := w) (base := base) (d61.dn (ps := ["stock", "numbers"]) X G (fun _ _ _ _ _ _ us hl => match us, hl with | [_, _], _ => rfl)) B Z TS q37 gS5
  have q62 := ok_do4 (P := P) (w := w) (base := base) (d62.dn (ps := ["stock", "numbers"]) X G (fun _ _ _ _ _ _ us hl => match us, hl with | [_, _], _ => rfl)) Z TS q37
  have q63 := ok_do5 (P := P) (w := w) (base := base) (d63.dn (ps := ["stock", "numbers"]) X G (fun _ _ _ _ _ _ us hl => match us, hl with | [_, _], _ => rfl)) Z TS q36
  have q64 := ok_do6 (P := P) (w := w) (base := base) (d64.dn (ps := ["stock", "numbers"]) X G (fun _ _ _ _ _ _ us hl => match us, hl with | [_, _], _ => rfl)) Z TS q36 q38 gS2
  have q65 := ok_do7 (P := P) (w := w) (base := base) (d65.dn (ps := ["stock", "numbers"]) X G (fun _ _ _ _ _ _ us hl => match us, hl with | [_, _], _ => rfl)) Z TS q37 q40 gS4
  have q66 := ok_do8 (P := P) (w := w) (base := base) (d66.dn (ps := ["stock", "numbers"]) X G (fun _ _ _ _ _ _ us hl => match us, hl with | [_, _], _ => rfl)) Z TS q37 q39 gS4
  have q67 := ok_do20 (P := P) (w := w) (base := base) (d67.dn (ps := ["stock", "numbers"]) X G (fun _ _ _ _ _ _ us hl => match us, hl with | [_, _], _ => rfl)) Z TS q37 gS4
  have q68 := ok_do21 (P := P) (w := w) (base := base) (d68.dn (ps := ["stock", "numbers"]) X G (fun _ _ _ _ _ _ us hl => match us, hl with | [_, _], _ => rfl)) B TS
  have gD1 := met_mk (P := P) (w := w) (mg := mg) (base := base) (ps := ["self"]) cD.cl eD1 (fun _ _ _ _ _ _ us hl => match us, hl with | [_], _ => rfl) fun _ F => ok_replace F TD TS ⟨cS.mks, eS0.at_, eS0.fi, cS.kc⟩ (ok_stinit FS TS) bS
  have O : Ops P w K mg base CS := by
    refine ⟨aO, [f59, f60, f61, f62, f63, f64, f65, f66, f46, f47, f48, f50, f51, f52, f53, f54, f55, f56, f57, f67, f68], PySem.W.mg_of X G aO1, fun H => .inr ⟨_, _, _, aO2, rfl, rfl, (by show 21 ≤ sizeLine; decide), ?_⟩, fun n h1 h2 => ?_⟩
    · exact (.cons rfl (.cons rfl (.cons rfl (.cons rfl (.cons rfl (.cons rfl (.cons rfl (.cons rfl (.cons rfl (.cons rfl (.cons rfl (.cons rfl (.cons rfl (.cons rfl (.cons rfl (.cons rfl (.cons rfl (.cons rfl (.cons rfl (.cons rfl (.cons rfl .nil)))))))))))))))))))))
    · match n, h1, h2 with
      | 1, _, _ => exact ⟨f59, rfl, held_of X G d59 q59⟩
      | 2, _, _ => exact ⟨f60, rfl, held_of X G d60 q60⟩
      | 3, _, _ => exact ⟨f61, rfl, held_of X G d61 q61⟩
      | 4, _, _ => exact ⟨f62, rfl, held_of X G d62 q62⟩
      | 5, _, _ => exact ⟨f63, rfl, held_of X G d63 q63⟩
      | 6, _, _ => exact ⟨f64, rfl, held_of X G d64 q64⟩
      | 7, _, _ => exact ⟨f65, rfl, held_of X G d65 q65⟩
      | 8, _, _ => exact ⟨f66, rfl, held_of X G d66 q66⟩
      | 9, _, _ => exact ⟨f46, rfl, held_of X G d46 q46⟩
      | 10, _, _ => exact ⟨f47, rfl, held_of X G d47 q47⟩
      | 11, _, _ => exact ⟨f48, rfl, held_of X G d48 q48⟩
      | 12, _, _ => exact ⟨f50, rfl, held_of X G d50 q50⟩
      | 13, _, _ => exact ⟨f51, rfl, held_of X G d51 q51⟩
      | 14, _, _ => exact ⟨f52, rfl, held_of X G d52 q52⟩
      | 15, _, _ => exact ⟨f53, rfl, held_of X G d53 q53⟩
      | 16, _, _ => exact ⟨f54, rfl, held_of X G d54 q54⟩
      | 17, _, _ => exact ⟨f55, rfl, held_of X G d55 q55⟩
      | 18, _, _ => exact ⟨f56, rfl, held_of X G d56 q56⟩
      | 19, _, _ => exact ⟨f57, rfl, held_of X G d57 q57⟩
      | 20, _, _ => exact ⟨f67, rfl, held_of X G d67 q67⟩
      | 21, _, _ => exact ⟨f68, rfl, held_of X G d68 q68⟩
      | n + 22, _, h2 => exact absurd h2 (by omega)
  have q73 := ok_result (P := P) (w := w) (base := base) (d73.dn (ps := ["desk", "number", "arguments"]) X G (fun _ _ _ _ _ _ us hl => match us, hl with | [_, _, _], _ => rfl)) Z TD O gD1
  have hT : ∀ H, SqT K H aA (VL (arity.map ci)) := fun H => .inr ⟨_, _, _, aA2, rfl, rfl, (by show 22 ≤ sizeLine; decide), (.cons ⟨_, rfl⟩ (.cons ⟨_, rfl⟩ (.cons ⟨_, rfl⟩ (.cons ⟨_, rfl⟩ (.cons ⟨_, rfl⟩ (.cons ⟨_, rfl⟩ (.cons ⟨_, rfl⟩ (.cons ⟨_, rfl⟩ (.cons ⟨_, rfl⟩ (.cons ⟨_, rfl⟩ (.cons ⟨_, rfl⟩ (.cons ⟨_, rfl⟩ (.cons ⟨_, rfl⟩ (.cons ⟨_, rfl⟩ (.cons ⟨_, rfl⟩ (.cons ⟨_, rfl⟩ (.cons ⟨_, rfl⟩ (.cons ⟨_, rfl⟩ (.cons ⟨_, rfl⟩ (.cons ⟨_, rfl⟩ (.cons ⟨_, rfl⟩ (.cons ⟨_, rfl⟩ .nil))))))))))))))))))))))⟩
  have q74 := ok_args (P := P) (w := w) (base := base) (d74.dn (ps := ["calls", "at"]) X G (fun _ _ _ _ _ _ us hl => match us, hl with | [_, _], _ => rfl)) Z (PySem.W.mg_of X G aA1) hT
  obtain ⟨fdD, FD⟩ := eD0.fn
  have bD := FD.binds (ps := ["self"]) (fun _ _ _ _ _ _ us hl => match us, hl with | [_], _ => rfl)
  exact ok_ans FA B TD ⟨cD.mks, eD0.at_, eD0.fi, cD.kc⟩ (ok_dkinit FD TD) bD q74 q73
end Lc
open PySem PySem.W PyProof.Rows
set_option maxRecDepth 100000 in
set_option maxHeartbeats 8000000 in
theorem PySem.Challenge.cw_lotcutter_s01_answers_holds : PySem.Challenge.rw_lotcutter_s01_answers.Holds := by
  w_on; k_headS; (case hw => exact ⟨[.list [.int 0]], by decide +kernel, by decide +kernel⟩)
  k_fillS
  refine L2.walk_specK (r := PySem.Challenge.rw_lotcutter_s01_answers) (k := 12) (CX := L2.CX0) (ps := ["calls"]) (sp := Lc.spAns) (by decide +kernel) rfl rfl ⟨rfl, by decide, by decide⟩ (fun w h Y => PySem.W.kIn_of Y) ?F ?S (fun _ _ _ _ z => z)
  case F =>
    intro w mg fa h Y KX G hmg
    refine' Lc.all_mk KX G hmg ?d12 ?d13 ?d14 ?d15 ?d17 ?d18 ?d19 ?d20 ?d21 ?d22 ?d23 ?d24 ?d25 ?d26 ?d28 ?d29 ?d31 ?d32 ?d33 ?d36 ?d37 ?d38 ?d39 ?d40 ?d41 ?d42 ?d44 ?d45 ?d46 ?d47 ?d48 ?d49 ?d50 ?d51 ?d52 ?d53 ?d54 ?d55 ?d56 ?d57 ?d59 ?d60 ?d61 ?d62 ?d63 ?d64 ?d65 ?d66 ?d67 ?d68 ?d73 ?d74 ?cC ?nC0 ?nC1 ?eC0 ?eC1 ?cS ?nS0 ?nS1 ?nS2 ?eS0 ?eS1 ?eS2 ?eS3 ?eS4 ?eS5 ?cD ?nD0 ?eD0 ?eD1 ?k0 ?k1 ?k2 ?k3 ?k4 ?k5 ?k6 ?k7 ?k8 ?k9 ?k10 ?z_range ?z_len ?z_sum ?z_max ?z_min ?z_all ?z_list ?aA1 ?aA2 ?aO1 ?aO2 ?a75 ?l75 ?c75 ?k75
    (case d12 => refine' Lc.dnk_mk ?a ?l ?c ?k; (case a => k_is); (case l => k_is); (case c => k_is); (case k => k_is))
    (case d13 => refine' Lc.dnk_mk ?a ?l ?c ?k; (case a => k_is); (case l => k_is); (case c => k_is); (case k => k_is))
    (case d14 => refine' Lc.dnk_mk ?a ?l ?c ?k; (case a => k_is); (case l => k_is); (case c => k_is); (case k => k_is))
    (case d15 => refine' Lc.dnk_mk ?a ?l ?c ?k; (case a => k_is); (case l => k_is); (case c => k_is); (case k => k_is))
    (case d17 => refine' Lc.dnk_mk ?a ?l ?c ?k; (case a => k_is); (case l => k_is); (case c => k_is); (case k => k_is))
    (case d18 => refine' Lc.dnk_mk ?a ?l ?c ?k; (case a => k_is); (case l => k_is); (case c => k_is); (case k => k_is))
    (case d19 => refine' Lc.dnk_mk ?a ?l ?c ?k; (case a => k_is); (case l => k_is); (case c => k_is); (case k => k_is))
    (case d20 => refine' Lc.dnk_mk ?a ?l ?c ?k; (case a => k_is); (case l => k_is); (case c => k_is); (case k => k_is))
    (case d21 => refine' Lc.dnk_mk ?a ?l ?c ?k; (case a => k_is); (case l => k_is); (case c => k_is); (case k => k_is))
    (case d22 => refine' Lc.dnk_mk ?a ?l ?c ?k; (case a => k_is); (case l => k_is); (case c => k_is); (case k => k_is))
    (case d23 => refine' Lc.dnk_mk ?a ?l ?c ?k; (case a => k_is); (case l => k_is); (case c => k_is); (case k => k_is))
    (case d24 => refine' Lc.dnk_mk ?a ?l ?c ?k; (case a => k_is); (case l => k_is); (case c => k_is); (case k => k_is))
    (case d25 => refine' Lc.dnk_mk ?a ?l ?c ?k; (case a => k_is); (case l => k_is); (case c => k_is); (case k => k_is))
    (case d26 => refine' Lc.dnk_mk ?a ?l ?c ?k; (case a => k_is); (case l => k_is); (case c => k_is); (case k => k_is))
    (case d28 => refine' Lc.dnk_mk ?a ?l ?c ?k; (case a => k_is); (case l => k_is); (case c => k_is); (case k => k_is))
    (case d29 => refine' Lc.dnk_mk ?a ?l ?c ?k; (case a => k_is); (case l => k_is); (case c => k_is); (case k => k_is))
    (case d31 => refine' Lc.dnk_mk ?a ?l ?c ?k; (case a => k_is); (case l => k_is); (case c => k_is); (case k => k_is))
    (case d32 => refine' Lc.dnk_mk ?a ?l ?c ?k; (case a => k_is); (case l => k_is); (case c => k_is); (case k => k_is))
    (case d33 => refine' Lc.dnk_mk ?a ?l ?c ?k; (case a => k_is); (case l => k_is); (case c => k_is); (case k => k_is))
    (case d36 => refine' Lc.dnk_mk ?a ?l ?c ?k; (case a => k_is); (case l => k_is); (case c => k_is); (case k => k_is))
    (case d37 => refine' Lc.dnk_mk ?a ?l ?c ?k; (case a => k_is); (case l => k_is); (case c => k_is); (case k => k_is))
    (case d38 => refine' Lc.dnk_mk ?a ?l ?c ?k; (case a => k_is); (case l => k_is); (case c => k_is); (case k => k_is))
    (case d39 => refine' Lc.dnk_mk ?a ?l ?c ?k; (case a => k_is); (case l => k_is); (case c => k_is); (case k => k_is))
    (case d40 => refine' Lc.dnk_mk ?a ?l ?c ?k; (case a => k_is); (case l => k_is); (case c => k_is); (case k => k_is))
    (case d41 => refine' Lc.dnk_mk ?a ?l ?c ?k; (case a => k_is); (case l => k_is); (case c => k_is); (case k => k_is))
    (case d42 => refine' Lc.dnk_mk ?a ?l ?c ?k; (case a => k_is); (case l => k_is); (case c => k_is); (case k => k_is))
    (case d44 => refine' Lc.dnk_mk ?a ?l ?c ?k; (case a => k_is); (case l => k_is); (case c => k_is); (case k => k_is))
    (case d45 => refine' Lc.dnk_mk ?a ?l ?c ?k; (case a => k_is); (case l => k_is); (case c => k_is); (case k => k_is))
    (case d46 => refine' Lc.dnk_mk ?a ?l ?c ?k; (case a => k_is); (case l => k_is); (case c => k_is); (case k => k_is))
    (case d47 => refine' Lc.dnk_mk ?a ?l ?c ?k; (case a => k_is); (case l => k_is); (case c => k_is); (case k => k_is))
    (case d48 => refine' Lc.dnk_mk ?a ?l ?c ?k; (case a => k_is); (case l => k_is); (case c => k_is); (case k => k_is))
    (case d49 => refine' Lc.dnk_mk ?a ?l ?c ?k; (case a => k_is); (case l => k_is); (case c => k_is); (case k => k_is))
    (case d50 => refine' Lc.dnk_mk ?a ?l ?c ?k; (case a => k_is); (case l => k_is); (case c => k_is); (case k => k_is))
    (case d51 => refine' Lc.dnk_mk ?a ?l ?c ?k; (case a => k_is); (case l => k_is); (case c => k_is); (case k => k_is))
    (case d52 => refine' Lc.dnk_mk ?a ?l ?c ?k; (case a => k_is); (case l => k_is); (case c => k_is); (case k => k_is))
    (case d53 => refine' Lc.dnk_mk ?a ?l ?c ?k; (case a => k_is); (case l => k_is); (case c => k_is); (case k => k_is))
    (case d54 => refine' Lc.dnk_mk ?a ?l ?c ?k; (case a => k_is); (case l => k_is); (case c => k_is); (case k => k_is))
    (case d55 => refine' Lc.dnk_mk ?a ?l ?c ?k; (case a => k_is); (case l => k_is); (case c => k_is); (case k => k_is))
    (case d56 => refine' Lc.dnk_mk ?a ?l ?c ?k; (case a => k_is); (case l => k_is); (case c => k_is); (case k => k_is))
    (case d57 => refine' Lc.dnk_mk ?a ?l ?c ?k; (case a => k_is); (case l => k_is); (case c => k_is); (case k => k_is))
    (case d59 => refine' Lc.dnk_mk ?a ?l ?c ?k; (case a => k_is); (case l => k_is); (case c => k_is); (case k => k_is))
    (case d60 => refine' Lc.dnk_mk ?a ?l ?c ?k; (case a => k_is); (case l => k_is); (case c => k_is); (case k => k_is))
    (case d61 => refine' Lc.dnk_mk ?a ?l ?c ?k; (case a => k_is); (case l => k_is); (case c => k_is); (case k => k_is))
    (case d62 => refine' Lc.dnk_mk ?a ?l ?c ?k; (case a => k_is); (case l => k_is); (case c => k_is); (case k => k_is))
    (case d63 => refine' Lc.dnk_mk ?a ?l ?c ?k; (case a => k_is); (case l => k_is); (case c => k_is); (case k => k_is))
    (case d64 => refine' Lc.dnk_mk ?a ?l ?c ?k; (case a => k_is); (case l => k_is); (case c => k_is); (case k => k_is))
    (case d65 => refine' Lc.dnk_mk ?a ?l ?c ?k; (case a => k_is); (case l => k_is); (case c => k_is); (case k => k_is))
    (case d66 => refine' Lc.dnk_mk ?a ?l ?c ?k; (case a => k_is); (case l => k_is); (case c => k_is); (case k => k_is))
    (case d67 => refine' Lc.dnk_mk ?a ?l ?c ?k; (case a => k_is); (case l => k_is); (case c => k_is); (case k => k_is))
    (case d68 => refine' Lc.dnk_mk ?a ?l ?c ?k; (case a => k_is); (case l => k_is); (case c => k_is); (case k => k_is))
    (case d73 => refine' Lc.dnk_mk ?a ?l ?c ?k; (case a => k_is); (case l => k_is); (case c => k_is); (case k => k_is))
    (case d74 => refine' Lc.dnk_mk ?a ?l ?c ?k; (case a => k_is); (case l => k_is); (case c => k_is); (case k => k_is))
    (case cC => refine' Lc.clk_mk ?a ?pg ?hd ?po ?sa ?mk ?kc; (case a => k_is); (case pg => k_is); (case hd => k_is); (case po => k_is); (case sa => k_is); (case mk => k_is); (case kc => k_is))
    (case nC0 => k_is)
    (case nC1 => k_is)
    (case eC0 => refine' Lc.mek_mk ?a ?i ?l ?c ?k; (case a => k_is); (case i => k_is); (case l => k_is); (case c => k_is); (case k => k_is))
    (case eC1 => refine' Lc.mek_mk ?a ?i ?l ?c ?k; (case a => k_is); (case i => k_is); (case l => k_is); (case c => k_is); (case k => k_is))
    (case cS => refine' Lc.clk_mk ?a ?pg ?hd ?po ?sa ?mk ?kc; (case a => k_is); (case pg => k_is); (case hd => k_is); (case po => k_is); (case sa => k_is); (case mk => k_is); (case kc => k_is))
    (case nS0 => k_is)
    (case nS1 => k_is)
    (case nS2 => k_is)
    (case eS0 => refine' Lc.mek_mk ?a ?i ?l ?c ?k; (case a => k_is); (case i => k_is); (case l => k_is); (case c => k_is); (case k => k_is))
    (case eS1 => refine' Lc.mek_mk ?a ?i ?l ?c ?k; (case a => k_is); (case i => k_is); (case l => k_is); (case c => k_is); (case k => k_is))
    (case eS2 => refine' Lc.mek_mk ?a ?i ?l ?c ?k; (case a => k_is); (case i => k_is); (case l => k_is); (case c => k_is); (case k => k_is))
    (case eS3 => refine' Lc.mek_mk ?a ?i ?l ?c ?k; (case a => k_is); (case i => k_is); (case l => k_is); (case c => k_is); (case k => k_is))
    (case eS4 => refine' Lc.mek_mk ?a ?i ?l ?c ?k; (case a => k_is); (case i => k_is); (case l => k_is); (case c => k_is); (case k => k_is))
    (case eS5 => refine' Lc.mek_mk ?a ?i ?l ?c ?k; (case a => k_is); (case i => k_is); (case l => k_is); (case c => k_is); (case k => k_is))
    (case cD => refine' Lc.clk_mk ?a ?pg ?hd ?po ?sa ?mk ?kc; (case a => k_is); (case pg => k_is); (case hd => k_is); (case po => k_is); (case sa => k_is); (case mk => k_is); (case kc => k_is))
    (case nD0 => k_is)
    (case eD0 => refine' Lc.mek_mk ?a ?i ?l ?c ?k; (case a => k_is); (case i => k_is); (case l => k_is); (case c => k_is); (case k => k_is))
    (case eD1 => refine' Lc.mek_mk ?a ?i ?l ?c ?k; (case a => k_is); (case i => k_is); (case l => k_is); (case c => k_is); (case k => k_is))
    (case k0 => k_is)
    (case k1 => k_is)
    (case k2 => k_is)
    (case k3 => k_is)
    (case k4 => k_is)
    (case k5 => k_is)
    (case k6 => k_is)
    (case k7 => k_is)
    (case k8 => k_is)
    (case k9 => k_is)
    (case k10 => k_is)
    (case z_range => k_is)
    (case z_len => k_is)
    (case z_sum => k_is)
    (case z_max => k_is)
    (case z_min => k_is)
    (case z_all => k_is)
    (case z_list => k_is)
    (case aA1 => k_is)
    (case aA2 => k_is)
    (case aO1 => k_is)
    (case aO2 => k_is)
    (case a75 => k_is)
    (case l75 => k_is)
    (case c75 => k_is)
    (case k75 => k_is)
  case S =>
    intro K H xs a hO hwi hask hx
    cases hx with
    | cons h1 h2 =>
      cases h2
      cases h1 with
      | lst hs ha =>
        have e := L2.ints_dw a.1 _ ha
        subst e
        exact ⟨_, a.1, rfl, hs, hask, fun H' p hp => .lst (L2.SqL.of hp) (L2.dw_ints _)⟩
#print axioms PySem.Challenge.cw_lotcutter_s01_answers_holds
