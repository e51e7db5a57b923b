import PyProof.Rows.All
import Wide.All
import OpenK.AllK
import Wide.FinOn
import Open.SpecLaws
import KE.OsGo
import KE.GoesEnum
import KE.KDictDisplayH
import HandS.ForSpec
import HandS.ForMost
import HandS.Walk
import HandS.TupLen
import HandS.TupAny
import HandS.DictTup
import PySem.Challenge.RW_washedturns_s01_keeps
set_option Elab.async false
set_option linter.all false
set_option maxRecDepth 100000
set_option maxHeartbeats 2000000
namespace WT
open Ks441
/-! # plain Lean: what the program computes, and that the specification says the same -/
/-- ages of m filters, as told -/
def Ok (m : Nat) (s : List Nat) : Prop := s.length = m ∧ ∀ v ∈ s, 1 ≤ v ∧ v ≤ 4
/-- what flows through the filters from the k-th on -/
def flowFrom (fs : List Nat) (w : Nat) : Nat → List Nat → Nat
  | _, [] => 0
  | k, a :: r => (if k + 1 ≠ w ∧ a < 4 then fs.getD (3 * k + a - 1) 0 else 0) + flowFrom fs w (k + 1) r
def flowM (fs s : List Nat) (w : Nat) : Nat := flowFrom fs w 0 s
theorem flowFrom_snoc (fs : List Nat) (w a : Nat) : ∀ (s : List Nat) (k : Nat), flowFrom fs w k (s ++ [a]) = flowFrom fs w k s + (if k + s.length + 1 ≠ w ∧ a < 4 then fs.getD (3 * (k + s.length) + a - 1) 0 else 0)
  | [], k => by
    show (if k + 1 ≠ w ∧ a < 4 then fs.getD (3 * k + a - 1) 0 else 0) + 0 = 0 + _
    rw [Nat.add_zero, Nat.zero_add]
    rfl
  | b :: r, k => by
    show (if k + 1 ≠ w ∧ b < 4 then fs.getD (3 * k + b - 1) 0 else 0) + flowFrom fs w (k + 1) (r ++ [a]) = (if k + 1 ≠ w ∧ b < 4 then fs.getD (3 * k + b - 1) 0 else 0) + flowFrom fs w (k + 1) r + _
    rw [flowFrom_snoc fs w a r (k + 1), List.length_cons, show k + 1 + r.length = k + (r.length + 1) by omega]
    exact (Nat.add_assoc _ _ _).symm
theorem take_more {α : Type} {l : List α} {i : Nat} {x : α} (h : l[i]? = some x) : l.take (i + 1) = l.take i ++ [x] := by
  rw [List.take_add_one, h]
  rfl
theorem lt_of_get {α : Type} {l : List α} {i : Nat} {x : α} (h : l[i]? = some x) : i < l.length := (List.getElem?_eq_some_iff.mp h).1
theorem len_take {α : Type} {l : List α} {i : Nat} {x : α} (h : l[i]? = some x) : (l.take i).length = i := by
  rw [List.length_take]
  have := lt_of_get h
  omega
theorem flowM_more {fs s : List Nat} {w i a : Nat} (h : s[i]? = some a) : flowM fs (s.take (i + 1)) w = flowM fs (s.take i) w + (if i + 1 ≠ w ∧ a < 4 then fs.getD (3 * i + a - 1) 0 else 0) := by
  unfold flowM
  rw [take_more h, flowFrom_snoc, len_take h, Nat.zero_add]
theorem drop3 {fs : List Nat} {k : Nat} (h : 3 * k + 2 < fs.length) : fs.drop (3 * k) = fs.getD (3 * k) 0 :: fs.getD (3 * k + 1) 0 :: fs.getD (3 * k + 2) 0 :: fs.drop (3 * (k + 1)) := by
  have e : ∀ j, j < fs.length → fs.drop j = fs.getD j 0 :: fs.drop (j + 1) := fun j hj => by
    rw [List.drop_eq_getElem_cons hj, List.getD_eq_getElem?_getD, List.getElem?_eq_getElem hj]
    rfl
  rw [e (3 * k) (by omega), e (3 * k + 1) (by omega), e (3 * k + 2) (by omega), show 3 * (k + 1) = 3 * k + 2 + 1 by omega]
theorem flow_from (fs : List Nat) (w : Nat) : ∀ (s : List Nat) (k : Nat), fs.length = 3 * (k + s.length) → (∀ v ∈ s, 1 ≤ v ∧ v ≤ 4) →
    (((filtersOf (fs.drop (3 * k))).zip s).zipIdx k |>.map fun x => if x.2 + 1 = w then 0 else x.1.1.getD (x.1.2 - 1) 0).sum = flowFrom fs w k s
  | [], k, _, _ => by
    rw [List.zip_nil_right]
    rfl
  | a :: r, k, hl, ho => by
    rw [List.length_cons] at hl
    rw [drop3 (by omega)]
    have ih := flow_from fs w r (k + 1) (by omega) fun v hv => ho v (List.mem_cons_of_mem _ hv)
    obtain ⟨h1, h2⟩ := ho a (List.mem_cons_self ..)
    show (((([fs.getD (3 * k) 0, fs.getD (3 * k + 1) 0, fs.getD (3 * k + 2) 0] :: filtersOf (fs.drop (3 * (k + 1)))).zip (a :: r)).zipIdx k).map fun x => if x.2 + 1 = w then 0 else x.1.1.getD (x.1.2 - 1) 0).sum = (if k + 1 ≠ w ∧ a < 4 then fs.getD (3 * k + a - 1) 0 else 0) + flowFrom fs w (k + 1) r
    rw [List.zip_cons_cons, List.zipIdx_cons, List.map_cons, List.sum_cons, ih]
    refine congrArg (· + flowFrom fs w (k + 1) r) ?_
    show (if k + 1 = w then 0 else [fs.getD (3 * k) 0, fs.getD (3 * k + 1) 0, fs.getD (3 * k + 2) 0].getD (a - 1) 0) = _
    by_cases hw : k + 1 = w
    · rw [if_pos hw, if_neg (fun z => z.1 hw)]
    · rw [if_neg hw]
      have ha : a = 1 ∨ a = 2 ∨ a = 3 ∨ a = 4 := by omega
      rcases ha with rfl | rfl | rfl | rfl
      · rw [if_pos ⟨hw, by decide⟩]; rfl
      · rw [if_pos ⟨hw, by decide⟩]; rfl
      · rw [if_pos ⟨hw, by decide⟩]; rfl
      · rw [if_neg (fun z => absurd z.2 (by decide))]; rfl
/-- the program's sum is the specification's -/
theorem flow_is {fs s : List Nat} {m w : Nat} (hl : fs.length = 3 * m) (ho : Ok m s) : flow (filtersOf fs) s w = flowM fs s w := by
  have e := flow_from fs w s 0 (by rw [hl, ho.1]; omega) ho.2
  exact e
/-! ### the ages behind an hour -/
theorem next_snoc (s : List Nat) (w a : Nat) : next (s ++ [a]) w = next s w ++ [if s.length + 1 = w then 1 else min 4 (a + 1)] := by
  unfold next
  rw [List.zipIdx_append, List.map_append]
  refine congrArg (_ ++ ·) ?_
  show [if 0 + s.length + 1 = w then 1 else min (AGES + 1) (a + 1)] = _
  rw [Nat.zero_add]
  rfl
theorem next_more {s : List Nat} {w i a : Nat} (h : s[i]? = some a) : next (s.take (i + 1)) w = next (s.take i) w ++ [if i + 1 = w then 1 else min 4 (a + 1)] := by
  rw [take_more h, next_snoc, len_take h]
theorem next_len (s : List Nat) (w : Nat) : (next s w).length = s.length := by
  unfold next
  rw [List.length_map, List.length_zipIdx]
theorem next_ok {m : Nat} {s : List Nat} (w : Nat) (h : Ok m s) : Ok m (next s w) := by
  refine ⟨(next_len s w).trans h.1, fun v hv => ?_⟩
  unfold next at hv
  obtain ⟨x, _, rfl⟩ := List.mem_map.mp hv
  show 1 ≤ (if x.2 + 1 = w then 1 else min 4 (x.1 + 1)) ∧ (if x.2 + 1 = w then 1 else min 4 (x.1 + 1)) ≤ 4
  split <;> omega
/-! ### all ages -/
theorem mem_states : ∀ (m : Nat) (s : List Nat), s ∈ states m ↔ Ok m s
  | 0, s => by
    show s ∈ [[]] ↔ _
    rw [List.mem_singleton]
    constructor
    · rintro rfl
      exact ⟨rfl, fun v hv => absurd hv (List.not_mem_nil)⟩
    · exact fun h => List.length_eq_zero_iff.mp h.1
  | n + 1, s => by
    show s ∈ (List.range (AGES + 1)).flatMap (fun a => (states n).map fun r => (a + 1) :: r) ↔ _
    rw [List.mem_flatMap]
    constructor
    · rintro ⟨a, ha, hs⟩
      obtain ⟨r, hr, rfl⟩ := List.mem_map.mp hs
      have ha : a < 4 := List.mem_range.mp ha
      obtain ⟨h1, h2⟩ := (mem_states n r).mp hr
      refine ⟨by rw [List.length_cons, h1], fun v hv => ?_⟩
      rcases List.mem_cons.mp hv with rfl | hr
      · omega
      · exact h2 v hr
    · rintro ⟨h1, h2⟩
      cases s with
      | nil => cases h1
      | cons b r =>
        obtain ⟨hb1, hb2⟩ := h2 b (List.mem_cons_self ..)
        refine ⟨b - 1, List.mem_range.mpr (by show b - 1 < 4; omega), List.mem_map.mpr ⟨r, (mem_states n r).mpr ⟨by rw [List.length_cons] at h1; omega, fun v hv => h2 v (List.mem_cons_of_mem _ hv)⟩, ?_⟩⟩
        rw [Nat.sub_add_cancel hb1]
/-- the program's rows of ages, longer by one at the right -/
def rowsOf (r : List Nat) : List (List Nat) := [r ++ [1], r ++ [2], r ++ [3], r ++ [4]]
def allM : Nat → List (List Nat)
  | 0 => [[]]
  | k + 1 => (allM k).flatMap rowsOf
theorem allM_is : ∀ {m : Nat}, m ≤ 3 → allM m = states m
  | 0, _ => by decide +kernel
  | 1, _ => by decide +kernel
  | 2, _ => by decide +kernel
  | 3, _ => by decide +kernel
  | n + 4, h => by omega
theorem states_nodup : ∀ {m : Nat}, m ≤ 3 → (states m).Nodup
  | 0, _ => by decide +kernel
  | 1, _ => by decide +kernel
  | 2, _ => by decide +kernel
  | 3, _ => by decide +kernel
  | n + 4, h => by omega
theorem states_len : ∀ {m : Nat}, m ≤ 3 → (states m).length = (AGES + 1) ^ m
  | 0, _ => by decide +kernel
  | 1, _ => by decide +kernel
  | 2, _ => by decide +kernel
  | 3, _ => by decide +kernel
  | n + 4, h => by omega
theorem states_le {m : Nat} (h : m ≤ 3) : (states m).length ≤ 64 := by
  rw [states_len h]
  have : m = 0 ∨ m = 1 ∨ m = 2 ∨ m = 3 := by omega
  rcases this with rfl | rfl | rfl | rfl <;> decide
/-! ### the ages from which it can be kept for ever -/
section
variable {f : Filters} {want : Nat} {l : List (List Nat)} {s : List Nat}
def good (f : Filters) (want : Nat) (l : List (List Nat)) (s : List Nat) (w : Nat) : Bool := decide (want ≤ flow f s w) && l.contains (next s w)
theorem choose_some {w : Nat} (h : choose f want l s = some w) : w ≤ f.length ∧ want ≤ flow f s w ∧ next s w ∈ l := by
  have h1 : (good f want l s w) = true := List.find?_some h
  have h2 := List.mem_of_find?_eq_some h
  unfold good at h1
  rw [Bool.and_eq_true] at h1
  exact ⟨Nat.le_of_lt_succ (List.mem_range.mp h2), of_decide_eq_true h1.1, List.contains_iff_mem.mp h1.2⟩
theorem choose_none (h : choose f want l s = none) (w : Nat) (hw : w ≤ f.length) : ¬ (want ≤ flow f s w ∧ next s w ∈ l) := fun z => by
  have h1 := List.find?_eq_none.mp h w (List.mem_range.mpr (Nat.lt_succ_of_le hw))
  apply h1
  rw [Bool.and_eq_true]
  exact ⟨decide_eq_true z.1, List.contains_iff_mem.mpr z.2⟩
/-- no number below i will do, i does: that is the one that is told -/
theorem choose_first {i : Nat} (hi : i ≤ f.length) (h : ∀ w, w < i → ¬ (want ≤ flow f s w ∧ next s w ∈ l)) (h1 : want ≤ flow f s i) (h2 : next s i ∈ l) : choose f want l s = some i := by
  cases e : choose f want l s with
  | none => exact absurd ⟨h1, h2⟩ (choose_none e i hi)
  | some w =>
    obtain ⟨a, b, c⟩ := choose_some e
    by_cases hlt : w < i
    · exact absurd ⟨b, c⟩ (h w hlt)
    · by_cases hgt : i < w
      · have h3 : List.find? (good f want l s) (List.range (f.length + 1)) = some w := e
        obtain ⟨_, as, bs, e1, e2⟩ := List.find?_eq_some_iff_append.mp h3
        have hm : i ∈ as := by
          have hlen : as.length = w := by
            have hw : (List.range (f.length + 1))[as.length]? = some w := by
              rw [e1, List.getElem?_append_right (Nat.le_refl _), Nat.sub_self]
              rfl
            have hb := lt_of_get hw
            rw [List.getElem?_eq_getElem hb, List.getElem_range] at hw
            exact Option.some.inj hw
          have hi' : as[i]? = some i := by
            have hx : (List.range (f.length + 1))[i]? = some i := by
              rw [List.getElem?_eq_getElem (by rw [List.length_range]; omega), List.getElem_range]
            rw [e1, List.getElem?_append_left (by omega)] at hx
            exact hx
          exact List.mem_of_getElem? hi'
        have hn := e2 i hm
        unfold good at hn
        rw [decide_eq_true h1, List.contains_iff_mem.mpr h2] at hn
        cases hn
      · rw [show w = i by omega]
theorem choose_nothing (h : ∀ w, w ≤ f.length → ¬ (want ≤ flow f s w ∧ next s w ∈ l)) : choose f want l s = none := by
  cases e : choose f want l s with
  | none => rfl
  | some w =>
    obtain ⟨a, b, c⟩ := choose_some e
    exact absurd ⟨b, c⟩ (h w a)
def lostM (f : Filters) (want : Nat) (l : List (List Nat)) : List (List Nat) := l.filter fun s => (choose f want l s).isNone
theorem again_keep (x : List Nat) : ((List.range (f.length + 1)).any (good f want l x)) = !(choose f want l x).isNone := by
  show _ = !(List.find? (good f want l x) (List.range (f.length + 1))).isNone
  cases e : List.find? (good f want l x) (List.range (f.length + 1)) with
  | none =>
    show _ = false
    rw [List.any_eq_false]
    exact fun y hy => List.find?_eq_none.mp e y hy
  | some w =>
    show _ = true
    rw [List.any_eq_true]
    exact ⟨w, List.mem_of_find?_eq_some e, List.find?_some (p := good f want l x) e⟩
theorem again_is : again f want l = l.filter fun s => !(choose f want l s).isNone := by
  unfold again
  exact List.filter_congr fun y _ => again_keep y
theorem filter_len {α : Type} (p : α → Bool) : ∀ l : List α, (l.filter p).length + (l.filter fun x => !p x).length = l.length
  | [] => rfl
  | a :: r => by
    have ih := filter_len p r
    cases h : p a with
    | true => simp only [List.filter_cons, h, if_true, Bool.not_true, Bool.false_eq_true, if_false, List.length_cons]; omega
    | false => simp only [List.filter_cons, h, if_true, Bool.not_false, Bool.false_eq_true, if_false, List.length_cons]; omega
theorem lost_len : (lostM f want l).length + (again f want l).length = l.length := by
  rw [again_is]
  exact filter_len _ l
theorem lost_nil (h : lostM f want l = []) : again f want l = l := by
  have e : (again f want l).length = l.length := by
    have := lost_len (f := f) (want := want) (l := l)
    rw [h] at this
    simpa using this
  rw [again_is] at e ⊢
  exact List.filter_eq_self.mpr (List.length_filter_eq_length_iff.mp e)
/-- what is left when the lost ones are popped -/
theorem popped : (l.filter fun s => !(lostM f want l).contains s) = again f want l := by
  rw [again_is]
  refine List.filter_congr fun x hx => ?_
  refine congrArg (fun b => !b) ?_
  cases e : (choose f want l x).isNone with
  | true => exact List.contains_iff_mem.mpr (List.mem_filter.mpr ⟨hx, e⟩)
  | false =>
    cases e2 : (lostM f want l).contains x with
    | false => rfl
    | true =>
      have := (List.mem_filter.mp (List.contains_iff_mem.mp e2)).2
      rw [e] at this
      cases this
theorem till_stop (h : lostM f want l = []) : ∀ n, till f want n l = l
  | 0 => rfl
  | n + 1 => by
    show (if (again f want l).length = l.length then l else till f want n (again f want l)) = l
    rw [if_pos (by rw [lost_nil h])]
theorem till_step {n : Nat} (h : lostM f want l ≠ []) (hn : l.length ≤ n) : ∃ n', (again f want l).length ≤ n' ∧ till f want n l = till f want n' (again f want l) := by
  have hp : 0 < (lostM f want l).length := List.length_pos_iff.mpr h
  have hl := lost_len (f := f) (want := want) (l := l)
  cases n with
  | zero => omega
  | succ n =>
    refine ⟨n, by omega, ?_⟩
    show (if (again f want l).length = l.length then l else till f want n (again f want l)) = _
    rw [if_neg (by omega)]
theorem till_fix : ∀ (n : Nat) (l : List (List Nat)), l.length ≤ n → lostM f want (till f want n l) = []
  | n, l, hn => by
    by_cases h : lostM f want l = []
    · rw [till_stop h]
      exact h
    · have hp : 0 < (lostM f want l).length := List.length_pos_iff.mpr h
      have hl := lost_len (f := f) (want := want) (l := l)
      cases n with
      | zero => omega
      | succ n =>
        have e : till f want (n + 1) l = till f want n (again f want l) := by
          show (if (again f want l).length = l.length then l else till f want n (again f want l)) = _
          rw [if_neg (by omega)]
        rw [e]
        exact till_fix n (again f want l) (by omega)
  termination_by n => n
end
theorem ever_fix {f : Filters} {want : Nat} (hm : f.length ≤ 3) : lostM f want (ever f want) = [] := till_fix _ _ (by rw [states_len hm]; exact Nat.le_refl _)
theorem lost_choose {f : Filters} {want : Nat} {l : List (List Nat)} {s : List Nat} (h : lostM f want l = []) (hs : s ∈ l) : ∃ w, choose f want l s = some w := by
  cases e : choose f want l s with
  | some w => exact ⟨w, rfl⟩
  | none =>
    have : s ∈ lostM f want l := List.mem_filter.mpr ⟨hs, by rw [e]; rfl⟩
    rw [h] at this
    cases this
/-! ### what is as told -/
def areB (fs s : List Nat) : Bool := decide (1 ≤ s.length ∧ s.length ≤ 3) && (decide (fs.length = 3 * s.length) && ((fs.all fun v => decide (v ≤ 20)) && s.all fun v => decide (1 ≤ v ∧ v ≤ 4)))
theorem areB_iff {fs s : List Nat} : areB fs s = true ↔ (1 ≤ s.length ∧ s.length ≤ 3) ∧ fs.length = 3 * s.length ∧ (∀ v ∈ fs, v ≤ 20) ∧ ∀ v ∈ s, 1 ≤ v ∧ v ≤ 4 := by
  unfold areB
  simp only [Bool.and_eq_true, decide_eq_true_eq, List.all_eq_true]
theorem filtersOf_len : ∀ fs : List Nat, (filtersOf fs).length = fs.length / 3
  | [] => by simp [filtersOf]
  | [_] => by simp [filtersOf]
  | [_, _] => by simp [filtersOf]
  | a :: b :: c :: l => by
    show (filtersOf l).length + 1 = (l.length + 1 + 1 + 1) / 3
    rw [filtersOf_len l]
    omega
theorem given_is (fs s : List Nat) (g : Filters → Ans) : given fs s g = if areB fs s = true then g (filtersOf fs) else no (-22) := by
  unfold given
  have e : (fs.length % AGES = 0 ∧ 1 ≤ (filtersOf fs).length ∧ (filtersOf fs).length ≤ FILTERS ∧ fs.all (fun v => decide (v ≤ 20)) = true ∧ s.length = (filtersOf fs).length ∧ s.all (fun v => decide (1 ≤ v) && decide (v ≤ AGES + 1)) = true) ↔ areB fs s = true := by
    rw [areB_iff, filtersOf_len]
    constructor
    · rintro ⟨h1, h2, h3, h4, h5, h6⟩
      have h1 : fs.length % 3 = 0 := h1
      have h3 : fs.length / 3 ≤ 3 := h3
      refine ⟨⟨by omega, by omega⟩, by omega, fun v hv => of_decide_eq_true (List.all_eq_true.mp h4 v hv), fun v hv => ?_⟩
      have := List.all_eq_true.mp h6 v hv
      rw [Bool.and_eq_true] at this
      exact ⟨of_decide_eq_true this.1, of_decide_eq_true this.2⟩
    · rintro ⟨⟨h1, h2⟩, h3, h4, h5⟩
      refine ⟨by show fs.length % 3 = 0; omega, by omega, by show fs.length / 3 ≤ 3; omega, List.all_eq_true.mpr fun v hv => decide_eq_true (h4 v hv), by omega, List.all_eq_true.mpr fun v hv => ?_⟩
      rw [Bool.and_eq_true]
      exact ⟨decide_eq_true (h5 v hv).1, decide_eq_true (h5 v hv).2⟩
  by_cases h : areB fs s = true
  · rw [if_pos h]
    exact if_pos (e.mpr h)
  · rw [if_neg h]
    exact if_neg fun z => h (e.mp z)
theorem are_ok {fs s : List Nat} (h : areB fs s = true) : fs.length = 3 * s.length ∧ Ok s.length s ∧ (filtersOf fs).length = s.length ∧ 1 ≤ s.length ∧ s.length ≤ 3 := by
  obtain ⟨⟨h1, h2⟩, h3, h4, h5⟩ := areB_iff.mp h
  exact ⟨h3, ⟨rfl, h5⟩, by rw [filtersOf_len, h3]; omega, h1, h2⟩
/-! ### keeps -/
def planB (m : Nat) (p : List Nat) : Bool := decide (p.length ≤ 40) && p.all fun v => decide (v ≤ m)
def refused : List Int := [-22]
/-- what keeps gives back -/
def keepsM (want : Nat) (fs s p : List Nat) : List Int := Ks441Neutral.out (answer (.keeps want fs s p))
theorem answer_keeps (w : Nat) (f s p : List Nat) : answer (.keeps w f s p) = given f s fun q => if 100 < w ∨ 40 < p.length ∨ p.any (fun v => decide (q.length < v)) = true then no (-22) else { ret := if keeps q w s p then 1 else 0, out := flows q s p } := rfl
theorem keepsM_no {want : Nat} {fs s p : List Nat} (h : (areB fs s && decide (want ≤ 100)) = false ∨ planB s.length p = false) : keepsM want fs s p = refused := by
  unfold keepsM
  rw [answer_keeps, given_is]
  by_cases h1 : areB fs s = true
  · rw [if_pos h1]
    obtain ⟨_, _, e, _, _⟩ := are_ok h1
    have c : 100 < want ∨ 40 < p.length ∨ p.any (fun v => decide ((filtersOf fs).length < v)) = true := by
      rw [e]
      rcases h with h | h
      · rw [h1, Bool.true_and, decide_eq_false_iff_not] at h
        exact .inl (by omega)
      · unfold planB at h
        rw [Bool.and_eq_false_iff] at h
        rcases h with h | h
        · rw [decide_eq_false_iff_not] at h
          exact .inr (.inl (by omega))
        · obtain ⟨x, hx, hv⟩ := List.all_eq_false.mp h
          exact .inr (.inr (List.any_eq_true.mpr ⟨x, hx, by simpa using hv⟩))
    show Ks441Neutral.out (if _ then no (-22) else _) = _
    rw [if_pos c]
    rfl
  · rw [if_neg h1]
    rfl
theorem keepsM_yes {want : Nat} {fs s p : List Nat} (h1 : areB fs s = true) (h2 : want ≤ 100) (h3 : planB s.length p = true) :
    keepsM want fs s p = (if ((flows (filtersOf fs) s p).all fun v => decide (want ≤ v)) = true then 1 else 0) :: (flows (filtersOf fs) s p).map Int.ofNat := by
  obtain ⟨_, _, e, _, _⟩ := are_ok h1
  unfold planB at h3
  rw [Bool.and_eq_true, decide_eq_true_eq] at h3
  unfold keepsM
  rw [answer_keeps, given_is, if_pos h1]
  have c : ¬ (100 < want ∨ 40 < p.length ∨ p.any (fun v => decide ((filtersOf fs).length < v)) = true) := by
    rw [e]
    rintro (c | c | c)
    · omega
    · omega
    · obtain ⟨x, hx, hv⟩ := List.any_eq_true.mp c
      have := List.all_eq_true.mp h3.2 x hx
      rw [decide_eq_true_eq] at this hv
      omega
  show Ks441Neutral.out (if _ then no (-22) else { ret := if keeps (filtersOf fs) want s p = true then 1 else 0, out := flows (filtersOf fs) s p }) = _
  rw [if_neg c]
  unfold keeps
  rw [e, h3.2, Bool.true_and]
  rfl
theorem flows_len (f : Filters) : ∀ (p s : List Nat), (flows f s p).length = p.length
  | [], _ => rfl
  | _ :: r, s => by
    show (flows f (next s _) r).length + 1 = r.length + 1
    rw [flows_len f r]
theorem flat_len : ∀ l : List (List Nat), (l.flatMap rowsOf).length = 4 * l.length
  | [] => rfl
  | a :: r => by
    rw [List.flatMap_cons, List.length_append, flat_len r, List.length_cons]
    show 4 + _ = _
    omega
theorem row_len {i j : Nat} {r : List Nat} (h : (allM i)[j]? = some r) (hi : i ≤ 3) : r.length = i := by
  rw [allM_is hi] at h
  exact ((mem_states i r).mp (List.mem_of_getElem? h)).1
/-! ### popping the lost ones -/
theorem not_in_take {α : Type} {l : List α} (hn : l.Nodup) {i : Nat} {x : α} (h : l[i]? = some x) : ¬ x ∈ l.take i := fun hm => by
  obtain ⟨j, hj, e⟩ := List.getElem_of_mem hm
  rw [List.length_take] at hj
  rw [List.getElem_take] at e
  have hi := lt_of_get h
  rw [List.getElem?_eq_getElem hi] at h
  have := (List.getElem_inj hn).mp (e.trans (Option.some.inj h).symm)
  omega
theorem filter_none {l : List (List Nat)} : (l.filter fun s => !([] : List (List Nat)).contains s) = l := List.filter_eq_self.mpr fun _ _ => rfl
theorem again_sub {f : Filters} {want : Nat} {l : List (List Nat)} {s : List Nat} (h : s ∈ again f want l) : s ∈ l := (List.mem_filter.mp h).1
theorem again_nodup {f : Filters} {want : Nat} {l : List (List Nat)} (h : l.Nodup) : (again f want l).Nodup := List.Pairwise.filter _ h
theorem pop_mem {f : Filters} {want : Nat} {l : List (List Nat)} (hn : l.Nodup) {j : Nat} {s : List Nat} (h : (lostM f want l)[j]? = some s) : s ∈ l.filter fun x => !((lostM f want l).take j).contains x := by
  have hl : (lostM f want l).Nodup := List.Pairwise.filter _ hn
  have hm := (List.mem_filter.mp (List.mem_of_getElem? h)).1
  refine List.mem_filter.mpr ⟨hm, ?_⟩
  cases e : ((lostM f want l).take j).contains s with
  | false => rfl
  | true => exact absurd (List.contains_iff_mem.mp e) (not_in_take hl h)
theorem pop_step {l r : List (List Nat)} {j : Nat} {s : List Nat} (h : r[j]? = some s) : ((l.filter fun x => !(r.take j).contains x).filter fun x => decide (x ≠ s)) = l.filter fun x => !(r.take (j + 1)).contains x := by
  rw [List.filter_filter, take_more h]
  refine List.filter_congr fun x hx0 => ?_
  have e : (r.take j ++ [s]).contains x = ((r.take j).contains x || decide (x = s)) := by
    rw [Bool.eq_iff_iff, Bool.or_eq_true, List.contains_iff_mem, List.contains_iff_mem, List.mem_append, List.mem_singleton, decide_eq_true_eq]
  rw [e, Bool.not_or, Bool.and_comm]
  refine congrArg (fun b => !(r.take j).contains x && b) ?_
  by_cases hx : x = s
  · rw [decide_eq_true hx, decide_eq_false (fun z => z hx)]
    rfl
  · rw [decide_eq_false hx, decide_eq_true hx]
    rfl
/-! ### ever, told, greatest, lasts: what they give back -/
def everM (want : Nat) (fs s : List Nat) : List Int := Ks441Neutral.out (answer (.ever want fs s))
theorem answer_ever (w : Nat) (f s : List Nat) : answer (.ever w f s) = given f s fun q => if 100 < w then no (-22) else no (if (ever q w).contains s then 1 else 0) := rfl
theorem everM_no {want : Nat} {fs s : List Nat} (h : (areB fs s && decide (want ≤ 100)) = false) : everM want fs s = refused := by
  unfold everM
  rw [answer_ever, given_is]
  by_cases h1 : areB fs s = true
  · rw [h1, Bool.true_and, decide_eq_false_iff_not] at h
    rw [if_pos h1, if_pos (by omega)]
    rfl
  · rw [if_neg h1]
    rfl
theorem everM_yes {want : Nat} {fs s : List Nat} (h1 : areB fs s = true) (h2 : want ≤ 100) : everM want fs s = [if (ever (filtersOf fs) want).contains s = true then 1 else 0] := by
  unfold everM
  rw [answer_ever, given_is, if_pos h1, if_neg (by omega)]
  rfl
theorem told_succ {f : Filters} {want : Nat} {l : List (List Nat)} {s : List Nat} {n w : Nat} (h : choose f want l s = some w) : told f want l (n + 1) s = w :: told f want l n (next s w) := by
  rw [told, h]
theorem told_len {f : Filters} {want : Nat} {l : List (List Nat)} : ∀ (n : Nat) (s : List Nat), (told f want l n s).length ≤ n
  | 0, _ => Nat.le_refl _
  | n + 1, s => by
    rw [told]
    split
    · exact Nat.zero_le _
    · rw [List.length_cons]
      exact Nat.succ_le_succ (told_len n _)
def toldM (want n : Nat) (fs s : List Nat) : List Int := Ks441Neutral.out (answer (.told want n fs s))
theorem answer_told (w n : Nat) (f s : List Nat) : answer (.told w n f s) = given f s fun q => if 100 < w ∨ 40 < n then no (-22) else if (ever q w).contains s then { ret := n, out := told q w (ever q w) n s } else no (-33) := rfl
theorem toldM_no {want n : Nat} {fs s : List Nat} (h : (areB fs s && decide (want ≤ 100)) = false ∨ 40 < n) : toldM want n fs s = refused := by
  unfold toldM
  rw [answer_told, given_is]
  by_cases h1 : areB fs s = true
  · have c : 100 < want ∨ 40 < n := by
      rcases h with h | h
      · rw [h1, Bool.true_and, decide_eq_false_iff_not] at h
        exact .inl (by omega)
      · exact .inr h
    rw [if_pos h1, if_pos c]
    rfl
  · rw [if_neg h1]
    rfl
theorem toldM_cannot {want n : Nat} {fs s : List Nat} (h1 : areB fs s = true) (h2 : want ≤ 100) (h3 : n ≤ 40) (h : (ever (filtersOf fs) want).contains s = false) : toldM want n fs s = [-33] := by
  unfold toldM
  rw [answer_told, given_is, if_pos h1, if_neg (by omega), h]
  rfl
theorem toldM_yes {want n : Nat} {fs s : List Nat} (h1 : areB fs s = true) (h2 : want ≤ 100) (h3 : n ≤ 40) (h : (ever (filtersOf fs) want).contains s = true) : toldM want n fs s = (n : Int) :: (told (filtersOf fs) want (ever (filtersOf fs) want) n s).map Int.ofNat := by
  unfold toldM
  rw [answer_told, given_is, if_pos h1, if_neg (by omega), h]
  rfl
theorem get_le_max : ∀ (q : List Nat) (i a : Nat), q.getD i 0 ≤ q.foldl max a
  | [], _, _ => Nat.zero_le _
  | x :: r, 0, a => by
    show x ≤ r.foldl max (max a x)
    have h : ∀ (l : List Nat) (b : Nat), b ≤ l.foldl max b := fun l => by
      induction l with
      | nil => exact fun b => Nat.le_refl b
      | cons y l ih => exact fun b => Nat.le_trans (Nat.le_max_left b y) (ih (max b y))
    exact Nat.le_trans (Nat.le_max_right a x) (h r _)
  | x :: r, i + 1, a => get_le_max r i (max a x)
def most (f : Filters) : Nat := (f.map fun q => q.foldl max 0).sum
theorem flow_le_from (w : Nat) : ∀ (f : Filters) (s : List Nat) (k : Nat), (((f.zip s).zipIdx k).map fun x => if x.2 + 1 = w then 0 else x.1.1.getD (x.1.2 - 1) 0).sum ≤ most f
  | [], _, _ => Nat.zero_le _
  | _ :: _, [], _ => Nat.zero_le _
  | q :: f, a :: s, k => by
    rw [List.zip_cons_cons, List.zipIdx_cons, List.map_cons, List.sum_cons]
    show (if k + 1 = w then 0 else q.getD (a - 1) 0) + _ ≤ ((q.foldl max 0) :: f.map fun q => q.foldl max 0).sum
    rw [List.sum_cons]
    refine Nat.add_le_add ?_ (flow_le_from w f s (k + 1))
    split
    · exact Nat.zero_le _
    · exact get_le_max q (a - 1) 0
theorem flow_le (f : Filters) (s : List Nat) (w : Nat) : flow f s w ≤ most f := flow_le_from w f s 0
/-- more than what can flow can't be kept -/
theorem ever_le {f : Filters} {v : Nat} {s : List Nat} (hm : f.length ≤ 3) (h : (ever f v).contains s = true) : v ≤ most f := by
  obtain ⟨w, hw⟩ := lost_choose (ever_fix (f := f) (want := v) hm) (List.contains_iff_mem.mp h)
  obtain ⟨_, h2, _⟩ := choose_some hw
  exact Nat.le_trans h2 (flow_le f s w)
theorem fold_le {b : Nat} : ∀ (q : List Nat) (a : Nat), a ≤ b → (∀ v ∈ q, v ≤ b) → q.foldl max a ≤ b
  | [], _, h, _ => h
  | x :: r, a, h, hq => fold_le r (max a x) (Nat.max_le.mpr ⟨h, hq x (List.mem_cons_self ..)⟩) fun v hv => hq v (List.mem_cons_of_mem _ hv)
theorem most_le : ∀ fs : List Nat, (∀ v ∈ fs, v ≤ 20) → most (filtersOf fs) ≤ 20 * (filtersOf fs).length
  | [], _ => Nat.le_of_eq (by simp [filtersOf, most])
  | [_], _ => Nat.le_of_eq (by simp [filtersOf, most])
  | [_, _], _ => Nat.le_of_eq (by simp [filtersOf, most])
  | a :: b :: c :: l, h => by
    show ([a, b, c].foldl max 0 :: (filtersOf l).map fun q => q.foldl max 0).sum ≤ 20 * ((filtersOf l).length + 1)
    rw [List.sum_cons]
    have h1 : [a, b, c].foldl max 0 ≤ 20 := fold_le _ _ (Nat.zero_le _) fun v hv => h v (by
      simp only [List.mem_cons, List.not_mem_nil, or_false] at hv ⊢
      rcases hv with h | h | h
      · exact .inl h
      · exact .inr (.inl h)
      · exact .inr (.inr (.inl h)))
    have h2 : ((filtersOf l).map fun q => q.foldl max 0).sum ≤ 20 * (filtersOf l).length := most_le l fun v hv => h v (by simp only [List.mem_cons]; exact .inr (.inr (.inr hv)))
    omega
theorem find_down {p : Nat → Bool} : ∀ (n v : Nat), v < n → p v = true → (∀ u, v < u → u < n → p u = false) → (List.range n).reverse.find? p = some v
  | 0, v, h, _, _ => absurd h (Nat.not_lt_zero v)
  | n + 1, v, h, hv, hu => by
    rw [List.range_succ, List.reverse_append]
    show (n :: (List.range n).reverse).find? p = some v
    by_cases e : v = n
    · subst e
      rw [List.find?_cons, hv]
    · rw [List.find?_cons, hu n (by omega) (by omega)]
      exact find_down n v (by omega) hv fun u h1 h2 => hu u h1 (by omega)
theorem greatest_at {fs s : List Nat} (har : areB fs s = true) {v : Nat} (hv : v ≤ 60) (h : (ever (filtersOf fs) v).contains s = true) (hn : ∀ u, v < u → u ≤ 60 → (ever (filtersOf fs) u).contains s = false) : greatest (filtersOf fs) s = v := by
  obtain ⟨_, _, e, _, hm⟩ := are_ok har
  have hle := ever_le (by rw [e]; exact hm) h
  have h60 : most (filtersOf fs) ≤ 60 := by
    have := most_le fs (areB_iff.mp har).2.2.1
    rw [e] at this
    omega
  have hf := find_down (p := fun v => (ever (filtersOf fs) v).contains s) (most (filtersOf fs) + 1) v (by omega) h fun u h1 h2 => hn u h1 (by omega)
  show (((List.range (most (filtersOf fs) + 1)).reverse.find? fun v => (ever (filtersOf fs) v).contains s).getD 0) = v
  rw [hf]
  rfl
theorem greatest_zero {fs s : List Nat} (har : areB fs s = true) (hn : ∀ u, 0 < u → u ≤ 60 → (ever (filtersOf fs) u).contains s = false) : greatest (filtersOf fs) s = 0 := by
  obtain ⟨_, _, e, _, hm⟩ := are_ok har
  have h60 : most (filtersOf fs) ≤ 60 := by
    have := most_le fs (areB_iff.mp har).2.2.1
    rw [e] at this
    omega
  cases h : (ever (filtersOf fs) 0).contains s with
  | true => exact greatest_at har (Nat.zero_le _) h fun u h1 h2 => hn u h1 h2
  | false =>
    have hf : (List.range (most (filtersOf fs) + 1)).reverse.find? (fun v => (ever (filtersOf fs) v).contains s) = none := List.find?_eq_none.mpr fun v hv => by
      have hv := List.mem_range.mp (List.mem_reverse.mp hv)
      by_cases e0 : v = 0
      · rw [e0, h]
        exact Bool.false_ne_true
      · rw [hn v (by omega) (by omega)]
        exact Bool.false_ne_true
    show (((List.range (most (filtersOf fs) + 1)).reverse.find? fun v => (ever (filtersOf fs) v).contains s).getD 0) = 0
    rw [hf]
    rfl
def greatestM (fs s : List Nat) : List Int := Ks441Neutral.out (answer (.greatest fs s))
theorem answer_greatest (f s : List Nat) : answer (.greatest f s) = given f s fun q => no (greatest q s : Nat) := rfl
theorem greatestM_no {fs s : List Nat} (h : areB fs s = false) : greatestM fs s = refused := by
  unfold greatestM
  rw [answer_greatest, given_is, h]
  rfl
theorem greatestM_yes {fs s : List Nat} (h : areB fs s = true) : greatestM fs s = [((greatest (filtersOf fs) s : Nat) : Int)] := by
  unfold greatestM
  rw [answer_greatest, given_is, if_pos h]
  rfl
theorem fold_max {p : Nat → Prop} [DecidablePred p] {g : Nat → Nat} : ∀ (L : List Nat) (a : Nat),
    a ≤ L.foldl (fun m w => if p w then max m (g w) else m) a ∧ (∀ w ∈ L, p w → g w ≤ L.foldl (fun m w => if p w then max m (g w) else m) a) ∧
      (L.foldl (fun m w => if p w then max m (g w) else m) a = a ∨ ∃ w ∈ L, p w ∧ L.foldl (fun m w => if p w then max m (g w) else m) a = g w)
  | [], a => ⟨Nat.le_refl a, fun _ h => absurd h List.not_mem_nil, .inl rfl⟩
  | x :: r, a => by
    rw [List.foldl_cons]
    by_cases h : p x
    · rw [if_pos h]
      obtain ⟨h1, h2, h3⟩ := fold_max (p := p) (g := g) r (max a (g x))
      refine ⟨by omega, fun w hw pw => ?_, ?_⟩
      · rcases List.mem_cons.mp hw with rfl | hw
        · omega
        · exact h2 w hw pw
      · rcases h3 with h3 | ⟨w, hw, pw, e⟩
        · by_cases hm : g x ≤ a
          · exact .inl (by rw [h3]; omega)
          · exact .inr ⟨x, List.mem_cons_self .., h, by rw [h3]; omega⟩
        · exact .inr ⟨w, List.mem_cons_of_mem _ hw, pw, e⟩
    · rw [if_neg h]
      obtain ⟨h1, h2, h3⟩ := fold_max (p := p) (g := g) r a
      refine ⟨h1, fun w hw pw => ?_, ?_⟩
      · rcases List.mem_cons.mp hw with rfl | hw
        · exact absurd pw h
        · exact h2 w hw pw
      · rcases h3 with h3 | ⟨w, hw, pw, e⟩
        · exact .inl h3
        · exact .inr ⟨w, List.mem_cons_of_mem _ hw, pw, e⟩
section
variable {f : Filters} {want : Nat}
theorem lasts_more {n w : Nat} {s : List Nat} (hw : w ≤ f.length) (h : want ≤ flow f s w) : 1 + lasts f want n (next s w) ≤ lasts f want (n + 1) s :=
  (fold_max (p := fun w => want ≤ flow f s w) (g := fun w => 1 + lasts f want n (next s w)) (List.range (f.length + 1)) 0).2.1 w (List.mem_range.mpr (by omega)) h
theorem lasts_by {n : Nat} {s : List Nat} : lasts f want (n + 1) s = 0 ∨ ∃ w, w ≤ f.length ∧ want ≤ flow f s w ∧ lasts f want (n + 1) s = 1 + lasts f want n (next s w) := by
  rcases (fold_max (p := fun w => want ≤ flow f s w) (g := fun w => 1 + lasts f want n (next s w)) (List.range (f.length + 1)) 0).2.2 with h | ⟨w, hw, pw, e⟩
  · exact .inl h
  · exact .inr ⟨w, Nat.le_of_lt_succ (List.mem_range.mp hw), pw, e⟩
/-- the most hours from any of these ages on -/
def Best (f : Filters) (want k : Nat) (S : List (List Nat)) (b : Nat) : Prop := (∃ s ∈ S, lasts f want k s = b) ∧ ∀ s ∈ S, lasts f want k s ≤ b
/-- one hour on -/
def Hour (f : Filters) (want : Nat) (S T : List (List Nat)) : Prop := ∀ x, x ∈ T ↔ ∃ s ∈ S, ∃ w, w ≤ f.length ∧ want ≤ flow f s w ∧ x = next s w
theorem best_none {k b : Nat} {S : List (List Nat)} (h : Best f want (k + 1) S b) (hT : Hour f want S []) : b = 0 := by
  obtain ⟨⟨s, hs, e⟩, _⟩ := h
  rcases lasts_by (f := f) (want := want) (n := k) (s := s) with z | ⟨w, hw, pw, _⟩
  · exact e.symm.trans z
  · exact absurd ((hT _).mpr ⟨s, hs, w, hw, pw, rfl⟩) List.not_mem_nil
theorem best_some {k b : Nat} {S T : List (List Nat)} (h : Best f want (k + 1) S b) (hT : Hour f want S T) (hne : T ≠ []) : ∃ c, Best f want k T c ∧ b = 1 + c := by
  obtain ⟨⟨s, hs, e⟩, hle⟩ := h
  have all : ∀ x ∈ T, 1 + lasts f want k x ≤ b := fun x hx => by
    obtain ⟨t, ht, w, hw, pw, rfl⟩ := (hT x).mp hx
    exact Nat.le_trans (lasts_more hw pw) (hle t ht)
  obtain ⟨x, hx⟩ := List.exists_mem_of_ne_nil T hne
  have h1 := all x hx
  rcases lasts_by (f := f) (want := want) (n := k) (s := s) with z | ⟨w, hw, pw, e2⟩
  · omega
  · refine ⟨lasts f want k (next s w), ⟨⟨_, (hT _).mpr ⟨s, hs, w, hw, pw, rfl⟩, rfl⟩, fun t ht => ?_⟩, by omega⟩
    have := all t ht
    omega
end
/-- a key put into a dict -/
def ins (T : List (List Nat)) (x : List Nat) : List (List Nat) := if T.contains x = true then T else T ++ [x]
theorem mem_ins {T : List (List Nat)} {x y : List Nat} : y ∈ ins T x ↔ y ∈ T ∨ y = x := by
  unfold ins
  split
  · next h => exact ⟨.inl, fun z => z.elim id fun e => e ▸ List.contains_iff_mem.mp h⟩
  · rw [List.mem_append, List.mem_singleton]
theorem ins_len (T : List (List Nat)) (x : List Nat) : (ins T x).length ≤ T.length + 1 := by
  unfold ins
  split
  · omega
  · rw [List.length_append]
    exact Nat.le_refl _
def lastsM (want n : Nat) (fs s : List Nat) : List Int := Ks441Neutral.out (answer (.lasts want n fs s))
theorem answer_lasts (w n : Nat) (f s : List Nat) : answer (.lasts w n f s) = given f s fun q => if 100 < w ∨ 7 < n then no (-22) else no (lasts q w n s : Nat) := rfl
theorem lastsM_no {want n : Nat} {fs s : List Nat} (h : (areB fs s && decide (want ≤ 100)) = false ∨ 7 < n) : lastsM want n fs s = refused := by
  unfold lastsM
  rw [answer_lasts, given_is]
  by_cases h1 : areB fs s = true
  · have c : 100 < want ∨ 7 < n := by
      rcases h with h | h
      · rw [h1, Bool.true_and, decide_eq_false_iff_not] at h
        exact .inl (by omega)
      · exact .inr h
    rw [if_pos h1, if_pos c]
    rfl
  · rw [if_neg h1]
    rfl
theorem lastsM_yes {want n : Nat} {fs s : List Nat} (h1 : areB fs s = true) (h2 : want ≤ 100) (h3 : n ≤ 7) : lastsM want n fs s = [((lasts (filtersOf fs) want n s : Nat) : Int)] := by
  unfold lastsM
  rw [answer_lasts, given_is, if_pos h1, if_neg (by omega)]
  rfl
end WT
/-! # words that the hand layer lacks: enumerate of a tuple, d.pop(k) and {k: v} where k is a tuple -/
namespace WT
open PySem PySem.Spec PyProof.Rows L2
/-! ### enumerate(tuple) -/
/-- the enumerate object over anything whose iterator is told, from 0 on -/
def enumObj (it : Addr) : Obj := { cls := .type "enumerate", data := .fields #[.none, .bool false, .ref it, rawInt 0, .none, .none] }
theorem meets_enum1 {v : Value} {ob : Obj} {Hh : Heap → Prop} (B : Begins v ob Hh) :
    Meets (Builtin.«enumerate.__new__» ⟨[.type "enumerate", v], []⟩) (fun _ R s => Hh s.heap ∧
      R (.ok (.ret (.ref (s.heap.push ob).objs.size))) { s with heap := (s.heap.push ob).push (enumObj s.heap.objs.size) }) :=
  .of_wp fun prog w A R s0 z => by
    obtain ⟨hp, gs, dr, tk, os⟩ := s0
    obtain ⟨z1, z2⟩ := z
    have hsub := sub_enumerate
    have q1 : ∀ {A' : Around} {E : Value → Shared → Prop} {Q : Value → Shared → Prop}, Q (.ref hp.objs.size) ⟨hp.push ob, gs, dr, tk, os⟩ →
        wpAny (model prog w) A' (pyIter v) Q E ⟨hp, gs, dr, tk, os⟩ := fun q => B.iter prog w _ _ ⟨hp, gs, dr, tk, os⟩ _ z1 q
    wp_walk using q1
    refine wpAny_stack_any fun stk => wpAny_pure ?_
    split
    · rename_i cl _ _ _ _ _
      cases (cl == Value.type "enumerate")
      · wp_walk using q1
        exact ⟨_, rfl, z2⟩
      · wp_walk using q1
        exact ⟨_, rfl, z2⟩
    · wp_walk using q1
      exact ⟨_, rfl, z2⟩
theorem call_enum1 {prog : Program} {w : World} {A : Around} {E : Value → Shared → Prop} {s : Shared} {v : Value} {ob : Obj} {Hh : Heap → Prop} {Q : Value → Shared → Prop} (B : Begins v ob Hh) (h1 : Hh s.heap)
    (k : ∀ h2 : Heap, IsEnum h2 (s.heap.objs.size + 1) s.heap.objs.size 0 .none → h2.get? s.heap.objs.size = some ob → (∀ b u, s.heap.get? b = some u → h2.get? b = some u) →
      Q (.ref (s.heap.objs.size + 1)) { s with heap := h2 }) : wpAny (model prog w) A (call (.type "enumerate") [v]) Q E s := by
  refine callType_new F.called_enumerate (by decide) (F.typeCall_enumerate_1 _) (F.newCall_enumerate_1 _) (fun x => F.args_object_init_2 x _) F.entry_enumerate_new
    (meets_enum1 B) ⟨h1, ?_⟩
  have sz : (s.heap.push ob).objs.size = s.heap.objs.size + 1 := Heap.size_push ..
  show _ ∧ _
  rw [sz]
  have en : IsEnum ((s.heap.push ob).push (enumObj s.heap.objs.size)) (s.heap.objs.size + 1) s.heap.objs.size 0 .none := by
    have := Heap.get?_push_size (s.heap.push ob) (o := enumObj s.heap.objs.size) rfl
    rw [sz] at this
    exact this
  exact ⟨⟨_, en, rfl⟩, k _ en (Heap.get?_push_of_some _ (Heap.get?_push_size _ B.free)) fun b u x => Heap.get?_push_of_some _ (Heap.get?_push_of_some _ x)⟩
/-- the tuple at a, each item in a new pair with its number -/
def IteT (K : PySem.W.Frag) (a : Addr) : It :=
  ⟨fun j H => ∃ (ys : List V) (y : V), SqT K H a ys ∧ ys[j]? = some y,
    fun j H v H' => ∃ T y, v = .ref T ∧ H T = none ∧ H' = upd H T (.tup [.int (j : Nat), y]) ∧ ∀ ys, SqT K H a ys → ys[j]? = some y,
    fun j H => ∃ ys : List V, SqT K H a ys ∧ ys.length = j⟩
theorem tup_ne {h : Heap} {a b : Addr} {its : Array Value} {o : Obj} (ha : IsTup h a its) (hb : h.get? b = some o) (hc : o.cls ≠ .type "tuple") : a ≠ b := fun z => by
  obtain ⟨u, h1, h2, _⟩ := ha
  rw [z, hb] at h1
  cases h1
  exact hc h2
theorem turn_enumT {P : Program} {w : World} {K : PySem.W.Frag} {elts : List Expr} {kk : Nat} {tpos : Pos} (a e it : Addr) :
    Turn P w K (.Tuple elts kk tpos) (IteT K a) [e, it] e (fun j h => (∃ old, IsEnum h e it ((j : Nat) : Int) old) ∧ h.IsTupleIter it a j ∧ e ≠ it) where
  mem := List.mem_cons_self ..
  obj := fun j h st b hb => by
    obtain ⟨⟨old, en⟩, ⟨o, ho, _, hd⟩, _⟩ := st
    rcases List.mem_cons.mp hb with ze | z
    · subst ze
      exact ⟨_, en, fun v q => nomatch q⟩
    · exact ⟨o, (List.mem_singleton.mp z) ▸ ho, fun v q => by rw [hd] at q; cases q⟩
  keep := fun j h h' st k => by
    obtain ⟨⟨old, en⟩, ⟨o, ho, hc, hd⟩, ne⟩ := st
    exact ⟨⟨old, k e (List.mem_cons_self ..) _ en⟩, ⟨o, k it (List.mem_cons_of_mem _ (List.mem_cons_self ..)) _ ho, hc, hd⟩, ne⟩
  item := by
    intro X hP hw hK hc j pins s σ H E I hf st hg
    subst hP hw hK
    obtain ⟨⟨old, en⟩, hit, ne⟩ := st
    obtain ⟨ys, y, hq, hy⟩ := hg
    obtain ⟨its, rv, pt, _⟩ := I.tuple hq
    obtain ⟨u, hu, ru⟩ := rv.get hy
    obtain ⟨oi, hoi, hci, hdi⟩ := id hit
    have lte : e < s.heap.objs.size := Heap.lt_size en
    have lti : it < s.heap.objs.size := Heap.lt_size hoi
    have nai : a ≠ it := tup_ne pt hoi (by rw [hci]; decide)
    have nae : a ≠ e := tup_ne pt en (by show Value.type "enumerate" ≠ Value.type "tuple"; decide)
    have hh : X.A.in1.handled = none := I.ok.hd hc
    have lj : j < its.toArray.size := by
      rw [List.size_toArray]
      exact (List.getElem?_eq_some_iff.mp hu).1
    refine wpAny_pyNext_enum_itemD (Draws.tuple hh it a nai its.toArray) en ⟨hit, pt⟩ lj ne (fun z => ?_) fun x h2 tk hx ho st2 hT hsz hk => ?_
    · rcases List.mem_cons.mp z with ze | zi
      · exact ne ze
      · exact nae (List.mem_singleton.mp zi).symm
    have ex : x = u := by
      have hx : its.toArray[j]? = some x := hx
      rw [List.getElem?_toArray, hu] at hx
      exact (Option.some.inj hx).symm
    subst ex
    refine ⟨_, rfl, wpAny_letOwnedTupleGo_enum (s := { s with heap := h2, toks := tk + 1 }) ho fun h3 en3 sb => ?_⟩
    have hT3 : h3.get? s.heap.objs.size = some { cls := .type "tuple", data := .seq #[.int j tk, x] } := (sb.2 _ (Nat.ne_of_gt lte)).trans hT
    have new : ObjOk X.prog X.w (upd H s.heap.objs.size (.tup [.int (j : Nat), y])) h3 s.heap.objs.size (.tup [.int (j : Nat), y]) :=
      ⟨by show 2 ≤ sizeLine; decide, [.int j tk, x], .cons ⟨_, rfl⟩ (.cons ru .nil), ⟨_, hT3, rfl, _, rfl⟩⟩
    have I3 : L2.Inv X pins σ (upd H s.heap.objs.size (.tup [.int (j : Nat), y])) { s with heap := h3, toks := tk + 1 } :=
      I.turnedNew (ch := [e, it]) (fun b o hb q => (sb.2 b (fun z => hb (z ▸ List.mem_cons_self ..))).trans
        (hk b o (fun z => hb (z ▸ List.mem_cons_self ..)) (fun z => hb (z ▸ List.mem_cons_of_mem _ (List.mem_cons_self ..))) q)) hf (Nat.le_refl _) new
    obtain ⟨oj, hoj, hcj, hdj⟩ := st2.1
    refine ⟨.ref s.heap.objs.size, _, I3, rfl, ⟨_, y, rfl, I.hok.fresh (Nat.le_refl _), rfl, fun zs hz => by rw [I.tuple_inj hz hq]; exact hy⟩,
      ⟨⟨x, ?_⟩, ⟨oj, (sb.2 it (Ne.symm ne)).trans hoj, hcj, hdj⟩, ne⟩, fun b hb => ?_⟩
    · rw [show ((j + 1 : Nat) : Int) = (j : Int) + 1 by omega]
      exact en3
    · have lb : b < s.heap.objs.size := by
        rcases List.mem_cons.mp hb with ze | zi
        · rw [ze]
          exact lte
        · rw [List.mem_singleton.mp zi]
          exact lti
      rw [upd_ne (Nat.ne_of_lt lb)]
      exact (hf b hb).1
  done := by
    intro X hP hw hK hc j pins s σ H E I hf st hg
    subst hP hw hK
    obtain ⟨⟨old, en⟩, hit, ne⟩ := st
    obtain ⟨ys, hq, hy⟩ := hg
    obtain ⟨its, rv, pt, _⟩ := I.tuple hq
    obtain ⟨oi, hoi, hci, hdi⟩ := id hit
    have nai : a ≠ it := tup_ne pt hoi (by rw [hci]; decide)
    obtain ⟨f0, f1, f2, f3, f4, f5⟩ := hf it (List.mem_cons_of_mem _ (List.mem_cons_self ..))
    have hl := rv.length
    have ln : its.toArray.size = j := by
      rw [List.size_toArray, ← hl]
      exact hy
    subst ln
    have hh : X.A.in1.handled = none := I.ok.hd hc
    exact wpAny_pyNext_enum_endD (Draws.tuple hh it a nai its.toArray) en ⟨hit, pt⟩ fun h2 eb => ⟨rfl, I.turned (t' := s.toks) (fun b o hb q => eb b o hb q) f0 f1 f3 f4 f5⟩
  self := fun A j s Q E st h => by
    obtain ⟨⟨_, en⟩, _⟩ := st
    exact wpAny_pyIter_enum en h
def iEnumT (K : PySem.W.Frag) (ta : TA) : TI := fun σ H R => ta σ H fun vs H1 => ∃ a ys, vs = [.ref a] ∧ SqT K H1 a ys ∧ R (IteT K a) H1
theorem pi_enumT {X : Cx} {e : Expr} {ta : TA} {p pos tpos : Pos} {elts : List Expr} {kk : Nat} (hg : Gl X "enumerate") (hm : X.mg "enumerate" = none) (ha : PA X [e] ta)
    (hs : starEach [e] X.env = [(false, eval e X.env)] := by rfl) : PI X (.Tuple elts kk tpos) (.Call (.Name "enumerate" p) [e] [] pos) (iEnumT X.K ta) := by
  refine ⟨fun pins s σ H R I hw => ?_⟩
  refine Call_ (ld_blt I hg hm boot_enumerate (PyProof.Rows.callWith_type1 (thn (ha.run pos pins s σ H _ I hw) fun us s1 ⟨vs, H1, I1, r1, q1⟩ => ?_) hs rfl))
  obtain ⟨a, ys, rfl, hq, q⟩ := q1
  obtain ⟨ua, rfl, rua⟩ := vals1 r1
  cases rua
  obtain ⟨its, rv, pt, _⟩ := I1.tuple hq
  refine call_enum1 (begins_tuple a its.toArray) pt fun h2 en hit hk => wpAny_pyIter_enum en ?_
  have I2 : L2.Inv X pins σ H1 { s1 with heap := h2 } := I1.kept (t' := s1.toks) hk
  refine ⟨s1.heap.objs.size + 1, [s1.heap.objs.size + 1, s1.heap.objs.size], _, _, H1, rfl, I2, turn_enumT a (s1.heap.objs.size + 1) s1.heap.objs.size,
    ⟨⟨.none, en⟩, ⟨_, hit, rfl, rfl⟩, Nat.succ_ne_self _⟩, fun b hb => ?_, q⟩
  have le : s1.heap.objs.size ≤ b := by
    rcases List.mem_cons.mp hb with ze | zi
    · rw [ze]
      exact Nat.le_succ _
    · rw [List.mem_singleton.mp zi]
      exact Nat.le_refl _
  exact I1.fpOk le (I1.hok.fresh le)
theorem walk_enumT {K : PySem.W.Frag} {a : Addr} {ys : List V} : Walk (IteT K a) ys.length (fun H => SqT K H a ys)
    (fun j H v H' => ∃ T y, v = .ref T ∧ H T = none ∧ H' = upd H T (.tup [.int (j : Nat), y]) ∧ ys[j]? = some y) :=
  ⟨fun j _ hj q => ⟨ys, ys[j], q, List.getElem?_eq_getElem hj⟩, fun _ q => ⟨ys, q, rfl⟩, fun j H v H' _ q y => by
    obtain ⟨T, z, h1, h2, h3, h4⟩ := y
    exact ⟨T, z, h1, h2, h3, h4 ys q⟩⟩
/-! ### d.pop(k), k a tuple that is there -/
section
variable {prog : Program} {w : World} {K : Type} [DecidableEq K] {knd : HeapKind prog w K}
theorem meetsPop1 {d b : Addr} {k : K} :
    MeetsIn prog w (Builtin.«dict.pop» ⟨[.ref d, .ref b], []⟩) (fun A R s => ∃ ys, knd.room A.in1 ∧ knd.is s.heap k b ∧ s.heap.DictOfH knd d ys ∧ ys.length ≤ sizeLine ∧ (atKey ys k).isSome = true ∧
      ∀ p, atKey ys k = some p → ∀ h2 tk, h2.DictOfH knd d (DT.dropH ys k) → Heap.SameBut d s.heap h2 → R (.ok (.ret p.2)) { s with heap := h2, toks := tk }) :=
  .of_wp fun A R s ⟨ys, rm, isk, dct, lim, there, go⟩ => by
    obtain ⟨ob, ents, pend, gob, _, dob, lst, _, _⟩ := id dct
    have cnt : ents.size = ys.length := size_of_entries lst
    have np : (keyPart (Value.ref b)).isSome = false := rfl
    unfold Builtin.«dict.pop» Builtin.Dict.keyAndDefault
    refine wpAny_bind (wpAny_bind (wpAny_notOrdered_dict dct.typeIs ?_))
    show wpAny _ _ (pure (d, Value.ref b, none)) _ _ s
    refine wpAny_pure ?_
    simp only [np, if_false, Bool.false_eq_true]
    refine wpAny_bind (wpAny_dictEntries gob dob (wpAny_bind (wpAny_pure ?_)))
    cases em : ents.isEmpty with
    | true =>
      have y0 : ys = [] := List.length_eq_zero_iff.mp (by
        have z0 : ents.size = 0 := by simpa using em
        omega)
      subst y0
      cases there
    | false =>
      simp only [if_false, Bool.false_eq_true]
      refine wpAny_bind (DT.takeH rm isk dct lim (fun gone => ?_) fun p en hp ev h2 dct2 sb => ?_)
      · rw [gone] at there
        cases there
      · simp only [Option.isNone_some, if_false, Bool.false_eq_true]
        exact wpAny_bind (wpAny_letGo (wpAny_pure ⟨en.val, rfl, by rw [ev]; exact go p hp h2 _ dct2 sb⟩))
end
section
variable {X : Cx}
def rPop1 : V → List V → Hp → VK → Prop := fun x xs H Q => ∃ (a : Addr) (kvs : List (List L2.Key × V)) (k : List L2.Key) (b : Addr) (v : V), x = .ref a ∧ xs = [.ref b] ∧ H a = some (.dT kvs) ∧ H b = some (.tup (k.map kV)) ∧
  valV kvs k = some v ∧ Q v (upd H a (.dT (dropK kvs k)))
theorem mt_popT1 (hu : X.A.units + 1 < cLine) : MtR X "dict.pop" rPop1 := by
  intro pins s σ H x xs v us Q I rx rxs want
  obtain ⟨a, kvs, k, b, y, rfl, rfl, ha, hb, hv, q⟩ := want
  cases rx
  obtain ⟨u1, rfl, r1⟩ := vals1 rxs
  cases r1
  obtain ⟨z, hd, ys, rel, dd⟩ := dt_of I.hok ha
  have lim : ys.length ≤ sizeLine := by
    rw [← Paired.length rel]
    exact z
  have r := rel.val k
  rw [hv] at r
  have th : (atKey ys k).isSome = true := by
    cases e : atKey ys k with
    | some p => rfl
    | none =>
      rw [e] at r
      exact False.elim (show False from r)
  refine call_meetsIn PySem.F.slot_dict_pop dd.typeIs PySem.F.entry_dict_pop (PySem.F.args_dict_pop_2 _ _) (meetsPop1 (knd := tupleKind (mixKind X.prog X.w)) (k := k))
    ⟨ys, tupleKind_room_in1 hu, key_of I.hok hb, dd, lim, th, fun p hp h2 tk dct sb => ?_⟩
  rw [hp] at r
  obtain ⟨ob, ents, pend, gob, x2, x3, x4, _, x5⟩ := dct
  have I2 : L2.Inv X pins σ (upd H a (.dT (dropK kvs k))) { s with heap := h2, toks := tk } :=
    d_write I (by rw [ha]; exact True.intro) sb ⟨ob, gob⟩ ⟨Nat.le_trans (dropK_le kvs k) z, hd, _, (L2.DX.KT_drop k rel).keeps (fun c zs ec => by
      rw [upd_ne (ne_of ec ha (fun z => nomatch z))]
      exact ec), ob, ents, pend, gob, x2, x3, x4, x5⟩
  show EP X pins σ Q p.2 _
  exact ⟨y, _, I2, r, q⟩
/-! ### {k: v}, k a tuple -/
def tDisp1 (tk tv : TE) : TE := fun σ H Q => ∀ p, H p = none → tk σ (upd H p (.dT [])) fun x H1 => tv σ H1 fun y H2 => H2 p = some (.dT []) ∧ ∃ (b : Addr) (k : List L2.Key), x = .ref b ∧ H2 b = some (.tup (k.map kV)) ∧
  Q (.ref p) (upd H2 p (.dT [(k, y)]))
theorem pe_disp1 {k v : Expr} {pos : Pos} {tk tv : TE} (hu : X.A.units + 1 < cLine) (hk : PE X k tk) (hv : PE X v tv) : PE X (.Dict [some k] [v] pos) (tDisp1 tk tv) := by
  refine ⟨fun pins s σ H Q I ask => ?_⟩
  have free := I.hok.fresh (Nat.le_refl s.heap.objs.size)
  have I1 := I.laid (a := s.heap.objs.size) (o := .dT []) (h' := s.heap.push { cls := .type "dict", data := .dict #[] }) (t' := s.toks) (fun _ _ z => Heap.get?_push_of_some _ z) (Nat.le_refl _) (dt_empty s.heap I.big)
  have P1 : PPs X pos [some k] [v] [(tk, tv)] := pps_cons hk hv pps_nil
  have rm : (tupleKind (mixKind X.prog X.w)).room X.A := Nat.lt_of_succ_lt hu
  rw [arm_eval_Dict, zip_pairTrees [some k] [v] X.env pos rfl rfl, dictDisplay_pairs (pairTrees [some k] [v] X.env pos) (fun z => nomatch z) (by decide : (1 : Nat) < 17)]
  refine wpAny_bind (wpAny_standAt (wpAny_bind (wpAny_subDictH (knd := tupleKind (mixKind X.prog X.w)) rm (by decide : (1 : Nat) ≤ 15) ?_)))
  refine thn (P1.run pins _ σ _ (fun ps H2 => match ps with
    | [(x, y)] => H2 s.heap.objs.size = some (.dT []) ∧ ∃ (b : Addr) (k : List L2.Key), x = .ref b ∧ H2 b = some (.tup (k.map kV)) ∧ Q (.ref s.heap.objs.size) (upd H2 s.heap.objs.size (.dT [(k, y)]))
    | _ => False) I1 (ask _ free)) fun ws s2 ⟨ps, H2, I2, rel, q2⟩ => ?_
  have sh : ∃ x y u r, ps = [(x, y)] ∧ ws = [(u, r)] ∧ L2.RelV x u ∧ L2.RelV y r := by
    cases rel with
    | nil => exact q2.elim
    | cons r1 rr =>
      cases rr with
      | cons _ _ => exact q2.elim
      | nil => exact ⟨_, _, _, _, rfl, rfl, r1.1, r1.2⟩
  obtain ⟨x, y, u, r, rfl, rfl, rx, ry⟩ := sh
  obtain ⟨e0, b, key, ex, eb, q3⟩ := q2
  subst ex
  cases (show u = Value.ref b from rx)
  obtain ⟨z, hd, ys, rl, dd⟩ := dt_of I2.hok e0
  cases rl
  refine ⟨[(key, b, r)], ⟨rfl, rfl, key_of I2.hok eb, trivial⟩, dd, fun h' tk' dd' hs => wpAny_pure ⟨.ref s.heap.objs.size, _, ?_, rfl, q3⟩⟩
  obtain ⟨ob, ents, pend, gob, x2, x3, x4, _, x5⟩ := dd'
  have kt : KT (upd H2 s.heap.objs.size (.dT [(key, y)])) [(key, y)] [(key, b, r)] := .cons ⟨rfl, by
    rw [upd_ne (ne_of eb e0 (fun z => nomatch z))]
    exact eb, ry⟩ .nil
  have hz : ([(key, y)] : List (List L2.Key × V)).length ≤ sizeLine := by
    rw [sizeLine_eq]
    exact (by decide : (1 : Nat) ≤ 16777216)
  exact d_write I2 (by rw [e0]; exact True.intro) hs ⟨ob, gob⟩ ⟨hz, hd, _, kt, ob, ents, pend, gob, x2, x3, x4, x5⟩
end
end WT
namespace WT
open PySem PySem.Spec PyProof.Rows L2
open Ks441 (filtersOf)
/-! # the program, def by def -/
/-- the j-th statement of the linked text -/
def topS (j : Nat) : Stmt := PySem.Challenge.pw_washedturns_s01_keeps.main.body.getD j (.Pass ⟨0, 0, 0, 0⟩)
/-- whole numbers from 0 on, as the heap holds them -/
def vN (l : List Nat) : List V := l.map fun n => V.int (n : Nat)
theorem vN_len (l : List Nat) : (vN l).length = l.length := List.length_map ..
theorem vN_at {l : List Nat} {i a : Nat} (h : l[i]? = some a) : (vN l)[i]? = some (.int (a : Nat)) := by
  unfold vN
  rw [List.getElem?_map, h]
  rfl
theorem vN_get {l : List Nat} {i : Nat} {y : V} (h : (vN l)[i]? = some y) : ∃ a, l[i]? = some a ∧ y = .int (a : Nat) := by
  unfold vN at h
  rw [List.getElem?_map] at h
  cases e : l[i]? with
  | none =>
    rw [e] at h
    cases h
  | some a =>
    rw [e] at h
    exact ⟨a, rfl, (Option.some.inj h).symm⟩
theorem vN_snoc (l : List Nat) (a : Nat) : vN l ++ [.int (a : Nat)] = vN (l ++ [a]) := by
  unfold vN
  rw [List.map_append]
  rfl
/-- a new object stands beside what stood -/
theorem same_new {H : Hp} {p : Addr} {o : HO} (h : H p = none) : Same H (upd H p o) := fun b x e => by
  rw [upd_ne (ne_of_none e h)]
  exact e
/-- one that was not there ahead is changed -/
theorem same_set {H H1 : Hp} {p : Addr} {o : HO} (s : Same H H1) (h : H p = none) : Same H (upd H1 p o) := fun b x e => by
  rw [upd_ne (ne_of_none e h)]
  exact s b x e
theorem same_tup {K : PySem.W.Frag} {H H1 : Hp} {a : Addr} {xs : List V} (s : Same H H1) (h : SqT K H a xs) : SqT K H1 a xs := by
  rcases h with (here | ⟨o, here⟩) | top
  · exact .inl (.inl (s _ _ here))
  · exact .inl (.inr ⟨o, s _ _ here⟩)
  · exact .inr top
/-- the module's names that are Python's own -/
structure Bl (mg : Str → Option Value) : Prop where
  len : mg "len" = none
  range : mg "range" = none
  enum : mg "enumerate" = none
  min : mg "min" = none
  tup : mg "tuple" = none
  int : mg "int" = none
  old : ∃ t, mg "OLDEST" = some (.int 4 t)
theorem small_of {n : Nat} (h : n ≤ 1000000) : n < sizeLine := by
  rw [sizeLine_eq]
  omega
theorem small_le {n : Nat} (h : n ≤ 1000000) : n ≤ sizeLine := Nat.le_of_lt (small_of h)
theorem ne_yes {x y : Int} (h : (!decide (V.int x = V.int y)) = true) : x ≠ y := fun z => by
  rw [z, decide_eq_true rfl] at h
  cases h
theorem ne_no {x y : Int} (h : ¬ (!decide (V.int x = V.int y)) = true) : x = y := Classical.byContradiction fun z => h (by
  rw [decide_eq_false fun e => z (V.int.inj e)]
  rfl)
theorem eq_yes {x y : Int} (h : decide (V.int x = V.int y) = true) : x = y := V.int.inj (of_decide_eq_true h)
theorem eq_no {x y : Int} (h : ¬ decide (V.int x = V.int y) = true) : x ≠ y := fun z => h (decide_eq_true (congrArg V.int z))
theorem ift {c : Bool} {A B : Prop} (hc : c = true) (h : A) : if c = true then A else B := by
  subst hc
  exact iteT h
theorem iff' {c : Bool} {A B : Prop} (hc : c = false) (h : B) : if c = true then A else B := by
  subst hc
  exact iteF h
section
variable {P : Program} {w : World} {K : PySem.W.Frag} {mg : Str → Option Value} {base : Heap}
/-! ### a list of whole numbers beside []; a comprehension that picks -/
def dN (l : List Nat) : List PyData := l.map fun n => PyData.int (n : Nat)
theorem dpN_all {H : Hp} : ∀ l : List Nat, DpAll K H (vN l) (dN l)
  | [] => .nil
  | _ :: r => .cons (.int _) (dpN_all r)
theorem eqv_nil (ds : List PyData) : PyData.eqv (.list ds) (.list []) = ds.isEmpty := by
  cases ds with
  | nil => simp only [PyData.eqv, PyData.eqvAll, List.isEmpty_nil]
  | cons x r => simp only [PyData.eqv, PyData.eqvAll, List.isEmpty_cons]
theorem dN_lay : ∀ l : List Nat, PyData.canLayAll0 (dN l) = true ∧ PyData.depthAll (dN l) = 0
  | [] => ⟨by simp only [dN, List.map_nil, PyData.canLayAll0], by simp only [dN, List.map_nil, PyData.depthAll]⟩
  | n :: r => by
    obtain ⟨h1, h2⟩ := dN_lay r
    have e : dN (n :: r) = PyData.int (n : Nat) :: dN r := rfl
    rw [e]
    exact ⟨by simp only [PyData.canLayAll0, PyData.canLay0, h1, Bool.and_true], by simp only [PyData.depthAll, PyData.depth, h2, Nat.max_self]⟩
theorem dN_shaped (l : List Nat) : SeqAt.shaped (.list (dN l)) = true := by
  obtain ⟨h1, h2⟩ := dN_lay l
  unfold SeqAt.shaped
  rw [PyData.canLay0, h1, PyData.depth, h2]
  rfl
theorem nil_shaped : SeqAt.shaped (.list []) = true := dN_shaped []
theorem dN_empty (l : List Nat) : (dN l).isEmpty = l.isEmpty := by
  cases l <;> rfl
theorem filter_nil {l : List Nat} {p : Nat → Bool} : (l.filter p).isEmpty = l.all fun x => !p x := by
  rw [Bool.eq_iff_iff, List.isEmpty_iff, List.filter_eq_nil_iff, List.all_eq_true]
  exact ⟨fun h x hx => by simpa using h x hx, fun h x hx => by simpa using h x hx⟩
/-- [x for x in l if test] -/
theorem lc_pick {σ : L2.St} {H : Hp} {Q : VK} {i j : Nat} {tt : TT} (l : List Nat) (p : Nat → Bool) (a : Addr) (hs : σ[i]? = some (some (.ref a))) (hj : j < σ.length) (hS : SqL K H a (vN l)) (hl : l.length ≤ 1000)
    (ht : ∀ (n : Nat) (H1 : Hp) (Q1 : Bool → Hp → Prop), Q1 (p n) H1 → tt ((wipe σ [j]).set j (some (.int (n : Nat)))) H1 Q1)
    (q : ∀ D H', Same H H' → H D = none → H' D = some (.lst (vN (l.filter p))) → Q (.ref D) H') : tLc (iList K (tVar i)) (gName j) tt (tVar j) [j] σ H Q := by
  refine ⟨.ref a, hs, a, rfl, ⟨_, hS⟩, fun D nD => lc_list (K := K) (a := a) (xs := vN l) (fun n H' => Same H H' ∧ H' D = some (.lst (vN ((l.take n).filter p)))) ⟨same_new nD, upd_same⟩ (fun n H' _ ⟨s1, _⟩ => s1.seq hS) ?_ ?_⟩
  · rintro n x H1 hx ⟨s1, hD⟩
    obtain ⟨v, hv, rfl⟩ := vN_get hx
    have hw : j < (wipe σ [j]).length := by
      rw [wipe_length]
      exact hj
    refine ⟨by show ((σ.set j none).set j _).set j none = σ.set j none; rw [List.set_set, List.set_set], ht v H1 _ ?_⟩
    have step : (l.take (n + 1)).filter p = (l.take n).filter p ++ if p v = true then [v] else [] := by
      rw [take_more hv, List.filter_append, List.filter_cons]
      rfl
    cases e : p v with
    | true =>
      rw [e, if_pos rfl] at step
      refine iteT ⟨.int (v : Nat), List.getElem?_set_self hw, _, hD, ?_, same_set s1 nD, ?_⟩
      · rw [vN_len]
        refine small_of (Nat.le_trans (List.length_filter_le _ _) ?_)
        rw [List.length_take]
        omega
      · rw [upd_same, step, vN_snoc]
    | false =>
      rw [e, if_neg Bool.false_ne_true, List.append_nil] at step
      refine iteF ⟨s1, ?_⟩
      rw [step]
      exact hD
  · rintro H' ⟨s1, hD⟩
    rw [vN_len, List.take_length] at hD
    exact q D H' s1 nD hD
/-! ### are_filters -/
abbrev sAre : Stmt := topS 11
theorem scAre : FnScope ["filters", "ages", "flow", "age"] ["filters", "ages"] (defScope sAre) := ⟨rfl, rfl, rfl, by decide +kernel, rfl, by decide +kernel, by decide +kernel⟩
structure Mo (mg : Str → Option Value) : Prop where
  filters : ∃ t, mg "MOST_FILTERS" = some (.int 3 t)
  flow : ∃ t, mg "MOST_FLOW" = some (.int 20 t)
  notso : ∃ t, mg "NOT_SO" = some (.int (-22) t)
def spAre (K : PySem.W.Frag) : Sp := fun vs H Q _ => ∃ (fa aa : Addr) (fs s : List Nat), vs = [.ref fa, .ref aa] ∧ SqL K H fa (vN fs) ∧ SqL K H aa (vN s) ∧ fs.length ≤ 50 ∧ s.length ≤ 50 ∧
  ∀ H', Same H H' → Q (.bl (areB fs s)) H'
theorem ok_are {f : Addr} {fd : FuncData} {k : Nat} (F : Fun K "are_filters" "are_filters" sAre f fd) (B : Bl mg) (M : Mo mg) : FnOk P w K mg base CX0 (k + 1) f fd ["filters", "ages"] (spAre K) := by
  obtain ⟨tO, gO⟩ := B.old
  obtain ⟨t1, g1⟩ := M.filters
  obtain ⟨t2, g2⟩ := M.flow
  refine F.ok scAre (fun vs H Q E h => ?_) (fun cdv A outer st H vs Q E hr h => ?_)
  · obtain ⟨fa, aa, fs, s, rfl, _⟩ := h
    rfl
  · obtain ⟨fa, aa, fs, s, rfl, hF, hA, hlf, hls, q⟩ := h
    refine ⟨_, pss_cons (ps_if (PW.pt (pw_or (pt_not (pt_chain op_le op_le pe_int (pe_callB call_len_seq (by rfl) B.len PySem.boot_len (pa_cons (pv 1) pa_nil)) (pe_glob (v := .int 3) rfl g1 ⟨_, rfl⟩)))
          (pw_or1 (pt_cmpR op_ne (pe_callB call_len_seq (by rfl) B.len PySem.boot_len (pa_cons (pv 0) pa_nil)) (pe_op op_mul pe_int (pe_callB call_len_seq (by rfl) B.len PySem.boot_len (pa_cons (pv 1) pa_nil))) (nomark _)))))
        (pss_one (ps_ret pe_bl)) pss_nil)
      (pss_cons (ps_if (pt_cmpR (op_neD hr.units)
          (pe_lc (own := [("flow", 2)]) (g := gName 2) (by rfl) scAre.nd (pi_list (pv 0)) (blkOk_by (own := [("flow", 2)]) (N := ["filters", "ages", "flow", "age"]) (sc := defScope sAre) (by decide +kernel)) (fun _ _ _ _ _ => pg_name (i := 2) scAre.nd rfl (Or.inl rfl))
            (fun _ _ _ _ _ => pts_one (pt_cmpR op_gt (pv 2) (pe_glob (v := .int 20) rfl g2 ⟨_, rfl⟩) (nomark _))) (fun _ _ _ _ _ => pv 2))
          (pe_lst pa_nil) (nomark _))
        (pss_one (ps_ret pe_bl)) pss_nil)
      (pss_one (ps_ret (pe_cmpR (op_eqD hr.units)
          (pe_lc (own := [("age", 3)]) (g := gName 3) (by rfl) scAre.nd (pi_list (pv 1)) (blkOk_by (own := [("age", 3)]) (N := ["filters", "ages", "flow", "age"]) (sc := defScope sAre) (by decide +kernel)) (fun _ _ _ _ _ => pg_name (i := 3) scAre.nd rfl (Or.inl rfl))
            (fun _ _ _ _ _ => pts_one (pt_not (pt_chain op_le op_le pe_int (pv 3) (pe_glob (v := .int 4) rfl gO ⟨_, rfl⟩)))) (fun _ _ _ _ _ => pv 3))
          (pe_lst pa_nil) (nomark _))))), ?_⟩
    have no : areB fs s = false → Q (.bl false) H := fun e => by
      rw [← e]
      exact q H (Same.refl _)
    -- the lengths
    refine ⟨.ref aa, rfl, aa, vN s, rfl, .inl hA, _, _, rfl, rfl, _, rfl, ?_⟩
    by_cases c1 : 1 ≤ s.length
    rotate_left
    · refine iff' (decide_eq_false (by rw [vN_len]; omega)) ⟨_, rfl, iteT (iteT (no ?_))⟩
      unfold areB
      rw [decide_eq_false (fun z => c1 z.1)]
      rfl
    refine ift (decide_eq_true (by rw [vN_len]; omega)) ⟨_, _, rfl, rfl, _, rfl, ?_⟩
    by_cases c2 : s.length ≤ 3
    rotate_left
    · refine ift (by rw [decide_eq_false (by rw [vN_len]; omega)]; rfl) (iteT (no ?_))
      unfold areB
      rw [decide_eq_false (fun z => c2 z.2)]
      rfl
    refine iff' (by rw [decide_eq_true (by rw [vN_len]; omega)]; rfl) ?_
    refine ⟨.ref fa, rfl, fa, vN fs, rfl, .inl hF, .ref aa, rfl, aa, vN s, rfl, .inl hA, _, _, rfl, rfl, .inl ⟨by decide, by decide⟩, rfl, _, rfl, ?_⟩
    by_cases c3 : fs.length = 3 * s.length
    rotate_left
    · refine ift (by rw [decide_eq_false (fun z => c3 (by have := V.int.inj z; rw [vN_len, vN_len] at this; omega))]; rfl) (no ?_)
      unfold areB
      rw [decide_eq_false c3, Bool.false_and, Bool.and_false]
    refine iff' (by rw [decide_eq_true (congrArg V.int (by rw [vN_len, vN_len]; omega))]; rfl) ?_
    have e0 : areB fs s = ((fs.all fun v => decide (v ≤ 20)) && s.all fun v => decide (1 ≤ v ∧ v ≤ 4)) := by
      unfold areB
      rw [decide_eq_true ⟨c1, c2⟩, decide_eq_true c3, Bool.true_and, Bool.true_and]
    -- the flows
    dsimp only [tNext, tSeq, tIfS, tTest, tOp]
    refine lc_pick (K := K) (σ := [some (.ref fa), some (.ref aa), none, none]) (i := 0) (j := 2) fs (fun n => decide ((20 : Int) < (n : Nat))) fa rfl (by show 2 < 4; decide) hF (by omega) (fun n H1 Q1 q1 => ⟨_, rfl, _, _, rfl, rfl, _, rfl, q1⟩) fun D H1 s1 nD hD => ?_
    refine ⟨Nat.zero_le _, fun p np => ⟨_, _, .lst (SqL.of (xs := vN _) (by rw [upd_ne (ne_of_none hD np)]; exact hD)) (dpN_all _), .lst (SqL.of upd_same) .nil, dN_shaped _, nil_shaped, _, rfl, ?_⟩⟩
    have s2 : Same H (upd H1 p (.lst [])) := s1.trans (same_new np)
    have e1 : PyData.eqv (.list (dN (fs.filter fun n => decide ((20 : Int) < (n : Nat))))) (.list []) = fs.all fun v => decide (v ≤ 20) := by
      rw [eqv_nil, dN_empty, filter_nil]
      refine congrArg (fun g => fs.all g) (funext fun v => ?_)
      by_cases hv : v ≤ 20
      · rw [decide_eq_true hv, decide_eq_false (by omega)]
        rfl
      · rw [decide_eq_false hv, decide_eq_true (by omega)]
        rfl
    rw [e1]
    cases e2 : fs.all fun v => decide (v ≤ 20) with
    | false =>
      refine iteT ?_
      rw [e2, Bool.false_and] at e0
      have := q _ s2
      rw [e0] at this
      exact this
    | true =>
      rw [e2, Bool.true_and] at e0
      refine iteF ?_
      -- the ages
      dsimp only [tNext, tRet, tTest, tOp]
      refine lc_pick (K := K) (σ := [some (.ref fa), some (.ref aa), none, none]) (i := 1) (j := 3) s (fun n => !(decide ((1 : Int) ≤ (n : Nat)) && decide (((n : Nat) : Int) ≤ 4))) aa rfl (by show 3 < 4; decide) (s2.seq hA) (by omega) (fun n H3 Q1 q1 => ?_) fun D2 H3 s3 nD2 hD2 => ?_
      · refine ⟨_, rfl, _, _, rfl, rfl, _, rfl, ?_⟩
        cases d1 : decide ((1 : Int) ≤ (n : Nat)) with
        | false =>
          rw [d1] at q1
          exact iteF ⟨_, rfl, q1⟩
        | true =>
          rw [d1] at q1
          exact iteT ⟨_, _, rfl, rfl, _, rfl, q1⟩
      · refine ⟨Nat.zero_le _, fun p2 np2 => ⟨_, _, .lst (SqL.of (xs := vN _) (by rw [upd_ne (ne_of_none hD2 np2)]; exact hD2)) (dpN_all _), .lst (SqL.of upd_same) .nil, dN_shaped _, nil_shaped, ?_⟩⟩
        have e3 : PyData.eqv (.list (dN (s.filter fun n => !(decide ((1 : Int) ≤ (n : Nat)) && decide (((n : Nat) : Int) ≤ 4))))) (.list []) = s.all fun v => decide (1 ≤ v ∧ v ≤ 4) := by
          rw [eqv_nil, dN_empty, filter_nil]
          refine congrArg (fun g => s.all g) (funext fun v => ?_)
          rw [Bool.not_not, Bool.decide_and]
          refine congr (congrArg and (decide_eq_decide.mpr ?_)) (decide_eq_decide.mpr ?_) <;> omega
        rw [e3, ← e0]
        exact q _ (s2.trans (s3.trans (same_new np2)))
/-! ### is_asked -/
abbrev sAsk : Stmt := topS 12
theorem scAsk : FnScope ["want", "filters", "ages"] ["want", "filters", "ages"] (defScope sAsk) := ⟨rfl, rfl, rfl, by decide +kernel, rfl, by decide +kernel, by decide +kernel⟩
def spAsk (K : PySem.W.Frag) : Sp := fun vs H Q _ => ∃ (wt : Nat) (fa aa : Addr) (fs s : List Nat), vs = [.int (wt : Nat), .ref fa, .ref aa] ∧ SqL K H fa (vN fs) ∧ SqL K H aa (vN s) ∧ fs.length ≤ 50 ∧ s.length ≤ 50 ∧
  ∀ H', Same H H' → Q (.bl (areB fs s && decide (wt ≤ 100))) H'
theorem ok_ask {f fA : Addr} {fd fdA : FuncData} {k : Nat} (F : Fun K "is_asked" "is_asked" sAsk f fd) (FA : Fun K "are_filters" "are_filters" sAre fA fdA) (bA : Binds K fdA ["filters", "ages"] []) (gA : mg "are_filters" = some (.ref fA))
    (B : Bl mg) (M : Mo mg) (gW : ∃ t, mg "MOST_WANT" = some (.int 100 t)) : FnOk P w K mg base CX0 (k + 2) f fd ["want", "filters", "ages"] (spAsk K) := by
  obtain ⟨tW, gW⟩ := gW
  have GA : FnOk P w K mg base CX0 (k + 1) fA fdA ["filters", "ages"] (spAre K) := ok_are FA B M
  refine F.ok scAsk (fun vs H Q E h => ?_) (fun cdv A outer st H vs Q E hr h => ?_)
  · obtain ⟨wt, fa, aa, fs, s, rfl, _⟩ := h
    rfl
  · obtain ⟨wt, fa, aa, fs, s, rfl, hF, hA, hlf, hls, q⟩ := h
    refine ⟨_, pss_one (ps_ret (pe_and (pe_call GA hr (by rfl) gA FA.kp bA .nil pass0 (pa_cons (pv 1) (pa_cons (pv 2) pa_nil))) (pe_one (pe_cmpR op_le (pv 0) (pe_glob (v := .int 100) rfl gW ⟨_, rfl⟩) (nomark _))))), ?_⟩
    refine ⟨.ref fa, rfl, .ref aa, rfl, fa, aa, fs, s, rfl, hF, hA, hlf, hls, fun H1 s1 => ⟨_, rfl, ?_⟩⟩
    have q1 := q H1 s1
    cases e : areB fs s with
    | false =>
      rw [e] at q1
      exact iteF q1
    | true =>
      rw [e, Bool.true_and] at q1
      refine iteT ⟨_, rfl, _, _, rfl, rfl, ?_⟩
      show Q (.bl (decide (((wt : Nat) : Int) ≤ 100))) H1
      rw [show decide (((wt : Nat) : Int) ≤ 100) = decide (wt ≤ 100) from decide_eq_decide.mpr (by omega)]
      exact q1
/-! ### flow_of -/
abbrev sFlow : Stmt := topS 2
theorem scFlow : FnScope ["filters", "ages", "washed", "found", "number", "age"] ["filters", "ages", "washed"] (defScope sFlow) := ⟨rfl, rfl, rfl, by decide +kernel, rfl, by decide +kernel, by decide +kernel⟩
def spFlow (K : PySem.W.Frag) : Sp := fun vs H Q _ => ∃ (fa aa : Addr) (fs s : List Nat) (m wa : Nat), vs = [.ref fa, .ref aa, .int (wa : Nat)] ∧ SqL K H fa (vN fs) ∧ SqT K H aa (vN s) ∧ fs.length = 3 * m ∧ Ok m s ∧
  ∀ H', Same H H' → Q (.int (Ks441.flow (filtersOf fs) s wa : Nat)) H'
theorem ok_flow {f : Addr} {fd : FuncData} {k : Nat} (F : Fun K "flow_of" "flow_of" sFlow f fd) (B : Bl mg) : FnOk P w K mg base CX0 (k + 1) f fd ["filters", "ages", "washed"] (spFlow K) := by
  obtain ⟨tO, gO⟩ := B.old
  refine F.ok scFlow (fun vs H Q E h => ?_) (fun cdv A outer st H vs Q E hr h => ?_)
  · obtain ⟨fa, aa, fs, s, m, wa, rfl, _⟩ := h
    rfl
  · obtain ⟨fa, aa, fs, s, m, wa, rfl, hF, hA, hl, ho, q⟩ := h
    refine ⟨_, pss_cons (ps_set (i := 3) scFlow.nd rfl (.inl rfl) pe_int)
      (pss_cons (ps_for PassesOwn.never rfl (pi_enumT (by rfl) B.enum (pa_cons (pv 1) pa_nil))
          (pg_tup rfl (pgs_cons (pg_name (i := 4) scFlow.nd rfl (.inl rfl)) (pgs_cons (pg_name (i := 5) scFlow.nd rfl (.inl rfl)) pgs_nil)))
        (pss_one (ps_if (PW.pt (pw_and (pt_cmpR op_ne (pe_op op_add (pv 4) pe_int) (pv 2) (nomark _)) (pw_and1 (pt_cmpR op_lt (pv 5) (pe_glob (v := .int 4) rfl gO ⟨_, rfl⟩) (nomark _)))))
          (pss_one (ps_set (i := 3) scFlow.nd rfl (.inl rfl) (pe_op op_add (pv 3) (pe_ix ix_list (pv 0) (pe_op op_sub (pe_op op_add (pe_op op_mul pe_int (pv 4)) (pv 5)) pe_int) (fun _ _ => rfl)))))
          pss_nil)))
      (pss_one (ps_ret (pv 3)))), ?_⟩
    refine ⟨.ref aa, rfl, aa, vN s, rfl, hA, for_it walk_enumT
      (fun i σ H' => ∃ v4 v5, σ = [some (.ref fa), some (.ref aa), some (.int (wa : Nat)), some (.int (flowM fs (s.take i) wa : Nat)), v4, v5] ∧ Same H H')
      ⟨none, none, rfl, Same.refl _⟩ (fun i σ H' _ ⟨_, _, _, s1⟩ => same_tup s1 hA) ?_ ?_⟩
    · rintro i x σ H1 H2 hi ⟨v4, v5, rfl, s1⟩ ⟨T, y, rfl, nT, rfl, hy⟩
      obtain ⟨a, ha, rfl⟩ := vN_get hy
      have s2 : Same H (upd H1 T (.tup [.int (i : Nat), .int (a : Nat)])) := s1.trans (same_new nT)
      have step := flowM_more (fs := fs) (w := wa) ha
      have hlt : i < m := by
        rw [← ho.1]
        exact lt_of_get ha
      obtain ⟨a1, a4⟩ := ho.2 a (List.mem_of_getElem? ha)
      refine ⟨T, [.int (i : Nat), .int (a : Nat)], rfl, .inl (.inl upd_same), rfl, _, [.int (a : Nat)], rfl, _, [], rfl, rfl, ?_⟩
      refine ⟨_, rfl, _, _, rfl, rfl, _, rfl, rfl, _, rfl, ite2 (fun c => ?_) (fun c => ?_)⟩
      · have c1 : ¬ (i + 1 = wa) := fun z => ne_yes (x := (i : Int) + 1) (y := wa) c (by omega)
        refine ⟨_, rfl, _, _, rfl, rfl, _, rfl, ite2 (fun d => ?_) (fun d => ?_)⟩
        · have d1 : a < 4 := by
            have := of_decide_eq_true d
            omega
          have hj : 3 * i + a - 1 < fs.length := by omega
          have hg : fs[3 * i + a - 1]? = some (fs.getD (3 * i + a - 1) 0) := by
            rw [List.getD_eq_getElem?_getD, List.getElem?_eq_getElem hj]
            rfl
          rw [if_pos ⟨c1, d1⟩] at step
          refine ⟨_, rfl, _, rfl, _, rfl, _, _, rfl, rfl, .inl ⟨by decide, by decide⟩, _, rfl, _, _, rfl, rfl, _, _, rfl, rfl, fa, vN fs, _, _, rfl, rfl, s2.seq hF, at_of (j := 3 * i + a - 1) (by omega) (vN_at hg), _, _, rfl, rfl, ?_⟩
          refine ⟨some (.int (i : Nat)), some (.int (a : Nat)), ?_, s2⟩
          rw [step, Int.natCast_add]
          rfl
        · have d1 : ¬ a < 4 := fun z => d (decide_eq_true (by omega))
          rw [if_neg (fun z => d1 z.2), Nat.add_zero] at step
          refine ⟨some (.int (i : Nat)), some (.int (a : Nat)), ?_, s2⟩
          rw [step]
          rfl
      · have c1 : i + 1 = wa := by
          have := ne_no (x := (i : Int) + 1) (y := wa) c
          omega
        rw [if_neg (fun z => z.1 c1), Nat.add_zero] at step
        refine iteF ⟨some (.int (i : Nat)), some (.int (a : Nat)), ?_, s2⟩
        rw [step]
        rfl
    · rintro σ H' ⟨v4, v5, rfl, s1⟩
      refine ⟨_, rfl, ?_⟩
      have e : flowM fs (s.take (vN s).length) wa = Ks441.flow (filtersOf fs) s wa := by
        rw [vN_len, List.take_length, flow_is hl ho]
      rw [e]
      exact q H' s1
/-! ### ages_behind -/
abbrev sBehind : Stmt := topS 3
theorem scBehind : FnScope ["ages", "washed", "found", "number", "age"] ["ages", "washed"] (defScope sBehind) := ⟨rfl, rfl, rfl, by decide +kernel, rfl, by decide +kernel, by decide +kernel⟩
def spBehind (K : PySem.W.Frag) : Sp := fun vs H Q _ => ∃ (aa : Addr) (s : List Nat) (wa : Nat), vs = [.ref aa, .int (wa : Nat)] ∧ SqT K H aa (vN s) ∧ s.length ≤ 3 ∧
  ∀ H' p, Same H H' → H p = none → H' p = some (.tup (vN (Ks441.next s wa))) → Q (.ref p) H'
theorem ok_behind {f : Addr} {fd : FuncData} {k : Nat} (F : Fun K "ages_behind" "ages_behind" sBehind f fd) (B : Bl mg) : FnOk P w K mg base CX0 (k + 1) f fd ["ages", "washed"] (spBehind K) := by
  obtain ⟨tO, gO⟩ := B.old
  refine F.ok scBehind (fun vs H Q E h => ?_) (fun cdv A outer st H vs Q E hr h => ?_)
  · obtain ⟨aa, s, wa, rfl, _⟩ := h
    rfl
  · obtain ⟨aa, s, wa, rfl, hA, hl, q⟩ := h
    refine ⟨_, pss_cons (ps_set (i := 2) scBehind.nd rfl (.inl rfl) (pe_lst pa_nil))
      (pss_cons (ps_for PassesOwn.never rfl (pi_enumT (by rfl) B.enum (pa_cons (pv 0) pa_nil))
          (pg_tup rfl (pgs_cons (pg_name (i := 3) scBehind.nd rfl (.inl rfl)) (pgs_cons (pg_name (i := 4) scBehind.nd rfl (.inl rfl)) pgs_nil)))
        (pss_one (ps_if (pt_cmpR op_eq (pe_op op_add (pv 3) pe_int) (pv 1) (nomark _))
          (pss_one (ps_expr (pe_bm PySem.F.plainAttrs_list PySem.F.slot_list_append PySem.F.type_list_append mt_append (pv 2) (pa_cons pe_int pa_nil))))
          (pss_one (ps_expr (pe_bm PySem.F.plainAttrs_list PySem.F.slot_list_append PySem.F.type_list_append mt_append (pv 2) (pa_cons
            (pe_callB (call_min2 rfl) (by rfl) B.min (by decide +kernel) (pa_cons (pe_glob (v := .int 4) rfl gO ⟨_, rfl⟩) (pa_cons (pe_op op_add (pv 4) pe_int) pa_nil))) pa_nil)))))))
      (pss_one (ps_ret (pe_callTy call_tuple_of (by rfl) B.tup (by decide +kernel) (pa_cons (pv 2) pa_nil))))), ?_⟩
    refine ⟨Nat.zero_le _, fun o no => ?_⟩
    have s0 : Same H (upd H o (.lst [])) := same_new no
    refine ⟨.ref aa, rfl, aa, vN s, rfl, same_tup s0 hA, for_it walk_enumT
      (fun i σ H' => ∃ v3 v4, σ = [some (.ref aa), some (.int (wa : Nat)), some (.ref o), v3, v4] ∧ Same H H' ∧ H' o = some (.lst (vN (Ks441.next (s.take i) wa))))
      ⟨none, none, rfl, s0, upd_same⟩ (fun i σ H' _ ⟨_, _, _, s1, _⟩ => same_tup s1 hA) ?_ ?_⟩
    · rintro i x σ H1 H2 hi ⟨v3, v4, rfl, s1, ho⟩ ⟨T, y, rfl, nT, rfl, hy⟩
      obtain ⟨a, ha, rfl⟩ := vN_get hy
      have s2 : Same H (upd H1 T (.tup [.int (i : Nat), .int (a : Nat)])) := s1.trans (same_new nT)
      have step := next_more (w := wa) ha
      have ho2 : (upd H1 T (.tup [.int (i : Nat), .int (a : Nat)])) o = some (.lst (vN (Ks441.next (s.take i) wa))) := by
        rw [upd_ne (ne_of_none ho nT)]
        exact ho
      have hz : (vN (Ks441.next (s.take i) wa)).length < sizeLine := by
        rw [vN_len, next_len, List.length_take]
        exact small_of (by omega)
      refine ⟨T, [.int (i : Nat), .int (a : Nat)], rfl, .inl (.inl upd_same), rfl, _, [.int (a : Nat)], rfl, _, [], rfl, rfl, ?_⟩
      refine ⟨_, rfl, _, _, rfl, rfl, _, rfl, rfl, _, rfl, ite2 (fun c => ?_) (fun c => ?_)⟩
      · have c1 : i + 1 = wa := by
          have := eq_yes (x := (i : Int) + 1) (y := wa) c
          omega
        rw [if_pos c1] at step
        refine ⟨.ref o, rfl, .inl ⟨rfl, _, SqL.of ho2⟩, o, _, _, rfl, rfl, ho2, hz, some (.int (i : Nat)), some (.int (a : Nat)), rfl, same_set s2 no, ?_⟩
        rw [upd_same, step, ← vN_snoc]
        rfl
      · have c1 : ¬ i + 1 = wa := fun z => eq_no (x := (i : Int) + 1) (y := wa) c (by omega)
        rw [if_neg c1] at step
        refine ⟨.ref o, rfl, .inl ⟨rfl, _, SqL.of ho2⟩, _, rfl, _, _, rfl, rfl, _, _, rfl, o, _, _, rfl, rfl, ho2, hz, some (.int (i : Nat)), some (.int (a : Nat)), rfl, same_set s2 no, ?_⟩
        rw [upd_same, step, ← vN_snoc]
        refine congrArg (fun z => some (HO.lst (vN (Ks441.next (s.take i) wa) ++ [V.int z]))) ?_
        show (if (a : Int) + 1 < 4 then (a : Int) + 1 else 4) = ((min 4 (a + 1) : Nat) : Int)
        split <;> omega
    · rintro σ H' ⟨v3, v4, rfl, s1, ho⟩
      rw [vN_len, List.take_length] at ho
      refine ⟨.ref o, rfl, o, _, rfl, .inl ⟨SqL.of ho, fun p np => ?_⟩⟩
      exact q _ p (s1.trans (same_new np)) (s1.free np) upd_same
/-! ### is_plan -/
abbrev sPlan : Stmt := topS 13
theorem scPlan : FnScope ["plan", "many", "washed"] ["plan", "many"] (defScope sPlan) := ⟨rfl, rfl, rfl, by decide +kernel, rfl, by decide +kernel, by decide +kernel⟩
def spPlan (K : PySem.W.Frag) : Sp := fun vs H Q _ => ∃ (pa : Addr) (p : List Nat) (m : Nat), vs = [.ref pa, .int (m : Nat)] ∧ SqL K H pa (vN p) ∧ p.length ≤ 50 ∧ ∀ H', Same H H' → Q (.bl (planB m p)) H'
theorem ok_plan {f : Addr} {fd : FuncData} {k : Nat} (F : Fun K "is_plan" "is_plan" sPlan f fd) (B : Bl mg) (gH : ∃ t, mg "MOST_HOURS" = some (.int 40 t)) : FnOk P w K mg base CX0 (k + 1) f fd ["plan", "many"] (spPlan K) := by
  obtain ⟨tH, gH⟩ := gH
  refine F.ok scPlan (fun vs H Q E h => ?_) (fun cdv A outer st H vs Q E hr h => ?_)
  · obtain ⟨pa, p, m, rfl, _⟩ := h
    rfl
  · obtain ⟨pa, p, m, rfl, hP, hl, q⟩ := h
    refine ⟨_, pss_one (ps_ret (pe_and (pe_cmpR op_le (pe_callB call_len_seq (by rfl) B.len PySem.boot_len (pa_cons (pv 0) pa_nil)) (pe_glob (v := .int 40) rfl gH ⟨_, rfl⟩) (nomark _))
      (pe_one (pe_cmpR (op_eqD hr.units)
          (pe_lc (own := [("washed", 2)]) (g := gName 2) (by rfl) scPlan.nd (pi_list (pv 0)) (blkOk_by (own := [("washed", 2)]) (N := ["plan", "many", "washed"]) (sc := defScope sPlan) (by decide +kernel)) (fun _ _ _ _ _ => pg_name (i := 2) scPlan.nd rfl (Or.inl rfl))
            (fun _ _ _ _ _ => pts_one (pt_cmpR op_gt (pv 2) (pv 1) (nomark _))) (fun _ _ _ _ _ => pv 2))
          (pe_lst pa_nil) (nomark _))))), ?_⟩
    refine ⟨.ref pa, rfl, pa, vN p, rfl, .inl hP, _, _, rfl, rfl, _, rfl, ?_⟩
    have e0 : decide (((vN p).length : Int) ≤ 40) = decide (p.length ≤ 40) := decide_eq_decide.mpr (by rw [vN_len]; omega)
    rw [e0]
    cases e : decide (p.length ≤ 40) with
    | false =>
      have q1 := q H (Same.refl _)
      unfold planB at q1
      rw [e, Bool.false_and] at q1
      exact iteF q1
    | true =>
      refine iteT ?_
      dsimp only [tOp]
      refine lc_pick (K := K) (σ := [some (.ref pa), some (.int (m : Nat)), none]) (i := 0) (j := 2) p (fun n => decide ((m : Int) < (n : Nat))) pa rfl (by show 2 < 3; decide) hP (by omega) (fun n H1 Q1 q1 => ⟨_, rfl, _, rfl, _, _, rfl, rfl, _, rfl, q1⟩) fun D H1 s1 nD hD => ?_
      refine ⟨Nat.zero_le _, fun z nz => ⟨_, _, .lst (SqL.of (xs := vN _) (by rw [upd_ne (ne_of_none hD nz)]; exact hD)) (dpN_all _), .lst (SqL.of upd_same) .nil, dN_shaped _, nil_shaped, ?_⟩⟩
      have e1 : PyData.eqv (.list (dN (p.filter fun n => decide ((m : Int) < (n : Nat))))) (.list []) = planB m p := by
        unfold planB
        rw [eqv_nil, dN_empty, filter_nil, e, Bool.true_and]
        refine congrArg (fun g => p.all g) (funext fun v => ?_)
        by_cases hv : v ≤ m
        · rw [decide_eq_true hv, decide_eq_false (by omega)]
          rfl
        · rw [decide_eq_false hv, decide_eq_true (by omega)]
          rfl
      rw [e1]
      exact q _ (s1.trans (same_new nz))
/-! ### plan_flows -/
abbrev sFlows : Stmt := topS 4
theorem scFlows : FnScope ["filters", "ages", "plan", "found", "washed"] ["filters", "ages", "plan"] (defScope sFlows) := ⟨rfl, rfl, rfl, by decide +kernel, rfl, by decide +kernel, by decide +kernel⟩
def spFlows (K : PySem.W.Frag) : Sp := fun vs H Q _ => ∃ (fa aa pa : Addr) (fs s p : List Nat) (m : Nat), vs = [.ref fa, .ref aa, .ref pa] ∧ SqL K H fa (vN fs) ∧ SqT K H aa (vN s) ∧ SqL K H pa (vN p) ∧ fs.length = 3 * m ∧ Ok m s ∧ m ≤ 3 ∧ p.length ≤ 50 ∧
  ∀ H' D, Same H H' → H D = none → H' D = some (.lst (vN (Ks441.flows (filtersOf fs) s p))) → Q (.ref D) H'
theorem ok_flows {f f1 f2 : Addr} {fd fd1 fd2 : FuncData} {k : Nat} (F : Fun K "plan_flows" "plan_flows" sFlows f fd) (F1 : Fun K "flow_of" "flow_of" sFlow f1 fd1) (b1 : Binds K fd1 ["filters", "ages", "washed"] []) (g1 : mg "flow_of" = some (.ref f1))
    (F2 : Fun K "ages_behind" "ages_behind" sBehind f2 fd2) (b2 : Binds K fd2 ["ages", "washed"] []) (g2 : mg "ages_behind" = some (.ref f2)) (B : Bl mg) : FnOk P w K mg base CX0 (k + 2) f fd ["filters", "ages", "plan"] (spFlows K) := by
  have G1 : FnOk P w K mg base CX0 (k + 1) f1 fd1 ["filters", "ages", "washed"] (spFlow K) := ok_flow F1 B
  have G2 : FnOk P w K mg base CX0 (k + 1) f2 fd2 ["ages", "washed"] (spBehind K) := ok_behind F2 B
  refine F.ok scFlows (fun vs H Q E h => ?_) (fun cdv A outer st H vs Q E hr h => ?_)
  · obtain ⟨fa, aa, pa, fs, s, p, m, rfl, _⟩ := h
    rfl
  · obtain ⟨fa, aa, pa, fs, s, p, m, rfl, hF, hA, hP, hl, ho, hm, hlp, q⟩ := h
    refine ⟨_, pss_cons (ps_set (i := 3) scFlows.nd rfl (.inl rfl) (pe_lst pa_nil))
      (pss_cons (ps_for PassesOwn.never rfl (pi_list (pv 2)) (pg_name (i := 4) scFlows.nd rfl (.inl rfl))
        (pss_cons (ps_expr (pe_bm PySem.F.plainAttrs_list PySem.F.slot_list_append PySem.F.type_list_append mt_append (pv 3) (pa_cons (pe_call G1 hr (by rfl) g1 F1.kp b1 .nil pass0 (pa_cons (pv 0) (pa_cons (pv 1) (pa_cons (pv 4) pa_nil)))) pa_nil)))
        (pss_one (ps_set (i := 1) scFlows.nd rfl (.inl rfl) (pe_call G2 hr (by rfl) g2 F2.kp b2 .nil pass0 (pa_cons (pv 1) (pa_cons (pv 4) pa_nil)))))))
      (pss_one (ps_ret (pv 3)))), ?_⟩
    refine ⟨Nat.zero_le _, fun o no => ?_⟩
    have s0 : Same H (upd H o (.lst [])) := same_new no
    refine ⟨.ref pa, rfl, pa, rfl, ⟨_, s0.seq hP⟩, for_list (K := K) (a := pa) (xs := vN p)
      (fun i σ H' => ∃ ab v4 l s', σ = [some (.ref fa), some (.ref ab), some (.ref pa), some (.ref o), v4] ∧ Same H H' ∧ H' o = some (.lst (vN l)) ∧ SqT K H' ab (vN s') ∧ Ok m s' ∧ l.length = i ∧
        l ++ Ks441.flows (filtersOf fs) s' (p.drop i) = Ks441.flows (filtersOf fs) s p)
      ⟨aa, none, [], s, rfl, s0, upd_same, same_tup s0 hA, ho, rfl, rfl⟩ (fun i σ H' _ ⟨_, _, _, _, _, s1, _⟩ => s1.seq hP) ?_ ?_⟩
    · rintro i x σ H1 hi ⟨ab, v4, l, s', rfl, s1, hO, hB, ho', hli, eq⟩
      obtain ⟨a, ha, rfl⟩ := vN_get hi
      have hip := lt_of_get ha
      have ed : p.drop i = a :: p.drop (i + 1) := by
        rw [List.drop_eq_getElem_cons hip]
        rw [List.getElem?_eq_getElem hip] at ha
        rw [Option.some.inj ha]
      refine ⟨.ref o, rfl, .inl ⟨rfl, _, SqL.of hO⟩, .ref fa, rfl, .ref ab, rfl, .int (a : Nat), rfl, fa, ab, fs, s', m, a, rfl, s1.seq hF, hB, hl, ho', fun H2 s2 => ?_⟩
      have hz : (vN l).length < sizeLine := by
        rw [vN_len]
        exact small_of (by omega)
      refine ⟨o, _, _, rfl, rfl, s2 _ _ hO, hz, ?_⟩
      have hB2 : SqT K (upd H2 o (.lst (vN l ++ [.int (Ks441.flow (filtersOf fs) s' a : Nat)]))) ab (vN s') := by
        rcases same_tup s2 hB with (z | ⟨ob, z⟩) | z
        · exact .inl (.inl (by rw [upd_ne (ne_of z (s2 _ _ hO) (fun e => nomatch e))]; exact z))
        · exact .inl (.inr ⟨ob, by rw [upd_ne (ne_of z (s2 _ _ hO) (fun e => nomatch e))]; exact z⟩)
        · exact .inr z
      refine ⟨.ref ab, rfl, .int (a : Nat), rfl, ab, s', a, rfl, hB2, by rw [ho'.1]; exact hm, fun H3 c s3 nc hc => ?_⟩
      refine ⟨c, some (.int (a : Nat)), l ++ [Ks441.flow (filtersOf fs) s' a], Ks441.next s' a, rfl, fun b ob e => s3 b ob ?_, ?_, .inl (.inl hc), next_ok a ho', by rw [List.length_append, hli]; rfl, ?_⟩
      · rw [upd_ne (ne_of_none e no)]
        exact s2 b ob (s1 b ob e)
      · rw [← vN_snoc]
        exact s3 _ _ upd_same
      · rw [← eq, ed, List.append_assoc]
        rfl
    · rintro σ H' ⟨ab, v4, l, s', rfl, s1, hO, hB, ho', hli, eq⟩
      rw [vN_len, List.drop_length] at eq
      have el : l = Ks441.flows (filtersOf fs) s p := by
        rw [← eq]
        exact (List.append_nil l).symm
      subst el
      exact ⟨.ref o, rfl, q H' o s1 no hO⟩
/-! ### keeps -/
abbrev sKeeps : Stmt := topS 14
theorem scKeeps : FnScope ["want", "filters", "ages", "plan", "flows", "flow"] ["want", "filters", "ages", "plan"] (defScope sKeeps) := ⟨rfl, rfl, rfl, by decide +kernel, rfl, by decide +kernel, by decide +kernel⟩
def spKeeps (K : PySem.W.Frag) : Sp := fun vs H Q _ => ∃ (wt : Nat) (fa aa pa : Addr) (fs s p : List Nat), vs = [.int (wt : Nat), .ref fa, .ref aa, .ref pa] ∧ SqL K H fa (vN fs) ∧ SqL K H aa (vN s) ∧ SqL K H pa (vN p) ∧ fs.length ≤ 50 ∧ s.length ≤ 50 ∧ p.length ≤ 50 ∧
  ∀ H' D, H' D = some (.lst ((keepsM wt fs s p).map V.int)) → Q (.ref D) H'
theorem ok_keeps {f fA fK fP fF f1 f2 : Addr} {fd fdA fdK fdP fdF fd1 fd2 : FuncData} (F : Fun K "keeps" "keeps" sKeeps f fd)
    (FA : Fun K "are_filters" "are_filters" sAre fA fdA) (bA : Binds K fdA ["filters", "ages"] []) (gA : mg "are_filters" = some (.ref fA))
    (FK : Fun K "is_asked" "is_asked" sAsk fK fdK) (bK : Binds K fdK ["want", "filters", "ages"] []) (gK : mg "is_asked" = some (.ref fK))
    (FP : Fun K "is_plan" "is_plan" sPlan fP fdP) (bP : Binds K fdP ["plan", "many"] []) (gP : mg "is_plan" = some (.ref fP))
    (FF : Fun K "plan_flows" "plan_flows" sFlows fF fdF) (bF : Binds K fdF ["filters", "ages", "plan"] []) (gF : mg "plan_flows" = some (.ref fF))
    (F1 : Fun K "flow_of" "flow_of" sFlow f1 fd1) (b1 : Binds K fd1 ["filters", "ages", "washed"] []) (g1 : mg "flow_of" = some (.ref f1))
    (F2 : Fun K "ages_behind" "ages_behind" sBehind f2 fd2) (b2 : Binds K fd2 ["ages", "washed"] []) (g2 : mg "ages_behind" = some (.ref f2))
    (B : Bl mg) (M : Mo mg) (gW : ∃ t, mg "MOST_WANT" = some (.int 100 t)) (gH : ∃ t, mg "MOST_HOURS" = some (.int 40 t)) : FnOk P w K mg base CX0 3 f fd ["want", "filters", "ages", "plan"] (spKeeps K) := by
  obtain ⟨tN, gN⟩ := M.notso
  have GK : FnOk P w K mg base CX0 2 fK fdK ["want", "filters", "ages"] (spAsk K) := ok_ask FK FA bA gA B M gW
  have GP : FnOk P w K mg base CX0 2 fP fdP ["plan", "many"] (spPlan K) := ok_plan FP B gH
  have GF : FnOk P w K mg base CX0 2 fF fdF ["filters", "ages", "plan"] (spFlows K) := ok_flows FF F1 b1 g1 F2 b2 g2 B
  refine F.ok scKeeps (fun vs H Q E h => ?_) (fun cdv A outer st H vs Q E hr h => ?_)
  · obtain ⟨wt, fa, aa, pa, fs, s, p, rfl, _⟩ := h
    rfl
  · obtain ⟨wt, fa, aa, pa, fs, s, p, rfl, hF, hA, hP, hlf, hls, hlp, q⟩ := h
    refine ⟨_, pss_cons (ps_if (PW.pt (pw_or (pt_not (pt_val (pe_call GK hr (by rfl) gK FK.kp bK .nil pass0 (pa_cons (pv 0) (pa_cons (pv 1) (pa_cons (pv 2) pa_nil))))))
          (pw_or1 (pt_not (pt_val (pe_call GP hr (by rfl) gP FP.kp bP .nil pass0 (pa_cons (pv 3) (pa_cons (pe_callB call_len_seq (by rfl) B.len PySem.boot_len (pa_cons (pv 2) pa_nil)) pa_nil))))))))
        (pss_one (ps_ret (pe_lst (pa_cons (pe_glob (v := .int (-22)) rfl gN ⟨_, rfl⟩) pa_nil)))) pss_nil)
      (pss_cons (ps_set (i := 4) scKeeps.nd rfl (.inl rfl) (pe_call GF hr (by rfl) gF FF.kp bF .nil pass0 (pa_cons (pv 1) (pa_cons (pe_callTy call_tuple_of (by rfl) B.tup (by decide +kernel) (pa_cons (pv 2) pa_nil)) (pa_cons (pv 3) pa_nil)))))
      (pss_one (ps_ret (pe_op op_cat (pe_lst (pa_cons (pe_callTy call_int1 (by rfl) B.int (by decide +kernel) (pa_cons (pe_cmpR (op_eqD hr.units)
          (pe_lc (own := [("flow", 5)]) (g := gName 5) (by rfl) scKeeps.nd (pi_list (pv 4)) (blkOk_by (own := [("flow", 5)]) (N := ["want", "filters", "ages", "plan", "flows", "flow"]) (sc := defScope sKeeps) (by decide +kernel)) (fun _ _ _ _ _ => pg_name (i := 5) scKeeps.nd rfl (Or.inl rfl))
            (fun _ _ _ _ _ => pts_one (pt_cmpR op_lt (pv 5) (pv 0) (nomark _))) (fun _ _ _ _ _ => pv 5))
          (pe_lst pa_nil) (nomark _)) pa_nil)) pa_nil)) (pv 4))))), ?_⟩
    refine ⟨.int (wt : Nat), rfl, .ref fa, rfl, .ref aa, rfl, wt, fa, aa, fs, s, rfl, hF, hA, hlf, hls, fun H1 s1 => ⟨_, rfl, ?_⟩⟩
    have no : ∀ Hx, keepsM wt fs s p = refused → ∀ D, Hx D = none → Q (.ref D) (upd Hx D (.lst [.int (-22)])) := fun Hx e D nD => q _ D (by
      rw [upd_same, e]
      rfl)
    cases e1 : (areB fs s && decide (wt ≤ 100)) with
    | false => exact iteT (iteT ⟨by show 1 ≤ sizeLine; decide, no _ (keepsM_no (.inl e1))⟩)
    | true =>
      refine iteF ⟨.ref pa, rfl, .ref aa, rfl, aa, vN s, rfl, .inl (s1.seq hA), pa, p, s.length, ?_, s1.seq hP, hlp, fun H2 s2 => ⟨_, rfl, ?_⟩⟩
      · rw [vN_len]
        rfl
      cases e2 : planB s.length p with
      | false => exact iteT ⟨by show 1 ≤ sizeLine; decide, no _ (keepsM_no (.inr e2))⟩
      | true =>
        rw [Bool.and_eq_true, decide_eq_true_eq] at e1
        obtain ⟨h3, ho, _, _, hm⟩ := are_ok e1.1
        have s12 : Same H H2 := s1.trans s2
        refine iteF ⟨.ref fa, rfl, .ref aa, rfl, aa, vN s, rfl, .inl ⟨s12.seq hA, fun t nt => ?_⟩⟩
        have s3 : Same H (upd H2 t (.tup (vN s))) := s12.trans (same_new nt)
        refine ⟨.ref pa, rfl, fa, t, pa, fs, s, p, s.length, rfl, s3.seq hF, .inl (.inl upd_same), s3.seq hP, h3, ho, hm, hlp, fun H4 D s4 nD hD => ?_⟩
        dsimp only [tNext, tSeq, tAsg, tRet, tOp, tLst, tCons, tCB, tNil, gName]
        have hfl : (Ks441.flows (filtersOf fs) s p).length ≤ 1000 := by
          rw [flows_len]
          omega
        refine lc_pick (K := K) (σ := [some (.int (wt : Nat)), some (.ref fa), some (.ref aa), some (.ref pa), some (.ref D), none]) (i := 4) (j := 5) (Ks441.flows (filtersOf fs) s p) (fun n => decide (((n : Nat) : Int) < (wt : Nat))) D rfl (by show 5 < 6; decide) (SqL.of hD) hfl
          (fun n H5 Q1 q1 => ⟨_, rfl, _, rfl, _, _, rfl, rfl, _, rfl, q1⟩) fun D2 H5 s5 nD2 hD2 => ?_
        refine ⟨Nat.zero_le _, fun z nz => ⟨_, _, .lst (SqL.of (xs := vN _) (by rw [upd_ne (ne_of_none hD2 nz)]; exact hD2)) (dpN_all _), .lst (SqL.of upd_same) .nil, dN_shaped _, nil_shaped, .inr ⟨_, rfl, by show 1 ≤ sizeLine; decide, fun y ny => ?_⟩⟩⟩
        have hD5 : (upd (upd H5 z (.lst [])) y (.lst [.int (if PyData.eqv (.list (dN ((Ks441.flows (filtersOf fs) s p).filter fun n => decide (((n : Nat) : Int) < (wt : Nat))))) (.list []) = true then 1 else 0)])) D = some (.lst (vN (Ks441.flows (filtersOf fs) s p))) := by
          have h5 := s5 _ _ hD
          rw [upd_ne (ne_of_none (same_new nz _ _ h5) ny), upd_ne (ne_of_none h5 nz)]
          exact h5
        refine ⟨.ref D, rfl, y, D, _, _, rfl, rfl, upd_same, hD5, ?_, fun x nx => ?_⟩
        · rw [vN_len]
          exact small_le (by show 1 + _ ≤ _; omega)
        · refine q _ x ?_
          rw [upd_same, keepsM_yes e1.1 e1.2 e2]
          have e3 : PyData.eqv (.list (dN ((Ks441.flows (filtersOf fs) s p).filter fun n => decide (((n : Nat) : Int) < (wt : Nat))))) (.list []) = (Ks441.flows (filtersOf fs) s p).all fun v => decide (wt ≤ v) := by
            rw [eqv_nil, dN_empty, filter_nil]
            refine congrArg (fun g => (Ks441.flows (filtersOf fs) s p).all g) (funext fun v => ?_)
            by_cases hv : wt ≤ v
            · rw [decide_eq_true hv, decide_eq_false (by omega)]
              rfl
            · rw [decide_eq_false hv, decide_eq_true (by omega)]
              rfl
          rw [e3]
          refine congrArg (fun z => some (HO.lst (_ :: z))) ?_
          unfold vN
          rw [List.map_map]
          rfl
end
/-! ### the end: what the top has left -/
theorem all_mk {P : Program} {w : World} {K : PySem.W.Frag} {h : Heap} {mg : Str → Option Value} {fa f1 f2 f3 f4 f5 f6 f7 : Addr} (X : K.In h) (G : h.Ns mainGlobals mg) (hfa : mg "keeps" = some (.ref fa))
    {od1 an1 od2 an2 od3 an3 od4 an4 od5 an5 od6 an6 od7 an7 : Option Addr} {sl1 sl2 sl3 sl4 sl5 sl6 sl7 : Array (Option Value)} {oc1 kV1 dc1 pm1 cd1 ct1 oc2 kV2 dc2 pm2 cd2 ct2 oc3 kV3 dc3 pm3 cd3 ct3 oc4 kV4 dc4 pm4 cd4 ct4 oc5 kV5 dc5 pm5 cd5 ct5 oc6 kV6 dc6 pm6 cd6 ct6 oc7 kV7 dc7 pm7 cd7 ct7 : Value} {t_OLDEST t_MOST_FILTERS t_MOST_FLOW t_NOT_SO t_MOST_WANT t_MOST_HOURS : Tok}
    (a1 : PySem.W.nsIn K mainGlobals "are_filters" = some (some (.ref f1)))
    (l1 : K.lookup f1 = some ⟨oc1, od1, .func (PySem.W.fnOf "are_filters" "are_filters" (defArgs sAre) (defBody sAre) (defScope sAre) .none kV1 dc1 pm1 an1 cd1 ct1), sl1⟩)
    (c1 : PySem.W.codeIn K cd1 "are_filters" = true)
    (k1 : PySem.W.keepIn K (.ref f1) = true)
    (a2 : PySem.W.nsIn K mainGlobals "is_asked" = some (some (.ref f2)))
    (l2 : K.lookup f2 = some ⟨oc2, od2, .func (PySem.W.fnOf "is_asked" "is_asked" (defArgs sAsk) (defBody sAsk) (defScope sAsk) .none kV2 dc2 pm2 an2 cd2 ct2), sl2⟩)
    (c2 : PySem.W.codeIn K cd2 "is_asked" = true)
    (k2 : PySem.W.keepIn K (.ref f2) = true)
    (a3 : PySem.W.nsIn K mainGlobals "is_plan" = some (some (.ref f3)))
    (l3 : K.lookup f3 = some ⟨oc3, od3, .func (PySem.W.fnOf "is_plan" "is_plan" (defArgs sPlan) (defBody sPlan) (defScope sPlan) .none kV3 dc3 pm3 an3 cd3 ct3), sl3⟩)
    (c3 : PySem.W.codeIn K cd3 "is_plan" = true)
    (k3 : PySem.W.keepIn K (.ref f3) = true)
    (a4 : PySem.W.nsIn K mainGlobals "plan_flows" = some (some (.ref f4)))
    (l4 : K.lookup f4 = some ⟨oc4, od4, .func (PySem.W.fnOf "plan_flows" "plan_flows" (defArgs sFlows) (defBody sFlows) (defScope sFlows) .none kV4 dc4 pm4 an4 cd4 ct4), sl4⟩)
    (c4 : PySem.W.codeIn K cd4 "plan_flows" = true)
    (k4 : PySem.W.keepIn K (.ref f4) = true)
    (a5 : PySem.W.nsIn K mainGlobals "flow_of" = some (some (.ref f5)))
    (l5 : K.lookup f5 = some ⟨oc5, od5, .func (PySem.W.fnOf "flow_of" "flow_of" (defArgs sFlow) (defBody sFlow) (defScope sFlow) .none kV5 dc5 pm5 an5 cd5 ct5), sl5⟩)
    (c5 : PySem.W.codeIn K cd5 "flow_of" = true)
    (k5 : PySem.W.keepIn K (.ref f5) = true)
    (a6 : PySem.W.nsIn K mainGlobals "ages_behind" = some (some (.ref f6)))
    (l6 : K.lookup f6 = some ⟨oc6, od6, .func (PySem.W.fnOf "ages_behind" "ages_behind" (defArgs sBehind) (defBody sBehind) (defScope sBehind) .none kV6 dc6 pm6 an6 cd6 ct6), sl6⟩)
    (c6 : PySem.W.codeIn K cd6 "ages_behind" = true)
    (k6 : PySem.W.keepIn K (.ref f6) = true)
    (a7 : PySem.W.nsIn K mainGlobals "keeps" = some (some (.ref f7)))
    (l7 : K.lookup f7 = some ⟨oc7, od7, .func (PySem.W.fnOf "keeps" "keeps" (defArgs sKeeps) (defBody sKeeps) (defScope sKeeps) .none kV7 dc7 pm7 an7 cd7 ct7), sl7⟩)
    (c7 : PySem.W.codeIn K cd7 "keeps" = true)
    (k7 : PySem.W.keepIn K (.ref f7) = true)
    (z_len : PySem.W.nsIn K mainGlobals "len" = some none)
    (z_range : PySem.W.nsIn K mainGlobals "range" = some none)
    (z_enumerate : PySem.W.nsIn K mainGlobals "enumerate" = some none)
    (z_min : PySem.W.nsIn K mainGlobals "min" = some none)
    (z_tuple : PySem.W.nsIn K mainGlobals "tuple" = some none)
    (z_int : PySem.W.nsIn K mainGlobals "int" = some none)
    (n_OLDEST : PySem.W.nsIn K mainGlobals "OLDEST" = some (some (.int 4 t_OLDEST)))
    (n_MOST_FILTERS : PySem.W.nsIn K mainGlobals "MOST_FILTERS" = some (some (.int 3 t_MOST_FILTERS)))
    (n_MOST_FLOW : PySem.W.nsIn K mainGlobals "MOST_FLOW" = some (some (.int 20 t_MOST_FLOW)))
    (n_NOT_SO : PySem.W.nsIn K mainGlobals "NOT_SO" = some (some (.int (-22) t_NOT_SO)))
    (n_MOST_WANT : PySem.W.nsIn K mainGlobals "MOST_WANT" = some (some (.int 100 t_MOST_WANT)))
    (n_MOST_HOURS : PySem.W.nsIn K mainGlobals "MOST_HOURS" = some (some (.int 40 t_MOST_HOURS))) :
    ∃ fd : FuncData, (∀ (s : Shared) (us : List Value), us.length = (["want", "filters", "ages", "plan"] : List Str).length → BindsTo s fd ⟨us, []⟩ ((["want", "filters", "ages", "plan"] : List Str).zip us)) ∧ ∀ base : Heap, K.In base → base.Ns mainGlobals mg → FnOk P w K mg base CX0 3 fa fd ["want", "filters", "ages", "plan"] (spKeeps K) := by
  have e := hfa.symm.trans (PySem.W.mg_of X G a7)
  cases e
  have F1 := fun_mk (st := sAre) l1 c1 k1
  have F2 := fun_mk (st := sAsk) l2 c2 k2
  have F3 := fun_mk (st := sPlan) l3 c3 k3
  have F4 := fun_mk (st := sFlows) l4 c4 k4
  have F5 := fun_mk (st := sFlow) l5 c5 k5
  have F6 := fun_mk (st := sBehind) l6 c6 k6
  have F7 := fun_mk (st := sKeeps) l7 c7 k7
  have b1 := F1.binds (ps := ["filters", "ages"]) fun _ _ _ _ _ _ us hl => match us, hl with | [_, _], _ => rfl
  have b2 := F2.binds (ps := ["want", "filters", "ages"]) fun _ _ _ _ _ _ us hl => match us, hl with | [_, _, _], _ => rfl
  have b3 := F3.binds (ps := ["plan", "many"]) fun _ _ _ _ _ _ us hl => match us, hl with | [_, _], _ => rfl
  have b4 := F4.binds (ps := ["filters", "ages", "plan"]) fun _ _ _ _ _ _ us hl => match us, hl with | [_, _, _], _ => rfl
  have b5 := F5.binds (ps := ["filters", "ages", "washed"]) fun _ _ _ _ _ _ us hl => match us, hl with | [_, _, _], _ => rfl
  have b6 := F6.binds (ps := ["ages", "washed"]) fun _ _ _ _ _ _ us hl => match us, hl with | [_, _], _ => rfl
  have B : Bl mg := ⟨PySem.W.mg_none_of X G z_len, PySem.W.mg_none_of X G z_range, PySem.W.mg_none_of X G z_enumerate, PySem.W.mg_none_of X G z_min, PySem.W.mg_none_of X G z_tuple, PySem.W.mg_none_of X G z_int, ⟨_, PySem.W.mg_of X G n_OLDEST⟩⟩
  have M : Mo mg := ⟨⟨_, PySem.W.mg_of X G n_MOST_FILTERS⟩, ⟨_, PySem.W.mg_of X G n_MOST_FLOW⟩, ⟨_, PySem.W.mg_of X G n_NOT_SO⟩⟩
  exact ⟨PySem.W.fnOf "keeps" "keeps" (defArgs sKeeps) (defBody sKeeps) (defScope sKeeps) .none kV7 dc7 pm7 an7 cd7 ct7, fun s us hu => match us, hu with | [_, _, _, _], _ => .of_eq rfl,
    fun base _ _ => ok_keeps F7 F1 b1 (PySem.W.mg_of X G a1) F2 b2 (PySem.W.mg_of X G a2) F3 b3 (PySem.W.mg_of X G a3) F4 b4 (PySem.W.mg_of X G a4) F5 b5 (PySem.W.mg_of X G a5) F6 b6 (PySem.W.mg_of X G a6) B M ⟨_, PySem.W.mg_of X G n_MOST_WANT⟩ ⟨_, PySem.W.mg_of X G n_MOST_HOURS⟩⟩
theorem ints_vN : ∀ l : List Int, (∀ x ∈ l, 0 ≤ x) → l.map V.int = vN (l.map Int.toNat)
  | [], _ => rfl
  | x :: r, h => by
    have h0 := h x (List.mem_cons_self ..)
    show V.int x :: r.map V.int = V.int ((x.toNat : Nat) : Int) :: vN (r.map Int.toNat)
    rw [ints_vN r fun y hy => h y (List.mem_cons_of_mem _ hy), Int.toNat_of_nonneg h0]
theorem list_in {l : List Int} {hi : Int} (h : (PySem.W.Codec.inLen 0 50 l && l.all (PySem.W.Codec.inInt 0 hi)) = true) : (l.map Int.toNat).length ≤ 50 ∧ l.map V.int = vN (l.map Int.toNat) := by
  rw [Bool.and_eq_true] at h
  refine ⟨?_, ints_vN l fun x hx => (PySem.W.Codec.inInt_iff.mp (List.all_eq_true.mp h.2 x hx)).1⟩
  rw [List.length_map]
  exact (PySem.W.Codec.inNat_iff.mp h.1).2
theorem dw_cons {K : PySem.W.Frag} {H : Hp} {xs : List V} {d : PySem.W.WData} {ds : List PySem.W.WData} (h : DwAll K H xs (d :: ds)) : ∃ v vs, xs = v :: vs ∧ Dw K H v d ∧ DwAll K H vs ds := by
  cases h with
  | cons h1 h2 => exact ⟨_, _, rfl, h1, h2⟩
theorem dw_nil {K : PySem.W.Frag} {H : Hp} {xs : List V} (h : DwAll K H xs []) : xs = [] := by
  cases h
  rfl
theorem dw_list {K : PySem.W.Frag} {H : Hp} {v : V} {ds : List PySem.W.WData} (h : Dw K H v (.list ds)) : ∃ p ys, v = .ref p ∧ SqL K H p ys ∧ DwAll K H ys ds := by
  cases h with
  | lst h1 h2 => exact ⟨_, _, rfl, h1, h2⟩
theorem dw_int {K : PySem.W.Frag} {H : Hp} {v : V} {i : Int} (h : Dw K H v (.int i)) : v = .int i := by
  cases h
  rfl
end WT
open PySem PySem.W PyProof.Rows
set_option maxRecDepth 100000 in
set_option maxHeartbeats 8000000 in
theorem PySem.Challenge.cw_washedturns_s01_keeps_holds : PySem.Challenge.rw_washedturns_s01_keeps.Holds := by
  w_on; k_headS; (case hw => exact ⟨[.int 0, .list [], .list [], .list []], by decide +kernel, by decide +kernel⟩)
  k_fillS
  refine L2.walk_specK (r := PySem.Challenge.rw_washedturns_s01_keeps) (k := 3) (CX := L2.CX0) (ps := ["want", "filters", "ages", "plan"]) (sp := WT.spKeeps) (by decide +kernel) rfl rfl ⟨rfl, by decide, by decide⟩ (fun w h Y => PySem.W.kIn_of Y) ?F ?S (fun _ _ _ _ z => z)
  case F =>
    intro w mg fa h Y KX G hmg
    refine' WT.all_mk KX G hmg ?a1 ?l1 ?c1 ?k1 ?a2 ?l2 ?c2 ?k2 ?a3 ?l3 ?c3 ?k3 ?a4 ?l4 ?c4 ?k4 ?a5 ?l5 ?c5 ?k5 ?a6 ?l6 ?c6 ?k6 ?a7 ?l7 ?c7 ?k7 ?z_len ?z_range ?z_enumerate ?z_min ?z_tuple ?z_int ?n_OLDEST ?n_MOST_FILTERS ?n_MOST_FLOW ?n_NOT_SO ?n_MOST_WANT ?n_MOST_HOURS
    (case a1 => k_is)
    (case l1 => k_is)
    (case c1 => k_is)
    (case k1 => k_is)
    (case a2 => k_is)
    (case l2 => k_is)
    (case c2 => k_is)
    (case k2 => k_is)
    (case a3 => k_is)
    (case l3 => k_is)
    (case c3 => k_is)
    (case k3 => k_is)
    (case a4 => k_is)
    (case l4 => k_is)
    (case c4 => k_is)
    (case k4 => k_is)
    (case a5 => k_is)
    (case l5 => k_is)
    (case c5 => k_is)
    (case k5 => k_is)
    (case a6 => k_is)
    (case l6 => k_is)
    (case c6 => k_is)
    (case k6 => k_is)
    (case a7 => k_is)
    (case l7 => k_is)
    (case c7 => k_is)
    (case k7 => k_is)
    (case z_len => k_is)
    (case z_range => k_is)
    (case z_enumerate => k_is)
    (case z_min => k_is)
    (case z_tuple => k_is)
    (case z_int => k_is)
    (case n_OLDEST => k_is)
    (case n_MOST_FILTERS => k_is)
    (case n_MOST_FLOW => k_is)
    (case n_NOT_SO => k_is)
    (case n_MOST_WANT => k_is)
    (case n_MOST_HOURS => k_is)
  case S =>
    intro K H xs a hO hwi hask hx
    have q : (Codec.inInt 0 4294967295 a.1 && ((Codec.inLen 0 50 a.2.1 && a.2.1.all (Codec.inInt 0 4294967295)) && ((Codec.inLen 0 50 a.2.2.1 && a.2.2.1.all (Codec.inInt 0 4294967295)) && ((Codec.inLen 0 50 a.2.2.2.1 && a.2.2.2.1.all (Codec.inInt 0 4294967295)) && true)))) = true := hwi
    have w0 := q
    obtain ⟨q0, w1⟩ := Bool.and_eq_true_iff.mp w0
    obtain ⟨q1, w2⟩ := Bool.and_eq_true_iff.mp w1
    obtain ⟨q2, w3⟩ := Bool.and_eq_true_iff.mp w2
    obtain ⟨q3, w4⟩ := Bool.and_eq_true_iff.mp w3
    have y0 : L2.DwAll K H xs [WData.int a.1, .list (a.2.1.map WData.int), .list (a.2.2.1.map WData.int), .list (a.2.2.2.1.map WData.int)] := hx
    obtain ⟨v0, x0, rfl, d0, y1⟩ := WT.dw_cons y0
    cases WT.dw_int d0
    have g0 := (Codec.inInt_iff.mp q0).1
    obtain ⟨v1, x1, rfl, d1, y2⟩ := WT.dw_cons y1
    obtain ⟨p1, z1, rfl, s1, m1⟩ := WT.dw_list d1
    obtain ⟨g1, u1⟩ := WT.list_in q1
    rw [L2.ints_dw a.2.1 _ m1, u1] at s1
    obtain ⟨v2, x2, rfl, d2, y3⟩ := WT.dw_cons y2
    obtain ⟨p2, z2, rfl, s2, m2⟩ := WT.dw_list d2
    obtain ⟨g2, u2⟩ := WT.list_in q2
    rw [L2.ints_dw a.2.2.1 _ m2, u2] at s2
    obtain ⟨v3, x3, rfl, d3, y4⟩ := WT.dw_cons y3
    obtain ⟨p3, z3, rfl, s3, m3⟩ := WT.dw_list d3
    obtain ⟨g3, u3⟩ := WT.list_in q3
    rw [L2.ints_dw a.2.2.2.1 _ m3, u3] at s3
    cases WT.dw_nil y4
    exact ⟨a.1.toNat, p1, p2, p3, a.2.1.map Int.toNat, a.2.2.1.map Int.toNat, a.2.2.2.1.map Int.toNat, by rw [Int.toNat_of_nonneg g0], s1, s2, s3, g1, g2, g3, fun H2 D hD => .lst (L2.SqL.of hD) (L2.dw_ints _)⟩
#print axioms PySem.Challenge.cw_washedturns_s01_keeps_holds
