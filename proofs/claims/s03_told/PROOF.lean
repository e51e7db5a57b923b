import PyProof.Rows.All
import Wide.All
import OpenK.AllK
import Wide.FinOn
import Open.SpecLaws
import KE.OsGo
import KE.GoesEnum
import KE.KDictDisplayH
import HandS.ForSpec
import HandS.ForMost
import HandS.Walk
import HandS.TupLen
import HandS.TupAny
import HandS.DictTup
import PySem.Challenge.RW_washedturns_s03_told
set_option Elab.async false
set_option linter.all false
set_option maxRecDepth 100000
set_option maxHeartbeats 2000000
namespace WT
open Ks441
/-! # plain Lean: what the program computes, and that the specification says the same -/
/-- ages of m filters, as told -/
def Ok (m : Nat) (s : List Nat) : Prop := s.length = m ∧ ∀ v ∈ s, 1 ≤ v ∧ v ≤ 4
/-- what flows through the filters from the k-th on -/
def flowFrom (fs : List Nat) (w : Nat) : Nat → List Nat → Nat
  | _, [] => 0
  | k, a :: r => (if k + 1 ≠ w ∧ a < 4 then fs.getD (3 * k + a - 1) 0 else 0) + flowFrom fs w (k + 1) r
def flowM (fs s : List Nat) (w : Nat) : Nat := flowFrom fs w 0 s
theorem flowFrom_snoc (fs : List Nat) (w a : Nat) : ∀ (s : List Nat) (k : Nat), flowFrom fs w k (s ++ [a]) = flowFrom fs w k s + (if k + s.length + 1 ≠ w ∧ a < 4 then fs.getD (3 * (k + s.length) + a - 1) 0 else 0)
  | [], k => by
    show (if k + 1 ≠ w ∧ a < 4 then fs.getD (3 * k + a - 1) 0 else 0) + 0 = 0 + _
    rw [Nat.add_zero, Nat.zero_add]
    rfl
  | b :: r, k => by
    show (if k + 1 ≠ w ∧ b < 4 then fs.getD (3 * k + b - 1) 0 else 0) + flowFrom fs w (k + 1) (r ++ [a]) = (if k + 1 ≠ w ∧ b < 4 then fs.getD (3 * k + b - 1) 0 else 0) + flowFrom fs w (k + 1) r + _
    rw [flowFrom_snoc fs w a r (k + 1), List.length_cons, show k + 1 + r.length = k + (r.length + 1) by omega]
    exact (Nat.add_assoc _ _ _).symm
theorem take_more {α : Type} {l : List α} {i : Nat} {x : α} (h : l[i]? = some x) : l.take (i + 1) = l.take i ++ [x] := by
  rw [List.take_add_one, h]
  rfl
theorem lt_of_get {α : Type} {l : List α} {i : Nat} {x : α} (h : l[i]? = some x) : i < l.length := (List.getElem?_eq_some_iff.mp h).1
theorem len_take {α : Type} {l : List α} {i : Nat} {x : α} (h : l[i]? = some x) : (l.take i).length = i := by
  rw [List.length_take]
  have := lt_of_get h
  omega
theorem flowM_more {fs s : List Nat} {w i a : Nat} (h : s[i]? = some a) : flowM fs (s.take (i + 1)) w = flowM fs (s.take i) w + (if i + 1 ≠ w ∧ a < 4 then fs.getD (3 * i + a - 1) 0 else 0) := by
  unfold flowM
  rw [take_more h, flowFrom_snoc, len_take h, Nat.zero_add]
theorem drop3 {fs : List Nat} {k : Nat} (h : 3 * k + 2 < fs.length) : fs.drop (3 * k) = fs.getD (3 * k) 0 :: fs.getD (3 * k + 1) 0 :: fs.getD (3 * k + 2) 0 :: fs.drop (3 * (k + 1)) := by
  have e : ∀ j, j < fs.length → fs.drop j = fs.getD j 0 :: fs.drop (j + 1) := fun j hj => by
    rw [List.drop_eq_getElem_cons hj, List.getD_eq_getElem?_getD, List.getElem?_eq_getElem hj]
    rfl
  rw [e (3 * k) (by omega), e (3 * k + 1) (by omega), e (3 * k + 2) (by omega), show 3 * (k + 1) = 3 * k + 2 + 1 by omega]
theorem flow_from (fs : List Nat) (w : Nat) : ∀ (s : List Nat) (k : Nat), fs.length = 3 * (k + s.length) → (∀ v ∈ s, 1 ≤ v ∧ v ≤ 4) →
    (((filtersOf (fs.drop (3 * k))).zip s).zipIdx k |>.map fun x => if x.2 + 1 = w then 0 else x.1.1.getD (x.1.2 - 1) 0).sum = flowFrom fs w k s
  | [], k, _, _ => by
    rw [List.zip_nil_right]
    rfl
  | a :: r, k, hl, ho => by
    rw [List.length_cons] at hl
    rw [drop3 (by omega)]
    have ih := flow_from fs w r (k + 1) (by omega) fun v hv => ho v (List.mem_cons_of_mem _ hv)
    obtain ⟨h1, h2⟩ := ho a (List.mem_cons_self ..)
    show (((([fs.getD (3 * k) 0, fs.getD (3 * k + 1) 0, fs.getD (3 * k + 2) 0] :: filtersOf (fs.drop (3 * (k + 1)))).zip (a :: r)).zipIdx k).map fun x => if x.2 + 1 = w then 0 else x.1.1.getD (x.1.2 - 1) 0).sum = (if k + 1 ≠ w ∧ a < 4 then fs.getD (3 * k + a - 1) 0 else 0) + flowFrom fs w (k + 1) r
    rw [List.zip_cons_cons, List.zipIdx_cons, List.map_cons, List.sum_cons, ih]
    refine congrArg (· + flowFrom fs w (k + 1) r) ?_
    show (if k + 1 = w then 0 else [fs.getD (3 * k) 0, fs.getD (3 * k + 1) 0, fs.getD (3 * k + 2) 0].getD (a - 1) 0) = _
    by_cases hw : k + 1 = w
    · rw [if_pos hw, if_neg (fun z => z.1 hw)]
    · rw [if_neg hw]
      have ha : a = 1 ∨ a = 2 ∨ a = 3 ∨ a = 4 := by omega
      rcases ha with rfl | rfl | rfl | rfl
      · rw [if_pos ⟨hw, by decide⟩]; rfl
      · rw [if_pos ⟨hw, by decide⟩]; rfl
      · rw [if_pos ⟨hw, by decide⟩]; rfl
      · rw [if_neg (fun z => absurd z.2 (by decide))]; rfl
/-- the program's sum is the specification's -/
theorem flow_is {fs s : List Nat} {m w : Nat} (hl : fs.length = 3 * m) (ho : Ok m s) : flow (filtersOf fs) s w = flowM fs s w := by
  have e := flow_from fs w s 0 (by rw [hl, ho.1]; omega) ho.2
  exact e
/-! ### the ages behind an hour -/
theorem next_snoc (s : List Nat) (w a : Nat) : next (s ++ [a]) w = next s w ++ [if s.length + 1 = w then 1 else min 4 (a + 1)] := by
  unfold next
  rw [List.zipIdx_append, List.map_append]
  refine congrArg (_ ++ ·) ?_
  show [if 0 + s.length + 1 = w then 1 else min (AGES + 1) (a + 1)] = _
  rw [Nat.zero_add]
  rfl
theorem next_more {s : List Nat} {w i a : Nat} (h : s[i]? = some a) : next (s.take (i + 1)) w = next (s.take i) w ++ [if i + 1 = w then 1 else min 4 (a + 1)] := by
  rw [take_more h, next_snoc, len_take h]
theorem next_len (s : List Nat) (w : Nat) : (next s w).length = s.length := by
  unfold next
  rw [List.length_map, List.length_zipIdx]
theorem next_ok {m : Nat} {s : List Nat} (w : Nat) (h : Ok m s) : Ok m (next s w) := by
  refine ⟨(next_len s w).trans h.1, fun v hv => ?_⟩
  unfold next at hv
  obtain ⟨x, _, rfl⟩ := List.mem_map.mp hv
  show 1 ≤ (if x.2 + 1 = w then 1 else min 4 (x.1 + 1)) ∧ (if x.2 + 1 = w then 1 else min 4 (x.1 + 1)) ≤ 4
  split <;> omega
/-! ### all ages -/
theorem mem_states : ∀ (m : Nat) (s : List Nat), s ∈ states m ↔ Ok m s
  | 0, s => by
    show s ∈ [[]] ↔ _
    rw [List.mem_singleton]
    constructor
    · rintro rfl
      exact ⟨rfl, fun v hv => absurd hv (List.not_mem_nil)⟩
    · exact fun h => List.length_eq_zero_iff.mp h.1
  | n + 1, s => by
    show s ∈ (List.range (AGES + 1)).flatMap (fun a => (states n).map fun r => (a + 1) :: r) ↔ _
    rw [List.mem_flatMap]
    constructor
    · rintro ⟨a, ha, hs⟩
      obtain ⟨r, hr, rfl⟩ := List.mem_map.mp hs
      have ha : a < 4 := List.mem_range.mp ha
      obtain ⟨h1, h2⟩ := (mem_states n r).mp hr
      refine ⟨by rw [List.length_cons, h1], fun v hv => ?_⟩
      rcases List.mem_cons.mp hv with rfl | hr
      · omega
      · exact h2 v hr
    · rintro ⟨h1, h2⟩
      cases s with
      | nil => cases h1
      | cons b r =>
        obtain ⟨hb1, hb2⟩ := h2 b (List.mem_cons_self ..)
        refine ⟨b - 1, List.mem_range.mpr (by show b - 1 < 4; omega), List.mem_map.mpr ⟨r, (mem_states n r).mpr ⟨by rw [List.length_cons] at h1; omega, fun v hv => h2 v (List.mem_cons_of_mem _ hv)⟩, ?_⟩⟩
        rw [Nat.sub_add_cancel hb1]
/-- the program's rows of ages, longer by one at the right -/
def rowsOf (r : List Nat) : List (List Nat) := [r ++ [1], r ++ [2], r ++ [3], r ++ [4]]
def allM : Nat → List (List Nat)
  | 0 => [[]]
  | k + 1 => (allM k).flatMap rowsOf
theorem allM_is : ∀ {m : Nat}, m ≤ 3 → allM m = states m
  | 0, _ => by decide +kernel
  | 1, _ => by decide +kernel
  | 2, _ => by decide +kernel
  | 3, _ => by decide +kernel
  | n + 4, h => by omega
theorem states_nodup : ∀ {m : Nat}, m ≤ 3 → (states m).Nodup
  | 0, _ => by decide +kernel
  | 1, _ => by decide +kernel
  | 2, _ => by decide +kernel
  | 3, _ => by decide +kernel
  | n + 4, h => by omega
theorem states_len : ∀ {m : Nat}, m ≤ 3 → (states m).length = (AGES + 1) ^ m
  | 0, _ => by decide +kernel
  | 1, _ => by decide +kernel
  | 2, _ => by decide +kernel
  | 3, _ => by decide +kernel
  | n + 4, h => by omega
theorem states_le {m : Nat} (h : m ≤ 3) : (states m).length ≤ 64 := by
  rw [states_len h]
  have : m = 0 ∨ m = 1 ∨ m = 2 ∨ m = 3 := by omega
  rcases this with rfl | rfl | rfl | rfl <;> decide
/-! ### the ages from which it can be kept for ever -/
section
variable {f : Filters} {want : Nat} {l : List (List Nat)} {s : List Nat}
def good (f : Filters) (want : Nat) (l : List (List Nat)) (s : List Nat) (w : Nat) : Bool := decide (want ≤ flow f s w) && l.contains (next s w)
theorem choose_some {w : Nat} (h : choose f want l s = some w) : w ≤ f.length ∧ want ≤ flow f s w ∧ next s w ∈ l := by
  have h1 : (good f want l s w) = true := List.find?_some h
  have h2 := List.mem_of_find?_eq_some h
  unfold good at h1
  rw [Bool.and_eq_true] at h1
  exact ⟨Nat.le_of_lt_succ (List.mem_range.mp h2), of_decide_eq_true h1.1, List.contains_iff_mem.mp h1.2⟩
theorem choose_none (h : choose f want l s = none) (w : Nat) (hw : w ≤ f.length) : ¬ (want ≤ flow f s w ∧ next s w ∈ l) := fun z => by
  have h1 := List.find?_eq_none.mp h w (List.mem_range.mpr (Nat.lt_succ_of_le hw))
  apply h1
  rw [Bool.and_eq_true]
  exact ⟨decide_eq_true z.1, List.contains_iff_mem.mpr z.2⟩
/-- no number below i will do, i does: that is the one that is told -/
theorem choose_first {i : Nat} (hi : i ≤ f.length) (h : ∀ w, w < i → ¬ (want ≤ flow f s w ∧ next s w ∈ l)) (h1 : want ≤ flow f s i) (h2 : next s i ∈ l) : choose f want l s = some i := by
  cases e : choose f want l s with
  | none => exact absurd ⟨h1, h2⟩ (choose_none e i hi)
  | some w =>
    obtain ⟨a, b, c⟩ := choose_some e
    by_cases hlt : w < i
    · exact absurd ⟨b, c⟩ (h w hlt)
    · by_cases hgt : i < w
      · have h3 : List.find? (good f want l s) (List.range (f.length + 1)) = some w := e
        obtain ⟨_, as, bs, e1, e2⟩ := List.find?_eq_some_iff_append.mp h3
        have hm : i ∈ as := by
          have hlen : as.length = w := by
            have hw : (List.range (f.length + 1))[as.length]? = some w := by
              rw [e1, List.getElem?_append_right (Nat.le_refl _), Nat.sub_self]
              rfl
            have hb := lt_of_get hw
            rw [List.getElem?_eq_getElem hb, List.getElem_range] at hw
            exact Option.some.inj hw
          have hi' : as[i]? = some i := by
            have hx : (List.range (f.length + 1))[i]? = some i := by
              rw [List.getElem?_eq_getElem (by rw [List.length_range]; omega), List.getElem_range]
            rw [e1, List.getElem?_append_left (by omega)] at hx
            exact hx
          exact List.mem_of_getElem? hi'
        have hn := e2 i hm
        unfold good at hn
        rw [decide_eq_true h1, List.contains_iff_mem.mpr h2] at hn
        cases hn
      · rw [show w = i by omega]
theorem choose_nothing (h : ∀ w, w ≤ f.length → ¬ (want ≤ flow f s w ∧ next s w ∈ l)) : choose f want l s = none := by
  cases e : choose f want l s with
  | none => rfl
  | some w =>
    obtain ⟨a, b, c⟩ := choose_some e
    exact absurd ⟨b, c⟩ (h w a)
def lostM (f : Filters) (want : Nat) (l : List (List Nat)) : List (List Nat) := l.filter fun s => (choose f want l s).isNone
theorem again_keep (x : List Nat) : ((List.range (f.length + 1)).any (good f want l x)) = !(choose f want l x).isNone := by
  show _ = !(List.find? (good f want l x) (List.range (f.length + 1))).isNone
  cases e : List.find? (good f want l x) (List.range (f.length + 1)) with
  | none =>
    show _ = false
    rw [List.any_eq_false]
    exact fun y hy => List.find?_eq_none.mp e y hy
  | some w =>
    show _ = true
    rw [List.any_eq_true]
    exact ⟨w, List.mem_of_find?_eq_some e, List.find?_some (p := good f want l x) e⟩
theorem again_is : again f want l = l.filter fun s => !(choose f want l s).isNone := by
  unfold again
  exact List.filter_congr fun y _ => again_keep y
theorem filter_len {α : Type} (p : α → Bool) : ∀ l : List α, (l.filter p).length + (l.filter fun x => !p x).length = l.length
  | [] => rfl
  | a :: r => by
    have ih := filter_len p r
    cases h : p a with
    | true => simp only [List.filter_cons, h, if_true, Bool.not_true, Bool.false_eq_true, if_false, List.length_cons]; omega
    | false => simp only [List.filter_cons, h, if_true, Bool.not_false, Bool.false_eq_true, if_false, List.length_cons]; omega
theorem lost_len : (lostM f want l).length + (again f want l).length = l.length := by
  rw [again_is]
  exact filter_len _ l
theorem lost_nil (h : lostM f want l = []) : again f want l = l := by
  have e : (again f want l).length = l.length := by
    have := lost_len (f := f) (want := want) (l := l)
    rw [h] at this
    simpa using this
  rw [again_is] at e ⊢
  exact List.filter_eq_self.mpr (List.length_filter_eq_length_iff.mp e)
/-- what is left when the lost ones are popped -/
theorem popped : (l.filter fun s => !(lostM f want l).contains s) = again f want l := by
  rw [again_is]
  refine List.filter_congr fun x hx => ?_
  refine congrArg (fun b => !b) ?_
  cases e : (choose f want l x).isNone with
  | true => exact List.contains_iff_mem.mpr (List.mem_filter.mpr ⟨hx, e⟩)
  | false =>
    cases e2 : (lostM f want l).contains x with
    | false => rfl
    | true =>
      have := (List.mem_filter.mp (List.contains_iff_mem.mp e2)).2
      rw [e] at this
      cases this
theorem till_stop (h : lostM f want l = []) : ∀ n, till f want n l = l
  | 0 => rfl
  | n + 1 => by
    show (if (again f want l).length = l.length then l else till f want n (again f want l)) = l
    rw [if_pos (by rw [lost_nil h])]
theorem till_step {n : Nat} (h : lostM f want l ≠ []) (hn : l.length ≤ n) : ∃ n', (again f want l).length ≤ n' ∧ till f want n l = till f want n' (again f want l) := by
  have hp : 0 < (lostM f want l).length := List.length_pos_iff.mpr h
  have hl := lost_len (f := f) (want := want) (l := l)
  cases n with
  | zero => omega
  | succ n =>
    refine ⟨n, by omega, ?_⟩
    show (if (again f want l).length = l.length then l else till f want n (again f want l)) = _
    rw [if_neg (by omega)]
theorem till_fix : ∀ (n : Nat) (l : List (List Nat)), l.length ≤ n → lostM f want (till f want n l) = []
  | n, l, hn => by
    by_cases h : lostM f want l = []
    · rw [till_stop h]
      exact h
    · have hp : 0 < (lostM f want l).length := List.length_pos_iff.mpr h
      have hl := lost_len (f := f) (want := want) (l := l)
      cases n with
      | zero => omega
      | succ n =>
        have e : till f want (n + 1) l = till f want n (again f want l) := by
          show (if (again f want l).length = l.length then l else till f want n (again f want l)) = _
          rw [if_neg (by omega)]
        rw [e]
        exact till_fix n (again f want l) (by omega)
  termination_by n => n
end
theorem ever_fix {f : Filters} {want : Nat} (hm : f.length ≤ 3) : lostM f want (ever f want) = [] := till_fix _ _ (by rw [states_len hm]; exact Nat.le_refl _)
theorem lost_choose {f : Filters} {want : Nat} {l : List (List Nat)} {s : List Nat} (h : lostM f want l = []) (hs : s ∈ l) : ∃ w, choose f want l s = some w := by
  cases e : choose f want l s with
  | some w => exact ⟨w, rfl⟩
  | none =>
    have : s ∈ lostM f want l := List.mem_filter.mpr ⟨hs, by rw [e]; rfl⟩
    rw [h] at this
    cases this
/-! ### what is as told -/
def areB (fs s : List Nat) : Bool := decide (1 ≤ s.length ∧ s.length ≤ 3) && (decide (fs.length = 3 * s.length) && ((fs.all fun v => decide (v ≤ 20)) && s.all fun v => decide (1 ≤ v ∧ v ≤ 4)))
theorem areB_iff {fs s : List Nat} : areB fs s = true ↔ (1 ≤ s.length ∧ s.length ≤ 3) ∧ fs.length = 3 * s.length ∧ (∀ v ∈ fs, v ≤ 20) ∧ ∀ v ∈ s, 1 ≤ v ∧ v ≤ 4 := by
  unfold areB
  simp only [Bool.and_eq_true, decide_eq_true_eq, List.all_eq_true]
theorem filtersOf_len : ∀ fs : List Nat, (filtersOf fs).length = fs.length / 3
  | [] => by simp [filtersOf]
  | [_] => by simp [filtersOf]
  | [_, _] => by simp [filtersOf]
  | a :: b :: c :: l => by
    show (filtersOf l).length + 1 = (l.length + 1 + 1 + 1) / 3
    rw [filtersOf_len l]
    omega
theorem given_is (fs s : List Nat) (g : Filters → Ans) : given fs s g = if areB fs s = true then g (filtersOf fs) else no (-22) := by
  unfold given
  have e : (fs.length % AGES = 0 ∧ 1 ≤ (filtersOf fs).length ∧ (filtersOf fs).length ≤ FILTERS ∧ fs.all (fun v => decide (v ≤ 20)) = true ∧ s.length = (filtersOf fs).length ∧ s.all (fun v => decide (1 ≤ v) && decide (v ≤ AGES + 1)) = true) ↔ areB fs s = true := by
    rw [areB_iff, filtersOf_len]
    constructor
    · rintro ⟨h1, h2, h3, h4, h5, h6⟩
      have h1 : fs.length % 3 = 0 := h1
      have h3 : fs.length / 3 ≤ 3 := h3
      refine ⟨⟨by omega, by omega⟩, by omega, fun v hv => of_decide_eq_true (List.all_eq_true.mp h4 v hv), fun v hv => ?_⟩
      have := List.all_eq_true.mp h6 v hv
      rw [Bool.and_eq_true] at this
      exact ⟨of_decide_eq_true this.1, of_decide_eq_true this.2⟩
    · rintro ⟨⟨h1, h2⟩, h3, h4, h5⟩
      refine ⟨by show fs.length % 3 = 0; omega, by omega, by show fs.length / 3 ≤ 3; omega, List.all_eq_true.mpr fun v hv => decide_eq_true (h4 v hv), by omega, List.all_eq_true.mpr fun v hv => ?_⟩
      rw [Bool.and_eq_true]
      exact ⟨decide_eq_true (h5 v hv).1, decide_eq_true (h5 v hv).2⟩
  by_cases h : areB fs s = true
  · rw [if_pos h]
    exact if_pos (e.mpr h)
  · rw [if_neg h]
    exact if_neg fun z => h (e.mp z)
theorem are_ok {fs s : List Nat} (h : areB fs s = true) : fs.length = 3 * s.length ∧ Ok s.length s ∧ (filtersOf fs).length = s.length ∧ 1 ≤ s.length ∧ s.length ≤ 3 := by
  obtain ⟨⟨h1, h2⟩, h3, h4, h5⟩ := areB_iff.mp h
  exact ⟨h3, ⟨rfl, h5⟩, by rw [filtersOf_len, h3]; omega, h1, h2⟩
/-! ### keeps -/
def planB (m : Nat) (p : List Nat) : Bool := decide (p.length ≤ 40) && p.all fun v => decide (v ≤ m)
def refused : List Int := [-22]
/-- what keeps gives back -/
def keepsM (want : Nat) (fs s p : List Nat) : List Int := Ks441Neutral.out (answer (.keeps want fs s p))
theorem answer_keeps (w : Nat) (f s p : List Nat) : answer (.keeps w f s p) = given f s fun q => if 100 < w ∨ 40 < p.length ∨ p.any (fun v => decide (q.length < v)) = true then no (-22) else { ret := if keeps q w s p then 1 else 0, out := flows q s p } := rfl
theorem keepsM_no {want : Nat} {fs s p : List Nat} (h : (areB fs s && decide (want ≤ 100)) = false ∨ planB s.length p = false) : keepsM want fs s p = refused := by
  unfold keepsM
  rw [answer_keeps, given_is]
  by_cases h1 : areB fs s = true
  · rw [if_pos h1]
    obtain ⟨_, _, e, _, _⟩ := are_ok h1
    have c : 100 < want ∨ 40 < p.length ∨ p.any (fun v => decide ((filtersOf fs).length < v)) = true := by
      rw [e]
      rcases h with h | h
      · rw [h1, Bool.true_and, decide_eq_false_iff_not] at h
        exact .inl (by omega)
      · unfold planB at h
        rw [Bool.and_eq_false_iff] at h
        rcases h with h | h
        · rw [decide_eq_false_iff_not] at h
          exact .inr (.inl (by omega))
        · obtain ⟨x, hx, hv⟩ := List.all_eq_false.mp h
          exact .inr (.inr (List.any_eq_true.mpr ⟨x, hx, by simpa using hv⟩))
    show Ks441Neutral.out (if _ then no (-22) else _) = _
    rw [if_pos c]
    rfl
  · rw [if_neg h1]
    rfl
theorem keepsM_yes {want : Nat} {fs s p : List Nat} (h1 : areB fs s = true) (h2 : want ≤ 100) (h3 : planB s.length p = true) :
    keepsM want fs s p = (if ((flows (filtersOf fs) s p).all fun v => decide (want ≤ v)) = true then 1 else 0) :: (flows (filtersOf fs) s p).map Int.ofNat := by
  obtain ⟨_, _, e, _, _⟩ := are_ok h1
  unfold planB at h3
  rw [Bool.and_eq_true, decide_eq_true_eq] at h3
  unfold keepsM
  rw [answer_keeps, given_is, if_pos h1]
  have c : ¬ (100 < want ∨ 40 < p.length ∨ p.any (fun v => decide ((filtersOf fs).length < v)) = true) := by
    rw [e]
    rintro (c | c | c)
    · omega
    · omega
    · obtain ⟨x, hx, hv⟩ := List.any_eq_true.mp c
      have := List.all_eq_true.mp h3.2 x hx
      rw [decide_eq_true_eq] at this hv
      omega
  show Ks441Neutral.out (if _ then no (-22) else { ret := if keeps (filtersOf fs) want s p = true then 1 else 0, out := flows (filtersOf fs) s p }) = _
  rw [if_neg c]
  unfold keeps
  rw [e, h3.2, Bool.true_and]
  rfl
theorem flows_len (f : Filters) : ∀ (p s : List Nat), (flows f s p).length = p.length
  | [], _ => rfl
  | _ :: r, s => by
    show (flows f (next s _) r).length + 1 = r.length + 1
    rw [flows_len f r]
theorem flat_len : ∀ l : List (List Nat), (l.flatMap rowsOf).length = 4 * l.length
  | [] => rfl
  | a :: r => by
    rw [List.flatMap_cons, List.length_append, flat_len r, List.length_cons]
    show 4 + _ = _
    omega
theorem row_len {i j : Nat} {r : List Nat} (h : (allM i)[j]? = some r) (hi : i ≤ 3) : r.length = i := by
  rw [allM_is hi] at h
  exact ((mem_states i r).mp (List.mem_of_getElem? h)).1
/-! ### popping the lost ones -/
theorem not_in_take {α : Type} {l : List α} (hn : l.Nodup) {i : Nat} {x : α} (h : l[i]? = some x) : ¬ x ∈ l.take i := fun hm => by
  obtain ⟨j, hj, e⟩ := List.getElem_of_mem hm
  rw [List.length_take] at hj
  rw [List.getElem_take] at e
  have hi := lt_of_get h
  rw [List.getElem?_eq_getElem hi] at h
  have := (List.getElem_inj hn).mp (e.trans (Option.some.inj h).symm)
  omega
theorem filter_none {l : List (List Nat)} : (l.filter fun s => !([] : List (List Nat)).contains s) = l := List.filter_eq_self.mpr fun _ _ => rfl
theorem again_sub {f : Filters} {want : Nat} {l : List (List Nat)} {s : List Nat} (h : s ∈ again f want l) : s ∈ l := (List.mem_filter.mp h).1
theorem again_nodup {f : Filters} {want : Nat} {l : List (List Nat)} (h : l.Nodup) : (again f want l).Nodup := List.Pairwise.filter _ h
theorem pop_mem {f : Filters} {want : Nat} {l : List (List Nat)} (hn : l.Nodup) {j : Nat} {s : List Nat} (h : (lostM f want l)[j]? = some s) : s ∈ l.filter fun x => !((lostM f want l).take j).contains x := by
  have hl : (lostM f want l).Nodup := List.Pairwise.filter _ hn
  have hm := (List.mem_filter.mp (List.mem_of_getElem? h)).1
  refine List.mem_filter.mpr ⟨hm, ?_⟩
  cases e : ((lostM f want l).take j).contains s with
  | false => rfl
  | true => exact absurd (List.contains_iff_mem.mp e) (not_in_take hl h)
theorem pop_step {l r : List (List Nat)} {j : Nat} {s : List Nat} (h : r[j]? = some s) : ((l.filter fun x => !(r.take j).contains x).filter fun x => decide (x ≠ s)) = l.filter fun x => !(r.take (j + 1)).contains x := by
  rw [List.filter_filter, take_more h]
  refine List.filter_congr fun x hx0 => ?_
  have e : (r.take j ++ [s]).contains x = ((r.take j).contains x || decide (x = s)) := by
    rw [Bool.eq_iff_iff, Bool.or_eq_true, List.contains_iff_mem, List.contains_iff_mem, List.mem_append, List.mem_singleton, decide_eq_true_eq]
  rw [e, Bool.not_or, Bool.and_comm]
  refine congrArg (fun b => !(r.take j).contains x && b) ?_
  by_cases hx : x = s
  · rw [decide_eq_true hx, decide_eq_false (fun z => z hx)]
    rfl
  · rw [decide_eq_false hx, decide_eq_true hx]
    rfl
/-! ### ever, told, greatest, lasts: what they give back -/
def everM (want : Nat) (fs s : List Nat) : List Int := Ks441Neutral.out (answer (.ever want fs s))
theorem answer_ever (w : Nat) (f s : List Nat) : answer (.ever w f s) = given f s fun q => if 100 < w then no (-22) else no (if (ever q w).contains s then 1 else 0) := rfl
theorem everM_no {want : Nat} {fs s : List Nat} (h : (areB fs s && decide (want ≤ 100)) = false) : everM want fs s = refused := by
  unfold everM
  rw [answer_ever, given_is]
  by_cases h1 : areB fs s = true
  · rw [h1, Bool.true_and, decide_eq_false_iff_not] at h
    rw [if_pos h1, if_pos (by omega)]
    rfl
  · rw [if_neg h1]
    rfl
theorem everM_yes {want : Nat} {fs s : List Nat} (h1 : areB fs s = true) (h2 : want ≤ 100) : everM want fs s = [if (ever (filtersOf fs) want).contains s = true then 1 else 0] := by
  unfold everM
  rw [answer_ever, given_is, if_pos h1, if_neg (by omega)]
  rfl
theorem told_succ {f : Filters} {want : Nat} {l : List (List Nat)} {s : List Nat} {n w : Nat} (h : choose f want l s = some w) : told f want l (n + 1) s = w :: told f want l n (next s w) := by
  rw [told, h]
theorem told_len {f : Filters} {want : Nat} {l : List (List Nat)} : ∀ (n : Nat) (s : List Nat), (told f want l n s).length ≤ n
  | 0, _ => Nat.le_refl _
  | n + 1, s => by
    rw [told]
    split
    · exact Nat.zero_le _
    · rw [List.length_cons]
      exact Nat.succ_le_succ (told_len n _)
def toldM (want n : Nat) (fs s : List Nat) : List Int := Ks441Neutral.out (answer (.told want n fs s))
theorem answer_told (w n : Nat) (f s : List Nat) : answer (.told w n f s) = given f s fun q => if 100 < w ∨ 40 < n then no (-22) else if (ever q w).contains s then { ret := n, out := told q w (ever q w) n s } else no (-33) := rfl
theorem toldM_no {want n : Nat} {fs s : List Nat} (h : (areB fs s && decide (want ≤ 100)) = false ∨ 40 < n) : toldM want n fs s = refused := by
  unfold toldM
  rw [answer_told, given_is]
  by_cases h1 : areB fs s = true
  · have c : 100 < want ∨ 40 < n := by
      rcases h with h | h
      · rw [h1, Bool.true_and, decide_eq_false_iff_not] at h
        exact .inl (by omega)
      · exact .inr h
    rw [if_pos h1, if_pos c]
    rfl
  · rw [if_neg h1]
    rfl
theorem toldM_cannot {want n : Nat} {fs s : List Nat} (h1 : areB fs s = true) (h2 : want ≤ 100) (h3 : n ≤ 40) (h : (ever (filtersOf fs) want).contains s = false) : toldM want n fs s = [-33] := by
  unfold toldM
  rw [answer_told, given_is, if_pos h1, if_neg (by omega), h]
  rfl
theorem toldM_yes {want n : Nat} {fs s : List Nat} (h1 : areB fs s = true) (h2 : want ≤ 100) (h3 : n ≤ 40) (h : (ever (filtersOf fs) want).contains s = true) : toldM want n fs s = (n : Int) :: (told (filtersOf fs) want (ever (filtersOf fs) want) n s).map Int.ofNat := by
  unfold toldM
  rw [answer_told, given_is, if_pos h1, if_neg (by omega), h]
  rfl
theorem get_le_max : ∀ (q : List Nat) (i a : Nat), q.getD i 0 ≤ q.foldl max a
  | [], _, _ => Nat.zero_le _
  | x :: r, 0, a => by
    show x ≤ r.foldl max (max a x)
    have h : ∀ (l : List Nat) (b : Nat), b ≤ l.foldl max b := fun l => by
      induction l with
      | nil => exact fun b => Nat.le_refl b
      | cons y l ih => exact fun b => Nat.le_trans (Nat.le_max_left b y) (ih (max b y))
    exact Nat.le_trans (Nat.le_max_right a x) (h r _)
  | x :: r, i + 1, a => get_le_max r i (max a x)
def most (f : Filters) : Nat := (f.map fun q => q.foldl max 0).sum
theorem flow_le_from (w : Nat) : ∀ (f : Filters) (s : List Nat) (k : Nat), (((f.zip s).zipIdx k).map fun x => if x.2 + 1 = w then 0 else x.1.1.getD (x.1.2 - 1) 0).sum ≤ most f
  | [], _, _ => Nat.zero_le _
  | _ :: _, [], _ => Nat.zero_le _
  | q :: f, a :: s, k => by
    rw [List.zip_cons_cons, List.zipIdx_cons, List.map_cons, List.sum_cons]
    show (if k + 1 = w then 0 else q.getD (a - 1) 0) + _ ≤ ((q.foldl max 0) :: f.map fun q => q.foldl max 0).sum
    rw [List.sum_cons]
    refine Nat.add_le_add ?_ (flow_le_from w f s (k + 1))
    split
    · exact Nat.zero_le _
    · exact get_le_max q (a - 1) 0
theorem flow_le (f : Filters) (s : List Nat) (w : Nat) : flow f s w ≤ most f := flow_le_from w f s 0
/-- more than what can flow can't be kept -/
theorem ever_le {f : Filters} {v : Nat} {s : List Nat} (hm : f.length ≤ 3) (h : (ever f v).contains s = true) : v ≤ most f := by
  obtain ⟨w, hw⟩ := lost_choose (ever_fix (f := f) (want := v) hm) (List.contains_iff_mem.mp h)
  obtain ⟨_, h2, _⟩ := choose_some hw
  exact Nat.le_trans h2 (flow_le f s w)
theorem fold_le {b : Nat} : ∀ (q : List Nat) (a : Nat), a ≤ b → (∀ v ∈ q, v ≤ b) → q.foldl max a ≤ b
  | [], _, h, _ => h
  | x :: r, a, h, hq => fold_le r (max a x) (Nat.max_le.mpr ⟨h, hq x (List.mem_cons_self ..)⟩) fun v hv => hq v (List.mem_cons_of_mem _ hv)
theorem most_le : ∀ fs : List Nat, (∀ v ∈ fs, v ≤ 20) → most (filtersOf fs) ≤ 20 * (filtersOf fs).length
  | [], _ => Nat.le_of_eq (by simp [filtersOf, most])
  | [_], _ => Nat.le_of_eq (by simp [filtersOf, most])
  | [_, _], _ => Nat.le_of_eq (by simp [filtersOf, most])
  | a :: b :: c :: l, h => by
    show ([a, b, c].foldl max 0 :: (filtersOf l).map fun q => q.foldl max 0).sum ≤ 20 * ((filtersOf l).length + 1)
    rw [List.sum_cons]
    have h1 : [a, b, c].foldl max 0 ≤ 20 := fold_le _ _ (Nat.zero_le _) fun v hv => h v (by
      simp only [List.mem_cons, List.not_mem_nil, or_false] at hv ⊢
      rcases hv with h | h | h
      · exact .inl h
      · exact .inr (.inl h)
      · exact .inr (.inr (.inl h)))
    have h2 : ((filtersOf l).map fun q => q.foldl max 0).sum ≤ 20 * (filtersOf l).length := most_le l fun v hv => h v (by simp only [List.mem_cons]; exact .inr (.inr (.inr hv)))
    omega
theorem find_down {p : Nat → Bool} : ∀ (n v : Nat), v < n → p v = true → (∀ u, v < u → u < n → p u = false) → (List.range n).reverse.find? p = some v
  | 0, v, h, _, _ => absurd h (Nat.not_lt_zero v)
  | n + 1, v, h, hv, hu => by
    rw [List.range_succ, List.reverse_append]
    show (n :: (List.range n).reverse).find? p = some v
    by_cases e : v = n
    · subst e
      rw [List.find?_cons, hv]
    · rw [List.find?_cons, hu n (by omega) (by omega)]
      exact find_down n v (by omega) hv fun u h1 h2 => hu u h1 (by omega)
theorem greatest_at {fs s : List Nat} (har : areB fs s = true) {v : Nat} (hv : v ≤ 60) (h : (ever (filtersOf fs) v).contains s = true) (hn : ∀ u, v < u → u ≤ 60 → (ever (filtersOf fs) u).contains s = false) : greatest (filtersOf fs) s = v := by
  obtain ⟨_, _, e, _, hm⟩ := are_ok har
  have hle := ever_le (by rw [e]; exact hm) h
  have h60 : most (filtersOf fs) ≤ 60 := by
    have := most_le fs (areB_iff.mp har).2.2.1
    rw [e] at this
    omega
  have hf := find_down (p := fun v => (ever (filtersOf fs) v).contains s) (most (filtersOf fs) + 1) v (by omega) h fun u h1 h2 => hn u h1 (by omega)
  show (((List.range (most (filtersOf fs) + 1)).reverse.find? fun v => (ever (filtersOf fs) v).contains s).getD 0) = v
  rw [hf]
  rfl
theorem greatest_zero {fs s : List Nat} (har : areB fs s = true) (hn : ∀ u, 0 < u → u ≤ 60 → (ever (filtersOf fs) u).contains s = false) : greatest (filtersOf fs) s = 0 := by
  obtain ⟨_, _, e, _, hm⟩ := are_ok har
  have h60 : most (filtersOf fs) ≤ 60 := by
    have := most_le fs (areB_iff.mp har).2.2.1
    rw [e] at this
    omega
  cases h : (ever (filtersOf fs) 0).contains s with
  | true => exact greatest_at har (Nat.zero_le _) h fun u h1 h2 => hn u h1 h2
  | false =>
    have hf : (List.range (most (filtersOf fs) + 1)).reverse.find? (fun v => (ever (filtersOf fs) v).contains s) = none := List.find?_eq_none.mpr fun v hv => by
      have hv := List.mem_range.mp (List.mem_reverse.mp hv)
      by_cases e0 : v = 0
      · rw [e0, h]
        exact Bool.false_ne_true
      · rw [hn v (by omega) (by omega)]
        exact Bool.false_ne_true
    show (((List.range (most (filtersOf fs) + 1)).reverse.find? fun v => (ever (filtersOf fs) v).contains s).getD 0) = 0
    rw [hf]
    rfl
def greatestM (fs s : List Nat) : List Int := Ks441Neutral.out (answer (.greatest fs s))
theorem answer_greatest (f s : List Nat) : answer (.greatest f s) = given f s fun q => no (greatest q s : Nat) := rfl
theorem greatestM_no {fs s : List Nat} (h : areB fs s = false) : greatestM fs s = refused := by
  unfold greatestM
  rw [answer_greatest, given_is, h]
  rfl
theorem greatestM_yes {fs s : List Nat} (h : areB fs s = true) : greatestM fs s = [((greatest (filtersOf fs) s : Nat) : Int)] := by
  unfold greatestM
  rw [answer_greatest, given_is, if_pos h]
  rfl
theorem fold_max {p : Nat → Prop} [DecidablePred p] {g : Nat → Nat} : ∀ (L : List Nat) (a : Nat),
    a ≤ L.foldl (fun m w => if p w then max m (g w) else m) a ∧ (∀ w ∈ L, p w → g w ≤ L.foldl (fun m w => if p w then max m (g w) else m) a) ∧
      (L.foldl (fun m w => if p w then max m (g w) else m) a = a ∨ ∃ w ∈ L, p w ∧ L.foldl (fun m w => if p w then max m (g w) else m) a = g w)
  | [], a => ⟨Nat.le_refl a, fun _ h => absurd h List.not_mem_nil, .inl rfl⟩
  | x :: r, a => by
    rw [List.foldl_cons]
    by_cases h : p x
    · rw [if_pos h]
      obtain ⟨h1, h2, h3⟩ := fold_max (p := p) (g := g) r (max a (g x))
      refine ⟨by omega, fun w hw pw => ?_, ?_⟩
      · rcases List.mem_cons.mp hw with rfl | hw
        · omega
        · exact h2 w hw pw
      · rcases h3 with h3 | ⟨w, hw, pw, e⟩
        · by_cases hm : g x ≤ a
          · exact .inl (by rw [h3]; omega)
          · exact .inr ⟨x, List.mem_cons_self .., h, by rw [h3]; omega⟩
        · exact .inr ⟨w, List.mem_cons_of_mem _ hw, pw, e⟩
    · rw [if_neg h]
      obtain ⟨h1, h2, h3⟩ := fold_max (p := p) (g := g) r a
      refine ⟨h1, fun w hw pw => ?_, ?_⟩
      · rcases List.mem_cons.mp hw with rfl | hw
        · exact absurd pw h
        · exact h2 w hw pw
      · rcases h3 with h3 | ⟨w, hw, pw, e⟩
        · exact .inl h3
        · exact .inr ⟨w, List.mem_cons_of_mem _ hw, pw, e⟩
section
variable {f : Filters} {want : Nat}
theorem lasts_more {n w : Nat} {s : List Nat} (hw : w ≤ f.length) (h : want ≤ flow f s w) : 1 + lasts f want n (next s w) ≤ lasts f want (n + 1) s :=
  (fold_max (p := fun w => want ≤ flow f s w) (g := fun w => 1 + lasts f want n (next s w)) (List.range (f.length + 1)) 0).2.1 w (List.mem_range.mpr (by omega)) h
theorem lasts_by {n : Nat} {s : List Nat} : lasts f want (n + 1) s = 0 ∨ ∃ w, w ≤ f.length ∧ want ≤ flow f s w ∧ lasts f want (n + 1) s = 1 + lasts f want n (next s w) := by
  rcases (fold_max (p := fun w => want ≤ flow f s w) (g := fun w => 1 + lasts f want n (next s w)) (List.range (f.length + 1)) 0).2.2 with h | ⟨w, hw, pw, e⟩
  · exact .inl h
  · exact .inr ⟨w, Nat.le_of_lt_succ (List.mem_range.mp hw), pw, e⟩
/-- the most hours from any of these ages on -/
def Best (f : Filters) (want k : Nat) (S : List (List Nat)) (b : Nat) : Prop := (∃ s ∈ S, lasts f want k s = b) ∧ ∀ s ∈ S, lasts f want k s ≤ b
/-- one hour on -/
def Hour (f : Filters) (want : Nat) (S T : List (List Nat)) : Prop := ∀ x, x ∈ T ↔ ∃ s ∈ S, ∃ w, w ≤ f.length ∧ want ≤ flow f s w ∧ x = next s w
theorem best_none {k b : Nat} {S : List (List Nat)} (h : Best f want (k + 1) S b) (hT : Hour f want S []) : b = 0 := by
  obtain ⟨⟨s, hs, e⟩, _⟩ := h
  rcases lasts_by (f := f) (want := want) (n := k) (s := s) with z | ⟨w, hw, pw, _⟩
  · exact e.symm.trans z
  · exact absurd ((hT _).mpr ⟨s, hs, w, hw, pw, rfl⟩) List.not_mem_nil
theorem best_some {k b : Nat} {S T : List (List Nat)} (h : Best f want (k + 1) S b) (hT : Hour f want S T) (hne : T ≠ []) : ∃ c, Best f want k T c ∧ b = 1 + c := by
  obtain ⟨⟨s, hs, e⟩, hle⟩ := h
  have all : ∀ x ∈ T, 1 + lasts f want k x ≤ b := fun x hx => by
    obtain ⟨t, ht, w, hw, pw, rfl⟩ := (hT x).mp hx
    exact Nat.le_trans (lasts_more hw pw) (hle t ht)
  obtain ⟨x, hx⟩ := List.exists_mem_of_ne_nil T hne
  have h1 := all x hx
  rcases lasts_by (f := f) (want := want) (n := k) (s := s) with z | ⟨w, hw, pw, e2⟩
  · omega
  · refine ⟨lasts f want k (next s w), ⟨⟨_, (hT _).mpr ⟨s, hs, w, hw, pw, rfl⟩, rfl⟩, fun t ht => ?_⟩, by omega⟩
    have := all t ht
    omega
end
/-- a key put into a dict -/
def ins (T : List (List Nat)) (x : List Nat) : List (List Nat) := if T.contains x = true then T else T ++ [x]
theorem mem_ins {T : List (List Nat)} {x y : List Nat} : y ∈ ins T x ↔ y ∈ T ∨ y = x := by
  unfold ins
  split
  · next h => exact ⟨.inl, fun z => z.elim id fun e => e ▸ List.contains_iff_mem.mp h⟩
  · rw [List.mem_append, List.mem_singleton]
theorem ins_len (T : List (List Nat)) (x : List Nat) : (ins T x).length ≤ T.length + 1 := by
  unfold ins
  split
  · omega
  · rw [List.length_append]
    exact Nat.le_refl _
def lastsM (want n : Nat) (fs s : List Nat) : List Int := Ks441Neutral.out (answer (.lasts want n fs s))
theorem answer_lasts (w n : Nat) (f s : List Nat) : answer (.lasts w n f s) = given f s fun q => if 100 < w ∨ 7 < n then no (-22) else no (lasts q w n s : Nat) := rfl
theorem lastsM_no {want n : Nat} {fs s : List Nat} (h : (areB fs s && decide (want ≤ 100)) = false ∨ 7 < n) : lastsM want n fs s = refused := by
  unfold lastsM
  rw [answer_lasts, given_is]
  by_cases h1 : areB fs s = true
  · have c : 100 < want ∨ 7 < n := by
      rcases h with h | h
      · rw [h1, Bool.true_and, decide_eq_false_iff_not] at h
        exact .inl (by omega)
      · exact .inr h
    rw [if_pos h1, if_pos c]
    rfl
  · rw [if_neg h1]
    rfl
theorem lastsM_yes {want n : Nat} {fs s : List Nat} (h1 : areB fs s = true) (h2 : want ≤ 100) (h3 : n ≤ 7) : lastsM want n fs s = [((lasts (filtersOf fs) want n s : Nat) : Int)] := by
  unfold lastsM
  rw [answer_lasts, given_is, if_pos h1, if_neg (by omega)]
  rfl
end WT
/-! # words that the hand layer lacks: enumerate of a tuple, d.pop(k) and {k: v} where k is a tuple -/
namespace WT
open PySem PySem.Spec PyProof.Rows L2
/-! ### enumerate(tuple) -/
/-- the enumerate object over anything whose iterator is told, from 0 on -/
def enumObj (it : Addr) : Obj := { cls := .type "enumerate", data := .fields #[.none, .bool false, .ref it, rawInt 0, .none, .none] }
theorem meets_enum1 {v : Value} {ob : Obj} {Hh : Heap → Prop} (B : Begins v ob Hh) :
    Meets (Builtin.«enumerate.__new__» ⟨[.type "enumerate", v], []⟩) (fun _ R s => Hh s.heap ∧
      R (.ok (.ret (.ref (s.heap.push ob).objs.size))) { s with heap := (s.heap.push ob).push (enumObj s.heap.objs.size) }) :=
  .of_wp fun prog w A R s0 z => by
    obtain ⟨hp, gs, dr, tk, os⟩ := s0
    obtain ⟨z1, z2⟩ := z
    have hsub := sub_enumerate
    have q1 : ∀ {A' : Around} {E : Value → Shared → Prop} {Q : Value → Shared → Prop}, Q (.ref hp.objs.size) ⟨hp.push ob, gs, dr, tk, os⟩ →
        wpAny (model prog w) A' (pyIter v) Q E ⟨hp, gs, dr, tk, os⟩ := fun q => B.iter prog w _ _ ⟨hp, gs, dr, tk, os⟩ _ z1 q
    wp_walk using q1
    refine wpAny_stack_any fun stk => wpAny_pure ?_
    split
    · rename_i cl _ _ _ _ _
      cases (cl == Value.type "enumerate")
      · wp_walk using q1
        exact ⟨_, rfl, z2⟩
      · wp_walk using q1
        exact ⟨_, rfl, z2⟩
    · wp_walk using q1
      exact ⟨_, rfl, z2⟩
theorem call_enum1 {prog : Program} {w : World} {A : Around} {E : Value → Shared → Prop} {s : Shared} {v : Value} {ob : Obj} {Hh : Heap → Prop} {Q : Value → Shared → Prop} (B : Begins v ob Hh) (h1 : Hh s.heap)
    (k : ∀ h2 : Heap, IsEnum h2 (s.heap.objs.size + 1) s.heap.objs.size 0 .none → h2.get? s.heap.objs.size = some ob → (∀ b u, s.heap.get? b = some u → h2.get? b = some u) →
      Q (.ref (s.heap.objs.size + 1)) { s with heap := h2 }) : wpAny (model prog w) A (call (.type "enumerate") [v]) Q E s := by
  refine callType_new F.called_enumerate (by decide) (F.typeCall_enumerate_1 _) (F.newCall_enumerate_1 _) (fun x => F.args_object_init_2 x _) F.entry_enumerate_new
    (meets_enum1 B) ⟨h1, ?_⟩
  have sz : (s.heap.push ob).objs.size = s.heap.objs.size + 1 := Heap.size_push ..
  show _ ∧ _
  rw [sz]
  have en : IsEnum ((s.heap.push ob).push (enumObj s.heap.objs.size)) (s.heap.objs.size + 1) s.heap.objs.size 0 .none := by
    have := Heap.get?_push_size (s.heap.push ob) (o := enumObj s.heap.objs.size) rfl
    rw [sz] at this
    exact this
  exact ⟨⟨_, en, rfl⟩, k _ en (Heap.get?_push_of_some _ (Heap.get?_push_size _ B.free)) fun b u x => Heap.get?_push_of_some _ (Heap.get?_push_of_some _ x)⟩
/-- the tuple at a, each item in a new pair with its number -/
def IteT (K : PySem.W.Frag) (a : Addr) : It :=
  ⟨fun j H => ∃ (ys : List V) (y : V), SqT K H a ys ∧ ys[j]? = some y,
    fun j H v H' => ∃ T y, v = .ref T ∧ H T = none ∧ H' = upd H T (.tup [.int (j : Nat), y]) ∧ ∀ ys, SqT K H a ys → ys[j]? = some y,
    fun j H => ∃ ys : List V, SqT K H a ys ∧ ys.length = j⟩
theorem tup_ne {h : Heap} {a b : Addr} {its : Array Value} {o : Obj} (ha : IsTup h a its) (hb : h.get? b = some o) (hc : o.cls ≠ .type "tuple") : a ≠ b := fun z => by
  obtain ⟨u, h1, h2, _⟩ := ha
  rw [z, hb] at h1
  cases h1
  exact hc h2
theorem turn_enumT {P : Program} {w : World} {K : PySem.W.Frag} {elts : List Expr} {kk : Nat} {tpos : Pos} (a e it : Addr) :
    Turn P w K (.Tuple elts kk tpos) (IteT K a) [e, it] e (fun j h => (∃ old, IsEnum h e it ((j : Nat) : Int) old) ∧ h.IsTupleIter it a j ∧ e ≠ it) where
  mem := List.mem_cons_self ..
  obj := fun j h st b hb => by
    obtain ⟨⟨old, en⟩, ⟨o, ho, _, hd⟩, _⟩ := st
    rcases List.mem_cons.mp hb with ze | z
    · subst ze
      exact ⟨_, en, fun v q => nomatch q⟩
    · exact ⟨o, (List.mem_singleton.mp z) ▸ ho, fun v q => by rw [hd] at q; cases q⟩
  keep := fun j h h' st k => by
    obtain ⟨⟨old, en⟩, ⟨o, ho, hc, hd⟩, ne⟩ := st
    exact ⟨⟨old, k e (List.mem_cons_self ..) _ en⟩, ⟨o, k it (List.mem_cons_of_mem _ (List.mem_cons_self ..)) _ ho, hc, hd⟩, ne⟩
  item := by
    intro X hP hw hK hc j pins s σ H E I hf st hg
    subst hP hw hK
    obtain ⟨⟨old, en⟩, hit, ne⟩ := st
    obtain ⟨ys, y, hq, hy⟩ := hg
    obtain ⟨its, rv, pt, _⟩ := I.tuple hq
    obtain ⟨u, hu, ru⟩ := rv.get hy
    obtain ⟨oi, hoi, hci, hdi⟩ := id hit
    have lte : e < s.heap.objs.size := Heap.lt_size en
    have lti : it < s.heap.objs.size := Heap.lt_size hoi
    have nai : a ≠ it := tup_ne pt hoi (by rw [hci]; decide)
    have nae : a ≠ e := tup_ne pt en (by show Value.type "enumerate" ≠ Value.type "tuple"; decide)
    have hh : X.A.in1.handled = none := I.ok.hd hc
    have lj : j < its.toArray.size := by
      rw [List.size_toArray]
      exact (List.getElem?_eq_some_iff.mp hu).1
    refine wpAny_pyNext_enum_itemD (Draws.tuple hh it a nai its.toArray) en ⟨hit, pt⟩ lj ne (fun z => ?_) fun x h2 tk hx ho st2 hT hsz hk => ?_
    · rcases List.mem_cons.mp z with ze | zi
      · exact ne ze
      · exact nae (List.mem_singleton.mp zi).symm
    have ex : x = u := by
      have hx : its.toArray[j]? = some x := hx
      rw [List.getElem?_toArray, hu] at hx
      exact (Option.some.inj hx).symm
    subst ex
    refine ⟨_, rfl, wpAny_letOwnedTupleGo_enum (s := { s with heap := h2, toks := tk + 1 }) ho fun h3 en3 sb => ?_⟩
    have hT3 : h3.get? s.heap.objs.size = some { cls := .type "tuple", data := .seq #[.int j tk, x] } := (sb.2 _ (Nat.ne_of_gt lte)).trans hT
    have new : ObjOk X.prog X.w (upd H s.heap.objs.size (.tup [.int (j : Nat), y])) h3 s.heap.objs.size (.tup [.int (j : Nat), y]) :=
      ⟨by show 2 ≤ sizeLine; decide, [.int j tk, x], .cons ⟨_, rfl⟩ (.cons ru .nil), ⟨_, hT3, rfl, _, rfl⟩⟩
    have I3 : L2.Inv X pins σ (upd H s.heap.objs.size (.tup [.int (j : Nat), y])) { s with heap := h3, toks := tk + 1 } :=
      I.turnedNew (ch := [e, it]) (fun b o hb q => (sb.2 b (fun z => hb (z ▸ List.mem_cons_self ..))).trans
        (hk b o (fun z => hb (z ▸ List.mem_cons_self ..)) (fun z => hb (z ▸ List.mem_cons_of_mem _ (List.mem_cons_self ..))) q)) hf (Nat.le_refl _) new
    obtain ⟨oj, hoj, hcj, hdj⟩ := st2.1
    refine ⟨.ref s.heap.objs.size, _, I3, rfl, ⟨_, y, rfl, I.hok.fresh (Nat.le_refl _), rfl, fun zs hz => by rw [I.tuple_inj hz hq]; exact hy⟩,
      ⟨⟨x, ?_⟩, ⟨oj, (sb.2 it (Ne.symm ne)).trans hoj, hcj, hdj⟩, ne⟩, fun b hb => ?_⟩
    · rw [show ((j + 1 : Nat) : Int) = (j : Int) + 1 by omega]
      exact en3
    · have lb : b < s.heap.objs.size := by
        rcases List.mem_cons.mp hb with ze | zi
        · rw [ze]
          exact lte
        · rw [List.mem_singleton.mp zi]
          exact lti
      rw [upd_ne (Nat.ne_of_lt lb)]
      exact (hf b hb).1
  done := by
    intro X hP hw hK hc j pins s σ H E I hf st hg
    subst hP hw hK
    obtain ⟨⟨old, en⟩, hit, ne⟩ := st
    obtain ⟨ys, hq, hy⟩ := hg
    obtain ⟨its, rv, pt, _⟩ := I.tuple hq
    obtain ⟨oi, hoi, hci, hdi⟩ := id hit
    have nai : a ≠ it := tup_ne pt hoi (by rw [hci]; decide)
    obtain ⟨f0, f1, f2, f3, f4, f5⟩ := hf it (List.mem_cons_of_mem _ (List.mem_cons_self ..))
    have hl := rv.length
    have ln : its.toArray.size = j := by
      rw [List.size_toArray, ← hl]
      exact hy
    subst ln
    have hh : X.A.in1.handled = none := I.ok.hd hc
    exact wpAny_pyNext_enum_endD (Draws.tuple hh it a nai its.toArray) en ⟨hit, pt⟩ fun h2 eb => ⟨rfl, I.turned (t' := s.toks) (fun b o hb q => eb b o hb q) f0 f1 f3 f4 f5⟩
  self := fun A j s Q E st h => by
    obtain ⟨⟨_, en⟩, _⟩ := st
    exact wpAny_pyIter_enum en h
def iEnumT (K : PySem.W.Frag) (ta : TA) : TI := fun σ H R => ta σ H fun vs H1 => ∃ a ys, vs = [.ref a] ∧ SqT K H1 a ys ∧ R (IteT K a) H1
theorem pi_enumT {X : Cx} {e : Expr} {ta : TA} {p pos tpos : Pos} {elts : List Expr} {kk : Nat} (hg : Gl X "enumerate") (hm : X.mg "enumerate" = none) (ha : PA X [e] ta)
    (hs : starEach [e] X.env = [(false, eval e X.env)] := by rfl) : PI X (.Tuple elts kk tpos) (.Call (.Name "enumerate" p) [e] [] pos) (iEnumT X.K ta) := by
  refine ⟨fun pins s σ H R I hw => ?_⟩
  refine Call_ (ld_blt I hg hm boot_enumerate (PyProof.Rows.callWith_type1 (thn (ha.run pos pins s σ H _ I hw) fun us s1 ⟨vs, H1, I1, r1, q1⟩ => ?_) hs rfl))
  obtain ⟨a, ys, rfl, hq, q⟩ := q1
  obtain ⟨ua, rfl, rua⟩ := vals1 r1
  cases rua
  obtain ⟨its, rv, pt, _⟩ := I1.tuple hq
  refine call_enum1 (begins_tuple a its.toArray) pt fun h2 en hit hk => wpAny_pyIter_enum en ?_
  have I2 : L2.Inv X pins σ H1 { s1 with heap := h2 } := I1.kept (t' := s1.toks) hk
  refine ⟨s1.heap.objs.size + 1, [s1.heap.objs.size + 1, s1.heap.objs.size], _, _, H1, rfl, I2, turn_enumT a (s1.heap.objs.size + 1) s1.heap.objs.size,
    ⟨⟨.none, en⟩, ⟨_, hit, rfl, rfl⟩, Nat.succ_ne_self _⟩, fun b hb => ?_, q⟩
  have le : s1.heap.objs.size ≤ b := by
    rcases List.mem_cons.mp hb with ze | zi
    · rw [ze]
      exact Nat.le_succ _
    · rw [List.mem_singleton.mp zi]
      exact Nat.le_refl _
  exact I1.fpOk le (I1.hok.fresh le)
theorem walk_enumT {K : PySem.W.Frag} {a : Addr} {ys : List V} : Walk (IteT K a) ys.length (fun H => SqT K H a ys)
    (fun j H v H' => ∃ T y, v = .ref T ∧ H T = none ∧ H' = upd H T (.tup [.int (j : Nat), y]) ∧ ys[j]? = some y) :=
  ⟨fun j _ hj q => ⟨ys, ys[j], q, List.getElem?_eq_getElem hj⟩, fun _ q => ⟨ys, q, rfl⟩, fun j H v H' _ q y => by
    obtain ⟨T, z, h1, h2, h3, h4⟩ := y
    exact ⟨T, z, h1, h2, h3, h4 ys q⟩⟩
/-! ### d.pop(k), k a tuple that is there -/
section
variable {prog : Program} {w : World} {K : Type} [DecidableEq K] {knd : HeapKind prog w K}
theorem meetsPop1 {d b : Addr} {k : K} :
    MeetsIn prog w (Builtin.«dict.pop» ⟨[.ref d, .ref b], []⟩) (fun A R s => ∃ ys, knd.room A.in1 ∧ knd.is s.heap k b ∧ s.heap.DictOfH knd d ys ∧ ys.length ≤ sizeLine ∧ (atKey ys k).isSome = true ∧
      ∀ p, atKey ys k = some p → ∀ h2 tk, h2.DictOfH knd d (DT.dropH ys k) → Heap.SameBut d s.heap h2 → R (.ok (.ret p.2)) { s with heap := h2, toks := tk }) :=
  .of_wp fun A R s ⟨ys, rm, isk, dct, lim, there, go⟩ => by
    obtain ⟨ob, ents, pend, gob, _, dob, lst, _, _⟩ := id dct
    have cnt : ents.size = ys.length := size_of_entries lst
    have np : (keyPart (Value.ref b)).isSome = false := rfl
    unfold Builtin.«dict.pop» Builtin.Dict.keyAndDefault
    refine wpAny_bind (wpAny_bind (wpAny_notOrdered_dict dct.typeIs ?_))
    show wpAny _ _ (pure (d, Value.ref b, none)) _ _ s
    refine wpAny_pure ?_
    simp only [np, if_false, Bool.false_eq_true]
    refine wpAny_bind (wpAny_dictEntries gob dob (wpAny_bind (wpAny_pure ?_)))
    cases em : ents.isEmpty with
    | true =>
      have y0 : ys = [] := List.length_eq_zero_iff.mp (by
        have z0 : ents.size = 0 := by simpa using em
        omega)
      subst y0
      cases there
    | false =>
      simp only [if_false, Bool.false_eq_true]
      refine wpAny_bind (DT.takeH rm isk dct lim (fun gone => ?_) fun p en hp ev h2 dct2 sb => ?_)
      · rw [gone] at there
        cases there
      · simp only [Option.isNone_some, if_false, Bool.false_eq_true]
        exact wpAny_bind (wpAny_letGo (wpAny_pure ⟨en.val, rfl, by rw [ev]; exact go p hp h2 _ dct2 sb⟩))
end
section
variable {X : Cx}
def rPop1 : V → List V → Hp → VK → Prop := fun x xs H Q => ∃ (a : Addr) (kvs : List (List L2.Key × V)) (k : List L2.Key) (b : Addr) (v : V), x = .ref a ∧ xs = [.ref b] ∧ H a = some (.dT kvs) ∧ H b = some (.tup (k.map kV)) ∧
  valV kvs k = some v ∧ Q v (upd H a (.dT (dropK kvs k)))
theorem mt_popT1 (hu : X.A.units + 1 < cLine) : MtR X "dict.pop" rPop1 := by
  intro pins s σ H x xs v us Q I rx rxs want
  obtain ⟨a, kvs, k, b, y, rfl, rfl, ha, hb, hv, q⟩ := want
  cases rx
  obtain ⟨u1, rfl, r1⟩ := vals1 rxs
  cases r1
  obtain ⟨z, hd, ys, rel, dd⟩ := dt_of I.hok ha
  have lim : ys.length ≤ sizeLine := by
    rw [← Paired.length rel]
    exact z
  have r := rel.val k
  rw [hv] at r
  have th : (atKey ys k).isSome = true := by
    cases e : atKey ys k with
    | some p => rfl
    | none =>
      rw [e] at r
      exact False.elim (show False from r)
  refine call_meetsIn PySem.F.slot_dict_pop dd.typeIs PySem.F.entry_dict_pop (PySem.F.args_dict_pop_2 _ _) (meetsPop1 (knd := tupleKind (mixKind X.prog X.w)) (k := k))
    ⟨ys, tupleKind_room_in1 hu, key_of I.hok hb, dd, lim, th, fun p hp h2 tk dct sb => ?_⟩
  rw [hp] at r
  obtain ⟨ob, ents, pend, gob, x2, x3, x4, _, x5⟩ := dct
  have I2 : L2.Inv X pins σ (upd H a (.dT (dropK kvs k))) { s with heap := h2, toks := tk } :=
    d_write I (by rw [ha]; exact True.intro) sb ⟨ob, gob⟩ ⟨Nat.le_trans (dropK_le kvs k) z, hd, _, (L2.DX.KT_drop k rel).keeps (fun c zs ec => by
      rw [upd_ne (ne_of ec ha (fun z => nomatch z))]
      exact ec), ob, ents, pend, gob, x2, x3, x4, x5⟩
  show EP X pins σ Q p.2 _
  exact ⟨y, _, I2, r, q⟩
/-! ### {k: v}, k a tuple -/
def tDisp1 (tk tv : TE) : TE := fun σ H Q => ∀ p, H p = none → tk σ (upd H p (.dT [])) fun x H1 => tv σ H1 fun y H2 => H2 p = some (.dT []) ∧ ∃ (b : Addr) (k : List L2.Key), x = .ref b ∧ H2 b = some (.tup (k.map kV)) ∧
  Q (.ref p) (upd H2 p (.dT [(k, y)]))
theorem pe_disp1 {k v : Expr} {pos : Pos} {tk tv : TE} (hu : X.A.units + 1 < cLine) (hk : PE X k tk) (hv : PE X v tv) : PE X (.Dict [some k] [v] pos) (tDisp1 tk tv) := by
  refine ⟨fun pins s σ H Q I ask => ?_⟩
  have free := I.hok.fresh (Nat.le_refl s.heap.objs.size)
  have I1 := I.laid (a := s.heap.objs.size) (o := .dT []) (h' := s.heap.push { cls := .type "dict", data := .dict #[] }) (t' := s.toks) (fun _ _ z => Heap.get?_push_of_some _ z) (Nat.le_refl _) (dt_empty s.heap I.big)
  have P1 : PPs X pos [some k] [v] [(tk, tv)] := pps_cons hk hv pps_nil
  have rm : (tupleKind (mixKind X.prog X.w)).room X.A := Nat.lt_of_succ_lt hu
  rw [arm_eval_Dict, zip_pairTrees [some k] [v] X.env pos rfl rfl, dictDisplay_pairs (pairTrees [some k] [v] X.env pos) (fun z => nomatch z) (by decide : (1 : Nat) < 17)]
  refine wpAny_bind (wpAny_standAt (wpAny_bind (wpAny_subDictH (knd := tupleKind (mixKind X.prog X.w)) rm (by decide : (1 : Nat) ≤ 15) ?_)))
  refine thn (P1.run pins _ σ _ (fun ps H2 => match ps with
    | [(x, y)] => H2 s.heap.objs.size = some (.dT []) ∧ ∃ (b : Addr) (k : List L2.Key), x = .ref b ∧ H2 b = some (.tup (k.map kV)) ∧ Q (.ref s.heap.objs.size) (upd H2 s.heap.objs.size (.dT [(k, y)]))
    | _ => False) I1 (ask _ free)) fun ws s2 ⟨ps, H2, I2, rel, q2⟩ => ?_
  have sh : ∃ x y u r, ps = [(x, y)] ∧ ws = [(u, r)] ∧ L2.RelV x u ∧ L2.RelV y r := by
    cases rel with
    | nil => exact q2.elim
    | cons r1 rr =>
      cases rr with
      | cons _ _ => exact q2.elim
      | nil => exact ⟨_, _, _, _, rfl, rfl, r1.1, r1.2⟩
  obtain ⟨x, y, u, r, rfl, rfl, rx, ry⟩ := sh
  obtain ⟨e0, b, key, ex, eb, q3⟩ := q2
  subst ex
  cases (show u = Value.ref b from rx)
  obtain ⟨z, hd, ys, rl, dd⟩ := dt_of I2.hok e0
  cases rl
  refine ⟨[(key, b, r)], ⟨rfl, rfl, key_of I2.hok eb, trivial⟩, dd, fun h' tk' dd' hs => wpAny_pure ⟨.ref s.heap.objs.size, _, ?_, rfl, q3⟩⟩
  obtain ⟨ob, ents, pend, gob, x2, x3, x4, _, x5⟩ := dd'
  have kt : KT (upd H2 s.heap.objs.size (.dT [(key, y)])) [(key, y)] [(key, b, r)] := .cons ⟨rfl, by
    rw [upd_ne (ne_of eb e0 (fun z => nomatch z))]
    exact eb, ry⟩ .nil
  have hz : ([(key, y)] : List (List L2.Key × V)).length ≤ sizeLine := by
    rw [sizeLine_eq]
    exact (by decide : (1 : Nat) ≤ 16777216)
  exact d_write I2 (by rw [e0]; exact True.intro) hs ⟨ob, gob⟩ ⟨hz, hd, _, kt, ob, ents, pend, gob, x2, x3, x4, x5⟩
end
end WT
namespace WT
open PySem PySem.Spec PyProof.Rows L2
open Ks441 (filtersOf)
/-! # the program, def by def -/
/-- the j-th statement of the linked text -/
def topS (j : Nat) : Stmt := PySem.Challenge.pw_washedturns_s03_told.main.body.getD j (.Pass ⟨0, 0, 0, 0⟩)
/-- whole numbers from 0 on, as the heap holds them -/
def vN (l : List Nat) : List V := l.map fun n => V.int (n : Nat)
theorem vN_len (l : List Nat) : (vN l).length = l.length := List.length_map ..
theorem vN_at {l : List Nat} {i a : Nat} (h : l[i]? = some a) : (vN l)[i]? = some (.int (a : Nat)) := by
  unfold vN
  rw [List.getElem?_map, h]
  rfl
theorem vN_get {l : List Nat} {i : Nat} {y : V} (h : (vN l)[i]? = some y) : ∃ a, l[i]? = some a ∧ y = .int (a : Nat) := by
  unfold vN at h
  rw [List.getElem?_map] at h
  cases e : l[i]? with
  | none =>
    rw [e] at h
    cases h
  | some a =>
    rw [e] at h
    exact ⟨a, rfl, (Option.some.inj h).symm⟩
theorem vN_snoc (l : List Nat) (a : Nat) : vN l ++ [.int (a : Nat)] = vN (l ++ [a]) := by
  unfold vN
  rw [List.map_append]
  rfl
/-- a new object stands beside what stood -/
theorem same_new {H : Hp} {p : Addr} {o : HO} (h : H p = none) : Same H (upd H p o) := fun b x e => by
  rw [upd_ne (ne_of_none e h)]
  exact e
/-- one that was not there ahead is changed -/
theorem same_set {H H1 : Hp} {p : Addr} {o : HO} (s : Same H H1) (h : H p = none) : Same H (upd H1 p o) := fun b x e => by
  rw [upd_ne (ne_of_none e h)]
  exact s b x e
theorem same_tup {K : PySem.W.Frag} {H H1 : Hp} {a : Addr} {xs : List V} (s : Same H H1) (h : SqT K H a xs) : SqT K H1 a xs := by
  rcases h with (here | ⟨o, here⟩) | top
  · exact .inl (.inl (s _ _ here))
  · exact .inl (.inr ⟨o, s _ _ here⟩)
  · exact .inr top
/-- the module's names that are Python's own -/
structure Bl (mg : Str → Option Value) : Prop where
  len : mg "len" = none
  range : mg "range" = none
  enum : mg "enumerate" = none
  min : mg "min" = none
  tup : mg "tuple" = none
  int : mg "int" = none
  old : ∃ t, mg "OLDEST" = some (.int 4 t)
theorem small_of {n : Nat} (h : n ≤ 1000000) : n < sizeLine := by
  rw [sizeLine_eq]
  omega
theorem small_le {n : Nat} (h : n ≤ 1000000) : n ≤ sizeLine := Nat.le_of_lt (small_of h)
theorem ne_yes {x y : Int} (h : (!decide (V.int x = V.int y)) = true) : x ≠ y := fun z => by
  rw [z, decide_eq_true rfl] at h
  cases h
theorem ne_no {x y : Int} (h : ¬ (!decide (V.int x = V.int y)) = true) : x = y := Classical.byContradiction fun z => h (by
  rw [decide_eq_false fun e => z (V.int.inj e)]
  rfl)
theorem eq_yes {x y : Int} (h : decide (V.int x = V.int y) = true) : x = y := V.int.inj (of_decide_eq_true h)
theorem eq_no {x y : Int} (h : ¬ decide (V.int x = V.int y) = true) : x ≠ y := fun z => h (decide_eq_true (congrArg V.int z))
theorem ift {c : Bool} {A B : Prop} (hc : c = true) (h : A) : if c = true then A else B := by
  subst hc
  exact iteT h
theorem iff' {c : Bool} {A B : Prop} (hc : c = false) (h : B) : if c = true then A else B := by
  subst hc
  exact iteF h
section
variable {P : Program} {w : World} {K : PySem.W.Frag} {mg : Str → Option Value} {base : Heap}
/-! ### a list of whole numbers beside []; a comprehension that picks -/
def dN (l : List Nat) : List PyData := l.map fun n => PyData.int (n : Nat)
theorem dpN_all {H : Hp} : ∀ l : List Nat, DpAll K H (vN l) (dN l)
  | [] => .nil
  | _ :: r => .cons (.int _) (dpN_all r)
theorem eqv_nil (ds : List PyData) : PyData.eqv (.list ds) (.list []) = ds.isEmpty := by
  cases ds with
  | nil => simp only [PyData.eqv, PyData.eqvAll, List.isEmpty_nil]
  | cons x r => simp only [PyData.eqv, PyData.eqvAll, List.isEmpty_cons]
theorem dN_lay : ∀ l : List Nat, PyData.canLayAll0 (dN l) = true ∧ PyData.depthAll (dN l) = 0
  | [] => ⟨by simp only [dN, List.map_nil, PyData.canLayAll0], by simp only [dN, List.map_nil, PyData.depthAll]⟩
  | n :: r => by
    obtain ⟨h1, h2⟩ := dN_lay r
    have e : dN (n :: r) = PyData.int (n : Nat) :: dN r := rfl
    rw [e]
    exact ⟨by simp only [PyData.canLayAll0, PyData.canLay0, h1, Bool.and_true], by simp only [PyData.depthAll, PyData.depth, h2, Nat.max_self]⟩
theorem dN_shaped (l : List Nat) : SeqAt.shaped (.list (dN l)) = true := by
  obtain ⟨h1, h2⟩ := dN_lay l
  unfold SeqAt.shaped
  rw [PyData.canLay0, h1, PyData.depth, h2]
  rfl
theorem nil_shaped : SeqAt.shaped (.list []) = true := dN_shaped []
theorem dN_empty (l : List Nat) : (dN l).isEmpty = l.isEmpty := by
  cases l <;> rfl
theorem filter_nil {l : List Nat} {p : Nat → Bool} : (l.filter p).isEmpty = l.all fun x => !p x := by
  rw [Bool.eq_iff_iff, List.isEmpty_iff, List.filter_eq_nil_iff, List.all_eq_true]
  exact ⟨fun h x hx => by simpa using h x hx, fun h x hx => by simpa using h x hx⟩
/-- [x for x in l if test] -/
theorem lc_pick {σ : L2.St} {H : Hp} {Q : VK} {i j : Nat} {tt : TT} (l : List Nat) (p : Nat → Bool) (a : Addr) (hs : σ[i]? = some (some (.ref a))) (hj : j < σ.length) (hS : SqL K H a (vN l)) (hl : l.length ≤ 1000)
    (ht : ∀ (n : Nat) (H1 : Hp) (Q1 : Bool → Hp → Prop), Q1 (p n) H1 → tt ((wipe σ [j]).set j (some (.int (n : Nat)))) H1 Q1)
    (q : ∀ D H', Same H H' → H D = none → H' D = some (.lst (vN (l.filter p))) → Q (.ref D) H') : tLc (iList K (tVar i)) (gName j) tt (tVar j) [j] σ H Q := by
  refine ⟨.ref a, hs, a, rfl, ⟨_, hS⟩, fun D nD => lc_list (K := K) (a := a) (xs := vN l) (fun n H' => Same H H' ∧ H' D = some (.lst (vN ((l.take n).filter p)))) ⟨same_new nD, upd_same⟩ (fun n H' _ ⟨s1, _⟩ => s1.seq hS) ?_ ?_⟩
  · rintro n x H1 hx ⟨s1, hD⟩
    obtain ⟨v, hv, rfl⟩ := vN_get hx
    have hw : j < (wipe σ [j]).length := by
      rw [wipe_length]
      exact hj
    refine ⟨by show ((σ.set j none).set j _).set j none = σ.set j none; rw [List.set_set, List.set_set], ht v H1 _ ?_⟩
    have step : (l.take (n + 1)).filter p = (l.take n).filter p ++ if p v = true then [v] else [] := by
      rw [take_more hv, List.filter_append, List.filter_cons]
      rfl
    cases e : p v with
    | true =>
      rw [e, if_pos rfl] at step
      refine iteT ⟨.int (v : Nat), List.getElem?_set_self hw, _, hD, ?_, same_set s1 nD, ?_⟩
      · rw [vN_len]
        refine small_of (Nat.le_trans (List.length_filter_le _ _) ?_)
        rw [List.length_take]
        omega
      · rw [upd_same, step, vN_snoc]
    | false =>
      rw [e, if_neg Bool.false_ne_true, List.append_nil] at step
      refine iteF ⟨s1, ?_⟩
      rw [step]
      exact hD
  · rintro H' ⟨s1, hD⟩
    rw [vN_len, List.take_length] at hD
    exact q D H' s1 nD hD
/-! ### are_filters -/
abbrev sAre : Stmt := topS 15
theorem scAre : FnScope ["filters", "ages", "flow", "age"] ["filters", "ages"] (defScope sAre) := ⟨rfl, rfl, rfl, by decide +kernel, rfl, by decide +kernel, by decide +kernel⟩
structure Mo (mg : Str → Option Value) : Prop where
  filters : ∃ t, mg "MOST_FILTERS" = some (.int 3 t)
  flow : ∃ t, mg "MOST_FLOW" = some (.int 20 t)
  notso : ∃ t, mg "NOT_SO" = some (.int (-22) t)
def spAre (K : PySem.W.Frag) : Sp := fun vs H Q _ => ∃ (fa aa : Addr) (fs s : List Nat), vs = [.ref fa, .ref aa] ∧ SqL K H fa (vN fs) ∧ SqL K H aa (vN s) ∧ fs.length ≤ 50 ∧ s.length ≤ 50 ∧
  ∀ H', Same H H' → Q (.bl (areB fs s)) H'
theorem ok_are {f : Addr} {fd : FuncData} {k : Nat} (F : Fun K "are_filters" "are_filters" sAre f fd) (B : Bl mg) (M : Mo mg) : FnOk P w K mg base CX0 (k + 1) f fd ["filters", "ages"] (spAre K) := by
  obtain ⟨tO, gO⟩ := B.old
  obtain ⟨t1, g1⟩ := M.filters
  obtain ⟨t2, g2⟩ := M.flow
  refine F.ok scAre (fun vs H Q E h => ?_) (fun cdv A outer st H vs Q E hr h => ?_)
  · obtain ⟨fa, aa, fs, s, rfl, _⟩ := h
    rfl
  · obtain ⟨fa, aa, fs, s, rfl, hF, hA, hlf, hls, q⟩ := h
    refine ⟨_, pss_cons (ps_if (PW.pt (pw_or (pt_not (pt_chain op_le op_le pe_int (pe_callB call_len_seq (by rfl) B.len PySem.boot_len (pa_cons (pv 1) pa_nil)) (pe_glob (v := .int 3) rfl g1 ⟨_, rfl⟩)))
          (pw_or1 (pt_cmpR op_ne (pe_callB call_len_seq (by rfl) B.len PySem.boot_len (pa_cons (pv 0) pa_nil)) (pe_op op_mul pe_int (pe_callB call_len_seq (by rfl) B.len PySem.boot_len (pa_cons (pv 1) pa_nil))) (nomark _)))))
        (pss_one (ps_ret pe_bl)) pss_nil)
      (pss_cons (ps_if (pt_cmpR (op_neD hr.units)
          (pe_lc (own := [("flow", 2)]) (g := gName 2) (by rfl) scAre.nd (pi_list (pv 0)) (blkOk_by (own := [("flow", 2)]) (N := ["filters", "ages", "flow", "age"]) (sc := defScope sAre) (by decide +kernel)) (fun _ _ _ _ _ => pg_name (i := 2) scAre.nd rfl (Or.inl rfl))
            (fun _ _ _ _ _ => pts_one (pt_cmpR op_gt (pv 2) (pe_glob (v := .int 20) rfl g2 ⟨_, rfl⟩) (nomark _))) (fun _ _ _ _ _ => pv 2))
          (pe_lst pa_nil) (nomark _))
        (pss_one (ps_ret pe_bl)) pss_nil)
      (pss_one (ps_ret (pe_cmpR (op_eqD hr.units)
          (pe_lc (own := [("age", 3)]) (g := gName 3) (by rfl) scAre.nd (pi_list (pv 1)) (blkOk_by (own := [("age", 3)]) (N := ["filters", "ages", "flow", "age"]) (sc := defScope sAre) (by decide +kernel)) (fun _ _ _ _ _ => pg_name (i := 3) scAre.nd rfl (Or.inl rfl))
            (fun _ _ _ _ _ => pts_one (pt_not (pt_chain op_le op_le pe_int (pv 3) (pe_glob (v := .int 4) rfl gO ⟨_, rfl⟩)))) (fun _ _ _ _ _ => pv 3))
          (pe_lst pa_nil) (nomark _))))), ?_⟩
    have no : areB fs s = false → Q (.bl false) H := fun e => by
      rw [← e]
      exact q H (Same.refl _)
    -- the lengths
    refine ⟨.ref aa, rfl, aa, vN s, rfl, .inl hA, _, _, rfl, rfl, _, rfl, ?_⟩
    by_cases c1 : 1 ≤ s.length
    rotate_left
    · refine iff' (decide_eq_false (by rw [vN_len]; omega)) ⟨_, rfl, iteT (iteT (no ?_))⟩
      unfold areB
      rw [decide_eq_false (fun z => c1 z.1)]
      rfl
    refine ift (decide_eq_true (by rw [vN_len]; omega)) ⟨_, _, rfl, rfl, _, rfl, ?_⟩
    by_cases c2 : s.length ≤ 3
    rotate_left
    · refine ift (by rw [decide_eq_false (by rw [vN_len]; omega)]; rfl) (iteT (no ?_))
      unfold areB
      rw [decide_eq_false (fun z => c2 z.2)]
      rfl
    refine iff' (by rw [decide_eq_true (by rw [vN_len]; omega)]; rfl) ?_
    refine ⟨.ref fa, rfl, fa, vN fs, rfl, .inl hF, .ref aa, rfl, aa, vN s, rfl, .inl hA, _, _, rfl, rfl, .inl ⟨by decide, by decide⟩, rfl, _, rfl, ?_⟩
    by_cases c3 : fs.length = 3 * s.length
    rotate_left
    · refine ift (by rw [decide_eq_false (fun z => c3 (by have := V.int.inj z; rw [vN_len, vN_len] at this; omega))]; rfl) (no ?_)
      unfold areB
      rw [decide_eq_false c3, Bool.false_and, Bool.and_false]
    refine iff' (by rw [decide_eq_true (congrArg V.int (by rw [vN_len, vN_len]; omega))]; rfl) ?_
    have e0 : areB fs s = ((fs.all fun v => decide (v ≤ 20)) && s.all fun v => decide (1 ≤ v ∧ v ≤ 4)) := by
      unfold areB
      rw [decide_eq_true ⟨c1, c2⟩, decide_eq_true c3, Bool.true_and, Bool.true_and]
    -- the flows
    dsimp only [tNext, tSeq, tIfS, tTest, tOp]
    refine lc_pick (K := K) (σ := [some (.ref fa), some (.ref aa), none, none]) (i := 0) (j := 2) fs (fun n => decide ((20 : Int) < (n : Nat))) fa rfl (by show 2 < 4; decide) hF (by omega) (fun n H1 Q1 q1 => ⟨_, rfl, _, _, rfl, rfl, _, rfl, q1⟩) fun D H1 s1 nD hD => ?_
    refine ⟨Nat.zero_le _, fun p np => ⟨_, _, .lst (SqL.of (xs := vN _) (by rw [upd_ne (ne_of_none hD np)]; exact hD)) (dpN_all _), .lst (SqL.of upd_same) .nil, dN_shaped _, nil_shaped, _, rfl, ?_⟩⟩
    have s2 : Same H (upd H1 p (.lst [])) := s1.trans (same_new np)
    have e1 : PyData.eqv (.list (dN (fs.filter fun n => decide ((20 : Int) < (n : Nat))))) (.list []) = fs.all fun v => decide (v ≤ 20) := by
      rw [eqv_nil, dN_empty, filter_nil]
      refine congrArg (fun g => fs.all g) (funext fun v => ?_)
      by_cases hv : v ≤ 20
      · rw [decide_eq_true hv, decide_eq_false (by omega)]
        rfl
      · rw [decide_eq_false hv, decide_eq_true (by omega)]
        rfl
    rw [e1]
    cases e2 : fs.all fun v => decide (v ≤ 20) with
    | false =>
      refine iteT ?_
      rw [e2, Bool.false_and] at e0
      have := q _ s2
      rw [e0] at this
      exact this
    | true =>
      rw [e2, Bool.true_and] at e0
      refine iteF ?_
      -- the ages
      dsimp only [tNext, tRet, tTest, tOp]
      refine lc_pick (K := K) (σ := [some (.ref fa), some (.ref aa), none, none]) (i := 1) (j := 3) s (fun n => !(decide ((1 : Int) ≤ (n : Nat)) && decide (((n : Nat) : Int) ≤ 4))) aa rfl (by show 3 < 4; decide) (s2.seq hA) (by omega) (fun n H3 Q1 q1 => ?_) fun D2 H3 s3 nD2 hD2 => ?_
      · refine ⟨_, rfl, _, _, rfl, rfl, _, rfl, ?_⟩
        cases d1 : decide ((1 : Int) ≤ (n : Nat)) with
        | false =>
          rw [d1] at q1
          exact iteF ⟨_, rfl, q1⟩
        | true =>
          rw [d1] at q1
          exact iteT ⟨_, _, rfl, rfl, _, rfl, q1⟩
      · refine ⟨Nat.zero_le _, fun p2 np2 => ⟨_, _, .lst (SqL.of (xs := vN _) (by rw [upd_ne (ne_of_none hD2 np2)]; exact hD2)) (dpN_all _), .lst (SqL.of upd_same) .nil, dN_shaped _, nil_shaped, ?_⟩⟩
        have e3 : PyData.eqv (.list (dN (s.filter fun n => !(decide ((1 : Int) ≤ (n : Nat)) && decide (((n : Nat) : Int) ≤ 4))))) (.list []) = s.all fun v => decide (1 ≤ v ∧ v ≤ 4) := by
          rw [eqv_nil, dN_empty, filter_nil]
          refine congrArg (fun g => s.all g) (funext fun v => ?_)
          rw [Bool.not_not, Bool.decide_and]
          refine congr (congrArg and (decide_eq_decide.mpr ?_)) (decide_eq_decide.mpr ?_) <;> omega
        rw [e3, ← e0]
        exact q _ (s2.trans (s3.trans (same_new np2)))
/-! ### is_asked -/
abbrev sAsk : Stmt := topS 16
theorem scAsk : FnScope ["want", "filters", "ages"] ["want", "filters", "ages"] (defScope sAsk) := ⟨rfl, rfl, rfl, by decide +kernel, rfl, by decide +kernel, by decide +kernel⟩
def spAsk (K : PySem.W.Frag) : Sp := fun vs H Q _ => ∃ (wt : Nat) (fa aa : Addr) (fs s : List Nat), vs = [.int (wt : Nat), .ref fa, .ref aa] ∧ SqL K H fa (vN fs) ∧ SqL K H aa (vN s) ∧ fs.length ≤ 50 ∧ s.length ≤ 50 ∧
  ∀ H', Same H H' → Q (.bl (areB fs s && decide (wt ≤ 100))) H'
theorem ok_ask {f fA : Addr} {fd fdA : FuncData} {k : Nat} (F : Fun K "is_asked" "is_asked" sAsk f fd) (FA : Fun K "are_filters" "are_filters" sAre fA fdA) (bA : Binds K fdA ["filters", "ages"] []) (gA : mg "are_filters" = some (.ref fA))
    (B : Bl mg) (M : Mo mg) (gW : ∃ t, mg "MOST_WANT" = some (.int 100 t)) : FnOk P w K mg base CX0 (k + 2) f fd ["want", "filters", "ages"] (spAsk K) := by
  obtain ⟨tW, gW⟩ := gW
  have GA : FnOk P w K mg base CX0 (k + 1) fA fdA ["filters", "ages"] (spAre K) := ok_are FA B M
  refine F.ok scAsk (fun vs H Q E h => ?_) (fun cdv A outer st H vs Q E hr h => ?_)
  · obtain ⟨wt, fa, aa, fs, s, rfl, _⟩ := h
    rfl
  · obtain ⟨wt, fa, aa, fs, s, rfl, hF, hA, hlf, hls, q⟩ := h
    refine ⟨_, pss_one (ps_ret (pe_and (pe_call GA hr (by rfl) gA FA.kp bA .nil pass0 (pa_cons (pv 1) (pa_cons (pv 2) pa_nil))) (pe_one (pe_cmpR op_le (pv 0) (pe_glob (v := .int 100) rfl gW ⟨_, rfl⟩) (nomark _))))), ?_⟩
    refine ⟨.ref fa, rfl, .ref aa, rfl, fa, aa, fs, s, rfl, hF, hA, hlf, hls, fun H1 s1 => ⟨_, rfl, ?_⟩⟩
    have q1 := q H1 s1
    cases e : areB fs s with
    | false =>
      rw [e] at q1
      exact iteF q1
    | true =>
      rw [e, Bool.true_and] at q1
      refine iteT ⟨_, rfl, _, _, rfl, rfl, ?_⟩
      show Q (.bl (decide (((wt : Nat) : Int) ≤ 100))) H1
      rw [show decide (((wt : Nat) : Int) ≤ 100) = decide (wt ≤ 100) from decide_eq_decide.mpr (by omega)]
      exact q1
/-! ### flow_of -/
abbrev sFlow : Stmt := topS 2
theorem scFlow : FnScope ["filters", "ages", "washed", "found", "number", "age"] ["filters", "ages", "washed"] (defScope sFlow) := ⟨rfl, rfl, rfl, by decide +kernel, rfl, by decide +kernel, by decide +kernel⟩
def spFlow (K : PySem.W.Frag) : Sp := fun vs H Q _ => ∃ (fa aa : Addr) (fs s : List Nat) (m wa : Nat), vs = [.ref fa, .ref aa, .int (wa : Nat)] ∧ SqL K H fa (vN fs) ∧ SqT K H aa (vN s) ∧ fs.length = 3 * m ∧ Ok m s ∧
  ∀ H', Same H H' → Q (.int (Ks441.flow (filtersOf fs) s wa : Nat)) H'
theorem ok_flow {f : Addr} {fd : FuncData} {k : Nat} (F : Fun K "flow_of" "flow_of" sFlow f fd) (B : Bl mg) : FnOk P w K mg base CX0 (k + 1) f fd ["filters", "ages", "washed"] (spFlow K) := by
  obtain ⟨tO, gO⟩ := B.old
  refine F.ok scFlow (fun vs H Q E h => ?_) (fun cdv A outer st H vs Q E hr h => ?_)
  · obtain ⟨fa, aa, fs, s, m, wa, rfl, _⟩ := h
    rfl
  · obtain ⟨fa, aa, fs, s, m, wa, rfl, hF, hA, hl, ho, q⟩ := h
    refine ⟨_, pss_cons (ps_set (i := 3) scFlow.nd rfl (.inl rfl) pe_int)
      (pss_cons (ps_for PassesOwn.never rfl (pi_enumT (by rfl) B.enum (pa_cons (pv 1) pa_nil))
          (pg_tup rfl (pgs_cons (pg_name (i := 4) scFlow.nd rfl (.inl rfl)) (pgs_cons (pg_name (i := 5) scFlow.nd rfl (.inl rfl)) pgs_nil)))
        (pss_one (ps_if (PW.pt (pw_and (pt_cmpR op_ne (pe_op op_add (pv 4) pe_int) (pv 2) (nomark _)) (pw_and1 (pt_cmpR op_lt (pv 5) (pe_glob (v := .int 4) rfl gO ⟨_, rfl⟩) (nomark _)))))
          (pss_one (ps_set (i := 3) scFlow.nd rfl (.inl rfl) (pe_op op_add (pv 3) (pe_ix ix_list (pv 0) (pe_op op_sub (pe_op op_add (pe_op op_mul pe_int (pv 4)) (pv 5)) pe_int) (fun _ _ => rfl)))))
          pss_nil)))
      (pss_one (ps_ret (pv 3)))), ?_⟩
    refine ⟨.ref aa, rfl, aa, vN s, rfl, hA, for_it walk_enumT
      (fun i σ H' => ∃ v4 v5, σ = [some (.ref fa), some (.ref aa), some (.int (wa : Nat)), some (.int (flowM fs (s.take i) wa : Nat)), v4, v5] ∧ Same H H')
      ⟨none, none, rfl, Same.refl _⟩ (fun i σ H' _ ⟨_, _, _, s1⟩ => same_tup s1 hA) ?_ ?_⟩
    · rintro i x σ H1 H2 hi ⟨v4, v5, rfl, s1⟩ ⟨T, y, rfl, nT, rfl, hy⟩
      obtain ⟨a, ha, rfl⟩ := vN_get hy
      have s2 : Same H (upd H1 T (.tup [.int (i : Nat), .int (a : Nat)])) := s1.trans (same_new nT)
      have step := flowM_more (fs := fs) (w := wa) ha
      have hlt : i < m := by
        rw [← ho.1]
        exact lt_of_get ha
      obtain ⟨a1, a4⟩ := ho.2 a (List.mem_of_getElem? ha)
      refine ⟨T, [.int (i : Nat), .int (a : Nat)], rfl, .inl (.inl upd_same), rfl, _, [.int (a : Nat)], rfl, _, [], rfl, rfl, ?_⟩
      refine ⟨_, rfl, _, _, rfl, rfl, _, rfl, rfl, _, rfl, ite2 (fun c => ?_) (fun c => ?_)⟩
      · have c1 : ¬ (i + 1 = wa) := fun z => ne_yes (x := (i : Int) + 1) (y := wa) c (by omega)
        refine ⟨_, rfl, _, _, rfl, rfl, _, rfl, ite2 (fun d => ?_) (fun d => ?_)⟩
        · have d1 : a < 4 := by
            have := of_decide_eq_true d
            omega
          have hj : 3 * i + a - 1 < fs.length := by omega
          have hg : fs[3 * i + a - 1]? = some (fs.getD (3 * i + a - 1) 0) := by
            rw [List.getD_eq_getElem?_getD, List.getElem?_eq_getElem hj]
            rfl
          rw [if_pos ⟨c1, d1⟩] at step
          refine ⟨_, rfl, _, rfl, _, rfl, _, _, rfl, rfl, .inl ⟨by decide, by decide⟩, _, rfl, _, _, rfl, rfl, _, _, rfl, rfl, fa, vN fs, _, _, rfl, rfl, s2.seq hF, at_of (j := 3 * i + a - 1) (by omega) (vN_at hg), _, _, rfl, rfl, ?_⟩
          refine ⟨some (.int (i : Nat)), some (.int (a : Nat)), ?_, s2⟩
          rw [step, Int.natCast_add]
          rfl
        · have d1 : ¬ a < 4 := fun z => d (decide_eq_true (by omega))
          rw [if_neg (fun z => d1 z.2), Nat.add_zero] at step
          refine ⟨some (.int (i : Nat)), some (.int (a : Nat)), ?_, s2⟩
          rw [step]
          rfl
      · have c1 : i + 1 = wa := by
          have := ne_no (x := (i : Int) + 1) (y := wa) c
          omega
        rw [if_neg (fun z => z.1 c1), Nat.add_zero] at step
        refine iteF ⟨some (.int (i : Nat)), some (.int (a : Nat)), ?_, s2⟩
        rw [step]
        rfl
    · rintro σ H' ⟨v4, v5, rfl, s1⟩
      refine ⟨_, rfl, ?_⟩
      have e : flowM fs (s.take (vN s).length) wa = Ks441.flow (filtersOf fs) s wa := by
        rw [vN_len, List.take_length, flow_is hl ho]
      rw [e]
      exact q H' s1
/-! ### ages_behind -/
abbrev sBehind : Stmt := topS 3
theorem scBehind : FnScope ["ages", "washed", "found", "number", "age"] ["ages", "washed"] (defScope sBehind) := ⟨rfl, rfl, rfl, by decide +kernel, rfl, by decide +kernel, by decide +kernel⟩
def spBehind (K : PySem.W.Frag) : Sp := fun vs H Q _ => ∃ (aa : Addr) (s : List Nat) (wa : Nat), vs = [.ref aa, .int (wa : Nat)] ∧ SqT K H aa (vN s) ∧ s.length ≤ 3 ∧
  ∀ H' p, Same H H' → H p = none → H' p = some (.tup (vN (Ks441.next s wa))) → Q (.ref p) H'
theorem ok_behind {f : Addr} {fd : FuncData} {k : Nat} (F : Fun K "ages_behind" "ages_behind" sBehind f fd) (B : Bl mg) : FnOk P w K mg base CX0 (k + 1) f fd ["ages", "washed"] (spBehind K) := by
  obtain ⟨tO, gO⟩ := B.old
  refine F.ok scBehind (fun vs H Q E h => ?_) (fun cdv A outer st H vs Q E hr h => ?_)
  · obtain ⟨aa, s, wa, rfl, _⟩ := h
    rfl
  · obtain ⟨aa, s, wa, rfl, hA, hl, q⟩ := h
    refine ⟨_, pss_cons (ps_set (i := 2) scBehind.nd rfl (.inl rfl) (pe_lst pa_nil))
      (pss_cons (ps_for PassesOwn.never rfl (pi_enumT (by rfl) B.enum (pa_cons (pv 0) pa_nil))
          (pg_tup rfl (pgs_cons (pg_name (i := 3) scBehind.nd rfl (.inl rfl)) (pgs_cons (pg_name (i := 4) scBehind.nd rfl (.inl rfl)) pgs_nil)))
        (pss_one (ps_if (pt_cmpR op_eq (pe_op op_add (pv 3) pe_int) (pv 1) (nomark _))
          (pss_one (ps_expr (pe_bm PySem.F.plainAttrs_list PySem.F.slot_list_append PySem.F.type_list_append mt_append (pv 2) (pa_cons pe_int pa_nil))))
          (pss_one (ps_expr (pe_bm PySem.F.plainAttrs_list PySem.F.slot_list_append PySem.F.type_list_append mt_append (pv 2) (pa_cons
            (pe_callB (call_min2 rfl) (by rfl) B.min (by decide +kernel) (pa_cons (pe_glob (v := .int 4) rfl gO ⟨_, rfl⟩) (pa_cons (pe_op op_add (pv 4) pe_int) pa_nil))) pa_nil)))))))
      (pss_one (ps_ret (pe_callTy call_tuple_of (by rfl) B.tup (by decide +kernel) (pa_cons (pv 2) pa_nil))))), ?_⟩
    refine ⟨Nat.zero_le _, fun o no => ?_⟩
    have s0 : Same H (upd H o (.lst [])) := same_new no
    refine ⟨.ref aa, rfl, aa, vN s, rfl, same_tup s0 hA, for_it walk_enumT
      (fun i σ H' => ∃ v3 v4, σ = [some (.ref aa), some (.int (wa : Nat)), some (.ref o), v3, v4] ∧ Same H H' ∧ H' o = some (.lst (vN (Ks441.next (s.take i) wa))))
      ⟨none, none, rfl, s0, upd_same⟩ (fun i σ H' _ ⟨_, _, _, s1, _⟩ => same_tup s1 hA) ?_ ?_⟩
    · rintro i x σ H1 H2 hi ⟨v3, v4, rfl, s1, ho⟩ ⟨T, y, rfl, nT, rfl, hy⟩
      obtain ⟨a, ha, rfl⟩ := vN_get hy
      have s2 : Same H (upd H1 T (.tup [.int (i : Nat), .int (a : Nat)])) := s1.trans (same_new nT)
      have step := next_more (w := wa) ha
      have ho2 : (upd H1 T (.tup [.int (i : Nat), .int (a : Nat)])) o = some (.lst (vN (Ks441.next (s.take i) wa))) := by
        rw [upd_ne (ne_of_none ho nT)]
        exact ho
      have hz : (vN (Ks441.next (s.take i) wa)).length < sizeLine := by
        rw [vN_len, next_len, List.length_take]
        exact small_of (by omega)
      refine ⟨T, [.int (i : Nat), .int (a : Nat)], rfl, .inl (.inl upd_same), rfl, _, [.int (a : Nat)], rfl, _, [], rfl, rfl, ?_⟩
      refine ⟨_, rfl, _, _, rfl, rfl, _, rfl, rfl, _, rfl, ite2 (fun c => ?_) (fun c => ?_)⟩
      · have c1 : i + 1 = wa := by
          have := eq_yes (x := (i : Int) + 1) (y := wa) c
          omega
        rw [if_pos c1] at step
        refine ⟨.ref o, rfl, .inl ⟨rfl, _, SqL.of ho2⟩, o, _, _, rfl, rfl, ho2, hz, some (.int (i : Nat)), some (.int (a : Nat)), rfl, same_set s2 no, ?_⟩
        rw [upd_same, step, ← vN_snoc]
        rfl
      · have c1 : ¬ i + 1 = wa := fun z => eq_no (x := (i : Int) + 1) (y := wa) c (by omega)
        rw [if_neg c1] at step
        refine ⟨.ref o, rfl, .inl ⟨rfl, _, SqL.of ho2⟩, _, rfl, _, _, rfl, rfl, _, _, rfl, o, _, _, rfl, rfl, ho2, hz, some (.int (i : Nat)), some (.int (a : Nat)), rfl, same_set s2 no, ?_⟩
        rw [upd_same, step, ← vN_snoc]
        refine congrArg (fun z => some (HO.lst (vN (Ks441.next (s.take i) wa) ++ [V.int z]))) ?_
        show (if (a : Int) + 1 < 4 then (a : Int) + 1 else 4) = ((min 4 (a + 1) : Nat) : Int)
        split <;> omega
    · rintro σ H' ⟨v3, v4, rfl, s1, ho⟩
      rw [vN_len, List.take_length] at ho
      refine ⟨.ref o, rfl, o, _, rfl, .inl ⟨SqL.of ho, fun p np => ?_⟩⟩
      exact q _ p (s1.trans (same_new np)) (s1.free np) upd_same
/-! ### ages as keys, dicts of ages, lists of ages -/
def kN (l : List Nat) : List L2.Key := l.map fun n => Sum.inl (n : Nat)
theorem kN_kV (l : List Nat) : (kN l).map kV = vN l := by
  unfold kN vN
  rw [List.map_map]
  rfl
theorem kN_inj : ∀ {a b : List Nat}, kN a = kN b → a = b
  | [], [], _ => rfl
  | [], _ :: _, h => nomatch h
  | _ :: _, [], h => nomatch h
  | x :: r, y :: t, h => by
    have h : (Sum.inl ((x : Nat) : Int) : L2.Key) :: kN r = Sum.inl ((y : Nat) : Int) :: kN t := h
    injection h with h1 h2
    have h3 : ((x : Nat) : Int) = ((y : Nat) : Int) := Sum.inl.inj h1
    rw [kN_inj h2, Int.ofNat.inj h3]
theorem key_at {H : Hp} {b : Addr} {s : List Nat} (h : H b = some (.tup (vN s))) : H b = some (.tup ((kN s).map kV)) := by
  rw [kN_kV]
  exact h
theorem vN_inj {a b : List Nat} (h : vN a = vN b) : a = b := by
  rw [← kN_kV, ← kN_kV] at h
  exact kN_inj (kVs_inj h)
def ent (s : List Nat) : List L2.Key × V := (kN s, .bl true)
/-- a dict of ages, each True -/
def keptD (l : List (List Nat)) : List (List L2.Key × V) := l.map ent
theorem keptD_val (s : List Nat) : ∀ l : List (List Nat), valV (keptD l) (kN s) = if l.contains s = true then some (.bl true) else none
  | [] => rfl
  | x :: r => by
    show valV (ent x :: keptD r) (kN s) = _
    by_cases e : x = s
    · subst e
      rw [valV_pos (p := ent x) (k := kN x) rfl, if_pos (by simp)]
      rfl
    · rw [valV_neg (fun z => e (kN_inj z)), keptD_val s r]
      have : (x :: r).contains s = r.contains s := by
        rw [List.contains_cons]
        rw [show (s == x) = false from beq_eq_false_iff_ne.mpr (Ne.symm e), Bool.false_or]
      rw [this]
theorem keptD_has (s : List Nat) (l : List (List Nat)) : (valV (keptD l) (kN s)).isSome = l.contains s := by
  rw [keptD_val]
  cases l.contains s <;> rfl
theorem keptD_new {s : List Nat} {l : List (List Nat)} (h : ¬ s ∈ l) : putK (keptD l) (kN s) (.bl true) = keptD (l ++ [s]) := by
  rw [putK_new]
  · unfold keptD
    rw [List.map_append]
    rfl
  · rw [keptD_val, if_neg (fun z => h (List.contains_iff_mem.mp z))]
theorem keptD_old {s : List Nat} : ∀ {l : List (List Nat)}, s ∈ l → putK (keptD l) (kN s) (.bl true) = keptD l := fun {l} h => by
  unfold putK
  rw [if_pos]
  · unfold keptD
    rw [List.map_map]
    refine List.map_congr_left fun x hx0 => ?_
    show (if kN x = kN s then (kN x, V.bl true) else ent x) = ent x
    split <;> rfl
  · rw [valV_any, keptD_has]
    exact List.contains_iff_mem.mpr h
theorem keptD_drop (s : List Nat) (l : List (List Nat)) : dropK (keptD l) (kN s) = keptD (l.filter fun x => decide (x ≠ s)) := by
  unfold dropK keptD
  rw [List.filter_map]
  refine congrArg (List.map ent) (List.filter_congr fun x _ => ?_)
  show decide (kN x ≠ kN s) = decide (x ≠ s)
  exact decide_eq_decide.mpr ⟨fun h z => h (congrArg kN z), fun h z => h (kN_inj z)⟩
theorem keptD_len (l : List (List Nat)) : (keptD l).length = l.length := List.length_map ..
theorem keptD_at {l : List (List Nat)} {i : Nat} {k : List L2.Key} {v : V} (h : (keptD l)[i]? = some (k, v)) : ∃ s, l[i]? = some s ∧ k = kN s := by
  unfold keptD at h
  rw [List.getElem?_map] at h
  cases e : l[i]? with
  | none =>
    rw [e] at h
    cases h
  | some s =>
    rw [e] at h
    have h := Option.some.inj h
    exact ⟨s, rfl, (congrArg Prod.fst h).symm⟩
/-- these ages stand at these places -/
abbrev Tups (H : Hp) (l : List (List Nat)) (bs : List Addr) : Prop := Paired (fun (s : List Nat) (b : Addr) => H b = some (.tup (vN s))) l bs
theorem Tups.at {H : Hp} : ∀ {l : List (List Nat)} {bs : List Addr} {i : Nat} {x : V}, Tups H l bs → (bs.map V.ref)[i]? = some x → ∃ s b, l[i]? = some s ∧ x = .ref b ∧ H b = some (.tup (vN s))
  | _, _, i, x, .nil, h => by simp at h
  | _, _, 0, x, .cons h1 _, h => ⟨_, _, rfl, (Option.some.inj h).symm, h1⟩
  | _, _, i + 1, x, .cons _ t, h => by
    obtain ⟨s, b, e1, e2, e3⟩ := Tups.at (i := i) (x := x) t (by simpa using h)
    exact ⟨s, b, by simpa using e1, e2, e3⟩
theorem Tups.keep {H H1 : Hp} {l : List (List Nat)} {bs : List Addr} (h : Tups H l bs) (k : ∀ b xs, H b = some (.tup xs) → H1 b = some (.tup xs)) : Tups H1 l bs := Paired.mapP h fun _ b e => k b _ e
/-- a list of these ages stands at D -/
def RowsAt (H : Hp) (D : Addr) (l : List (List Nat)) : Prop := ∃ bs, H D = some (.lst (bs.map V.ref)) ∧ Tups H l bs
theorem RowsAt.same {H H1 : Hp} {D : Addr} {l : List (List Nat)} (h : RowsAt H D l) (s : Same H H1) : RowsAt H1 D l := by
  obtain ⟨bs, h1, h2⟩ := h
  exact ⟨bs, s _ _ h1, h2.keep fun b xs e => s _ _ e⟩
theorem tup_upd {H : Hp} {p b : Addr} {o u : HO} {xs : List V} (hp : H p = some u) (hu : ∀ ys, u ≠ .tup ys) (e : H b = some (.tup xs)) : upd H p o b = some (.tup xs) := by
  rw [upd_ne (ne_of e hp (fun z => hu _ z.symm))]
  exact e
/-- one more at the end -/
theorem RowsAt.snoc {H : Hp} {D b : Addr} {l : List (List Nat)} {bs : List Addr} {s : List Nat} (h1 : H D = some (.lst (bs.map V.ref))) (h2 : Tups H l bs) (hb : H b = some (.tup (vN s))) : RowsAt (upd H D (.lst (bs.map V.ref ++ [.ref b]))) D (l ++ [s]) := by
  refine ⟨bs ++ [b], ?_, Tups.keep (Paired.snoc h2 hb) fun c xs e => tup_upd h1 (fun _ z => nomatch z) e⟩
  rw [upd_same, List.map_append]
  rfl
theorem Tups.len {H : Hp} {l : List (List Nat)} {bs : List Addr} (h : Tups H l bs) : bs.length = l.length := (Paired.length h).symm
/-! ### all_ages -/
abbrev sAll : Stmt := topS 4
theorem scAll : FnScope ["many", "found", "k", "longer", "row", "age"] ["many"] (defScope sAll) := ⟨rfl, rfl, rfl, by decide +kernel, rfl, by decide +kernel, by decide +kernel⟩
def spAll (_ : PySem.W.Frag) : Sp := fun vs H Q _ => ∃ m : Nat, vs = [.int (m : Nat)] ∧ m ≤ 3 ∧ ∀ H' D, Same H H' → H D = none → RowsAt H' D (Ks441.states m) → Q (.ref D) H'
theorem ok_all {f : Addr} {fd : FuncData} {k : Nat} (F : Fun K "all_ages" "all_ages" sAll f fd) (B : Bl mg) : FnOk P w K mg base CX0 (k + 1) f fd ["many"] (spAll K) := by
  obtain ⟨tO, gO⟩ := B.old
  refine F.ok scAll (fun vs H Q E h => ?_) (fun cdv A outer st H vs Q E hr h => ?_)
  · obtain ⟨m, rfl, _⟩ := h
    rfl
  · obtain ⟨m, rfl, hm, q⟩ := h
    refine ⟨_, pss_cons (ps_set (i := 1) scAll.nd rfl (.inl rfl) (pe_lst (pa_cons (pe_tup pa_nil) pa_nil)))
      (pss_cons (ps_for PassesOwn.never rfl (pi_range1 rfl B.range (pa_cons (pv 0) pa_nil)) (pg_name (i := 2) scAll.nd rfl (.inl rfl))
        (pss_cons (ps_set (i := 3) scAll.nd rfl (.inl rfl) (pe_lst pa_nil))
        (pss_cons (ps_for PassesOwn.never rfl (pi_list (pv 1)) (pg_name (i := 4) scAll.nd rfl (.inl rfl))
          (pss_one (ps_for PassesOwn.never rfl (pi_range2 rfl B.range (pa_cons pe_int (pa_cons (pe_op op_add (pe_glob (v := .int 4) rfl gO ⟨_, rfl⟩) pe_int) pa_nil))) (pg_name (i := 5) scAll.nd rfl (.inl rfl))
            (pss_one (ps_expr (pe_bm PySem.F.plainAttrs_list PySem.F.slot_list_append PySem.F.type_list_append mt_append (pv 3) (pa_cons (pe_op op_catA (pv 4) (pe_tup (pa_cons (pv 5) pa_nil))) pa_nil)))))))
        (pss_one (ps_set (i := 1) scAll.nd rfl (.inl rfl) (pv 3))))))
      (pss_one (ps_ret (pv 1)))), ?_⟩
    refine ⟨Nat.zero_le _, fun t nt => ⟨by show 1 ≤ sizeLine; decide, fun D0 nD0 => ?_⟩⟩
    have st : Same H (upd H t (.tup [])) := same_new nt
    have s0 : Same H (upd (upd H t (.tup [])) D0 (.lst [.ref t])) := st.trans (same_new nD0)
    have r0 : RowsAt (upd (upd H t (.tup [])) D0 (.lst [.ref t])) D0 (allM 0) := ⟨[t], upd_same, .cons (by
      rw [upd_ne (ne_of_none upd_same nD0), upd_same]
      rfl) .nil⟩
    refine ⟨.int (m : Nat), rfl, (m : Nat), rfl, by omega, by omega, for_range (lo := 0) (n := ((m : Nat) : Int).toNat)
      (fun i σ H' => ∃ D v2 v3 v4 v5, σ = [some (.int (m : Nat)), some (.ref D), v2, v3, v4, v5] ∧ Same H H' ∧ H D = none ∧ RowsAt H' D (allM i))
      ⟨D0, none, none, none, none, rfl, s0, st.free nD0, r0⟩ ?_ ?_⟩
    · rintro i σ H1 hi ⟨D, v2, v3, v4, v5, rfl, s1, nD, bs, hD, hT⟩
      have him : i < 3 := by omega
      have hal : (allM i).length ≤ 64 := by
        rw [allM_is (by omega)]
        exact states_le (by omega)
      -- longer = []
      refine ⟨Nat.zero_le _, fun L nL => ?_⟩
      have s2 : Same H (upd H1 L (.lst [])) := s1.trans (same_new nL)
      have nLH : H L = none := s1.free nL
      have hDL : D ≠ L := ne_of_none hD nL
      have sD : Same H1 (upd H1 L (.lst [])) := same_new nL
      refine ⟨.ref D, rfl, D, rfl, ⟨_, SqL.of (sD _ _ hD)⟩, for_list (K := K) (a := D) (xs := bs.map V.ref)
        (fun j σ H' => ∃ w2 w4 w5, σ = [some (.int (m : Nat)), some (.ref D), w2, some (.ref L), w4, w5] ∧ Same H H' ∧ H' D = some (.lst (bs.map V.ref)) ∧ Tups H' (allM i) bs ∧ RowsAt H' L (((allM i).take j).flatMap rowsOf))
        ⟨_, _, _, rfl, s2, sD _ _ hD, hT.keep fun b xs e => sD _ _ e, [], upd_same, .nil⟩ (fun j σ H' _ ⟨_, _, _, _, _, z, _⟩ => SqL.of z) ?_ ?_⟩
      · rintro j x σ H2 hj ⟨w2, w4, w5, rfl, s3, hD3, hT3, hR⟩
        obtain ⟨r, b, hr, rfl, hb⟩ := hT3.at hj
        have hstep : ((allM i).take (j + 1)).flatMap rowsOf = ((allM i).take j).flatMap rowsOf ++ rowsOf r := by
          rw [take_more hr, List.flatMap_append]
          simp
        have hjl : j < (allM i).length := lt_of_get hr
        have hpl : (((allM i).take j).flatMap rowsOf).length ≤ 256 := by
          rw [flat_len, List.length_take]
          omega
        -- for age in range(1, OLDEST + 1)
        refine ⟨_, _, rfl, rfl, 1, 5, rfl, ⟨by decide, by decide, by decide, by decide⟩, for_range (lo := 1) (n := ((5 : Int) - 1).toNat)
          (fun t σ H' => ∃ w5, σ = [some (.int (m : Nat)), some (.ref D), w2, some (.ref L), some (.ref b), w5] ∧ Same H H' ∧ H' D = some (.lst (bs.map V.ref)) ∧ Tups H' (allM i) bs ∧ H' b = some (.tup (vN r)) ∧ RowsAt H' L (((allM i).take j).flatMap rowsOf ++ (rowsOf r).take t))
          ⟨w5, rfl, s3, hD3, hT3, hb, by rw [List.take_zero, List.append_nil]; exact hR⟩ ?_ ?_⟩
        · rintro t σ H3 ht ⟨w5, rfl, s4, hD4, hT4, hb4, cs, hL4, hC4⟩
          have ht4 : t < 4 := ht
          have hrow : (rowsOf r)[t]? = some (r ++ [1 + t]) := by
            have : t = 0 ∨ t = 1 ∨ t = 2 ∨ t = 3 := by omega
            rcases this with rfl | rfl | rfl | rfl <;> rfl
          have fin : ∀ (c : Addr) (H5 : Hp), Same H3 H5 → H5 c = some (.tup (vN (r ++ [1 + t]))) → ∃ w5, [some (V.int (m : Nat)), some (.ref D), w2, some (.ref L), some (.ref b), some (.int ((1 : Int) + (t : Nat)))] = [some (.int (m : Nat)), some (.ref D), w2, some (.ref L), some (.ref b), w5] ∧
              Same H (upd H5 L (.lst (cs.map V.ref ++ [.ref c]))) ∧ upd H5 L (.lst (cs.map V.ref ++ [.ref c])) D = some (.lst (bs.map V.ref)) ∧ Tups (upd H5 L (.lst (cs.map V.ref ++ [.ref c]))) (allM i) bs ∧ upd H5 L (.lst (cs.map V.ref ++ [.ref c])) b = some (.tup (vN r)) ∧
              RowsAt (upd H5 L (.lst (cs.map V.ref ++ [.ref c]))) L (((allM i).take j).flatMap rowsOf ++ (rowsOf r).take (t + 1)) := fun c H5 s5 hc => by
            have hL5 := s5 _ _ hL4
            refine ⟨_, rfl, same_set (s4.trans s5) nLH, by rw [upd_ne hDL]; exact s5 _ _ hD4, hT4.keep fun b xs e => tup_upd hL5 (fun _ z => nomatch z) (s5 _ _ e), tup_upd hL5 (fun _ z => nomatch z) (s5 _ _ hb4), ?_⟩
            rw [take_more hrow, ← List.append_assoc]
            exact RowsAt.snoc hL5 (hC4.keep fun b xs e => s5 _ _ e) hc
          have hz : (cs.map V.ref).length < sizeLine := by
            rw [List.length_map, hC4.len, List.length_append, List.length_take]
            exact small_of (by show _ + min t 4 ≤ _; omega)
          refine ⟨.ref L, rfl, .inl ⟨rfl, _, SqL.of hL4⟩, .ref b, rfl, .int ((1 : Int) + (t : Nat)), rfl, by show 1 ≤ sizeLine; decide, fun p np => ?_⟩
          have s5 : Same H3 (upd H3 p (.tup [.int ((1 : Int) + (t : Nat))])) := same_new np
          have ev : vN (r ++ [1 + t]) = vN r ++ [.int ((1 : Int) + (t : Nat))] := by
            rw [← vN_snoc]
            rfl
          refine ⟨b, p, vN r, _, rfl, rfl, .inl (.inl (s5 _ _ hb4)), .inl (.inl upd_same), ?_, fun er => ?_, fun _ er => (nomatch er), fun _ _ c nc => ?_⟩
          · rw [vN_len, row_len hr (by omega)]
            exact small_le (by show i + 1 ≤ _; omega)
          · refine ⟨L, _, _, rfl, rfl, s5 _ _ hL4, hz, fin p _ s5 ?_⟩
            rw [ev, er, List.nil_append]
            exact upd_same
          · have s6 := s5.trans (same_new (o := .tup (vN r ++ [.int ((1 : Int) + (t : Nat))])) nc)
            refine ⟨L, _, _, rfl, rfl, s6 _ _ hL4, hz, fin c _ s6 ?_⟩
            rw [ev]
            exact upd_same
        · rintro σ H3 ⟨w5, rfl, s4, hD4, hT4, hb4, hR4⟩
          refine ⟨_, _, _, rfl, s4, hD4, hT4, ?_⟩
          rw [hstep]
          have : (rowsOf r).take ((5 : Int) - 1).toNat = rowsOf r := rfl
          rw [this] at hR4
          exact hR4
      · rintro σ H2 ⟨w2, w4, w5, rfl, s3, hD3, hT3, hR⟩
        rw [List.length_map, hT3.len, List.take_length] at hR
        exact ⟨.ref L, rfl, L, _, _, _, _, rfl, s3, nLH, hR⟩
    · rintro σ H1 ⟨D, v2, v3, v4, v5, rfl, s1, nD, hR⟩
      rw [Int.toNat_natCast, allM_is hm] at hR
      exact ⟨.ref D, rfl, q H1 D s1 nD hR⟩
/-! ### first_turn -/
abbrev sFirst : Stmt := topS 5
theorem scFirst : FnScope ["want", "filters", "ages", "kept", "washed"] ["want", "filters", "ages", "kept"] (defScope sFirst) := ⟨rfl, rfl, rfl, by decide +kernel, rfl, by decide +kernel, by decide +kernel⟩
def turnV : Option Nat → V
  | none => .non
  | some n => .int (n : Nat)
def spFirst (K : PySem.W.Frag) : Sp := fun vs H Q _ => ∃ (wt : Nat) (fa aa da : Addr) (fs s : List Nat) (m : Nat) (l : List (List Nat)), vs = [.int (wt : Nat), .ref fa, .ref aa, .ref da] ∧ SqL K H fa (vN fs) ∧ SqT K H aa (vN s) ∧ Rd H da (.dT (keptD l)) ∧ fs.length = 3 * m ∧ Ok m s ∧ m ≤ 3 ∧
  ∀ H', Same H H' → Q (turnV (Ks441.choose (filtersOf fs) wt l s)) H'
theorem rd_same {H H1 : Hp} {a : Addr} {u : HO} (h : Rd H a u) (s : Same H H1) : Rd H1 a u := by
  rcases h with h | ⟨o, h⟩
  · exact .inl (s _ _ h)
  · exact .inr ⟨o, s _ _ h⟩
theorem ok_first {f f1 f2 : Addr} {fd fd1 fd2 : FuncData} {k : Nat} (F : Fun K "first_turn" "first_turn" sFirst f fd) (F1 : Fun K "flow_of" "flow_of" sFlow f1 fd1) (b1 : Binds K fd1 ["filters", "ages", "washed"] []) (g1 : mg "flow_of" = some (.ref f1))
    (F2 : Fun K "ages_behind" "ages_behind" sBehind f2 fd2) (b2 : Binds K fd2 ["ages", "washed"] []) (g2 : mg "ages_behind" = some (.ref f2)) (B : Bl mg) : FnOk P w K mg base CX0 (k + 2) f fd ["want", "filters", "ages", "kept"] (spFirst K) := by
  have G1 : FnOk P w K mg base CX0 (k + 1) f1 fd1 ["filters", "ages", "washed"] (spFlow K) := ok_flow F1 B
  have G2 : FnOk P w K mg base CX0 (k + 1) f2 fd2 ["ages", "washed"] (spBehind K) := ok_behind F2 B
  refine F.ok scFirst (fun vs H Q E h => ?_) (fun cdv A outer st H vs Q E hr h => ?_)
  · obtain ⟨wt, fa, aa, da, fs, s, m, l, rfl, _⟩ := h
    rfl
  · obtain ⟨wt, fa, aa, da, fs, s, m, l, rfl, hF, hA, hK, hl, ho, hm, q⟩ := h
    have hu := hu_of hr
    have hql : (filtersOf fs).length = m := by
      rw [filtersOf_len, hl]
      omega
    refine ⟨_, pss_cons (ps_for PassesOwn.never rfl (pi_range1 rfl B.range (pa_cons (pe_op op_add (pe_callB call_len_seq (by rfl) B.len PySem.boot_len (pa_cons (pv 2) pa_nil)) pe_int) pa_nil)) (pg_name (i := 4) scFirst.nd rfl (.inl rfl))
        (pss_one (ps_if (PW.pt (pw_and (pt_cmpR op_ge (pe_call G1 hr (by rfl) g1 F1.kp b1 .nil pass0 (pa_cons (pv 1) (pa_cons (pv 2) (pa_cons (pv 4) pa_nil)))) (pv 0) (nomark _))
            (pw_and1 (pt_cmp (pc_din hu (pe_call G2 hr (by rfl) g2 F2.kp b2 .nil pass0 (pa_cons (pv 2) (pa_cons (pv 4) pa_nil))) (pv 3))))))
          (pss_one (ps_ret (pv 4))) pss_nil)))
      (pss_one (ps_ret pe_non)), ?_⟩
    have en : (((vN s).length : Int) + 1).toNat = m + 1 := by
      rw [vN_len, ho.1]
      omega
    refine ⟨.ref aa, rfl, aa, vN s, rfl, .inr hA, _, _, rfl, rfl, _, rfl, by rw [vN_len, ho.1]; omega, by rw [vN_len, ho.1]; omega, for_range (lo := 0) (n := (((vN s).length : Int) + 1).toNat)
      (fun i σ H' => ∃ v4, σ = [some (.int (wt : Nat)), some (.ref fa), some (.ref aa), some (.ref da), v4] ∧ Same H H' ∧ ∀ x, x < i → ¬ (wt ≤ Ks441.flow (filtersOf fs) s x ∧ Ks441.next s x ∈ l))
      ⟨none, rfl, Same.refl _, fun x hx => absurd hx (Nat.not_lt_zero x)⟩ ?_ ?_⟩
    · rintro i σ H1 hi ⟨v4, rfl, s1, hno⟩
      rw [en] at hi
      have e0 : (V.int ((0 : Int) + (i : Nat))) = .int (i : Nat) := congrArg V.int (by omega)
      refine ⟨.ref fa, rfl, .ref aa, rfl, _, rfl, fa, aa, fs, s, m, i, by rw [e0]; rfl, s1.seq hF, same_tup s1 hA, hl, ho, fun H2 s2 => ?_⟩
      have s12 : Same H H2 := s1.trans s2
      have go : ∀ H3, Same H H3 → ¬ (wt ≤ Ks441.flow (filtersOf fs) s i ∧ Ks441.next s i ∈ l) → ∃ v4, [some (V.int (wt : Nat)), some (.ref fa), some (.ref aa), some (.ref da), some (.int ((0 : Int) + (i : Nat)))] = [some (.int (wt : Nat)), some (.ref fa), some (.ref aa), some (.ref da), v4] ∧ Same H H3 ∧ ∀ x, x < i + 1 → ¬ (wt ≤ Ks441.flow (filtersOf fs) s x ∧ Ks441.next s x ∈ l) := fun H3 s3 h => ⟨_, rfl, s3, fun x hx => by
        by_cases e : x = i
        · rw [e]
          exact h
        · exact hno x (by omega)⟩
      refine ⟨_, rfl, _, _, rfl, rfl, _, rfl, ite2 (fun c => ?_) (fun c => ?_)⟩
      · have c1 : wt ≤ Ks441.flow (filtersOf fs) s i := by
          have := of_decide_eq_true c
          omega
        refine ⟨.ref aa, rfl, _, rfl, aa, s, i, by rw [e0]; rfl, same_tup s12 hA, by rw [ho.1]; exact hm, fun H3 b s3 nb hb => ?_⟩
        have s13 : Same H H3 := s12.trans s3
        refine ⟨.ref da, rfl, da, _, rfl, .inr ⟨_, _, b, rd_same hK s13, rfl, key_at hb, rfl⟩, _, rfl, ?_⟩
        rw [keptD_has]
        cases e : l.contains (Ks441.next s i) with
        | true =>
          refine iteT ⟨_, rfl, ?_⟩
          have hc := choose_first (f := filtersOf fs) (want := wt) (l := l) (s := s) (i := i) (by omega) hno c1 (List.contains_iff_mem.mp e)
          have := q H3 s13
          rw [hc] at this
          rw [e0]
          exact this
        | false =>
          refine iteF (go H3 s13 fun z => ?_)
          rw [List.contains_iff_mem.mpr z.2] at e
          cases e
      · exact iteF (go H2 s12 fun z => c (decide_eq_true (by omega)))
    · rintro σ H1 ⟨v4, rfl, s1, hno⟩
      rw [en] at hno
      have hc := choose_nothing (f := filtersOf fs) (want := wt) (l := l) (s := s) fun x hx => hno x (by omega)
      have := q H1 s1
      rw [hc] at this
      exact this
/-! ### kept_ages -/
def dR (l : List (List Nat)) : List PyData := l.map fun s => PyData.tuple (dN s)
theorem dpR_all {H : Hp} : ∀ {l : List (List Nat)} {bs : List Addr}, Tups H l bs → DpAll K H (bs.map V.ref) (dR l)
  | _, _, .nil => .nil
  | _, _, .cons h t => .cons (.tup (SqT.of h) (dpN_all _)) (dpR_all t)
theorem dR_lay : ∀ l : List (List Nat), PyData.canLayAll0 (dR l) = true ∧ PyData.depthAll (dR l) ≤ 1
  | [] => ⟨by simp only [dR, List.map_nil, PyData.canLayAll0], by simp only [dR, List.map_nil, PyData.depthAll]; omega⟩
  | s :: r => by
    obtain ⟨h1, h2⟩ := dR_lay r
    obtain ⟨h3, h4⟩ := dN_lay s
    have e : dR (s :: r) = PyData.tuple (dN s) :: dR r := rfl
    rw [e]
    exact ⟨by simp only [PyData.canLayAll0, PyData.canLay0, h1, h3, Bool.and_true], by simp only [PyData.depthAll, PyData.depth, h4]; omega⟩
theorem dR_shaped (l : List (List Nat)) : SeqAt.shaped (.list (dR l)) = true := by
  obtain ⟨h1, h2⟩ := dR_lay l
  unfold SeqAt.shaped
  rw [PyData.canLay0, h1, PyData.depth, decide_eq_true (by omega)]
  rfl
theorem dR_empty (l : List (List Nat)) : (dR l).isEmpty = l.isEmpty := by
  cases l <;> rfl
/-- the test of the comprehension: first_turn(want, filters, ages, kept) is None -/
def ttLost (K : PySem.W.Frag) : TT := tB (tIsN (tCall (spFirst K) [] E0 (tCons (tVar 0) (tCons (tVar 1) (tCons (tVar 4) (tCons (tVar 3) tNil))))))
/-- lost = [ages for ages in kept if ..], the dict locked meanwhile -/
theorem lost_read {H : Hp} {Dn : Ends} {wt m : Nat} {fa d : Addr} {fs : List Nat} {l : List (List Nat)} {v4 v5 : Option V} (hd : H d = some (.dT (keptD l))) (hF : SqL K H fa (vN fs)) (hl : fs.length = 3 * m) (hm : m ≤ 3) (hol : ∀ s ∈ l, Ok m s) (hll : l.length ≤ 64)
    (q : ∀ (H' : Hp) (D : Addr), Same H H' → H D = none → RowsAt H' D (lostM (filtersOf fs) wt l) → Dn.nx [some (.int (wt : Nat)), some (.ref fa), some (.int (m : Nat)), some (.ref d), v4, some (.ref D)] H') :
    tLock (tAsg (tLc (iKeys (tVar 3)) (gName 4) (ttLost K) (tVar 4) [4]) (gName 5)) Dn [some (.int (wt : Nat)), some (.ref fa), some (.int (m : Nat)), some (.ref d), v4, v5] H := by
  refine ⟨d, .dT (keptD l), hd, trivial, fun od => ?_⟩
  have nfa : SqL K (upd H d (.frz od (.dT (keptD l)))) fa (vN fs) := by
    rcases hF with (z | ⟨ob, z⟩) | z
    · exact .inl (.inl (by rw [upd_ne (ne_of z hd (fun e => nomatch e))]; exact z))
    · exact .inl (.inr ⟨ob, by rw [upd_ne (ne_of z hd (fun e => nomatch e))]; exact z⟩)
    · exact .inr z
  refine ⟨.ref d, rfl, d, od, rfl, .inr ⟨keptD l, upd_same, fun D nD => lc_it walk_keysT
    (fun i Hx => Same (upd H d (.frz od (.dT (keptD l)))) Hx ∧ RowsAt Hx D ((l.take i).filter fun s => (Ks441.choose (filtersOf fs) wt l s).isNone))
    ⟨same_new nD, [], upd_same, .nil⟩ (fun i Hx _ ⟨s1, _⟩ => s1 _ _ upd_same) ?_ ?_⟩⟩
  · rintro i x Hx Hy hi ⟨s1, bs, hD, hT⟩ ⟨rfl, k, v, c, hk, rfl, hc⟩
    obtain ⟨s, hs, rfl⟩ := keptD_at hk
    rw [kN_kV] at hc
    refine ⟨rfl, .int (wt : Nat), rfl, .ref fa, rfl, .ref c, rfl, .ref d, rfl, wt, fa, c, d, fs, s, m, l, rfl, s1.seq nfa, .inl (.inl hc), .inr ⟨od, s1 _ _ upd_same⟩, hl, hol s (List.mem_of_getElem? hs), hm, fun Hz sz => ⟨_, rfl, ?_⟩⟩
    have step : (l.take (i + 1)).filter (fun s => (Ks441.choose (filtersOf fs) wt l s).isNone) = (l.take i).filter (fun s => (Ks441.choose (filtersOf fs) wt l s).isNone) ++ if (Ks441.choose (filtersOf fs) wt l s).isNone = true then [s] else [] := by
      rw [take_more hs, List.filter_append, List.filter_cons]
      rfl
    cases e : Ks441.choose (filtersOf fs) wt l s with
    | none =>
      rw [e, if_pos (show (none : Option Nat).isNone = true from rfl)] at step
      have nDd : H D = none := by
        have hne : D ≠ d := fun z => by
          rw [z, upd_same] at nD
          cases nD
        rw [upd_ne hne] at nD
        exact nD
      refine iteT ⟨.ref c, rfl, bs.map V.ref, sz _ _ hD, ?_, fun b ob hb => ?_, ?_⟩
      · rw [List.length_map, hT.len]
        refine small_of (Nat.le_trans (List.length_filter_le _ _) ?_)
        rw [List.length_take]
        omega
      · rw [upd_ne (ne_of_none hb nD)]
        exact sz _ _ (s1 _ _ hb)
      · rw [step]
        exact RowsAt.snoc (sz _ _ hD) (hT.keep fun b xs e => sz _ _ e) (sz _ _ hc)
    | some n =>
      rw [e, if_neg (show ¬ (some n).isNone = true from Bool.false_ne_true), List.append_nil] at step
      refine iteF ⟨s1.trans sz, ?_⟩
      rw [step]
      exact RowsAt.same ⟨bs, hD, hT⟩ sz
  · rintro Hx ⟨s1, hR⟩
    rw [keptD_len, List.take_length] at hR
    have hfz := s1 _ _ upd_same
    refine ⟨hfz, q _ D (fun b ob hb => ?_) ?_ ?_⟩
    · by_cases e : b = d
      · subst e
        rw [hd] at hb
        cases hb
        exact upd_same
      · rw [upd_ne e]
        exact s1 _ _ (by rw [upd_ne e]; exact hb)
    · have hne : D ≠ d := fun z => by
        rw [z, upd_same] at nD
        cases nD
      rw [upd_ne hne] at nD
      exact nD
    · obtain ⟨bs, hD, hT⟩ := hR
      exact ⟨bs, by rw [upd_ne (ne_of hD hfz (fun z => nomatch z))]; exact hD, hT.keep fun b xs e => tup_upd hfz (fun _ z => nomatch z) e⟩
abbrev sKept : Stmt := topS 6
theorem scKept : FnScope ["want", "filters", "many", "kept", "ages", "lost"] ["want", "filters", "many"] (defScope sKept) := ⟨rfl, rfl, rfl, by decide +kernel, rfl, by decide +kernel, by decide +kernel⟩
def spKept (K : PySem.W.Frag) : Sp := fun vs H Q _ => ∃ (wt : Nat) (fa : Addr) (fs : List Nat) (m : Nat), vs = [.int (wt : Nat), .ref fa, .int (m : Nat)] ∧ SqL K H fa (vN fs) ∧ fs.length = 3 * m ∧ m ≤ 3 ∧
  ∀ H' d, Same H H' → H d = none → H' d = some (.dT (keptD (Ks441.ever (filtersOf fs) wt))) → Q (.ref d) H'
theorem ok_kept {f f1 f2 f3 f4 : Addr} {fd fd1 fd2 fd3 fd4 : FuncData} {k : Nat} (F : Fun K "kept_ages" "kept_ages" sKept f fd) (F1 : Fun K "flow_of" "flow_of" sFlow f1 fd1) (b1 : Binds K fd1 ["filters", "ages", "washed"] []) (g1 : mg "flow_of" = some (.ref f1))
    (F2 : Fun K "ages_behind" "ages_behind" sBehind f2 fd2) (b2 : Binds K fd2 ["ages", "washed"] []) (g2 : mg "ages_behind" = some (.ref f2))
    (F3 : Fun K "all_ages" "all_ages" sAll f3 fd3) (b3 : Binds K fd3 ["many"] []) (g3 : mg "all_ages" = some (.ref f3))
    (F4 : Fun K "first_turn" "first_turn" sFirst f4 fd4) (b4 : Binds K fd4 ["want", "filters", "ages", "kept"] []) (g4 : mg "first_turn" = some (.ref f4)) (B : Bl mg) : FnOk P w K mg base CX0 (k + 3) f fd ["want", "filters", "many"] (spKept K) := by
  have G3 : FnOk P w K mg base CX0 (k + 2) f3 fd3 ["many"] (spAll K) := ok_all F3 B
  have G4 : FnOk P w K mg base CX0 (k + 2) f4 fd4 ["want", "filters", "ages", "kept"] (spFirst K) := ok_first F4 F1 b1 g1 F2 b2 g2 B
  refine F.ok scKept (fun vs H Q E h => ?_) (fun cdv A outer st H vs Q E hr h => ?_)
  · obtain ⟨wt, fa, fs, m, rfl, _⟩ := h
    rfl
  · obtain ⟨wt, fa, fs, m, rfl, hF, hl, hm, q⟩ := h
    have hu := hu_of hr
    refine ⟨_, pss_cons (ps_set (i := 3) scKept.nd rfl (.inr rfl) pe_dnewT)
      (pss_cons (ps_for PassesOwn.never rfl (pi_list (pe_call G3 hr (by rfl) g3 F3.kp b3 .nil pass0 (pa_cons (pv 2) pa_nil))) (pg_name (i := 4) scKept.nd rfl (.inl rfl)) (pss_one (ps_dput hu (pv 3) (pv 4) pe_bl rfl)))
      (pss_cons (ps_lock (ps_setLc (i := 5) (own := [("ages", 4)]) (g := gName 4) (tt := ttLost K) (by rfl) scKept.nd rfl rfl (sw_true rfl rfl rfl (by decide +kernel)) (pi_keys (pv 3)) (blkOk_by (own := [("ages", 4)]) (N := ["want", "filters", "many", "kept", "ages", "lost"]) (sc := defScope sKept) (by decide +kernel))
          (fun _ _ _ _ _ => pg_name (i := 4) scKept.nd rfl (Or.inl rfl)) (fun _ _ _ _ _ => pts_one (pt_cmp (pc_isN (pe_call G4 hr (by rfl) g4 F4.kp b4 .nil pass0 (pa_cons (pv 0) (pa_cons (pv 1) (pa_cons (pv 4) (pa_cons (pv 3) pa_nil)))))))) (fun _ _ _ _ _ => pv 4)))
      (pss_cons (ps_while PassesOwn.never (pt_cmpR (op_neD hr.units) (pv 5) (pe_lst pa_nil) (nomark _))
        (pss_cons (ps_for PassesOwn.never rfl (pi_list (pv 5)) (pg_name (i := 4) scKept.nd rfl (.inl rfl)) (pss_one (ps_expr (pe_bm PySem.F.plainAttrs_dict PySem.F.slot_dict_pop PySem.F.type_dict_pop (mt_popT1 hu) (pv 3) (pa_cons (pv 4) pa_nil)))))
        (pss_one (ps_lock (ps_setLc (i := 5) (own := [("ages", 4)]) (g := gName 4) (tt := ttLost K) (by rfl) scKept.nd rfl rfl (sw_true rfl rfl rfl (by decide +kernel)) (pi_keys (pv 3)) (blkOk_by (own := [("ages", 4)]) (N := ["want", "filters", "many", "kept", "ages", "lost"]) (sc := defScope sKept) (by decide +kernel))
          (fun _ _ _ _ _ => pg_name (i := 4) scKept.nd rfl (Or.inl rfl)) (fun _ _ _ _ _ => pts_one (pt_cmp (pc_isN (pe_call G4 hr (by rfl) g4 F4.kp b4 .nil pass0 (pa_cons (pv 0) (pa_cons (pv 1) (pa_cons (pv 4) (pa_cons (pv 3) pa_nil)))))))) (fun _ _ _ _ _ => pv 4))))))
      (pss_one (ps_ret (pv 3)))))), ?_⟩
    -- kept = {}
    intro d nd
    have s0 : Same H (upd H d (.dT [])) := same_new nd
    -- for ages in all_ages(many)
    refine ⟨.int (m : Nat), rfl, m, rfl, hm, fun H1 D s1 nD hR => ?_⟩
    obtain ⟨bs, hD, hT⟩ := hR
    have hd1 : H1 d = some (.dT []) := s1 _ _ upd_same
    refine ⟨D, rfl, ⟨_, SqL.of hD⟩, for_list (K := K) (a := D) (xs := bs.map V.ref)
      (fun j σ H' => ∃ v4, σ = [some (.int (wt : Nat)), some (.ref fa), some (.int (m : Nat)), some (.ref d), v4, none] ∧ Same H H' ∧ H' D = some (.lst (bs.map V.ref)) ∧ Tups H' (Ks441.states m) bs ∧ H' d = some (.dT (keptD ((Ks441.states m).take j))))
      ⟨none, rfl, s0.trans s1, hD, hT, hd1⟩ (fun j σ H' _ ⟨_, _, _, z, _⟩ => SqL.of z) ?_ ?_⟩
    · rintro j x σ H2 hj ⟨v4, rfl, s2, hD2, hT2, hd2⟩
      obtain ⟨s, b, hs, rfl, hb⟩ := hT2.at hj
      have hjl : j < (Ks441.states m).length := lt_of_get hs
      have h64 := states_le hm
      have hz : (keptD ((Ks441.states m).take j)).length < sizeLine := by
        rw [keptD_len, List.length_take]
        exact small_of (by omega)
      refine ⟨.ref d, rfl, .ref b, rfl, d, _, rfl, DPut.t hd2 (key_at hb) hz, some (.ref b), rfl, same_set s2 nd, ?_, hT2.keep fun c xs e => tup_upd hd2 (fun _ z => nomatch z) e, ?_⟩
      · rw [upd_ne (ne_of hD2 hd2 (fun z => nomatch z))]
        exact hD2
      · rw [upd_same, keptD_new (not_in_take (states_nodup hm) hs), take_more hs]
    · rintro σ H2 ⟨v4, rfl, s2, hD2, hT2, hd2⟩
      rw [List.length_map, hT2.len, List.take_length] at hd2
      -- lost = [..]
      refine lost_read (K := K) (fs := fs) (l := Ks441.states m) hd2 (s2.seq hF) hl hm (fun s hs => (mem_states m s).mp hs) (states_le hm) fun H3 D3 s3 nD3 hR3 => ?_
      have s23 := s2.trans s3
      have hfl : (filtersOf fs).length = m := by
        rw [filtersOf_len, hl]
        omega
      -- while lost != []
      refine ⟨fun n σ H' => ∃ v4 Dl l, σ = [some (.int (wt : Nat)), some (.ref fa), some (.int (m : Nat)), some (.ref d), v4, some (.ref Dl)] ∧ n = l.length ∧ Same H H' ∧ H' d = some (.dT (keptD l)) ∧ RowsAt H' Dl (lostM (filtersOf fs) wt l) ∧ l.Nodup ∧ (∀ s ∈ l, Ok m s) ∧ l.length ≤ 64 ∧
        ∃ n', l.length ≤ n' ∧ Ks441.till (filtersOf fs) wt n' l = Ks441.ever (filtersOf fs) wt,
        ⟨_, v4, D3, Ks441.states m, rfl, rfl, s23, s3 _ _ hd2, hR3, states_nodup hm, fun s hs => (mem_states m s).mp hs, states_le hm, (Ks441.AGES + 1) ^ (filtersOf fs).length, by rw [hfl, states_len hm]; exact Nat.le_refl _, by
          unfold Ks441.ever
          rw [hfl]⟩, ?_⟩
      rintro n σ H4 ⟨v4, Dl, l, rfl, rfl, s4, hd4, ⟨cs, hL4, hC4⟩, hnd, hok, h64, n', hn', htill⟩
      refine ⟨.ref Dl, rfl, Nat.zero_le _, fun p np => ⟨_, _, .lst (SqL.of (by rw [upd_ne (ne_of_none hL4 np)]; exact hL4)) (dpR_all (hC4.keep fun b xs e => same_new np _ _ e)), .lst (SqL.of upd_same) .nil, dR_shaped _, nil_shaped, _, rfl, ?_⟩⟩
      have s5 : Same H4 (upd H4 p (.lst [])) := same_new np
      rw [eqv_nil, dR_empty]
      by_cases hlost : lostM (filtersOf fs) wt l = []
      · rw [hlost]
        refine iteF ⟨.ref d, rfl, q _ d (s4.trans s5) nd ?_⟩
        rw [till_stop hlost] at htill
        rw [← htill]
        exact s5 _ _ hd4
      · have hne : (lostM (filtersOf fs) wt l).isEmpty = false := by
          cases e : lostM (filtersOf fs) wt l with
          | nil => exact absurd e hlost
          | cons _ _ => rfl
        rw [hne]
        have hlt : (Ks441.again (filtersOf fs) wt l).length < l.length := by
          have h1 := lost_len (f := filtersOf fs) (want := wt) (l := l)
          have h2 := List.length_pos_iff.mpr hlost
          omega
        obtain ⟨n2, hn2, ht2⟩ := till_step hlost hn'
        refine iteT ⟨fun σ' H' => ∃ v4 Dl, σ' = [some (.int (wt : Nat)), some (.ref fa), some (.int (m : Nat)), some (.ref d), v4, some (.ref Dl)] ∧ Same H H' ∧ H' d = some (.dT (keptD (Ks441.again (filtersOf fs) wt l))) ∧ RowsAt H' Dl (lostM (filtersOf fs) wt (Ks441.again (filtersOf fs) wt l)),
          fun σ' H' ⟨v4, Dl, e1, e2, e3, e4⟩ => ⟨_, hlt, v4, Dl, Ks441.again (filtersOf fs) wt l, e1, rfl, e2, e3, e4, again_nodup hnd, fun s hs => hok s (again_sub hs), by omega, n2, hn2, ht2.symm.trans htill⟩, ?_⟩
        -- for ages in lost: kept.pop(ages)
        refine ⟨.ref Dl, rfl, Dl, rfl, ⟨_, SqL.of (s5 _ _ hL4)⟩, for_list (K := K) (a := Dl) (xs := cs.map V.ref)
          (fun j σ H' => ∃ v4, σ = [some (.int (wt : Nat)), some (.ref fa), some (.int (m : Nat)), some (.ref d), v4, some (.ref Dl)] ∧ Same H H' ∧ H' Dl = some (.lst (cs.map V.ref)) ∧ Tups H' (lostM (filtersOf fs) wt l) cs ∧ H' d = some (.dT (keptD (l.filter fun s => !((lostM (filtersOf fs) wt l).take j).contains s))))
          ⟨v4, rfl, s4.trans s5, s5 _ _ hL4, hC4.keep fun b xs e => s5 _ _ e, by rw [List.take_zero, filter_none]; exact s5 _ _ hd4⟩ (fun j σ H' _ ⟨_, _, _, z, _⟩ => SqL.of z) ?_ ?_⟩
        · rintro j x σ H6 hj ⟨w4, rfl, s6, hL6, hC6, hd6⟩
          obtain ⟨s, b, hs, rfl, hb⟩ := hC6.at hj
          have hmem := pop_mem hnd hs
          refine ⟨.ref d, rfl, .inr (.inr (.inl ⟨rfl, .inr ⟨_, hd6⟩⟩)), .ref b, rfl, d, _, kN s, b, .bl true, rfl, rfl, hd6, key_at hb, ?_, some (.ref b), rfl, same_set s6 nd, ?_, hC6.keep fun c xs e => tup_upd hd6 (fun _ z => nomatch z) e, ?_⟩
          · rw [keptD_val, if_pos (List.contains_iff_mem.mpr hmem)]
          · rw [upd_ne (ne_of hL6 hd6 (fun z => nomatch z))]
            exact hL6
          · rw [upd_same, keptD_drop, pop_step hs]
        · rintro σ H6 ⟨w4, rfl, s6, hL6, hC6, hd6⟩
          rw [List.length_map, hC6.len, List.take_length, popped] at hd6
          exact lost_read (K := K) (fs := fs) (l := Ks441.again (filtersOf fs) wt l) hd6 (s6.seq hF) hl hm (fun s hs => hok s (again_sub hs)) (by omega) fun H7 D7 s7 nD7 hR7 => ⟨w4, D7, rfl, s6.trans s7, s7 _ _ hd6, hR7⟩
/-! ### turns_told -/
abbrev sTurns : Stmt := topS 7
theorem scTurns : FnScope ["want", "filters", "ages", "many", "kept", "found", "k", "washed"] ["want", "filters", "ages", "many"] (defScope sTurns) := ⟨rfl, rfl, rfl, by decide +kernel, rfl, by decide +kernel, by decide +kernel⟩
def spTurns (K : PySem.W.Frag) : Sp := fun vs H Q _ => ∃ (wt : Nat) (fa aa : Addr) (fs s : List Nat) (m n : Nat), vs = [.int (wt : Nat), .ref fa, .ref aa, .int (n : Nat)] ∧ SqL K H fa (vN fs) ∧ H aa = some (.tup (vN s)) ∧ fs.length = 3 * m ∧ Ok m s ∧ m ≤ 3 ∧ n ≤ 40 ∧
  ((Ks441.ever (filtersOf fs) wt).contains s = false → ∀ H', Q .non H') ∧
  ((Ks441.ever (filtersOf fs) wt).contains s = true → ∀ H' D, H' D = some (.lst (vN (Ks441.told (filtersOf fs) wt (Ks441.ever (filtersOf fs) wt) n s))) → Q (.ref D) H')
theorem ok_turns {f f1 f2 f3 f4 f5 : Addr} {fd fd1 fd2 fd3 fd4 fd5 : FuncData} {k : Nat} (F : Fun K "turns_told" "turns_told" sTurns f fd) (F1 : Fun K "flow_of" "flow_of" sFlow f1 fd1) (b1 : Binds K fd1 ["filters", "ages", "washed"] []) (g1 : mg "flow_of" = some (.ref f1))
    (F2 : Fun K "ages_behind" "ages_behind" sBehind f2 fd2) (b2 : Binds K fd2 ["ages", "washed"] []) (g2 : mg "ages_behind" = some (.ref f2))
    (F3 : Fun K "all_ages" "all_ages" sAll f3 fd3) (b3 : Binds K fd3 ["many"] []) (g3 : mg "all_ages" = some (.ref f3))
    (F4 : Fun K "first_turn" "first_turn" sFirst f4 fd4) (b4 : Binds K fd4 ["want", "filters", "ages", "kept"] []) (g4 : mg "first_turn" = some (.ref f4))
    (F5 : Fun K "kept_ages" "kept_ages" sKept f5 fd5) (b5 : Binds K fd5 ["want", "filters", "many"] []) (g5 : mg "kept_ages" = some (.ref f5)) (B : Bl mg) : FnOk P w K mg base CX0 (k + 4) f fd ["want", "filters", "ages", "many"] (spTurns K) := by
  have G2 : FnOk P w K mg base CX0 (k + 3) f2 fd2 ["ages", "washed"] (spBehind K) := ok_behind F2 B
  have G4 : FnOk P w K mg base CX0 (k + 3) f4 fd4 ["want", "filters", "ages", "kept"] (spFirst K) := ok_first F4 F1 b1 g1 F2 b2 g2 B
  have G5 : FnOk P w K mg base CX0 (k + 3) f5 fd5 ["want", "filters", "many"] (spKept K) := ok_kept F5 F1 b1 g1 F2 b2 g2 F3 b3 g3 F4 b4 g4 B
  refine F.ok scTurns (fun vs H Q E h => ?_) (fun cdv A outer st H vs Q E hr h => ?_)
  · obtain ⟨wt, fa, aa, fs, s, m, n, rfl, _⟩ := h
    rfl
  · obtain ⟨wt, fa, aa, fs, s, m, n, rfl, hF, hA, hl, ho, hm, hn, qN, qY⟩ := h
    have hu := hu_of hr
    have hfl : (filtersOf fs).length = m := by
      rw [filtersOf_len, hl]
      omega
    refine ⟨_, pss_cons (ps_set (i := 4) scTurns.nd rfl (.inl rfl) (pe_call G5 hr (by rfl) g5 F5.kp b5 .nil pass0 (pa_cons (pv 0) (pa_cons (pv 1) (pa_cons (pe_callB call_len_seq (by rfl) B.len PySem.boot_len (pa_cons (pv 2) pa_nil)) pa_nil)))))
      (pss_cons (ps_if (pt_cmp (pc_dnotin hu (pv 2) (pv 4))) (pss_one (ps_ret pe_non)) pss_nil)
      (pss_cons (ps_set (i := 5) scTurns.nd rfl (.inl rfl) (pe_lst pa_nil))
      (pss_cons (ps_for PassesOwn.never rfl (pi_range1 rfl B.range (pa_cons (pv 3) pa_nil)) (pg_name (i := 6) scTurns.nd rfl (.inl rfl))
        (pss_cons (ps_set (i := 7) scTurns.nd rfl (.inl rfl) (pe_call G4 hr (by rfl) g4 F4.kp b4 .nil pass0 (pa_cons (pv 0) (pa_cons (pv 1) (pa_cons (pv 2) (pa_cons (pv 4) pa_nil))))))
        (pss_cons (ps_expr (pe_bm PySem.F.plainAttrs_list PySem.F.slot_list_append PySem.F.type_list_append mt_append (pv 5) (pa_cons (pv 7) pa_nil)))
        (pss_one (ps_set (i := 2) scTurns.nd rfl (.inl rfl) (pe_call G2 hr (by rfl) g2 F2.kp b2 .nil pass0 (pa_cons (pv 2) (pa_cons (pv 7) pa_nil))))))))
      (pss_one (ps_ret (pv 5)))))), ?_⟩
    refine ⟨.int (wt : Nat), rfl, .ref fa, rfl, .ref aa, rfl, aa, vN s, rfl, .inr (SqT.of hA), wt, fa, fs, m, by rw [vN_len, ho.1]; rfl, hF, hl, hm, fun H1 d s1 nd hd => ?_⟩
    refine ⟨.ref aa, rfl, .ref d, rfl, d, _, rfl, DGet.t hd (key_at (s1 _ _ hA)), _, rfl, ?_⟩
    rw [keptD_has]
    cases e : (Ks441.ever (filtersOf fs) wt).contains s with
    | false => exact iteT (qN e H1)
    | true =>
      refine iteF ⟨Nat.zero_le _, fun o no => ?_⟩
      have s2 : Same H1 (upd H1 o (.lst [])) := same_new no
      have noH := s1.free no
      refine ⟨.int (n : Nat), rfl, (n : Nat), rfl, by omega, by omega, for_range (lo := 0) (n := ((n : Nat) : Int).toNat)
        (fun i σ H' => ∃ ab v6 v7 l s', σ = [some (.int (wt : Nat)), some (.ref fa), some (.ref ab), some (.int (n : Nat)), some (.ref d), some (.ref o), v6, v7] ∧ Same H H' ∧ H' d = some (.dT (keptD (Ks441.ever (filtersOf fs) wt))) ∧ H' o = some (.lst (vN l)) ∧ H' ab = some (.tup (vN s')) ∧ Ok m s' ∧ s' ∈ Ks441.ever (filtersOf fs) wt ∧ l.length = i ∧
          l ++ Ks441.told (filtersOf fs) wt (Ks441.ever (filtersOf fs) wt) (n - i) s' = Ks441.told (filtersOf fs) wt (Ks441.ever (filtersOf fs) wt) n s)
        ⟨aa, none, none, [], s, rfl, s1.trans s2, s2 _ _ hd, upd_same, s2 _ _ (s1 _ _ hA), ho, List.contains_iff_mem.mp e, rfl, rfl⟩ ?_ ?_⟩
      · rintro i σ H3 hi ⟨ab, v6, v7, l, s', rfl, s3, hd3, hO, hB, ho', hin, hli, eq⟩
        rw [Int.toNat_natCast] at hi
        obtain ⟨x, hx⟩ := lost_choose (ever_fix (f := filtersOf fs) (want := wt) (by omega)) hin
        obtain ⟨_, _, hnx⟩ := choose_some hx
        refine ⟨.int (wt : Nat), rfl, .ref fa, rfl, .ref ab, rfl, .ref d, rfl, wt, fa, ab, d, fs, s', m, _, rfl, s3.seq hF, SqT.of hB, .inl hd3, hl, ho', hm, fun H4 s4 => ?_⟩
        rw [hx]
        have hO4 := s4 _ _ hO
        have hz : (vN l).length < sizeLine := by
          rw [vN_len]
          exact small_of (by omega)
        refine ⟨.ref o, rfl, .inl ⟨rfl, _, SqL.of hO4⟩, .int (x : Nat), rfl, o, _, _, rfl, rfl, hO4, hz, ?_⟩
        have hB5 := tup_upd (o := .lst (vN l ++ [.int (x : Nat)])) hO4 (fun _ z => nomatch z) (s4 _ _ hB)
        refine ⟨.ref ab, rfl, .int (x : Nat), rfl, ab, s', x, rfl, SqT.of hB5, by rw [ho'.1]; exact hm, fun H6 c s6 nc hc => ?_⟩
        refine ⟨c, some (.int ((0 : Int) + (i : Nat))), some (.int (x : Nat)), l ++ [x], Ks441.next s' x, rfl, fun b ob hb => s6 _ _ ?_, s6 _ _ ?_, ?_, hc, next_ok x ho', hnx, by rw [List.length_append, hli]; rfl, ?_⟩
        · rw [upd_ne (ne_of_none hb noH)]
          exact s4 _ _ (s3 _ _ hb)
        · rw [upd_ne (ne_of (s4 _ _ hd3) hO4 (fun z => nomatch z))]
          exact s4 _ _ hd3
        · rw [← vN_snoc]
          exact s6 _ _ upd_same
        · rw [← eq, List.append_assoc, show n - i = (n - (i + 1)) + 1 by omega, told_succ hx]
          rfl
      · rintro σ H3 ⟨ab, v6, v7, l, s', rfl, s3, hd3, hO, hB, ho', hin, hli, eq⟩
        rw [Int.toNat_natCast] at eq
        have el : l = Ks441.told (filtersOf fs) wt (Ks441.ever (filtersOf fs) wt) n s := by
          rw [← eq, Nat.sub_self]
          exact (List.append_nil l).symm
        rw [el] at hO
        exact ⟨.ref o, rfl, qY e H3 o hO⟩
/-! ### told -/
abbrev sTold : Stmt := topS 17
theorem scTold : FnScope ["want", "n", "filters", "ages", "found"] ["want", "n", "filters", "ages"] (defScope sTold) := ⟨rfl, rfl, rfl, by decide +kernel, rfl, by decide +kernel, by decide +kernel⟩
def spTold (K : PySem.W.Frag) : Sp := fun vs H Q _ => ∃ (wt n : Nat) (fa aa : Addr) (fs s : List Nat), vs = [.int (wt : Nat), .int (n : Nat), .ref fa, .ref aa] ∧ SqL K H fa (vN fs) ∧ SqL K H aa (vN s) ∧ fs.length ≤ 50 ∧ s.length ≤ 50 ∧
  ∀ H' D, H' D = some (.lst ((toldM wt n fs s).map V.int)) → Q (.ref D) H'
theorem ok_told {f fA fK f1 f2 f3 f4 f5 f6 : Addr} {fd fdA fdK fd1 fd2 fd3 fd4 fd5 fd6 : FuncData} (F : Fun K "told" "told" sTold f fd)
    (FA : Fun K "are_filters" "are_filters" sAre fA fdA) (bA : Binds K fdA ["filters", "ages"] []) (gA : mg "are_filters" = some (.ref fA))
    (FK : Fun K "is_asked" "is_asked" sAsk fK fdK) (bK : Binds K fdK ["want", "filters", "ages"] []) (gK : mg "is_asked" = some (.ref fK))
    (F1 : Fun K "flow_of" "flow_of" sFlow f1 fd1) (b1 : Binds K fd1 ["filters", "ages", "washed"] []) (g1 : mg "flow_of" = some (.ref f1))
    (F2 : Fun K "ages_behind" "ages_behind" sBehind f2 fd2) (b2 : Binds K fd2 ["ages", "washed"] []) (g2 : mg "ages_behind" = some (.ref f2))
    (F3 : Fun K "all_ages" "all_ages" sAll f3 fd3) (b3 : Binds K fd3 ["many"] []) (g3 : mg "all_ages" = some (.ref f3))
    (F4 : Fun K "first_turn" "first_turn" sFirst f4 fd4) (b4 : Binds K fd4 ["want", "filters", "ages", "kept"] []) (g4 : mg "first_turn" = some (.ref f4))
    (F5 : Fun K "kept_ages" "kept_ages" sKept f5 fd5) (b5 : Binds K fd5 ["want", "filters", "many"] []) (g5 : mg "kept_ages" = some (.ref f5))
    (F6 : Fun K "turns_told" "turns_told" sTurns f6 fd6) (b6 : Binds K fd6 ["want", "filters", "ages", "many"] []) (g6 : mg "turns_told" = some (.ref f6))
    (B : Bl mg) (M : Mo mg) (gW : ∃ t, mg "MOST_WANT" = some (.int 100 t)) (gT : ∃ t, mg "MOST_TOLD" = some (.int 40 t)) (gC : ∃ t, mg "CANNOT" = some (.int (-33) t)) : FnOk P w K mg base CX0 5 f fd ["want", "n", "filters", "ages"] (spTold K) := by
  obtain ⟨tN, gN⟩ := M.notso
  obtain ⟨tT, gT⟩ := gT
  obtain ⟨tC', gC⟩ := gC
  have GK : FnOk P w K mg base CX0 4 fK fdK ["want", "filters", "ages"] (spAsk K) := ok_ask FK FA bA gA B M gW
  have G6 : FnOk P w K mg base CX0 4 f6 fd6 ["want", "filters", "ages", "many"] (spTurns K) := ok_turns F6 F1 b1 g1 F2 b2 g2 F3 b3 g3 F4 b4 g4 F5 b5 g5 B
  refine F.ok scTold (fun vs H Q E h => ?_) (fun cdv A outer st H vs Q E hr h => ?_)
  · obtain ⟨wt, n, fa, aa, fs, s, rfl, _⟩ := h
    rfl
  · obtain ⟨wt, n, fa, aa, fs, s, rfl, hF, hA, hlf, hls, q⟩ := h
    have hu := hu_of hr
    refine ⟨_, pss_cons (ps_if (PW.pt (pw_or (pt_not (pt_val (pe_call GK hr (by rfl) gK FK.kp bK .nil pass0 (pa_cons (pv 0) (pa_cons (pv 2) (pa_cons (pv 3) pa_nil)))))) (pw_or1 (pt_cmpR op_gt (pv 1) (pe_glob (v := .int 40) rfl gT ⟨_, rfl⟩) (nomark _)))))
        (pss_one (ps_ret (pe_lst (pa_cons (pe_glob (v := .int (-22)) rfl gN ⟨_, rfl⟩) pa_nil)))) pss_nil)
      (pss_cons (ps_set (i := 4) scTold.nd rfl (.inl rfl) (pe_call G6 hr (by rfl) g6 F6.kp b6 .nil pass0 (pa_cons (pv 0) (pa_cons (pv 2) (pa_cons (pe_callTy call_tuple_of (by rfl) B.tup (by decide +kernel) (pa_cons (pv 3) pa_nil)) (pa_cons (pv 1) pa_nil))))))
      (pss_cons (ps_if (pt_cmp (pc_isN (pv 4))) (pss_one (ps_ret (pe_lst (pa_cons (pe_glob (v := .int (-33)) rfl gC ⟨_, rfl⟩) pa_nil)))) pss_nil)
      (pss_one (ps_ret (pe_op op_cat (pe_lst (pa_cons (pv 1) pa_nil)) (pv 4)))))), ?_⟩
    refine ⟨.int (wt : Nat), rfl, .ref fa, rfl, .ref aa, rfl, wt, fa, aa, fs, s, rfl, hF, hA, hlf, hls, fun H1 s1 => ⟨_, rfl, ?_⟩⟩
    cases e1 : (areB fs s && decide (wt ≤ 100)) with
    | false =>
      refine iteT (iteT ⟨by show 1 ≤ sizeLine; decide, fun D nD => q _ D ?_⟩)
      rw [upd_same, toldM_no (.inl e1)]
      rfl
    | true =>
      refine iteF ⟨.int (n : Nat), rfl, _, _, rfl, rfl, _, rfl, ite2 (fun c => ?_) (fun c => ?_)⟩
      · have c1 : 40 < n := by
          have := of_decide_eq_true c
          omega
        refine ⟨by show 1 ≤ sizeLine; decide, fun D nD => q _ D ?_⟩
        rw [upd_same, toldM_no (.inr c1)]
        rfl
      · have c1 : n ≤ 40 := by
          have := of_decide_eq_false (Bool.eq_false_iff.mpr c)
          omega
        rw [Bool.and_eq_true, decide_eq_true_eq] at e1
        obtain ⟨h3, ho, _, _, hm⟩ := are_ok e1.1
        refine ⟨.int (wt : Nat), rfl, .ref fa, rfl, .ref aa, rfl, aa, vN s, rfl, .inl ⟨s1.seq hA, fun t nt => ?_⟩⟩
        have s2 : Same H (upd H1 t (.tup (vN s))) := s1.trans (same_new nt)
        refine ⟨.int (n : Nat), rfl, wt, fa, t, fs, s, s.length, n, rfl, s2.seq hF, upd_same, h3, ho, hm, c1, fun e H3 => ?_, fun e H3 D hD => ?_⟩
        · refine ⟨.non, rfl, _, rfl, iteT ⟨by show 1 ≤ sizeLine; decide, fun D nD => q _ D ?_⟩⟩
          rw [upd_same, toldM_cannot e1.1 e1.2 c1 e]
          rfl
        · refine ⟨.ref D, rfl, _, rfl, iteF ⟨.int (n : Nat), rfl, by show 1 ≤ sizeLine; decide, fun y ny => ⟨.ref D, rfl, y, D, _, vN (Ks441.told (filtersOf fs) wt (Ks441.ever (filtersOf fs) wt) n s), rfl, rfl, upd_same, ?_, ?_, fun x nx => q _ x ?_⟩⟩⟩
          · rw [upd_ne (ne_of_none hD ny)]
            exact hD
          · have := told_len (f := filtersOf fs) (want := wt) (l := Ks441.ever (filtersOf fs) wt) n s
            rw [vN_len]
            exact small_le (by show 1 + _ ≤ _; omega)
          · rw [upd_same, toldM_yes e1.1 e1.2 c1 e]
            refine congrArg (fun z => some (HO.lst (V.int (n : Nat) :: z))) ?_
            unfold vN
            rw [List.map_map]
            rfl
end
/-! ### the end: what the top has left -/
theorem all_mk {P : Program} {w : World} {K : PySem.W.Frag} {h : Heap} {mg : Str → Option Value} {fa f1 f2 f3 f4 f5 f6 f7 f8 f9 : Addr} (X : K.In h) (G : h.Ns mainGlobals mg) (hfa : mg "told" = some (.ref fa))
    {od1 an1 od2 an2 od3 an3 od4 an4 od5 an5 od6 an6 od7 an7 od8 an8 od9 an9 : Option Addr} {sl1 sl2 sl3 sl4 sl5 sl6 sl7 sl8 sl9 : Array (Option Value)} {oc1 kV1 dc1 pm1 cd1 ct1 oc2 kV2 dc2 pm2 cd2 ct2 oc3 kV3 dc3 pm3 cd3 ct3 oc4 kV4 dc4 pm4 cd4 ct4 oc5 kV5 dc5 pm5 cd5 ct5 oc6 kV6 dc6 pm6 cd6 ct6 oc7 kV7 dc7 pm7 cd7 ct7 oc8 kV8 dc8 pm8 cd8 ct8 oc9 kV9 dc9 pm9 cd9 ct9 : Value} {t_OLDEST t_MOST_FILTERS t_MOST_FLOW t_NOT_SO t_MOST_WANT t_MOST_TOLD t_CANNOT : Tok}
    (a1 : PySem.W.nsIn K mainGlobals "are_filters" = some (some (.ref f1)))
    (l1 : K.lookup f1 = some ⟨oc1, od1, .func (PySem.W.fnOf "are_filters" "are_filters" (defArgs sAre) (defBody sAre) (defScope sAre) .none kV1 dc1 pm1 an1 cd1 ct1), sl1⟩)
    (c1 : PySem.W.codeIn K cd1 "are_filters" = true)
    (k1 : PySem.W.keepIn K (.ref f1) = true)
    (a2 : PySem.W.nsIn K mainGlobals "is_asked" = some (some (.ref f2)))
    (l2 : K.lookup f2 = some ⟨oc2, od2, .func (PySem.W.fnOf "is_asked" "is_asked" (defArgs sAsk) (defBody sAsk) (defScope sAsk) .none kV2 dc2 pm2 an2 cd2 ct2), sl2⟩)
    (c2 : PySem.W.codeIn K cd2 "is_asked" = true)
    (k2 : PySem.W.keepIn K (.ref f2) = true)
    (a3 : PySem.W.nsIn K mainGlobals "flow_of" = some (some (.ref f3)))
    (l3 : K.lookup f3 = some ⟨oc3, od3, .func (PySem.W.fnOf "flow_of" "flow_of" (defArgs sFlow) (defBody sFlow) (defScope sFlow) .none kV3 dc3 pm3 an3 cd3 ct3), sl3⟩)
    (c3 : PySem.W.codeIn K cd3 "flow_of" = true)
    (k3 : PySem.W.keepIn K (.ref f3) = true)
    (a4 : PySem.W.nsIn K mainGlobals "ages_behind" = some (some (.ref f4)))
    (l4 : K.lookup f4 = some ⟨oc4, od4, .func (PySem.W.fnOf "ages_behind" "ages_behind" (defArgs sBehind) (defBody sBehind) (defScope sBehind) .none kV4 dc4 pm4 an4 cd4 ct4), sl4⟩)
    (c4 : PySem.W.codeIn K cd4 "ages_behind" = true)
    (k4 : PySem.W.keepIn K (.ref f4) = true)
    (a5 : PySem.W.nsIn K mainGlobals "all_ages" = some (some (.ref f5)))
    (l5 : K.lookup f5 = some ⟨oc5, od5, .func (PySem.W.fnOf "all_ages" "all_ages" (defArgs sAll) (defBody sAll) (defScope sAll) .none kV5 dc5 pm5 an5 cd5 ct5), sl5⟩)
    (c5 : PySem.W.codeIn K cd5 "all_ages" = true)
    (k5 : PySem.W.keepIn K (.ref f5) = true)
    (a6 : PySem.W.nsIn K mainGlobals "first_turn" = some (some (.ref f6)))
    (l6 : K.lookup f6 = some ⟨oc6, od6, .func (PySem.W.fnOf "first_turn" "first_turn" (defArgs sFirst) (defBody sFirst) (defScope sFirst) .none kV6 dc6 pm6 an6 cd6 ct6), sl6⟩)
    (c6 : PySem.W.codeIn K cd6 "first_turn" = true)
    (k6 : PySem.W.keepIn K (.ref f6) = true)
    (a7 : PySem.W.nsIn K mainGlobals "kept_ages" = some (some (.ref f7)))
    (l7 : K.lookup f7 = some ⟨oc7, od7, .func (PySem.W.fnOf "kept_ages" "kept_ages" (defArgs sKept) (defBody sKept) (defScope sKept) .none kV7 dc7 pm7 an7 cd7 ct7), sl7⟩)
    (c7 : PySem.W.codeIn K cd7 "kept_ages" = true)
    (k7 : PySem.W.keepIn K (.ref f7) = true)
    (a8 : PySem.W.nsIn K mainGlobals "turns_told" = some (some (.ref f8)))
    (l8 : K.lookup f8 = some ⟨oc8, od8, .func (PySem.W.fnOf "turns_told" "turns_told" (defArgs sTurns) (defBody sTurns) (defScope sTurns) .none kV8 dc8 pm8 an8 cd8 ct8), sl8⟩)
    (c8 : PySem.W.codeIn K cd8 "turns_told" = true)
    (k8 : PySem.W.keepIn K (.ref f8) = true)
    (a9 : PySem.W.nsIn K mainGlobals "told" = some (some (.ref f9)))
    (l9 : K.lookup f9 = some ⟨oc9, od9, .func (PySem.W.fnOf "told" "told" (defArgs sTold) (defBody sTold) (defScope sTold) .none kV9 dc9 pm9 an9 cd9 ct9), sl9⟩)
    (c9 : PySem.W.codeIn K cd9 "told" = true)
    (k9 : PySem.W.keepIn K (.ref f9) = true)
    (z_len : PySem.W.nsIn K mainGlobals "len" = some none)
    (z_range : PySem.W.nsIn K mainGlobals "range" = some none)
    (z_enumerate : PySem.W.nsIn K mainGlobals "enumerate" = some none)
    (z_min : PySem.W.nsIn K mainGlobals "min" = some none)
    (z_tuple : PySem.W.nsIn K mainGlobals "tuple" = some none)
    (z_int : PySem.W.nsIn K mainGlobals "int" = some none)
    (n_OLDEST : PySem.W.nsIn K mainGlobals "OLDEST" = some (some (.int 4 t_OLDEST)))
    (n_MOST_FILTERS : PySem.W.nsIn K mainGlobals "MOST_FILTERS" = some (some (.int 3 t_MOST_FILTERS)))
    (n_MOST_FLOW : PySem.W.nsIn K mainGlobals "MOST_FLOW" = some (some (.int 20 t_MOST_FLOW)))
    (n_NOT_SO : PySem.W.nsIn K mainGlobals "NOT_SO" = some (some (.int (-22) t_NOT_SO)))
    (n_MOST_WANT : PySem.W.nsIn K mainGlobals "MOST_WANT" = some (some (.int 100 t_MOST_WANT)))
    (n_MOST_TOLD : PySem.W.nsIn K mainGlobals "MOST_TOLD" = some (some (.int 40 t_MOST_TOLD)))
    (n_CANNOT : PySem.W.nsIn K mainGlobals "CANNOT" = some (some (.int (-33) t_CANNOT))) :
    ∃ fd : FuncData, (∀ (s : Shared) (us : List Value), us.length = (["want", "n", "filters", "ages"] : List Str).length → BindsTo s fd ⟨us, []⟩ ((["want", "n", "filters", "ages"] : List Str).zip us)) ∧ ∀ base : Heap, K.In base → base.Ns mainGlobals mg → FnOk P w K mg base CX0 5 fa fd ["want", "n", "filters", "ages"] (spTold K) := by
  have e := hfa.symm.trans (PySem.W.mg_of X G a9)
  cases e
  have F1 := fun_mk (st := sAre) l1 c1 k1
  have F2 := fun_mk (st := sAsk) l2 c2 k2
  have F3 := fun_mk (st := sFlow) l3 c3 k3
  have F4 := fun_mk (st := sBehind) l4 c4 k4
  have F5 := fun_mk (st := sAll) l5 c5 k5
  have F6 := fun_mk (st := sFirst) l6 c6 k6
  have F7 := fun_mk (st := sKept) l7 c7 k7
  have F8 := fun_mk (st := sTurns) l8 c8 k8
  have F9 := fun_mk (st := sTold) l9 c9 k9
  have b1 := F1.binds (ps := ["filters", "ages"]) fun _ _ _ _ _ _ us hl => match us, hl with | [_, _], _ => rfl
  have b2 := F2.binds (ps := ["want", "filters", "ages"]) fun _ _ _ _ _ _ us hl => match us, hl with | [_, _, _], _ => rfl
  have b3 := F3.binds (ps := ["filters", "ages", "washed"]) fun _ _ _ _ _ _ us hl => match us, hl with | [_, _, _], _ => rfl
  have b4 := F4.binds (ps := ["ages", "washed"]) fun _ _ _ _ _ _ us hl => match us, hl with | [_, _], _ => rfl
  have b5 := F5.binds (ps := ["many"]) fun _ _ _ _ _ _ us hl => match us, hl with | [_], _ => rfl
  have b6 := F6.binds (ps := ["want", "filters", "ages", "kept"]) fun _ _ _ _ _ _ us hl => match us, hl with | [_, _, _, _], _ => rfl
  have b7 := F7.binds (ps := ["want", "filters", "many"]) fun _ _ _ _ _ _ us hl => match us, hl with | [_, _, _], _ => rfl
  have b8 := F8.binds (ps := ["want", "filters", "ages", "many"]) fun _ _ _ _ _ _ us hl => match us, hl with | [_, _, _, _], _ => rfl
  have B : Bl mg := ⟨PySem.W.mg_none_of X G z_len, PySem.W.mg_none_of X G z_range, PySem.W.mg_none_of X G z_enumerate, PySem.W.mg_none_of X G z_min, PySem.W.mg_none_of X G z_tuple, PySem.W.mg_none_of X G z_int, ⟨_, PySem.W.mg_of X G n_OLDEST⟩⟩
  have M : Mo mg := ⟨⟨_, PySem.W.mg_of X G n_MOST_FILTERS⟩, ⟨_, PySem.W.mg_of X G n_MOST_FLOW⟩, ⟨_, PySem.W.mg_of X G n_NOT_SO⟩⟩
  exact ⟨PySem.W.fnOf "told" "told" (defArgs sTold) (defBody sTold) (defScope sTold) .none kV9 dc9 pm9 an9 cd9 ct9, fun s us hu => match us, hu with | [_, _, _, _], _ => .of_eq rfl,
    fun base _ _ => ok_told F9 F1 b1 (PySem.W.mg_of X G a1) F2 b2 (PySem.W.mg_of X G a2) F3 b3 (PySem.W.mg_of X G a3) F4 b4 (PySem.W.mg_of X G a4) F5 b5 (PySem.W.mg_of X G a5) F6 b6 (PySem.W.mg_of X G a6) F7 b7 (PySem.W.mg_of X G a7) F8 b8 (PySem.W.mg_of X G a8) B M ⟨_, PySem.W.mg_of X G n_MOST_WANT⟩ ⟨_, PySem.W.mg_of X G n_MOST_TOLD⟩ ⟨_, PySem.W.mg_of X G n_CANNOT⟩⟩
theorem ints_vN : ∀ l : List Int, (∀ x ∈ l, 0 ≤ x) → l.map V.int = vN (l.map Int.toNat)
  | [], _ => rfl
  | x :: r, h => by
    have h0 := h x (List.mem_cons_self ..)
    show V.int x :: r.map V.int = V.int ((x.toNat : Nat) : Int) :: vN (r.map Int.toNat)
    rw [ints_vN r fun y hy => h y (List.mem_cons_of_mem _ hy), Int.toNat_of_nonneg h0]
theorem list_in {l : List Int} {hi : Int} (h : (PySem.W.Codec.inLen 0 50 l && l.all (PySem.W.Codec.inInt 0 hi)) = true) : (l.map Int.toNat).length ≤ 50 ∧ l.map V.int = vN (l.map Int.toNat) := by
  rw [Bool.and_eq_true] at h
  refine ⟨?_, ints_vN l fun x hx => (PySem.W.Codec.inInt_iff.mp (List.all_eq_true.mp h.2 x hx)).1⟩
  rw [List.length_map]
  exact (PySem.W.Codec.inNat_iff.mp h.1).2
theorem dw_cons {K : PySem.W.Frag} {H : Hp} {xs : List V} {d : PySem.W.WData} {ds : List PySem.W.WData} (h : DwAll K H xs (d :: ds)) : ∃ v vs, xs = v :: vs ∧ Dw K H v d ∧ DwAll K H vs ds := by
  cases h with
  | cons h1 h2 => exact ⟨_, _, rfl, h1, h2⟩
theorem dw_nil {K : PySem.W.Frag} {H : Hp} {xs : List V} (h : DwAll K H xs []) : xs = [] := by
  cases h
  rfl
theorem dw_list {K : PySem.W.Frag} {H : Hp} {v : V} {ds : List PySem.W.WData} (h : Dw K H v (.list ds)) : ∃ p ys, v = .ref p ∧ SqL K H p ys ∧ DwAll K H ys ds := by
  cases h with
  | lst h1 h2 => exact ⟨_, _, rfl, h1, h2⟩
theorem dw_int {K : PySem.W.Frag} {H : Hp} {v : V} {i : Int} (h : Dw K H v (.int i)) : v = .int i := by
  cases h
  rfl
end WT
open PySem PySem.W PyProof.Rows
set_option maxRecDepth 100000 in
set_option maxHeartbeats 8000000 in
theorem PySem.Challenge.cw_washedturns_s03_told_holds : PySem.Challenge.rw_washedturns_s03_told.Holds := by
  w_on; k_headS; (case hw => exact ⟨[.int 0, .int 0, .list [], .list []], by decide +kernel, by decide +kernel⟩)
  k_fillS
  refine L2.walk_specK (r := PySem.Challenge.rw_washedturns_s03_told) (k := 5) (CX := L2.CX0) (ps := ["want", "n", "filters", "ages"]) (sp := WT.spTold) (by decide +kernel) rfl rfl ⟨rfl, by decide, by decide⟩ (fun w h Y => PySem.W.kIn_of Y) ?F ?S (fun _ _ _ _ z => z)
  case F =>
    intro w mg fa h Y KX G hmg
    refine' WT.all_mk KX G hmg ?a1 ?l1 ?c1 ?k1 ?a2 ?l2 ?c2 ?k2 ?a3 ?l3 ?c3 ?k3 ?a4 ?l4 ?c4 ?k4 ?a5 ?l5 ?c5 ?k5 ?a6 ?l6 ?c6 ?k6 ?a7 ?l7 ?c7 ?k7 ?a8 ?l8 ?c8 ?k8 ?a9 ?l9 ?c9 ?k9 ?z_len ?z_range ?z_enumerate ?z_min ?z_tuple ?z_int ?n_OLDEST ?n_MOST_FILTERS ?n_MOST_FLOW ?n_NOT_SO ?n_MOST_WANT ?n_MOST_TOLD ?n_CANNOT
    (case a1 => k_is)
    (case l1 => k_is)
    (case c1 => k_is)
    (case k1 => k_is)
    (case a2 => k_is)
    (case l2 => k_is)
    (case c2 => k_is)
    (case k2 => k_is)
    (case a3 => k_is)
    (case l3 => k_is)
    (case c3 => k_is)
    (case k3 => k_is)
    (case a4 => k_is)
    (case l4 => k_is)
    (case c4 => k_is)
    (case k4 => k_is)
    (case a5 => k_is)
    (case l5 => k_is)
    (case c5 => k_is)
    (case k5 => k_is)
    (case a6 => k_is)
    (case l6 => k_is)
    (case c6 => k_is)
    (case k6 => k_is)
    (case a7 => k_is)
    (case l7 => k_is)
    (case c7 => k_is)
    (case k7 => k_is)
    (case a8 => k_is)
    (case l8 => k_is)
    (case c8 => k_is)
    (case k8 => k_is)
    (case a9 => k_is)
    (case l9 => k_is)
    (case c9 => k_is)
    (case k9 => k_is)
    (case z_len => k_is)
    (case z_range => k_is)
    (case z_enumerate => k_is)
    (case z_min => k_is)
    (case z_tuple => k_is)
    (case z_int => k_is)
    (case n_OLDEST => k_is)
    (case n_MOST_FILTERS => k_is)
    (case n_MOST_FLOW => k_is)
    (case n_NOT_SO => k_is)
    (case n_MOST_WANT => k_is)
    (case n_MOST_TOLD => k_is)
    (case n_CANNOT => k_is)
  case S =>
    intro K H xs a hO hwi hask hx
    have q : (Codec.inInt 0 4294967295 a.1 && (Codec.inInt 0 4294967295 a.2.1 && ((Codec.inLen 0 50 a.2.2.1 && a.2.2.1.all (Codec.inInt 0 4294967295)) && ((Codec.inLen 0 50 a.2.2.2.1 && a.2.2.2.1.all (Codec.inInt 0 4294967295)) && true)))) = true := hwi
    have w0 := q
    obtain ⟨q0, w1⟩ := Bool.and_eq_true_iff.mp w0
    obtain ⟨q1, w2⟩ := Bool.and_eq_true_iff.mp w1
    obtain ⟨q2, w3⟩ := Bool.and_eq_true_iff.mp w2
    obtain ⟨q3, w4⟩ := Bool.and_eq_true_iff.mp w3
    have y0 : L2.DwAll K H xs [WData.int a.1, WData.int a.2.1, .list (a.2.2.1.map WData.int), .list (a.2.2.2.1.map WData.int)] := hx
    obtain ⟨v0, x0, rfl, d0, y1⟩ := WT.dw_cons y0
    cases WT.dw_int d0
    have g0 := (Codec.inInt_iff.mp q0).1
    obtain ⟨v1, x1, rfl, d1, y2⟩ := WT.dw_cons y1
    cases WT.dw_int d1
    have g1 := (Codec.inInt_iff.mp q1).1
    obtain ⟨v2, x2, rfl, d2, y3⟩ := WT.dw_cons y2
    obtain ⟨p2, z2, rfl, s2, m2⟩ := WT.dw_list d2
    obtain ⟨g2, u2⟩ := WT.list_in q2
    rw [L2.ints_dw a.2.2.1 _ m2, u2] at s2
    obtain ⟨v3, x3, rfl, d3, y4⟩ := WT.dw_cons y3
    obtain ⟨p3, z3, rfl, s3, m3⟩ := WT.dw_list d3
    obtain ⟨g3, u3⟩ := WT.list_in q3
    rw [L2.ints_dw a.2.2.2.1 _ m3, u3] at s3
    cases WT.dw_nil y4
    exact ⟨a.1.toNat, a.2.1.toNat, p2, p3, a.2.2.1.map Int.toNat, a.2.2.2.1.map Int.toNat, by rw [Int.toNat_of_nonneg g0, Int.toNat_of_nonneg g1], s2, s3, g2, g3, fun H2 D hD => .lst (L2.SqL.of hD) (L2.dw_ints _)⟩
#print axioms PySem.Challenge.cw_washedturns_s03_told_holds
