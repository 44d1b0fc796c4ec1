import PyProof.Rows.All
import Wide.All
import OpenK.AllK
import Wide.FinOn
import PyProof.EqAt
import PyProof.EqKinds
import PyProof.TupleCall
import HandS.ForMost
import PySem.Challenge.RW_stylepages_k57_whole_two_ways_of_lines
import KE.DataMinMax
import HandS.ClsMeth
import HandS.TupAny
import HandS.Style
import KE.KStateDown
import KE.KExcSuper
import HandS.Exc
import HandS.Defaults
import HandS.Head0
import HandS.Head1
import HandS.Head2
import HandS.HeadEnd
import HandS.HeadHook1
import HandS.HeadHook2
import HandS.HeadNt
import HandS.Wide
import HandS.IsInst
import KE.SortData
import HandS.Iter
import HandS.ExcInit
import HandS.ExcField
import HandS.ExcOwn
import HandS.WordsExc
import HandS.Conv
import HandS.MakeKwOnly
import KE.KTupSum
set_option Elab.async false
set_option linter.all false
set_option maxRecDepth 100000
/-! The places of the defs in the row, and their scopes: printed by gen.py. -/
namespace Sp
open PySem PySem.Spec PyProof.Rows L2
def top (i : Nat) : Stmt := PySem.Challenge.pw_stylepages_k57_whole_two_ways_of_lines.main.body.getD i (.Pass ⟨0, 0, 0, 0⟩)
abbrev s_Blocked_init : Stmt := inClass (top 3) 0
abbrev s_Glue_init : Stmt := inClass (top 5) 0
theorem sc_Glue_init : FnScope ["self", "width", "stretch", "shrink"] ["self", "width", "stretch", "shrink"] (defScope s_Glue_init) := ⟨rfl, rfl, rfl, by decide +kernel, rfl, by decide +kernel, by decide +kernel⟩
abbrev s_Glue_add : Stmt := inClass (top 5) 2
theorem sc_Glue_add : FnScope ["self", "other"] ["self", "other"] (defScope s_Glue_add) := ⟨rfl, rfl, rfl, by decide +kernel, rfl, by decide +kernel, by decide +kernel⟩
abbrev s_ends_at_hyphen : Stmt := top 7
theorem sc_ends_at_hyphen : FnScope ["row", "end", "widths", "joints"] ["row", "end"] (defScope s_ends_at_hyphen) := ⟨rfl, rfl, rfl, by decide +kernel, rfl, by decide +kernel, by decide +kernel⟩
abbrev s_joint_glue : Stmt := top 8
theorem sc_joint_glue : FnScope ["joint"] ["joint"] (defScope s_joint_glue) := ⟨rfl, rfl, rfl, by decide +kernel, rfl, by decide +kernel, by decide +kernel⟩
abbrev s_extended_glue : Stmt := top 9
theorem sc_extended_glue : FnScope ["row", "inner", "box", "widths", "joints"] ["row", "inner", "box"] (defScope s_extended_glue) := ⟨rfl, rfl, rfl, by decide +kernel, rfl, by decide +kernel, by decide +kernel⟩
abbrev s_finished_glue : Stmt := top 10
theorem sc_finished_glue : FnScope ["row", "inner", "end"] ["row", "inner", "end"] (defScope s_finished_glue) := ⟨rfl, rfl, rfl, by decide +kernel, rfl, by decide +kernel, by decide +kernel⟩
abbrev s_line_glue : Stmt := top 11
theorem sc_line_glue : FnScope ["row", "start", "end", "inner", "box"] ["row", "start", "end"] (defScope s_line_glue) := ⟨rfl, rfl, rfl, by decide +kernel, rfl, by decide +kernel, by decide +kernel⟩
abbrev s_room_of : Stmt := top 12
theorem sc_room_of : FnScope ["start", "measure"] ["start", "measure"] (defScope s_room_of) := ⟨rfl, rfl, rfl, by decide +kernel, rfl, by decide +kernel, by decide +kernel⟩
abbrev s_both_price : Stmt := top 13
theorem sc_both_price : FnScope ["glue", "room", "last", "loose", "rest"] ["glue", "room", "last", "loose"] (defScope s_both_price) := ⟨rfl, rfl, rfl, by decide +kernel, rfl, by decide +kernel, by decide +kernel⟩
abbrev s_left_price : Stmt := top 14
theorem sc_left_price : FnScope ["glue", "room", "last", "rest"] ["glue", "room", "last"] (defScope s_left_price) := ⟨rfl, rfl, rfl, by decide +kernel, rfl, by decide +kernel, by decide +kernel⟩
abbrev s_price_with_glue : Stmt := top 15
theorem sc_price_with_glue : FnScope ["row", "end", "glue", "room", "measure", "last", "price"] ["row", "end", "glue", "room", "measure"] (defScope s_price_with_glue) := ⟨rfl, rfl, rfl, by decide +kernel, rfl, by decide +kernel, by decide +kernel⟩
abbrev s_extra_of : Stmt := top 16
theorem sc_extra_of : FnScope ["rest", "glue", "before", "last", "measure"] ["rest", "glue", "before", "last", "measure"] (defScope s_extra_of) := ⟨rfl, rfl, rfl, by decide +kernel, rfl, by decide +kernel, by decide +kernel⟩
abbrev s_box_places : Stmt := top 17
theorem sc_box_places : FnScope ["row", "start", "end", "measure", "widths", "joints", "glue", "rest", "last", "plain", "before", "places", "box", "joint"] ["row", "start", "end", "measure"] (defScope s_box_places) := ⟨rfl, rfl, rfl, by decide +kernel, rfl, by decide +kernel, by decide +kernel⟩
abbrev s_gap_spans : Stmt := top 18
theorem sc_gap_spans : FnScope ["row", "start", "end", "measure", "widths", "joints", "places", "spans", "box", "right_end"] ["row", "start", "end", "measure"] (defScope s_gap_spans) := ⟨rfl, rfl, rfl, by decide +kernel, rfl, by decide +kernel, by decide +kernel⟩
abbrev s_count_overlapping : Stmt := top 19
theorem sc_count_overlapping : FnScope ["upper", "lower", "count", "at", "first", "end"] ["upper", "lower"] (defScope s_count_overlapping) := ⟨rfl, rfl, rfl, by decide +kernel, rfl, by decide +kernel, by decide +kernel⟩
abbrev s_price_with_count : Stmt := top 20
theorem sc_price_with_count : FnScope ["row", "middle", "end", "measure", "count"] ["row", "middle", "end", "measure", "count"] (defScope s_price_with_count) := ⟨rfl, rfl, rfl, by decide +kernel, rfl, by decide +kernel, by decide +kernel⟩
abbrev s_lines_from : Stmt := top 22
theorem sc_lines_from : FnScope ["row", "start", "measure", "widths", "room", "inner", "found", "end", "price"] ["row", "start", "measure"] (defScope s_lines_from) := ⟨rfl, rfl, rfl, by decide +kernel, rfl, by decide +kernel, by decide +kernel⟩
abbrev s_LineTable_init : Stmt := inClass (top 23) 0
theorem sc_LineTable_init : FnScope ["self", "row", "measure", "start", "end", "price"] ["self", "row", "measure"] (defScope s_LineTable_init) := ⟨rfl, rfl, rfl, by decide +kernel, rfl, by decide +kernel, by decide +kernel⟩
abbrev s_LineTable_pair : Stmt := inClass (top 23) 1
theorem sc_LineTable_pair : FnScope ["self", "start", "middle", "end", "count"] ["self", "start", "middle", "end"] (defScope s_LineTable_pair) := ⟨rfl, rfl, rfl, by decide +kernel, rfl, by decide +kernel, by decide +kernel⟩
abbrev s_farthest_ends : Stmt := top 25
theorem sc_farthest_ends : FnScope ["table", "farthest", "middle", "best", "start", "end", "price"] ["table"] (defScope s_farthest_ends) := ⟨rfl, rfl, rfl, by decide +kernel, rfl, by decide +kernel, by decide +kernel⟩
abbrev s_stretch_of : Stmt := top 26
theorem sc_stretch_of : FnScope ["table", "farthest", "covered", "shortest", "start", "length"] ["table"] (defScope s_stretch_of) := ⟨rfl, rfl, rfl, by decide +kernel, rfl, by decide +kernel, by decide +kernel⟩
abbrev s_prefixes_to : Stmt := top 28
theorem sc_prefixes_to : FnScope ["table", "best", "place", "found"] ["table", "best", "place"] (defScope s_prefixes_to) := ⟨rfl, rfl, rfl, by decide +kernel, rfl, by decide +kernel, by decide +kernel⟩
abbrev s_best_prefixes : Stmt := top 29
theorem sc_best_prefixes : FnScope ["table", "best", "middle", "prefixes", "end", "price", "found", "spent", "lines", "ends", "start", "pair"] ["table"] (defScope s_best_prefixes) := ⟨rfl, rfl, rfl, by decide +kernel, rfl, by decide +kernel, by decide +kernel⟩
abbrev s_break_forward : Stmt := top 30
theorem sc_break_forward : FnScope ["row", "measure", "table", "found", "start", "end", "price", "lines", "ends"] ["row", "measure"] (defScope s_break_forward) := ⟨rfl, rfl, rfl, by decide +kernel, rfl, by decide +kernel, by decide +kernel⟩
abbrev s_continuations : Stmt := top 32
theorem sc_continuations : FnScope ["table", "best", "start", "middle", "found", "end", "price", "pair", "rest", "lines", "next_end"] ["table", "best", "start", "middle"] (defScope s_continuations) := ⟨rfl, rfl, rfl, by decide +kernel, rfl, by decide +kernel, by decide +kernel⟩
abbrev s_best_continuations : Stmt := top 33
theorem sc_best_continuations : FnScope ["table", "best", "start", "middle", "found"] ["table"] (defScope s_best_continuations) := ⟨rfl, rfl, rfl, by decide +kernel, rfl, by decide +kernel, by decide +kernel⟩
abbrev s_break_lines : Stmt := top 34
theorem sc_break_lines : FnScope ["row", "measure", "table", "best", "found", "start", "end", "price", "lines", "ends"] ["row", "measure"] (defScope s_break_lines) := ⟨rfl, rfl, rfl, by decide +kernel, rfl, by decide +kernel, by decide +kernel⟩
abbrev s_Measure_init : Stmt := inClass (top 36) 0
theorem sc_Measure_init : FnScope ["self", "width", "indent", "align", "hyphen", "twin", "river", "loose"] ["self", "width", "indent", "align", "hyphen", "twin", "river", "loose"] (defScope s_Measure_init) := ⟨rfl, rfl, rfl, by decide +kernel, rfl, by decide +kernel, by decide +kernel⟩
abbrev s_Measure_of : Stmt := inClass (top 36) 2
theorem sc_Measure_of : FnScope ["key", "width", "indent", "align", "hyphen", "twin", "river", "loose"] ["key"] (defScope s_Measure_of) := ⟨rfl, rfl, rfl, by decide +kernel, rfl, by decide +kernel, by decide +kernel⟩
abbrev s_law_pool : Stmt := top 38
theorem sc_law_pool : FnScope ["_law_script", "_law_at", "_law_cell"] ["_law_script", "_law_at"] (defScope s_law_pool) := ⟨rfl, rfl, rfl, by decide +kernel, rfl, by decide +kernel, by decide +kernel⟩
abbrev s_law_take : Stmt := top 39
theorem sc_law_take : FnScope ["_law_pool_here", "_law_many", "_law_got", "_law_one", "_law_two"] ["_law_pool_here", "_law_many"] (defScope s_law_take) := ⟨rfl, rfl, rfl, by decide +kernel, rfl, by decide +kernel, by decide +kernel⟩
abbrev s_law_is_integer : Stmt := top 40
theorem sc_law_is_integer : FnScope ["_law_actual"] ["_law_actual"] (defScope s_law_is_integer) := ⟨rfl, rfl, rfl, by decide +kernel, rfl, by decide +kernel, by decide +kernel⟩
abbrev s_law_same : Stmt := top 41
theorem sc_law_same : FnScope ["_law_one", "_law_two", "_law_both", "_law_k"] ["_law_one", "_law_two"] (defScope s_law_same) := ⟨rfl, rfl, rfl, by decide +kernel, rfl, by decide +kernel, by decide +kernel⟩
abbrev s_law_joint : Stmt := top 42
theorem sc_law_joint : FnScope ["_law_pool_here", "_law_below", "_law_broad", "_law_more", "_law_wide"] ["_law_pool_here", "_law_below", "_law_broad"] (defScope s_law_joint) := ⟨rfl, rfl, rfl, by decide +kernel, rfl, by decide +kernel, by decide +kernel⟩
abbrev s_law_bare : Stmt := top 43
theorem sc_law_bare : FnScope ["_law_pool_here", "_law_least", "_law_often", "_law_many", "_law_broad", "_law_period", "_law_widths", "_law_k", "_law_joints", "_law_below"] ["_law_pool_here", "_law_least", "_law_often"] (defScope s_law_bare) := ⟨rfl, rfl, rfl, by decide +kernel, rfl, by decide +kernel, by decide +kernel⟩
abbrev s_law_glue : Stmt := top 44
theorem sc_law_glue : FnScope ["_law_row", "_law_start", "_law_end", "_law_wide", "_law_more", "_law_less", "_law_k", "_law_joint_here"] ["_law_row", "_law_start", "_law_end"] (defScope s_law_glue) := ⟨rfl, rfl, rfl, by decide +kernel, rfl, by decide +kernel, by decide +kernel⟩
abbrev s_law_line_key : Stmt := top 45
theorem sc_law_line_key : FnScope ["_law_pool_here", "_law_row", "_law_gaps", "_law_whole", "_law_sort", "_law_wide", "_law_start", "_law_end", "_law_reach", "_law_begin", "_law_side", "_law_one", "_law_two", "_law_stream", "_law_slack"] ["_law_pool_here", "_law_row"] (defScope s_law_line_key) := ⟨rfl, rfl, rfl, by decide +kernel, rfl, by decide +kernel, by decide +kernel⟩
abbrev s_law_mirror : Stmt := top 46
theorem sc_law_mirror : FnScope ["_law_row"] ["_law_row"] (defScope s_law_mirror) := ⟨rfl, rfl, rfl, by decide +kernel, rfl, by decide +kernel, by decide +kernel⟩
abbrev s_law_backward : Stmt := top 47
theorem sc_law_backward : FnScope ["_law_row", "_law_measure", "_law_told", "_law_stop", "e"] ["_law_row", "_law_measure"] (defScope s_law_backward) := ⟨rfl, rfl, rfl, by decide +kernel, rfl, by decide +kernel, by decide +kernel⟩
abbrev s_law_onward : Stmt := top 48
theorem sc_law_onward : FnScope ["_law_row", "_law_measure", "_law_told", "_law_stop", "e"] ["_law_row", "_law_measure"] (defScope s_law_onward) := ⟨rfl, rfl, rfl, by decide +kernel, rfl, by decide +kernel, by decide +kernel⟩
abbrev s_law_sound : Stmt := top 49
theorem sc_law_sound : FnScope ["_law_answer", "_law_many", "_law_told", "_law_stop", "_law_before", "_law_end"] ["_law_answer", "_law_many"] (defScope s_law_sound) := ⟨rfl, rfl, rfl, by decide +kernel, rfl, by decide +kernel, by decide +kernel⟩
abbrev s_law_agree : Stmt := top 50
theorem sc_law_agree : FnScope ["_law_row", "_law_measure", "_law_answers", "_law_onward_here", "_law_backward_here"] ["_law_row", "_law_measure", "_law_answers"] (defScope s_law_agree) := ⟨rfl, rfl, rfl, by decide +kernel, rfl, by decide +kernel, by decide +kernel⟩
abbrev s_law : Stmt := top 51
theorem sc_law : FnScope ["_law_script", "_law_row", "_law_key", "_law_measure", "_law_answers", "_law_one"] ["_law_script"] (defScope s_law) := ⟨rfl, rfl, rfl, by decide +kernel, rfl, by decide +kernel, by decide +kernel⟩
end Sp
/-! The plain law: forward and backward searches over one table agree. No program in sight. -/
namespace SpM

/-! ### orders -/
def leL : List Nat → List Nat → Prop
  | [], _ => True
  | _ :: _, [] => False
  | a :: as, b :: bs => a < b ∨ (a = b ∧ leL as bs)
def ltLb : List Nat → List Nat → Bool
  | _, [] => false
  | [], _ :: _ => true
  | a :: as, b :: bs => decide (a < b) || (decide (a = b) && ltLb as bs)
theorem leL_iff : ∀ x y : List Nat, ltLb y x = false ↔ leL x y
  | [], y => by cases y <;> simp [ltLb, leL]
  | a :: as, [] => by simp [ltLb, leL]
  | a :: as, b :: bs => by
    have ih := leL_iff as bs
    simp only [ltLb, leL, Bool.or_eq_false_iff, Bool.and_eq_false_iff, decide_eq_false_iff_not, ih]
    constructor
    · rintro ⟨h1, h2⟩
      by_cases h : a < b
      · exact .inl h
      · refine .inr ⟨by omega, ?_⟩
        rcases h2 with h2 | h2
        · exact absurd (by omega) h2
        · exact h2
    · rintro (h | ⟨h, h2⟩)
      · exact ⟨by omega, .inl (by omega)⟩
      · exact ⟨by omega, .inr h2⟩
theorem leL_refl : ∀ x : List Nat, leL x x
  | [] => trivial
  | _ :: as => .inr ⟨rfl, leL_refl as⟩
theorem leL_trans : ∀ {x y z : List Nat}, leL x y → leL y z → leL x z
  | [], _, _, _, _ => by simp [leL]
  | _ :: _, [], _, h, _ => by simp [leL] at h
  | _ :: _, _ :: _, [], _, h => by simp [leL] at h
  | a :: as, b :: bs, c :: cs, h1, h2 => by
    simp only [leL] at h1 h2 ⊢
    rcases h1 with h1 | ⟨h1, i1⟩
    · rcases h2 with h2 | ⟨h2, _⟩
      · exact .inl (by omega)
      · exact .inl (by omega)
    · rcases h2 with h2 | ⟨h2, i2⟩
      · exact .inl (by omega)
      · exact .inr ⟨by omega, leL_trans i1 i2⟩
theorem leL_antisymm : ∀ {x y : List Nat}, leL x y → leL y x → x = y
  | [], [], _, _ => rfl
  | [], _ :: _, _, h => by simp [leL] at h
  | _ :: _, [], h, _ => by simp [leL] at h
  | a :: as, b :: bs, h1, h2 => by
    simp only [leL] at h1 h2
    rcases h1 with h1 | ⟨h1, i1⟩
    · rcases h2 with h2 | ⟨h2, _⟩ <;> omega
    · rcases h2 with h2 | ⟨_, i2⟩
      · omega
      · rw [h1, leL_antisymm i1 i2]
theorem leL_total : ∀ x y : List Nat, leL x y ∨ leL y x
  | [], _ => .inl (by simp [leL])
  | _ :: _, [] => .inr (by simp [leL])
  | a :: as, b :: bs => by
    simp only [leL]
    rcases Nat.lt_trichotomy a b with h | h | h
    · exact .inl (.inl h)
    · rcases leL_total as bs with i | i
      · exact .inl (.inr ⟨h, i⟩)
      · exact .inr (.inr ⟨h.symm, i⟩)
    · exact .inr (.inl h)
theorem leL_snoc : ∀ {x y : List Nat} (e : Nat), x.length = y.length → leL x y → leL (x ++ [e]) (y ++ [e])
  | [], [], e, _, _ => leL_refl _
  | [], _ :: _, _, h, _ => by simp at h
  | _ :: _, [], _, h, _ => by simp at h
  | a :: as, b :: bs, e, h, l => by
    simp only [leL, List.cons_append] at l ⊢
    rcases l with l | ⟨l, i⟩
    · exact .inl l
    · exact .inr ⟨l, leL_snoc e (by simpa using h) i⟩

abbrev FT := Int × Int × List Nat
def leF (x y : FT) : Prop := x.1 < y.1 ∨ (x.1 = y.1 ∧ (x.2.1 < y.2.1 ∨ (x.2.1 = y.2.1 ∧ leL x.2.2 y.2.2)))
theorem leF_refl (x : FT) : leF x x := .inr ⟨rfl, .inr ⟨rfl, leL_refl _⟩⟩
theorem leF_trans {x y z : FT} (h1 : leF x y) (h2 : leF y z) : leF x z := by
  unfold leF at *
  rcases h1 with h1 | ⟨h1, h1 | ⟨h1', i1⟩⟩ <;> rcases h2 with h2 | ⟨h2, h2 | ⟨h2', i2⟩⟩
  · exact .inl (by omega)
  · exact .inl (by omega)
  · exact .inl (by omega)
  · exact .inl (by omega)
  · exact .inr ⟨by omega, .inl (by omega)⟩
  · exact .inr ⟨by omega, .inl (by omega)⟩
  · exact .inl (by omega)
  · exact .inr ⟨by omega, .inl (by omega)⟩
  · exact .inr ⟨by omega, .inr ⟨by omega, leL_trans i1 i2⟩⟩
theorem leF_antisymm {x y : FT} (h1 : leF x y) (h2 : leF y x) : x = y := by
  unfold leF at *
  obtain ⟨a, b, c⟩ := x
  obtain ⟨a', b', c'⟩ := y
  simp only at h1 h2
  have e1 : a = a' := by omega
  subst e1
  have e2 : b = b' := by omega
  subst e2
  have i1 : leL c c' := by
    rcases h1 with h | ⟨_, h | ⟨_, h⟩⟩
    · omega
    · omega
    · exact h
  have i2 : leL c' c := by
    rcases h2 with h | ⟨_, h | ⟨_, h⟩⟩
    · omega
    · omega
    · exact h
  rw [leL_antisymm i1 i2]
theorem leF_total (x y : FT) : leF x y ∨ leF y x := by
  unfold leF
  rcases Int.lt_trichotomy x.1 y.1 with h | h | h
  · exact .inl (.inl h)
  · rcases Int.lt_trichotomy x.2.1 y.2.1 with i | i | i
    · exact .inl (.inr ⟨h, .inl i⟩)
    · rcases leL_total x.2.2 y.2.2 with j | j
      · exact .inl (.inr ⟨h, .inr ⟨i, j⟩⟩)
      · exact .inr (.inr ⟨h.symm, .inr ⟨i.symm, j⟩⟩)
    · exact .inr (.inr ⟨h.symm, .inl i⟩)
  · exact .inr (.inl h)

/-! ### least of a list, as min() goes -/
def minOf {α : Type} (lt : α → α → Bool) : List α → Option α
  | [] => none
  | x :: xs => some (xs.foldl (fun b y => if lt y b = true then y else b) x)
theorem minOf_none {α : Type} {lt : α → α → Bool} {l : List α} : minOf lt l = none ↔ l = [] := by cases l <;> simp [minOf]
theorem fold_min {α : Type} {lt : α → α → Bool} {le : α → α → Prop} (h : ∀ x y, lt y x = false ↔ le x y) (rf : ∀ x, le x x) (tr : ∀ x y z, le x y → le y z → le x z) (tot : ∀ x y, le x y ∨ le y x) :
    ∀ (l : List α) (x : α), (l.foldl (fun b y => if lt y b = true then y else b) x = x ∨ l.foldl (fun b y => if lt y b = true then y else b) x ∈ l) ∧ le (l.foldl (fun b y => if lt y b = true then y else b) x) x ∧ ∀ y ∈ l, le (l.foldl (fun b y => if lt y b = true then y else b) x) y
  | [], x => ⟨.inl rfl, rf x, fun _ z => by cases z⟩
  | a :: l, x => by
    rw [List.foldl_cons]
    by_cases c : lt a x = true
    · rw [if_pos c]
      obtain ⟨i1, i2, i3⟩ := fold_min h rf tr tot l a
      have ax : le a x := by
        rcases tot a x with z | z
        · exact z
        · rw [(h x a).mpr z] at c
          cases c
      refine ⟨.inr ?_, tr _ _ _ i2 ax, fun y hy => ?_⟩
      · rcases i1 with i1 | i1
        · rw [i1]
          exact List.mem_cons_self
        · exact List.mem_cons_of_mem _ i1
      · rcases List.mem_cons.mp hy with rfl | hy
        · exact i2
        · exact i3 y hy
    · rw [if_neg c]
      obtain ⟨i1, i2, i3⟩ := fold_min h rf tr tot l x
      have xa : le x a := (h x a).mp (by simpa using c)
      refine ⟨?_, i2, fun y hy => ?_⟩
      · rcases i1 with i1 | i1
        · exact .inl i1
        · exact .inr (List.mem_cons_of_mem _ i1)
      · rcases List.mem_cons.mp hy with rfl | hy
        · exact tr _ _ _ i2 xa
        · exact i3 y hy
theorem minOf_some {α : Type} {lt : α → α → Bool} {le : α → α → Prop} (h : ∀ x y, lt y x = false ↔ le x y) (rf : ∀ x, le x x) (tr : ∀ x y z, le x y → le y z → le x z) (tot : ∀ x y, le x y ∨ le y x)
    {l : List α} {m : α} (e : minOf lt l = some m) : m ∈ l ∧ ∀ y ∈ l, le m y := by
  cases l with
  | nil => simp [minOf] at e
  | cons x xs =>
    have e' := Option.some.inj e
    obtain ⟨i1, i2, i3⟩ := fold_min h rf tr tot xs x
    rw [e'] at i1 i2 i3
    refine ⟨?_, fun y hy => ?_⟩
    · rcases i1 with i1 | i1
      · rw [i1]
        exact List.mem_cons_self
      · exact List.mem_cons_of_mem _ i1
    · rcases List.mem_cons.mp hy with rfl | hy
      · exact i2
      · exact i3 y hy

/-! the three orders that the program meets -/
def ltF (x y : FT) : Bool := decide (x.1 < y.1) || (decide (x.1 = y.1) && (decide (x.2.1 < y.2.1) || (decide (x.2.1 = y.2.1) && ltLb x.2.2 y.2.2)))
theorem ltF_iff (x y : FT) : ltF y x = false ↔ leF x y := by
  unfold ltF leF
  simp only [Bool.or_eq_false_iff, Bool.and_eq_false_iff, decide_eq_false_iff_not, leL_iff]
  constructor
  · rintro ⟨h1, h2⟩
    rcases Int.lt_trichotomy x.1 y.1 with h | h | h
    · exact .inl h
    · refine .inr ⟨h, ?_⟩
      rcases h2 with h2 | ⟨h2, h3⟩
      · exact absurd h.symm h2
      · rcases Int.lt_trichotomy x.2.1 y.2.1 with i | i | i
        · exact .inl i
        · rcases h3 with h3 | h3
          · exact absurd i.symm h3
          · exact .inr ⟨i, h3⟩
        · exact absurd i h2
    · exact absurd h h1
  · rintro (h | ⟨h, h2 | ⟨h2, h3⟩⟩)
    · exact ⟨by omega, .inl (by omega)⟩
    · exact ⟨by omega, .inr ⟨by omega, .inl (by omega)⟩⟩
    · exact ⟨by omega, .inr ⟨by omega, .inr h3⟩⟩
abbrev PT := Int × Int × List Nat × Option Nat
def toF (t : PT) : FT := (t.1, t.2.1, t.2.2.1)
/-- (price, lines, ends, start): the start decides last -/
def ltP (x y : PT) : Bool := ltF (toF x) (toF y) || (decide (toF x = toF y) && decide (x.2.2.2.getD 0 < y.2.2.2.getD 0))
def leP (x y : PT) : Prop := ltP y x = false
theorem leP_F {x y : PT} (h : leP x y) : leF (toF x) (toF y) := by
  unfold leP ltP at h
  rw [Bool.or_eq_false_iff] at h
  exact (ltF_iff _ _).mp h.1
theorem leP_def {x y : PT} : leP x y ↔ leF (toF x) (toF y) ∧ (toF x = toF y → x.2.2.2.getD 0 ≤ y.2.2.2.getD 0) := by
  unfold leP ltP
  rw [Bool.or_eq_false_iff, ltF_iff, Bool.and_eq_false_iff, decide_eq_false_iff_not, decide_eq_false_iff_not]
  constructor
  · rintro ⟨h1, h2⟩
    refine ⟨h1, fun e => ?_⟩
    rcases h2 with h2 | h2
    · exact absurd e.symm h2
    · omega
  · rintro ⟨h1, h2⟩
    refine ⟨h1, ?_⟩
    by_cases e : toF y = toF x
    · exact .inr (by have := h2 e.symm; omega)
    · exact .inl e
theorem leP_refl (x : PT) : leP x x := leP_def.mpr ⟨leF_refl _, fun _ => Nat.le_refl _⟩
theorem leP_trans (x y z : PT) (h1 : leP x y) (h2 : leP y z) : leP x z := by
  obtain ⟨a1, b1⟩ := leP_def.mp h1
  obtain ⟨a2, b2⟩ := leP_def.mp h2
  refine leP_def.mpr ⟨leF_trans a1 a2, fun e => ?_⟩
  have e1 : toF x = toF y := leF_antisymm a1 (by rw [e]; exact a2)
  have := b1 e1
  have := b2 (e1 ▸ e)
  omega
theorem leP_total (x y : PT) : leP x y ∨ leP y x := by
  by_cases e : toF x = toF y
  · rcases Nat.le_total (x.2.2.2.getD 0) (y.2.2.2.getD 0) with h | h
    · exact .inl (leP_def.mpr ⟨by rw [e]; exact leF_refl _, fun _ => h⟩)
    · exact .inr (leP_def.mpr ⟨by rw [e]; exact leF_refl _, fun _ => h⟩)
  · rcases leF_total (toF x) (toF y) with h | h
    · exact .inl (leP_def.mpr ⟨h, fun q => absurd q e⟩)
    · exact .inr (leP_def.mpr ⟨h, fun q => absurd q.symm e⟩)
abbrev CT := Int × Int × Nat
def ltC (x y : CT) : Bool := decide (x.1 < y.1) || (decide (x.1 = y.1) && (decide (x.2.1 < y.2.1) || (decide (x.2.1 = y.2.1) && decide (x.2.2 < y.2.2))))
def leC (x y : CT) : Prop := x.1 < y.1 ∨ (x.1 = y.1 ∧ (x.2.1 < y.2.1 ∨ (x.2.1 = y.2.1 ∧ x.2.2 ≤ y.2.2)))
theorem ltC_iff (x y : CT) : ltC y x = false ↔ leC x y := by
  unfold ltC leC
  simp only [Bool.or_eq_false_iff, Bool.and_eq_false_iff, decide_eq_false_iff_not]
  omega
theorem leC_refl (x : CT) : leC x x := .inr ⟨rfl, .inr ⟨rfl, Nat.le_refl _⟩⟩
theorem leC_trans (x y z : CT) (h1 : leC x y) (h2 : leC y z) : leC x z := by
  unfold leC at *
  omega
theorem leC_total (x y : CT) : leC x y ∨ leC y x := by
  unfold leC
  omega

/-! ### the table -/
structure Sys where
  n : Nat
  E : Nat → List (Nat × Int)
  T : Nat → List Nat
  pr : Nat → Nat → Nat → Option Int
  riv : Bool
def Sys.prO (S : Sys) (st : Option Nat) (m e : Nat) : Option Int := match st with
  | none => some 0
  | some s => S.pr s m e
structure Sys.Ok (S : Sys) : Prop where
  e1 : ∀ s e p, (e, p) ∈ S.E s → s < e ∧ e ≤ S.n ∧ 0 ≤ p
  e2 : ∀ s, (S.E s).Pairwise (fun a b => a.1 < b.1)
  t : ∀ s k, s ∈ S.T k ↔ ∃ p, (k, p) ∈ S.E s
  p1 : ∀ s m e q, S.pr s m e = some q → 0 ≤ q
  p2 : S.riv = false → ∀ s s' m e, S.pr s m e = S.pr s' m e ∧ (S.pr s m e).isSome = true

theorem Sys.Ok.prO_nn {S : Sys} (ok : S.Ok) {st : Option Nat} {m e : Nat} {q : Int} (h : S.prO st m e = some q) : 0 ≤ q := by
  cases st with
  | none =>
    have : (0 : Int) = q := Option.some.inj h
    omega
  | some s => exact ok.p1 s m e q h
theorem Sys.Ok.price {S : Sys} (ok : S.Ok) {m e : Nat} {p p' : Int} (h : (e, p) ∈ S.E m) (h' : (e, p') ∈ S.E m) : p = p' := by
  have key : ∀ {l : List (Nat × Int)}, l.Pairwise (fun a b => a.1 < b.1) → (e, p) ∈ l → (e, p') ∈ l → p = p' := by
    intro l
    induction l with
    | nil => intro _ z; cases z
    | cons a l ih =>
      intro pw h h'
      obtain ⟨h1, h2⟩ := List.pairwise_cons.mp pw
      rcases List.mem_cons.mp h with z1 | g1
      · rcases List.mem_cons.mp h' with z2 | g2
        · rw [← z1] at z2
          injection z2 with _ z
          exact z.symm
        · have := h1 _ g2
          rw [← z1] at this
          simp only at this
          omega
      · rcases List.mem_cons.mp h' with z2 | g2
        · have := h1 _ g1
          rw [← z2] at this
          simp only at this
          omega
        · exact ih h2 g1 g2
  exact key (ok.e2 m) h h'

/-- a row of lines from a state (the line before, the place): its ends, its price, the state behind -/
inductive Wk (S : Sys) : Option Nat → Nat → List Nat → Int → Option Nat → Nat → Prop
  | nil (st : Option Nat) (m : Nat) : Wk S st m [] 0 st m
  | cons {st : Option Nat} {m e : Nat} {p q c : Int} {es : List Nat} {a : Option Nat} {b : Nat} (hp : (e, p) ∈ S.E m) (hq : S.prO st m e = some q) (h : Wk S (some m) e es c a b) : Wk S st m (e :: es) (q + p + c) a b
section
variable {S : Sys}
theorem Wk.fn (ok : S.Ok) {st : Option Nat} {m : Nat} {es : List Nat} {c c' : Int} {a a' : Option Nat} {b b' : Nat} (h : Wk S st m es c a b) (h' : Wk S st m es c' a' b') : c = c' ∧ a = a' ∧ b = b' := by
  induction h generalizing c' with
  | nil st m =>
    cases h'
    exact ⟨rfl, rfl, rfl⟩
  | cons hp hq _ ih =>
    cases h' with
    | cons hp' hq' h'' =>
      obtain ⟨i1, i2, i3⟩ := ih h''
      have e1 := ok.price hp hp'
      have e2 : _ = _ := Option.some.inj (hq.symm.trans hq')
      exact ⟨by omega, i2, i3⟩
theorem Wk.uncons {st : Option Nat} {m e : Nat} {es : List Nat} {c : Int} {a : Option Nat} {b : Nat} (h : Wk S st m (e :: es) c a b) : ∃ p q c1, (e, p) ∈ S.E m ∧ S.prO st m e = some q ∧ Wk S (some m) e es c1 a b ∧ c = q + p + c1 := by
  cases h with
  | cons hp hq h' => exact ⟨_, _, _, hp, hq, h', rfl⟩
theorem Wk.unnil {st : Option Nat} {m : Nat} {es : List Nat} {c : Int} {a : Option Nat} {b : Nat} (h : Wk S st m es c a b) (hm : m ≠ b) : ∃ e es', es = e :: es' := by
  cases h with
  | nil => exact absurd rfl hm
  | cons => exact ⟨_, _, rfl⟩
theorem Wk.snoc {st : Option Nat} {m : Nat} {es : List Nat} {c p q : Int} {a : Option Nat} {b e : Nat} (h : Wk S st m es c a b) (hp : (e, p) ∈ S.E b) (hq : S.prO a b e = some q) : Wk S st m (es ++ [e]) (c + q + p) (some b) e := by
  induction h with
  | nil st m =>
    have := Wk.cons hp hq (Wk.nil (S := S) (some m) e)
    have z : q + p + 0 = 0 + q + p := by omega
    rw [z] at this
    exact this
  | @cons st m e1 p1 q1 c1 es1 a1 b1 hp1 hq1 _ ih =>
    have := Wk.cons hp1 hq1 (ih hp hq)
    have z : q1 + p1 + (c1 + q + p) = q1 + p1 + c1 + q + p := by omega
    rw [z] at this
    exact this
theorem Wk.unsnoc {es : List Nat} {e : Nat} : ∀ {st : Option Nat} {m : Nat} {c : Int} {a : Option Nat} {b : Nat}, Wk S st m (es ++ [e]) c a b → ∃ c0 p q a0 b0, Wk S st m es c0 a0 b0 ∧ (e, p) ∈ S.E b0 ∧ S.prO a0 b0 e = some q ∧ c = c0 + q + p ∧ a = some b0 ∧ b = e := by
  induction es with
  | nil =>
    intro st m c a b h
    cases h with
    | cons hp hq h' =>
      cases h'
      exact ⟨0, _, _, st, m, Wk.nil st m, hp, hq, by omega, rfl, rfl⟩
  | cons x xs ih =>
    intro st m c a b h
    cases h with
    | cons hp hq h' =>
      obtain ⟨c0, p, q, a0, b0, w, h1, h2, h3, h4, h5⟩ := ih h'
      exact ⟨_, p, q, a0, b0, Wk.cons hp hq w, h1, h2, by omega, h4, h5⟩
theorem Wk.le (ok : S.Ok) {st : Option Nat} {m : Nat} {es : List Nat} {c : Int} {a : Option Nat} {b : Nat} (h : Wk S st m es c a b) (hm : m ≤ S.n) : m ≤ b ∧ b ≤ S.n ∧ 0 ≤ c ∧ (es ≠ [] → m < b) := by
  induction h with
  | nil st m => exact ⟨Nat.le_refl _, hm, Int.le_refl _, fun z => absurd rfl z⟩
  | cons hp hq _ ih =>
    obtain ⟨h1, h2, h3⟩ := ok.e1 _ _ _ hp
    obtain ⟨i1, i2, i3, _⟩ := ih h2
    have := ok.prO_nn hq
    exact ⟨by omega, i2, by omega, fun _ => by omega⟩
/-- the ends ascend -/
theorem Wk.asc (ok : S.Ok) {st : Option Nat} {m : Nat} {es : List Nat} {c : Int} {a : Option Nat} {b : Nat} (h : Wk S st m es c a b) : (m :: es).Pairwise (· < ·) ∧ (m :: es).getLast? = some b := by
  induction h with
  | nil st m => exact ⟨by simp, by simp⟩
  | @cons st m e p q c es a b hp hq hh ih =>
    obtain ⟨h1, h2, _⟩ := ok.e1 _ _ _ hp
    obtain ⟨i1, i2⟩ := ih
    refine ⟨List.pairwise_cons.mpr ⟨fun x hx => ?_, i1⟩, ?_⟩
    · rcases List.mem_cons.mp hx with rfl | hx
      · exact h1
      · have := (List.pairwise_cons.mp i1).1 x hx
        omega
    · rw [List.getLast?_cons_cons]
      exact i2
end
/-! ### maps -/
def setM {α : Type} (f : Nat → Nat → Option α) (s m : Nat) (x : α) : Nat → Nat → Option α := fun a b => if a = s ∧ b = m then some x else f a b
theorem setM_same {α : Type} {f : Nat → Nat → Option α} {s m : Nat} {x : α} : setM f s m x s m = some x := if_pos ⟨rfl, rfl⟩
theorem setM_ne {α : Type} {f : Nat → Nat → Option α} {s m a b : Nat} {x : α} (h : ¬ (a = s ∧ b = m)) : setM f s m x a b = f a b := if_neg h

/-! ### forward -/
abbrev FM := Nat → Nat → Option FT
def pfx (S : Sys) (best : FM) (p : Nat) : List PT :=
  if p = 0 then [(0, 0, [], none)] else
    let found := (S.T p).filterMap fun s => (best s p).map fun x => (x.1, x.2.1, x.2.2, some s)
    if S.riv = true then found else (minOf ltP found).toList
def extF (S : Sys) (ps : List PT) (mid : Nat) (ep : Nat × Int) : List FT := ps.filterMap fun t => (S.prO t.2.2.2 mid ep.1).map fun q => (t.1 + q + ep.2, t.2.1 + 1, t.2.2.1 ++ [ep.1])
def fset (S : Sys) (ps : List PT) (mid : Nat) (b : FM) (ep : Nat × Int) : FM := match minOf ltF (extF S ps mid ep) with
  | none => b
  | some x => setM b mid ep.1 x
def fstep (S : Sys) (best : FM) (mid : Nat) : FM := (S.E mid).foldl (fset S (pfx S best mid) mid) best
def bestF (S : Sys) : Nat → FM
  | 0 => fun _ _ => none
  | m + 1 => fstep S (bestF S m) m
def resF (S : Sys) : Option (Int × List Nat) := (minOf ltP (pfx S (bestF S S.n) S.n)).map fun t => (t.1, t.2.2.1)
section
variable {S : Sys} {ps : List PT} {mid : Nat}
theorem fset_ne {b : FM} {ep : Nat × Int} {s k : Nat} (h : ¬ (s = mid ∧ k = ep.1)) : fset S ps mid b ep s k = b s k := by
  unfold fset
  cases minOf ltF (extF S ps mid ep) with
  | none => rfl
  | some x => exact setM_ne h
theorem fset_fold_ne : ∀ {l : List (Nat × Int)} {b : FM} {s k : Nat}, (¬ (s = mid) ∨ ∀ ep ∈ l, ep.1 ≠ k) → l.foldl (fset S ps mid) b s k = b s k
  | [], _, _, _, _ => rfl
  | ep :: l, b, s, k, h => by
    rw [List.foldl_cons, fset_fold_ne (l := l), fset_ne]
    · rintro ⟨h1, h2⟩
      rcases h with h | h
      · exact h h1
      · exact h ep List.mem_cons_self h2.symm
    · rcases h with h | h
      · exact .inl h
      · exact .inr fun e he => h e (List.mem_cons_of_mem _ he)
theorem fset_fold_at : ∀ {l : List (Nat × Int)} {b : FM} {k : Nat} {p : Int}, l.Pairwise (fun a b => a.1 < b.1) → (k, p) ∈ l → b mid k = none → l.foldl (fset S ps mid) b mid k = minOf ltF (extF S ps mid (k, p))
  | ep :: l, b, k, p, pw, h, hb => by
    obtain ⟨h1, h2⟩ := List.pairwise_cons.mp pw
    rw [List.foldl_cons]
    rcases List.mem_cons.mp h with rfl | h
    · rw [fset_fold_ne (.inr fun e he => by have := h1 e he; simp only at this; omega)]
      unfold fset
      cases minOf ltF (extF S ps mid (k, p)) with
      | none => exact hb
      | some x => exact setM_same
    · refine fset_fold_at h2 h ?_
      have := h1 _ h
      simp only at this
      rw [fset_ne (by rintro ⟨_, z⟩; omega), hb]
theorem bestF_none : ∀ {m s k : Nat}, m ≤ s → bestF S m s k = none
  | 0, _, _, _ => rfl
  | m + 1, s, k, h => by
    show fstep S (bestF S m) m s k = none
    unfold fstep
    rw [fset_fold_ne (.inl (by omega))]
    exact bestF_none (by omega)
theorem bestF_keep {m s k : Nat} (h : s ≠ m) : bestF S (m + 1) s k = bestF S m s k := by
  show fstep S (bestF S m) m s k = _
  unfold fstep
  rw [fset_fold_ne (.inl h)]
theorem bestF_stay {s k : Nat} : ∀ {m : Nat}, s < m → bestF S m s k = bestF S (s + 1) s k
  | 0, h => by omega
  | m + 1, h => by
    by_cases e : s = m
    · rw [e]
    · rw [bestF_keep e]
      exact bestF_stay (by omega)

/-- x is the least of all rows of lines that end with the line (s, k) -/
def LeastF (S : Sys) (s k : Nat) (x : FT) : Prop := Wk S none 0 x.2.2 x.1 (some s) k ∧ x.2.1 = (x.2.2.length : Int) ∧ ∀ es c, Wk S none 0 es c (some s) k → leF x (c, (es.length : Int), es)
def GoodF (S : Sys) (b : FM) (s k : Nat) : Prop := (∀ x, b s k = some x → LeastF S s k x) ∧ (b s k = none → ∀ es c, ¬ Wk S none 0 es c (some s) k)

theorem pfx_pos {best : FM} {p : Nat} (h : p ≠ 0) : pfx S best p = (if S.riv = true then (S.T p).filterMap fun s => (best s p).map fun x => (x.1, x.2.1, x.2.2, some s)
    else (minOf ltP ((S.T p).filterMap fun s => (best s p).map fun x => (x.1, x.2.1, x.2.2, some s))).toList) := by
  unfold pfx
  rw [if_neg h]
theorem mem_found {best : FM} {p : Nat} {t : PT} : t ∈ ((S.T p).filterMap fun s => (best s p).map fun x => ((x.1, x.2.1, x.2.2, some s) : PT)) ↔ ∃ s, s ∈ S.T p ∧ ∃ x, best s p = some x ∧ t = (x.1, x.2.1, x.2.2, some s) := by
  rw [List.mem_filterMap]
  constructor
  · rintro ⟨s, h1, h2⟩
    obtain ⟨x, h3, h4⟩ := Option.map_eq_some_iff.mp h2
    exact ⟨s, h1, x, h3, h4.symm⟩
  · rintro ⟨s, h1, x, h3, h4⟩
    exact ⟨s, h1, by rw [h3, h4]; rfl⟩

/-- what the prefixes at a place stand for -/
structure PfxOk (S : Sys) (ps : List PT) (p : Nat) : Prop where
  real : ∀ t ∈ ps, Wk S none 0 t.2.2.1 t.1 t.2.2.2 p ∧ t.2.1 = (t.2.2.1.length : Int)
  least : ∀ es c st, Wk S none 0 es c st p → ∃ t ∈ ps, leF (toF t) (c, (es.length : Int), es) ∧ (t.2.2.2 = st ∨ (S.riv = false ∧ t.2.2.2.isSome = true ∧ st.isSome = true))

theorem wk_state (ok : S.Ok) {es : List Nat} {c : Int} {st : Option Nat} {p : Nat} (h : Wk S none 0 es c st p) : (st = none ∧ es = [] ∧ p = 0 ∧ c = 0) ∨ ∃ s, st = some s ∧ s ∈ S.T p ∧ s < p := by
  rcases List.eq_nil_or_concat es with e | ⟨l, x, e⟩
  · subst e
    cases h
    exact .inl ⟨rfl, rfl, rfl, rfl⟩
  · rw [List.concat_eq_append] at e
    subst e
    obtain ⟨c0, q, r, a0, b0, w, h1, h2, h3, h4, h5⟩ := h.unsnoc
    subst h5
    exact .inr ⟨b0, h4, (ok.t _ _).mpr ⟨q, h1⟩, (ok.e1 _ _ _ h1).1⟩

theorem pfx_ok (ok : S.Ok) {best : FM} {p : Nat} (hg : ∀ s, s < p → GoodF S best s p) : PfxOk S (pfx S best p) p := by
  by_cases hp : p = 0
  · subst hp
    have e : pfx S best 0 = [(0, 0, [], none)] := by
      unfold pfx
      rw [if_pos rfl]
    rw [e]
    refine ⟨fun t ht => ?_, fun es c st h => ?_⟩
    · have : t = (0, 0, [], none) := by simpa using ht
      subst this
      exact ⟨Wk.nil none 0, rfl⟩
    · rcases wk_state ok h with ⟨h1, h2, _, h4⟩ | ⟨s, _, _, h3⟩
      · subst h1 h2 h4
        exact ⟨_, List.mem_cons_self, leF_refl _, .inl rfl⟩
      · omega
  · rw [pfx_pos hp]
    have real : ∀ t ∈ ((S.T p).filterMap fun s => (best s p).map fun x => ((x.1, x.2.1, x.2.2, some s) : PT)), Wk S none 0 t.2.2.1 t.1 t.2.2.2 p ∧ t.2.1 = (t.2.2.1.length : Int) ∧ t.2.2.2.isSome = true := by
      intro t ht
      obtain ⟨s, hs, x, hx, rfl⟩ := mem_found.mp ht
      obtain ⟨q, hq⟩ := (ok.t _ _).mp hs
      obtain ⟨h1, _⟩ := hg s (ok.e1 _ _ _ hq).1
      obtain ⟨w, hl, _⟩ := h1 x hx
      exact ⟨w, hl, rfl⟩
    have least : ∀ es c st, Wk S none 0 es c st p → ∃ t ∈ ((S.T p).filterMap fun s => (best s p).map fun x => ((x.1, x.2.1, x.2.2, some s) : PT)), leF (toF t) (c, (es.length : Int), es) ∧ t.2.2.2 = st := by
      intro es c st h
      rcases wk_state ok h with ⟨_, _, h3, _⟩ | ⟨s, rfl, hs, hl⟩
      · exact absurd h3 hp
      · obtain ⟨h1, h2⟩ := hg s hl
        cases e : best s p with
        | none => exact absurd h (h2 e es c)
        | some x => exact ⟨_, mem_found.mpr ⟨s, hs, x, e, rfl⟩, (h1 x e).2.2 es c h, rfl⟩
    by_cases hr : S.riv = true
    · rw [if_pos hr]
      exact ⟨fun t ht => ⟨(real t ht).1, (real t ht).2.1⟩, fun es c st h => let ⟨t, h1, h2, h3⟩ := least es c st h; ⟨t, h1, h2, .inl h3⟩⟩
    · rw [if_neg hr]
      have hrf : S.riv = false := by simpa using hr
      cases e : minOf ltP ((S.T p).filterMap fun s => (best s p).map fun x => ((x.1, x.2.1, x.2.2, some s) : PT)) with
      | none =>
        have e0 := minOf_none.mp e
        refine ⟨fun t ht => (by cases ht), fun es c st h => ?_⟩
        obtain ⟨t, h1, _⟩ := least es c st h
        rw [e0] at h1
        cases h1
      | some m =>
        obtain ⟨hm, hle⟩ := minOf_some (le := leP) (fun _ _ => Iff.rfl) leP_refl leP_trans leP_total e
        refine ⟨fun t ht => ?_, fun es c st h => ?_⟩
        · have : t = m := by simpa using ht
          subst this
          exact ⟨(real t hm).1, (real t hm).2.1⟩
        · obtain ⟨t, h1, h2, h3⟩ := least es c st h
          refine ⟨m, by simp, leF_trans (leP_F (hle t h1)) h2, .inr ⟨hrf, (real m hm).2.2, ?_⟩⟩
          rw [← h3]
          exact (real t h1).2.2

theorem ext_least (ok : S.Ok) (P : PfxOk S ps mid) {k : Nat} {p : Int} (hk : (k, p) ∈ S.E mid) :
    (∀ x, minOf ltF (extF S ps mid (k, p)) = some x → LeastF S mid k x) ∧ (minOf ltF (extF S ps mid (k, p)) = none → ∀ es c, ¬ Wk S none 0 es c (some mid) k) := by
  have hmem : ∀ x, x ∈ extF S ps mid (k, p) ↔ ∃ t ∈ ps, ∃ q, S.prO t.2.2.2 mid k = some q ∧ x = (t.1 + q + p, t.2.1 + 1, t.2.2.1 ++ [k]) := by
    intro x
    unfold extF
    rw [List.mem_filterMap]
    constructor
    · rintro ⟨t, h1, h2⟩
      obtain ⟨q, h3, h4⟩ := Option.map_eq_some_iff.mp h2
      exact ⟨t, h1, q, h3, h4.symm⟩
    · rintro ⟨t, h1, q, h3, h4⟩
      exact ⟨t, h1, by rw [h3, h4]; rfl⟩
  have cover : ∀ es c, Wk S none 0 es c (some mid) k → ∃ x ∈ extF S ps mid (k, p), leF x (c, (es.length : Int), es) := by
    intro es c h
    rcases List.eq_nil_or_concat es with e | ⟨l, y, e⟩
    · subst e
      cases h
    · rw [List.concat_eq_append] at e
      subst e
      obtain ⟨c0, p0, q0, a0, b0, w, h1, h2, h3, h4, h5⟩ := h.unsnoc
      obtain rfl : mid = b0 := Option.some.inj h4
      subst h5
      obtain rfl : p0 = p := ok.price h1 hk
      obtain ⟨t, ht, hl, hs⟩ := P.least l c0 a0 w
      have hq : S.prO t.2.2.2 mid k = some q0 := by
        rcases hs with hs | ⟨hr, hs1, hs2⟩
        · rw [hs]
          exact h2
        · obtain ⟨u, hu⟩ := Option.isSome_iff_exists.mp hs1
          obtain ⟨v, hv⟩ := Option.isSome_iff_exists.mp hs2
          rw [hu]
          rw [hv] at h2
          exact ((ok.p2 hr u v mid k).1).trans h2
      refine ⟨_, (hmem _).mpr ⟨t, ht, q0, hq, rfl⟩, ?_⟩
      have hlen := (P.real t ht).2
      unfold leF toF at hl
      unfold leF
      simp only at hl ⊢
      rw [List.length_append]
      simp only [List.length_cons, List.length_nil]
      subst h3
      rcases hl with hl | ⟨hl, hl2 | ⟨hl2, hl3⟩⟩
      · exact .inl (by omega)
      · exact .inr ⟨by omega, .inl (by omega)⟩
      · exact .inr ⟨by omega, .inr ⟨by omega, leL_snoc k (by omega) hl3⟩⟩
  refine ⟨fun x hx => ?_, fun hx es c h => ?_⟩
  · obtain ⟨hm, hle⟩ := minOf_some (le := leF) ltF_iff leF_refl (fun _ _ _ => leF_trans) leF_total hx
    obtain ⟨t, ht, q, hq, rfl⟩ := (hmem _).mp hm
    obtain ⟨w, hl⟩ := P.real t ht
    refine ⟨w.snoc hk hq, ?_, fun es c h => ?_⟩
    · simp only [List.length_append, List.length_cons, List.length_nil]
      omega
    · obtain ⟨y, hy, hly⟩ := cover es c h
      exact leF_trans (hle y hy) hly
  · obtain ⟨y, hy, _⟩ := cover es c h
    rw [minOf_none.mp hx] at hy
    cases hy

theorem bestF_good (ok : S.Ok) : ∀ (m s k : Nat), s < m → GoodF S (bestF S m) s k
  | 0, _, _, h => by omega
  | m + 1, s, k, h => by
    by_cases e : s = m
    · subst e
      have P : PfxOk S (pfx S (bestF S s) s) s := pfx_ok ok fun s' hs' => bestF_good ok s s' s hs'
      by_cases hk : ∃ p, (k, p) ∈ S.E s
      · obtain ⟨p, hp⟩ := hk
        have e1 : bestF S (s + 1) s k = minOf ltF (extF S (pfx S (bestF S s) s) s (k, p)) := fset_fold_at (ok.e2 s) hp (bestF_none (Nat.le_refl _))
        obtain ⟨a, b⟩ := ext_least ok P hp
        exact ⟨fun x hx => a x (by rw [← e1]; exact hx), fun hx => b (by rw [← e1]; exact hx)⟩
      · have e1 : bestF S (s + 1) s k = none := by
          show fstep S (bestF S s) s s k = none
          unfold fstep
          rw [fset_fold_ne (.inr fun ep hep z => hk ⟨ep.2, by rw [← z]; exact hep⟩)]
          exact bestF_none (Nat.le_refl _)
        refine ⟨fun x hx => (by rw [e1] at hx; cases hx), fun _ es c w => ?_⟩
        rcases List.eq_nil_or_concat es with e | ⟨l, y, e⟩
        · subst e
          cases w
        · rw [List.concat_eq_append] at e
          subst e
          obtain ⟨c0, p0, q0, a0, b0, w', h1, h2, h3, h4, h5⟩ := w.unsnoc
          obtain rfl : s = b0 := Option.some.inj h4
          subst h5
          exact hk ⟨p0, h1⟩
    · have ih := bestF_good ok m s k (by omega)
      unfold GoodF at ih ⊢
      rw [bestF_keep e]
      exact ih
/-- the least of all breakings -/
def LeastAll (S : Sys) (c : Int) (es : List Nat) : Prop := (∃ a, Wk S none 0 es c a S.n) ∧ ∀ es' c' a', Wk S none 0 es' c' a' S.n → leF (c, (es.length : Int), es) (c', (es'.length : Int), es')
theorem LeastAll.one {c c' : Int} {es es' : List Nat} (h : LeastAll S c es) (h' : LeastAll S c' es') : c = c' ∧ es = es' := by
  obtain ⟨⟨a, w⟩, l⟩ := h
  obtain ⟨⟨a', w'⟩, l'⟩ := h'
  have e := leF_antisymm (l es' c' a' w') (l' es c a w)
  simp only [Prod.mk.injEq] at e
  exact ⟨e.1, e.2.2⟩
theorem resF_spec (ok : S.Ok) : (∀ r, resF S = some r → LeastAll S r.1 r.2) ∧ (resF S = none → ∀ es c a, ¬ Wk S none 0 es c a S.n) := by
  have P : PfxOk S (pfx S (bestF S S.n) S.n) S.n := pfx_ok ok fun s hs => bestF_good ok S.n s S.n hs
  unfold resF
  refine ⟨fun r hr => ?_, fun hr es c a w => ?_⟩
  · obtain ⟨t, ht, rfl⟩ := Option.map_eq_some_iff.mp hr
    obtain ⟨hm, hle⟩ := minOf_some (le := leP) (fun _ _ => Iff.rfl) leP_refl leP_trans leP_total ht
    obtain ⟨w, hl⟩ := P.real t hm
    refine ⟨⟨_, w⟩, fun es c a w' => ?_⟩
    obtain ⟨u, hu, hul, _⟩ := P.least es c a w'
    have := leF_trans (leP_F (hle u hu)) hul
    unfold toF at this
    rw [hl] at this
    exact this
  · have h0 := minOf_none.mp (Option.map_eq_none_iff.mp hr)
    obtain ⟨t, ht, _⟩ := P.least es c a w
    rw [h0] at ht
    cases ht
end

/-! ### backward -/
abbrev BT := Int × Int × Option Nat
abbrev BM := Nat → Nat → Option BT
def ctE (S : Sys) (best : BM) (st : Option Nat) (mid : Nat) (ep : Nat × Int) : Option CT := (best mid ep.1).bind fun x => (S.prO st mid ep.1).map fun q => (q + ep.2 + x.1, x.2.1 + 1, ep.1)
def cts (S : Sys) (best : BM) (st : Option Nat) (mid : Nat) : List CT := (S.E mid).filterMap (ctE S best st mid)
def bset (b : BM) (s mid : Nat) (f : List CT) : BM := match minOf ltC f with
  | none => b
  | some x => setM b s mid (x.1, x.2.1, some x.2.2)
def bnext (S : Sys) (mid : Nat) (f : Option (List CT)) (b : BM) (s : Nat) : List CT := match f with
  | none => cts S b (some s) mid
  | some l => if S.riv = true then cts S b (some s) mid else l
def bgo (S : Sys) (mid : Nat) : List Nat → Option (List CT) → BM → BM
  | [], _, b => b
  | s :: ss, f, b => bgo S mid ss (some (bnext S mid f b s)) (bset b s mid (bnext S mid f b s))
def binit (S : Sys) : BM := (S.T S.n).foldl (fun b s => setM b s S.n (0, 0, none)) fun _ _ => none
def bestB (S : Sys) : Nat → BM
  | 0 => binit S
  | k + 1 => bgo S (S.n - 1 - k) (S.T (S.n - 1 - k)) none (bestB S k)
def fol (best : BM) (n : Nat) : Nat → Nat → Nat → List Nat → List Nat
  | 0, _, _, acc => acc
  | k + 1, s, e, acc => if e < n then match best s e with
      | some (_, _, some nx) => fol best n k e nx (acc ++ [nx])
      | _ => acc
    else acc
def resB (S : Sys) : Option (Int × List Nat) :=
  if S.n = 0 then some (0, []) else
    (minOf ltC (cts S (bestB S (S.n - 1)) none 0)).map fun t => (t.1, fol (bestB S (S.n - 1)) S.n (S.n - t.2.2) 0 t.2.2 [t.2.2])
section
variable {S : Sys} {mid : Nat}
/-- the least rows of lines from a state to the end -/
def LeastB (S : Sys) (st : Option Nat) (m : Nat) (c : Int) (es : List Nat) : Prop := (∃ a, Wk S st m es c a S.n) ∧ ∀ es' c' a', Wk S st m es' c' a' S.n → leF (c, (es.length : Int), es) (c', (es'.length : Int), es')
theorem LeastB.one {st : Option Nat} {m : Nat} {c c' : Int} {es es' : List Nat} (h : LeastB S st m c es) (h' : LeastB S st m c' es') : c = c' ∧ es = es' := by
  obtain ⟨⟨a, w⟩, l⟩ := h
  obtain ⟨⟨a', w'⟩, l'⟩ := h'
  have e := leF_antisymm (l es' c' a' w') (l' es c a w)
  simp only [Prod.mk.injEq] at e
  exact ⟨e.1, e.2.2⟩
/-- the map answers for the line (s, m) -/
def GoodB (S : Sys) (b : BM) (s m : Nat) : Prop := (∀ x, b s m = some x → ∃ es, LeastB S (some s) m x.1 es ∧ x.2.1 = (es.length : Int) ∧ x.2.2 = es.head?) ∧ (b s m = none → ∀ es c a, ¬ Wk S (some s) m es c a S.n)
theorem leF_cons {c1 c2 : Int} {n1 n2 : Int} {e : Nat} {l1 l2 : List Nat} (q : Int) (h : leF (c1, n1, l1) (c2, n2, l2)) : leF (q + c1, n1 + 1, e :: l1) (q + c2, n2 + 1, e :: l2) := by
  unfold leF at h ⊢
  simp only at h ⊢
  rcases h with h | ⟨h, h2 | ⟨h2, h3⟩⟩
  · exact .inl (by omega)
  · exact .inr ⟨by omega, .inl (by omega)⟩
  · exact .inr ⟨by omega, .inr ⟨by omega, .inr ⟨rfl, h3⟩⟩⟩
theorem mem_cts {b : BM} {st : Option Nat} {t : CT} : t ∈ cts S b st mid ↔ ∃ e p x q, (e, p) ∈ S.E mid ∧ b mid e = some x ∧ S.prO st mid e = some q ∧ t = (q + p + x.1, x.2.1 + 1, e) := by
  unfold cts ctE
  rw [List.mem_filterMap]
  constructor
  · rintro ⟨⟨e, p⟩, h1, h2⟩
    obtain ⟨x, h3, h4⟩ := Option.bind_eq_some_iff.mp h2
    obtain ⟨q, h5, h6⟩ := Option.map_eq_some_iff.mp h4
    exact ⟨e, p, x, q, h1, h3, h5, h6.symm⟩
  · rintro ⟨e, p, x, q, h1, h3, h5, rfl⟩
    exact ⟨(e, p), h1, by simp only [h3, Option.bind_some, h5, Option.map_some]⟩
/-- the least continuation at a place, where the map answers for every line behind it -/
theorem cts_least (ok : S.Ok) {b : BM} {st : Option Nat} (hm : mid < S.n) (hb : ∀ e p, (e, p) ∈ S.E mid → GoodB S b mid e) :
    (∀ t, minOf ltC (cts S b st mid) = some t → ∃ es, LeastB S st mid t.1 (t.2.2 :: es) ∧ t.2.1 = ((t.2.2 :: es).length : Int)) ∧ (minOf ltC (cts S b st mid) = none → ∀ es c a, ¬ Wk S st mid es c a S.n) := by
  have split : ∀ es c a, Wk S st mid es c a S.n → ∃ e p q x es' c' es0, es = e :: es' ∧ (e, p) ∈ S.E mid ∧ S.prO st mid e = some q ∧ b mid e = some x ∧ Wk S (some mid) e es' c' a S.n ∧ c = q + p + c' ∧ LeastB S (some mid) e x.1 es0 ∧ x.2.1 = (es0.length : Int) := by
    intro es c a w
    cases w with
    | nil => omega
    | @cons _ _ e p q c' es' _ _ hp hq w' =>
      obtain ⟨g1, g2⟩ := hb e p hp
      cases hx : b mid e with
      | none => exact absurd w' (g2 hx es' c' a)
      | some x =>
        obtain ⟨es0, l, hl, _⟩ := g1 x hx
        exact ⟨e, p, q, x, es', c', es0, rfl, hp, hq, hx, w', rfl, l, hl⟩
  refine ⟨fun t ht => ?_, fun ht es c a w => ?_⟩
  · obtain ⟨hmem, hle⟩ := minOf_some (le := leC) ltC_iff leC_refl leC_trans leC_total ht
    obtain ⟨e, p, x, q, hp, hx, hq, rfl⟩ := mem_cts.mp hmem
    obtain ⟨g1, _⟩ := hb e p hp
    obtain ⟨es0, ⟨⟨a, w⟩, l⟩, hl, hh⟩ := g1 x hx
    refine ⟨es0, ⟨⟨a, Wk.cons hp hq w⟩, fun es' c' a' w' => ?_⟩, by simp only [List.length_cons]; omega⟩
    obtain ⟨e2, p2, q2, x2, es2, c2, es02, rfl, hp2, hq2, hx2, w2, rfl, l2, hl2⟩ := split es' c' a' w'
    have hc := hle _ (mem_cts.mpr ⟨e2, p2, x2, q2, hp2, hx2, hq2, rfl⟩)
    have k2 := leF_cons (e := e2) (q2 + p2) (l2.2 es2 c2 a' w2)
    refine leF_trans ?_ k2
    unfold leC at hc
    unfold leF
    simp only [List.length_cons] at hc ⊢
    rcases hc with hc | ⟨hc, hc2 | ⟨hc2, hc3⟩⟩
    · exact .inl hc
    · exact .inr ⟨hc, .inl (by omega)⟩
    · refine .inr ⟨hc, .inr ⟨by omega, ?_⟩⟩
      by_cases he : e = e2
      · subst he
        obtain rfl : x = x2 := Option.some.inj (hx.symm.trans hx2)
        obtain ⟨_, z⟩ := LeastB.one ⟨⟨a, w⟩, l⟩ l2
        rw [z]
        exact leL_refl _
      · exact .inl (by omega)
  · obtain ⟨e, p, q, x, es', c', es0, rfl, hp, hq, hx, _⟩ := split es c a w
    have : (q + p + x.1, x.2.1 + 1, e) ∈ cts S b st mid := mem_cts.mpr ⟨e, p, x, q, hp, hx, hq, rfl⟩
    rw [minOf_none.mp ht] at this
    cases this
theorem cts_congr {b b' : BM} {st : Option Nat} (h : ∀ e p, (e, p) ∈ S.E mid → b mid e = b' mid e) : cts S b st mid = cts S b' st mid := by
  unfold cts
  have key : ∀ l : List (Nat × Int), (∀ ep ∈ l, ep ∈ S.E mid) → l.filterMap (ctE S b st mid) = l.filterMap (ctE S b' st mid) := by
    intro l
    induction l with
    | nil => intro _; rfl
    | cons ep l ih =>
      intro hl
      have e1 : ctE S b st mid ep = ctE S b' st mid ep := by
        unfold ctE
        rw [h ep.1 ep.2 (hl ep List.mem_cons_self)]
      rw [List.filterMap_cons, List.filterMap_cons, e1, ih fun x hx => hl x (List.mem_cons_of_mem _ hx)]
  exact key _ fun _ h => h
theorem bset_ne {b : BM} {s a k : Nat} {f : List CT} (h : ¬ (a = s ∧ k = mid)) : bset b s mid f a k = b a k := by
  unfold bset
  cases minOf ltC f with
  | none => rfl
  | some x => exact setM_ne h
theorem bgo_ne : ∀ {l : List Nat} {f : Option (List CT)} {b : BM} {a k : Nat}, (k ≠ mid ∨ a ∉ l) → bgo S mid l f b a k = b a k
  | [], _, _, _, _, _ => rfl
  | s :: ss, f, b, a, k, h => by
    show bgo S mid ss _ _ a k = _
    rw [bgo_ne (l := ss), bset_ne]
    · rintro ⟨h1, h2⟩
      rcases h with h | h
      · exact h h2
      · exact h (by rw [h1]; exact List.mem_cons_self)
    · rcases h with h | h
      · exact .inl h
      · exact .inr fun z => h (List.mem_cons_of_mem _ z)
/-- each line that ends at mid gets the least of the continuations reckoned over b0 -/
theorem bgo_at (ok : S.Ok) {b0 : BM} : ∀ {l : List Nat} {f : Option (List CT)} {b : BM} {s : Nat}, l.Nodup → (∀ s, s ∈ l → b s mid = none) → (∀ e p, (e, p) ∈ S.E mid → b mid e = b0 mid e) → (∀ g, f = some g → S.riv = false → ∀ s, g = cts S b0 (some s) mid) → s ∈ l →
    bgo S mid l f b s mid = (minOf ltC (cts S b0 (some s) mid)).map fun x => (x.1, x.2.1, some x.2.2)
  | [], _, _, _, _, _, _, _, h => by cases h
  | s0 :: ss, f, b, s, nd, hn, hb, hf, h => by
    obtain ⟨nd1, nd2⟩ := List.nodup_cons.mp nd
    have en : bnext S mid f b s0 = cts S b0 (some s0) mid := by
      unfold bnext
      cases f with
      | none => exact cts_congr hb
      | some g =>
        by_cases hr : S.riv = true
        · simp only [if_pos hr]
          exact cts_congr hb
        · simp only [if_neg hr]
          exact hf g rfl (by simpa using hr) s0
    have hind : S.riv = false → ∀ s', cts S b0 (some s0) mid = cts S b0 (some s') mid := by
      intro hr s'
      unfold cts
      congr 1
      funext ep
      unfold ctE
      have := (ok.p2 hr s0 s' mid ep.1).1
      show ((b0 mid ep.1).bind fun x => (S.pr s0 mid ep.1).map _) = ((b0 mid ep.1).bind fun x => (S.pr s' mid ep.1).map _)
      rw [this]
    show bgo S mid ss (some (bnext S mid f b s0)) (bset b s0 mid (bnext S mid f b s0)) s mid = _
    rw [en]
    rcases List.mem_cons.mp h with z | h'
    · subst z
      rw [bgo_ne (.inr nd1)]
      unfold bset
      cases minOf ltC (cts S b0 (some s) mid) with
      | none => exact hn s h
      | some x => exact setM_same
    · refine bgo_at ok nd2 (fun s' hs' => ?_) (fun e p hp => ?_) (fun g hg hr s' => ?_) h'
      · rw [bset_ne (by rintro ⟨z, _⟩; exact nd1 (z ▸ hs'))]
        exact hn s' (List.mem_cons_of_mem _ hs')
      · rw [bset_ne (by rintro ⟨_, z⟩; have := (ok.e1 _ _ _ hp).1; omega)]
        exact hb e p hp
      · rw [← Option.some.inj hg]
        exact hind hr s'
theorem binit_at : ∀ {l : List Nat} {b : BM} {s k : Nat}, (s ∈ l → k = S.n → l.foldl (fun b s => setM b s S.n (0, 0, none)) b s k = some (0, 0, none)) ∧ (¬ (s ∈ l ∧ k = S.n) → l.foldl (fun b s => setM b s S.n (0, 0, none)) b s k = b s k)
  | [], b, s, k => ⟨fun h => absurd h (by simp), fun _ => rfl⟩
  | a :: l, b, s, k => by
    rw [List.foldl_cons]
    obtain ⟨i1, i2⟩ := binit_at (l := l) (b := setM b a S.n (0, 0, none)) (s := s) (k := k)
    refine ⟨fun h hk => ?_, fun h => ?_⟩
    · by_cases hl : s ∈ l
      · exact i1 hl hk
      · rw [i2 fun z => hl z.1]
        rcases List.mem_cons.mp h with z | z
        · rw [z, hk]
          exact setM_same
        · exact absurd z hl
    · rw [i2 fun z => h ⟨List.mem_cons_of_mem _ z.1, z.2⟩]
      exact setM_ne fun z => h ⟨by rw [z.1]; exact List.mem_cons_self, z.2⟩
theorem bestB_none {k : Nat} : ∀ {s m : Nat}, k ≤ S.n - 1 → 0 < S.n → m + k < S.n → bestB S k s m = none := by
  induction k with
  | zero =>
    intro s m _ h0 h
    show binit S s m = none
    unfold binit
    rw [(binit_at (S := S) (l := S.T S.n)).2]
    rintro ⟨_, z⟩
    omega
  | succ k ih =>
    intro s m hk h0 h
    show bgo S (S.n - 1 - k) _ none (bestB S k) s m = none
    rw [bgo_ne (.inl (by omega))]
    exact ih (by omega) h0 (by omega)
theorem bestB_good (ok : S.Ok) (nd : ∀ k, (S.T k).Nodup) (h0 : 0 < S.n) : ∀ (k : Nat), k ≤ S.n - 1 → ∀ s m, S.n ≤ m + k → s ∈ S.T m → GoodB S (bestB S k) s m
  | 0, _, s, m, hm, hs => by
    obtain ⟨p, hp⟩ := (ok.t _ _).mp hs
    have hmn : m = S.n := by
      have := (ok.e1 _ _ _ hp).2.1
      omega
    subst hmn
    have e : bestB S 0 s S.n = some (0, 0, none) := (binit_at (S := S) (l := S.T S.n)).1 hs rfl
    refine ⟨fun x hx => ?_, fun hx => (by rw [e] at hx; cases hx)⟩
    rw [e] at hx
    cases hx
    refine ⟨[], ⟨⟨_, Wk.nil _ _⟩, fun es' c' a' w => ?_⟩, rfl, rfl⟩
    cases w with
    | nil => exact leF_refl _
    | cons hp' _ _ =>
      have := ok.e1 _ _ _ hp'
      have := Wk.le ok (by assumption) this.2.1
      omega
  | k + 1, hk, s, m, hm, hs => by
    have ih := bestB_good ok nd h0 k (by omega)
    by_cases e : m = S.n - 1 - k
    · subst e
      have hmn : S.n - 1 - k < S.n := by omega
      have e1 : bestB S (k + 1) s (S.n - 1 - k) = (minOf ltC (cts S (bestB S k) (some s) (S.n - 1 - k))).map fun x => (x.1, x.2.1, some x.2.2) :=
        bgo_at ok (nd _) (fun s' _ => bestB_none (by omega) h0 (by omega)) (fun _ _ _ => rfl) (fun g hg => by cases hg) hs
      obtain ⟨l1, l2⟩ := cts_least (st := some s) (b := bestB S k) ok hmn fun e p hp => ih _ _ (by have := (ok.e1 _ _ _ hp).1; omega) ((ok.t _ _).mpr ⟨p, hp⟩)
      refine ⟨fun x hx => ?_, fun hx => ?_⟩
      · rw [e1] at hx
        obtain ⟨t, ht, rfl⟩ := Option.map_eq_some_iff.mp hx
        obtain ⟨es, hl, hn⟩ := l1 t ht
        exact ⟨_, hl, hn, rfl⟩
      · rw [e1] at hx
        exact l2 (Option.map_eq_none_iff.mp hx)
    · have e1 : bestB S (k + 1) s m = bestB S k s m := bgo_ne (.inl e)
      unfold GoodB
      rw [e1]
      exact ih s m (by omega) hs
/-- walking along the map gives the least row of lines -/
theorem fol_least (ok : S.Ok) {b : BM} (hb : ∀ s m, 0 < m → s ∈ S.T m → GoodB S b s m) : ∀ (k s m : Nat) (acc es : List Nat) (c : Int), S.n - m ≤ k → 0 < m → m ≤ S.n → s ∈ S.T m → LeastB S (some s) m c es → fol b S.n k s m acc = acc ++ es
  | 0, s, m, acc, es, c, hk, hm, hn, hs, ⟨⟨a, w⟩, _⟩ => by
    have e : m = S.n := by omega
    subst e
    cases w with
    | nil =>
      show acc = acc ++ []
      simp
    | cons hp _ w' =>
      have h1 := ok.e1 _ _ _ hp
      have := Wk.le ok w' h1.2.1
      omega
  | k + 1, s, m, acc, es, c, hk, hm, hn, hs, ⟨⟨a, w⟩, l⟩ => by
    unfold fol
    by_cases e : m < S.n
    · rw [if_pos e]
      obtain ⟨g1, g2⟩ := hb s m hm hs
      cases hx : b s m with
      | none => exact absurd w (g2 hx es c a)
      | some x =>
        obtain ⟨es0, l0, hl, hh⟩ := g1 x hx
        obtain ⟨_, z⟩ := LeastB.one l0 ⟨⟨a, w⟩, l⟩
        subst z
        cases w with
        | nil => omega
        | @cons _ _ e1 p q c1 es1 _ _ hp hq w1 =>
          obtain ⟨x1, x2, x3⟩ := x
          have hh' : x3 = some e1 := hh
          subst hh'
          show fol b S.n k m e1 (acc ++ [e1]) = acc ++ e1 :: es1
          have h1 := ok.e1 _ _ _ hp
          rw [fol_least ok hb k m e1 (acc ++ [e1]) es1 c1 (by omega) (by omega) h1.2.1 ((ok.t _ _).mpr ⟨p, hp⟩) ⟨⟨a, w1⟩, fun es' c' a' w' => ?_⟩]
          · simp
          · have := l _ _ _ (Wk.cons hp hq w')
            unfold leF at this ⊢
            simp only [List.length_cons] at this ⊢
            rcases this with h | ⟨h, h2 | ⟨h2, h3⟩⟩
            · exact .inl (by omega)
            · exact .inr ⟨by omega, .inl (by omega)⟩
            · refine .inr ⟨by omega, .inr ⟨by omega, ?_⟩⟩
              rcases h3 with h3 | ⟨_, h3⟩
              · omega
              · exact h3
    · rw [if_neg e]
      have e' : m = S.n := by omega
      subst e'
      cases w with
      | nil => simp
      | cons hp _ w' =>
        have h1 := ok.e1 _ _ _ hp
        have := Wk.le ok w' h1.2.1
        omega
theorem resB_spec (ok : S.Ok) (nd : ∀ k, (S.T k).Nodup) : (∀ r, resB S = some r → LeastAll S r.1 r.2) ∧ (resB S = none → ∀ es c a, ¬ Wk S none 0 es c a S.n) := by
  unfold resB
  by_cases h0 : S.n = 0
  · rw [if_pos h0]
    refine ⟨fun r hr => ?_, fun hr => by cases hr⟩
    cases hr
    unfold LeastAll
    rw [h0]
    refine ⟨⟨_, Wk.nil none 0⟩, fun es' c' a' w => ?_⟩
    cases w with
    | nil => exact leF_refl _
    | cons hp _ _ =>
      have := ok.e1 _ _ _ hp
      omega
  · rw [if_neg h0]
    have hg := bestB_good ok nd (by omega) (S.n - 1) (Nat.le_refl _)
    obtain ⟨l1, l2⟩ := cts_least (st := none) (b := bestB S (S.n - 1)) (mid := 0) ok (by omega) fun e p hp => hg _ _ (by have := (ok.e1 _ _ _ hp).1; omega) ((ok.t _ _).mpr ⟨p, hp⟩)
    refine ⟨fun r hr => ?_, fun hr => l2 (Option.map_eq_none_iff.mp hr)⟩
    obtain ⟨t, ht, rfl⟩ := Option.map_eq_some_iff.mp hr
    obtain ⟨es, ⟨⟨a, w⟩, l⟩, hl⟩ := l1 t ht
    obtain ⟨t1, t2, t3⟩ := t
    show LeastAll S t1 (fol (bestB S (S.n - 1)) S.n (S.n - t3) 0 t3 [t3])
    replace w : Wk S none 0 (t3 :: es) t1 a S.n := w
    replace l : ∀ es' c' a', Wk S none 0 es' c' a' S.n → leF (t1, ((t3 :: es).length : Int), t3 :: es) (c', (es'.length : Int), es') := l
    · obtain ⟨p, q, c1, hp, hq, w1, hc⟩ := w.uncons
      subst hc
      have h1 := ok.e1 _ _ _ hp
      rw [fol_least (c := c1) (es := es) ok (fun s m hm hs => hg s m (by omega) hs) (S.n - t3) 0 t3 [t3] (Nat.le_refl _) h1.1 h1.2.1 ((ok.t _ _).mpr ⟨p, hp⟩) ⟨⟨a, w1⟩, fun es' c' a' w' => ?_⟩]
      · exact ⟨⟨a, Wk.cons hp hq w1⟩, l⟩
      · have := l _ _ _ (Wk.cons hp hq w')
        unfold leF at this ⊢
        simp only [List.length_cons] at this ⊢
        rcases this with h | ⟨h, h2 | ⟨h2, h3⟩⟩
        · exact .inl (by omega)
        · exact .inr ⟨by omega, .inl (by omega)⟩
        · refine .inr ⟨by omega, .inr ⟨by omega, ?_⟩⟩
          rcases h3 with h3 | ⟨_, h3⟩
          · omega
          · exact h3
/-- what the walk along the map asks: the next end is there -/
theorem bestB_next (ok : S.Ok) (nd : ∀ k, (S.T k).Nodup) (h0 : 0 < S.n) {s m : Nat} {x : BT} (hm : 0 < m) (hs : s ∈ S.T m) (hx : bestB S (S.n - 1) s m = some x) (hl : m < S.n) :
    ∃ e, x.2.2 = some e ∧ m < e ∧ e ≤ S.n ∧ m ∈ S.T e ∧ ∃ y, bestB S (S.n - 1) m e = some y := by
  obtain ⟨g1, _⟩ := bestB_good ok nd h0 (S.n - 1) (Nat.le_refl _) s m (by omega) hs
  obtain ⟨es, ⟨⟨a, w⟩, _⟩, _, hh⟩ := g1 x hx
  obtain ⟨e, es1, rfl⟩ := w.unnil (by omega)
  · obtain ⟨p, q, c1, hp, hq, w1, hc⟩ := w.uncons
    have h1 := ok.e1 _ _ _ hp
    have hT : m ∈ S.T e := (ok.t _ _).mpr ⟨p, hp⟩
    refine ⟨e, hh, h1.1, h1.2.1, hT, ?_⟩
    obtain ⟨_, g2⟩ := bestB_good ok nd h0 (S.n - 1) (Nat.le_refl _) m e (by omega) hT
    cases hy : bestB S (S.n - 1) m e with
    | none => exact absurd w1 (g2 hy _ _ _)
    | some y => exact ⟨y, rfl⟩
theorem cts0_next (ok : S.Ok) {t : CT} (ht : minOf ltC (cts S (bestB S (S.n - 1)) none 0) = some t) : 0 < t.2.2 ∧ t.2.2 ≤ S.n ∧ 0 ∈ S.T t.2.2 ∧ ∃ y, bestB S (S.n - 1) 0 t.2.2 = some y := by
  obtain ⟨hmem, _⟩ := minOf_some (le := leC) ltC_iff leC_refl leC_trans leC_total ht
  obtain ⟨e, p, x, q, hp, hx, hq, rfl⟩ := mem_cts.mp hmem
  have h1 := ok.e1 _ _ _ hp
  exact ⟨h1.1, h1.2.1, (ok.t _ _).mpr ⟨p, hp⟩, x, hx⟩
/-- THE TWO WAYS AGREE -/
theorem agree (ok : S.Ok) (nd : ∀ k, (S.T k).Nodup) : resF S = resB S := by
  obtain ⟨f1, f2⟩ := resF_spec ok
  obtain ⟨b1, b2⟩ := resB_spec ok nd
  cases hf : resF S with
  | none =>
    cases hb : resB S with
    | none => rfl
    | some r =>
      obtain ⟨⟨a, w⟩, _⟩ := b1 r hb
      exact absurd w (f2 hf _ _ _)
  | some r =>
    cases hb : resB S with
    | none =>
      obtain ⟨⟨a, w⟩, _⟩ := f1 r hf
      exact absurd w (b2 hb _ _ _)
    | some r' =>
      obtain ⟨e1, e2⟩ := LeastAll.one (f1 r hf) (b1 r' hb)
      obtain ⟨r1, r2⟩ := r
      obtain ⟨r1', r2'⟩ := r'
      simp only at e1 e2
      rw [e1, e2]
/-- what a breaking is like -/
theorem sound (ok : S.Ok) {r : Int × List Nat} (h : resF S = some r) : 0 ≤ r.1 ∧ (0 :: r.2).Pairwise (· < ·) ∧ (0 :: r.2).getLast? = some S.n := by
  obtain ⟨⟨a, w⟩, _⟩ := (resF_spec ok).1 r h
  obtain ⟨h1, h2⟩ := w.asc ok
  exact ⟨(w.le ok (Nat.zero_le _)).2.2.1, h1, h2⟩
end

/-! ### the blocked stretch -/
abbrev AM := Nat → Nat → Option Nat
def ainner (S : Sys) (f : AM) (s mid : Nat) : Nat := (S.E mid).foldl (fun best ep => if best < (f mid ep.1).getD 0 ∧ (S.prO (some s) mid ep.1).isSome = true then (f mid ep.1).getD 0 else best) mid
def anext (S : Sys) (mid : Nat) (b : Option Nat) (f : AM) (s : Nat) : Nat := match b with
  | none => ainner S f s mid
  | some v => if S.riv = true then ainner S f s mid else v
def ago (S : Sys) (mid : Nat) : List Nat → Option Nat → AM → AM
  | [], _, f => f
  | s :: ss, b, f => ago S mid ss (some (anext S mid b f s)) (setM f s mid (anext S mid b f s))
def farA (S : Sys) : Nat → AM
  | 0 => fun _ _ => none
  | k + 1 => ago S (S.n - k) (S.T (S.n - k)) none (farA S k)
def maxL : List Nat → Nat
  | [] => 0
  | x :: xs => max x (maxL xs)
def sstep (S : Sys) (f : AM) (i : Nat) (x : Nat × Option (Nat × Nat)) : Nat × Option (Nat × Nat) :=
  let c := maxL (x.1 :: i :: (S.E i).map fun ep => (f i ep.1).getD 0)
  (c, if c < S.n ∧ (∀ p, x.2 = some p → (c : Int) + 1 - i < (p.2 : Int) - p.1) then some (i, c + 1) else x.2)
def sgo (S : Sys) (f : AM) : Nat → Nat × Option (Nat × Nat)
  | 0 => (0, none)
  | i + 1 => sstep S f i (sgo S f i)
def resS (S : Sys) : Option (Nat × Nat) := (sgo S (farA S S.n) S.n).2
section
variable {S : Sys} {mid : Nat}
theorem maxL_ge : ∀ {l : List Nat} {x : Nat}, x ∈ l → x ≤ maxL l
  | a :: l, x, h => by
    unfold maxL
    rcases List.mem_cons.mp h with rfl | h
    · exact Nat.le_max_left _ _
    · exact Nat.le_trans (maxL_ge h) (Nat.le_max_right _ _)
theorem maxL_le : ∀ {l : List Nat} {n : Nat}, (∀ x ∈ l, x ≤ n) → maxL l ≤ n
  | [], _, _ => Nat.zero_le _
  | a :: l, n, h => by
    unfold maxL
    exact Nat.max_le.mpr ⟨h a List.mem_cons_self, maxL_le fun x hx => h x (List.mem_cons_of_mem _ hx)⟩
theorem maxL_mem : ∀ {l : List Nat}, l ≠ [] → maxL l ∈ l
  | [], h => absurd rfl h
  | [a], _ => by simp [maxL]
  | a :: b :: l, _ => by
    have ih := maxL_mem (l := b :: l) (by simp)
    unfold maxL
    rcases Nat.le_total a (maxL (b :: l)) with h | h
    · rw [Nat.max_eq_right h]
      exact List.mem_cons_of_mem _ ih
    · rw [Nat.max_eq_left h]
      exact List.mem_cons_self
/-- v is a place that a chain which begins with the line (s, m) reaches -/
def ReachA (S : Sys) (s m v : Nat) : Prop := m ≤ v ∧ v ≤ S.n ∧ (v = S.n → ∃ es c a, Wk S (some s) m es c a S.n)
def GoodA (S : Sys) (f : AM) (s m : Nat) : Prop := ∃ v, f s m = some v ∧ ReachA S s m v
theorem ainner_ok (ok : S.Ok) {f : AM} {s : Nat} (hm : mid ≤ S.n) (hf : ∀ e p, (e, p) ∈ S.E mid → GoodA S f mid e) : ReachA S s mid (ainner S f s mid) := by
  unfold ainner
  have key : ∀ (l : List (Nat × Int)) (b : Nat), (∀ ep ∈ l, ep ∈ S.E mid) → ReachA S s mid b → ReachA S s mid (l.foldl (fun best ep => if best < (f mid ep.1).getD 0 ∧ (S.prO (some s) mid ep.1).isSome = true then (f mid ep.1).getD 0 else best) b) := by
    intro l
    induction l with
    | nil => intro b _ h; exact h
    | cons ep l ih =>
      intro b hl h
      rw [List.foldl_cons]
      refine ih _ (fun x hx => hl x (List.mem_cons_of_mem _ hx)) ?_
      by_cases c : b < (f mid ep.1).getD 0 ∧ (S.prO (some s) mid ep.1).isSome = true
      · rw [if_pos c]
        obtain ⟨e, p⟩ := ep
        have hp := hl _ List.mem_cons_self
        obtain ⟨v, hv, r1, r2, r3⟩ := hf e p hp
        have h1 := ok.e1 _ _ _ hp
        obtain ⟨q, hq⟩ := Option.isSome_iff_exists.mp c.2
        simp only [hv, Option.getD_some]
        refine ⟨by omega, r2, fun z => ?_⟩
        obtain ⟨es, c', a, w⟩ := r3 z
        exact ⟨_, _, _, Wk.cons hp hq w⟩
      · rw [if_neg c]
        exact h
  refine key _ _ (fun _ h => h) ⟨Nat.le_refl _, hm, fun z => ?_⟩
  subst z
  exact ⟨[], 0, some s, Wk.nil _ _⟩
theorem ago_ne : ∀ {l : List Nat} {b : Option Nat} {f : AM} {a k : Nat}, (k ≠ mid ∨ a ∉ l) → ago S mid l b f a k = f a k
  | [], _, _, _, _, _ => rfl
  | s :: ss, b, f, a, k, h => by
    show ago S mid ss _ _ a k = _
    rw [ago_ne (l := ss), setM_ne]
    · rintro ⟨h1, h2⟩
      rcases h with h | h
      · exact h h2
      · exact h (by rw [h1]; exact List.mem_cons_self)
    · rcases h with h | h
      · exact .inl h
      · exact .inr fun z => h (List.mem_cons_of_mem _ z)
theorem reach_ind (ok : S.Ok) (hr : S.riv = false) {s s' v : Nat} (h : ReachA S s mid v) : ReachA S s' mid v := by
  refine ⟨h.1, h.2.1, fun z => ?_⟩
  obtain ⟨es, c, a, w⟩ := h.2.2 z
  cases w with
  | nil => exact ⟨[], 0, _, Wk.nil _ _⟩
  | @cons _ _ e p q c1 es1 _ _ hp hq w1 =>
    have : S.pr s mid e = S.pr s' mid e := (ok.p2 hr s s' mid e).1
    exact ⟨_, _, _, Wk.cons (st := some s') hp (this.symm.trans hq) w1⟩
theorem ago_good (ok : S.Ok) : ∀ {l : List Nat} {b : Option Nat} {f : AM} {s : Nat}, mid ≤ S.n → (∀ e p, (e, p) ∈ S.E mid → GoodA S f mid e) → (∀ v, b = some v → S.riv = false → ∀ s, ReachA S s mid v) → s ∈ l → GoodA S (ago S mid l b f) s mid
  | [], _, _, _, _, _, _, h => by cases h
  | s0 :: ss, b, f, s, hm, hf, hb, h => by
    have hr0 : ReachA S s0 mid (anext S mid b f s0) := by
      unfold anext
      cases b with
      | none => exact ainner_ok ok hm hf
      | some v =>
        by_cases hr : S.riv = true
        · simp only [if_pos hr]
          exact ainner_ok ok hm hf
        · simp only [if_neg hr]
          exact hb v rfl (by simpa using hr) s0
    show GoodA S (ago S mid ss (some (anext S mid b f s0)) (setM f s0 mid (anext S mid b f s0))) s mid
    by_cases hs : s ∈ ss
    · refine ago_good ok hm (fun e p hp => ?_) (fun v hv hr s' => ?_) hs
      · obtain ⟨v, hv, r⟩ := hf e p hp
        refine ⟨v, ?_, r⟩
        rw [setM_ne (by rintro ⟨_, z⟩; have := (ok.e1 _ _ _ hp).1; omega)]
        exact hv
      · rw [← Option.some.inj hv]
        exact reach_ind ok hr hr0
    · rcases List.mem_cons.mp h with z | z
      · subst z
        unfold GoodA
        rw [ago_ne (.inr hs), setM_same]
        exact ⟨_, rfl, hr0⟩
      · exact absurd z hs
theorem farA_good (ok : S.Ok) : ∀ (k : Nat), k ≤ S.n → ∀ s m, S.n < m + k → s ∈ S.T m → GoodA S (farA S k) s m
  | 0, _, s, m, hm, hs => by
    obtain ⟨p, hp⟩ := (ok.t _ _).mp hs
    have := (ok.e1 _ _ _ hp).2.1
    omega
  | k + 1, hk, s, m, hm, hs => by
    have ih := farA_good ok k (by omega)
    by_cases e : m = S.n - k
    · subst e
      exact ago_good ok (by omega) (fun e p hp => ih _ _ (by have := (ok.e1 _ _ _ hp).1; omega) ((ok.t _ _).mpr ⟨p, hp⟩)) (fun v hv => by cases hv) hs
    · have e1 : farA S (k + 1) s m = farA S k s m := ago_ne (.inl e)
      unfold GoodA
      rw [e1]
      exact ih s m (by omega) hs
theorem sgo_ok (ok : S.Ok) : ∀ (i : Nat), i ≤ S.n → (sgo S (farA S S.n) i).1 ≤ S.n ∧ (0 < i → i - 1 ≤ (sgo S (farA S S.n) i).1) ∧ (∀ p, (sgo S (farA S S.n) i).2 = some p → p.1 < p.2 ∧ p.2 ≤ S.n)
  | 0, _ => ⟨Nat.zero_le _, fun h => absurd h (Nat.lt_irrefl _), fun p h => by cases h⟩
  | i + 1, h => by
    obtain ⟨i1, i2, i3⟩ := sgo_ok ok i (by omega)
    have hc1 : maxL ((sgo S (farA S S.n) i).1 :: i :: (S.E i).map fun ep => (farA S S.n i ep.1).getD 0) ≤ S.n := by
      refine maxL_le fun x hx => ?_
      rcases List.mem_cons.mp hx with rfl | hx
      · exact i1
      rcases List.mem_cons.mp hx with rfl | hx
      · omega
      obtain ⟨⟨e, p⟩, hp, rfl⟩ := List.mem_map.mp hx
      obtain ⟨v, hv, _, r2, _⟩ := farA_good ok S.n (Nat.le_refl _) i e (by have := (ok.e1 _ _ _ hp).1; omega) ((ok.t _ _).mpr ⟨p, hp⟩)
      simp only [hv, Option.getD_some]
      exact r2
    have hc2 : i ≤ maxL ((sgo S (farA S S.n) i).1 :: i :: (S.E i).map fun ep => (farA S S.n i ep.1).getD 0) := maxL_ge (List.mem_cons_of_mem _ List.mem_cons_self)
    refine ⟨hc1, fun _ => hc2, fun p hp => ?_⟩
    show p.1 < p.2 ∧ p.2 ≤ S.n
    have hp' : (if maxL ((sgo S (farA S S.n) i).1 :: i :: (S.E i).map fun ep => (farA S S.n i ep.1).getD 0) < S.n ∧ _ then some (i, maxL ((sgo S (farA S S.n) i).1 :: i :: (S.E i).map fun ep => (farA S S.n i ep.1).getD 0) + 1) else (sgo S (farA S S.n) i).2) = some p := hp
    by_cases c : maxL ((sgo S (farA S S.n) i).1 :: i :: (S.E i).map fun ep => (farA S S.n i ep.1).getD 0) < S.n ∧ (∀ p, (sgo S (farA S S.n) i).2 = some p → ((maxL ((sgo S (farA S S.n) i).1 :: i :: (S.E i).map fun ep => (farA S S.n i ep.1).getD 0) : Nat) : Int) + 1 - i < (p.2 : Int) - p.1)
    · rw [if_pos c] at hp'
      cases hp'
      exact ⟨by omega, by omega⟩
    · rw [if_neg c] at hp'
      exact i3 p hp'
theorem sgo_some (f : AM) : ∀ (i j : Nat), i ≤ j → (sgo S f i).2 ≠ none → (sgo S f j).2 ≠ none
  | i, 0, h, g => by
    have : i = 0 := by omega
    subst this
    exact g
  | i, j + 1, h, g => by
    by_cases e : i = j + 1
    · rw [← e]
      exact g
    · have ih := sgo_some f i j (by omega) g
      show (sstep S f j (sgo S f j)).2 ≠ none
      unfold sstep
      simp only
      split
      · exact fun z => by cases z
      · exact ih
theorem stretch_ok (ok : S.Ok) : (∀ p, resS S = some p → p.1 < p.2 ∧ p.2 ≤ S.n) ∧ (resF S = none → ∃ p, resS S = some p) := by
  refine ⟨(sgo_ok ok S.n (Nat.le_refl _)).2.2, fun h => ?_⟩
  have no := (resF_spec ok).2 h
  have hn : 0 < S.n := by
    rcases Nat.eq_zero_or_pos S.n with z | z
    · refine absurd ?_ (no [] 0 none)
      rw [z]
      exact Wk.nil none 0
    · exact z
  have h1 : (sgo S (farA S S.n) 1).2 ≠ none := by
    show (sstep S (farA S S.n) 0 (0, none)).2 ≠ none
    have hlt : maxL (0 :: 0 :: (S.E 0).map fun ep => (farA S S.n 0 ep.1).getD 0) < S.n := by
      have hmem := maxL_mem (l := 0 :: 0 :: (S.E 0).map fun ep => (farA S S.n 0 ep.1).getD 0) (by simp)
      rcases List.mem_cons.mp hmem with z | hmem
      · rw [z]
        exact hn
      rcases List.mem_cons.mp hmem with z | hmem
      · rw [z]
        exact hn
      obtain ⟨⟨e, p⟩, hp, hz⟩ := List.mem_map.mp hmem
      have he := ok.e1 _ _ _ hp
      obtain ⟨v, hv, _, r2, r3⟩ := farA_good ok S.n (Nat.le_refl _) 0 e (by omega) ((ok.t _ _).mpr ⟨p, hp⟩)
      simp only [hv, Option.getD_some] at hz
      rw [← hz]
      rcases Nat.lt_or_ge v S.n with q | q
      · exact q
      · obtain ⟨es, c, a, w⟩ := r3 (by omega)
        exact absurd (Wk.cons (st := none) hp rfl w) (no _ _ _)
    unfold sstep
    simp only
    rw [if_pos ⟨hlt, fun p hp => by cases hp⟩]
    exact fun z => by cases z
  have := sgo_some (farA S S.n) 1 S.n hn h1
  unfold resS
  cases e : (sgo S (farA S S.n) S.n).2 with
  | none => exact absurd e this
  | some p => exact ⟨p, rfl⟩
end
end SpM
set_option maxRecDepth 100000
set_option maxHeartbeats 2000000
/-! Rules of our own: an own __add__, a staticmethod called off its class, t[::-1] of a tuple, min of a list of data, a chain of three comparisons. -/
namespace Sp
open PySem PySem.Spec PyProof.Rows L2

/-! ### a + b by an own __add__ -/
section
variable {X : Cx} {k : Nat} {f C : Addr} {fd : FuncData} {sp : Sp} {ps : List Str}
def rOwnAdd (C : Addr) (sp : Sp) : R2 := fun x y H Q => ∃ a b dx dy fs gs, x = .ref a ∧ y = .ref b ∧ H a = some (.ins C dx fs) ∧ H b = some (.ins C dy gs) ∧ sp [.ref a, .ref b] H Q E0
theorem op_own_add (M : Meth X.K C "__add__" f) (hc : PySem.W.selfFirst X.K C = true) (F : FnOk X.prog X.w X.K X.mg X.base CX0 k f fd ps sp) (hr : Room k X.A) (hb : Binds X.K fd ps []) : OpR X (binaryOp .Add) (rOwnAdd C sp) := by
  intro pins s σ H x y v u Q I rx ry hq
  obtain ⟨a, b, dx, dy, fs, gs, rfl, rfl, ea, eb, q⟩ := hq
  obtain rfl : v = Value.ref a := rx
  obtain rfl : u = Value.ref b := ry
  obtain ⟨mA, OA, _⟩ := ins_get I.hok ea
  obtain ⟨oa, JA, _⟩ := OA.look
  obtain ⟨mB, OB, _⟩ := ins_get I.hok eb
  obtain ⟨ob, JB, _⟩ := OB.look
  obtain ⟨m, hf⟩ := I.fr
  refine PySem.W.binop_K hf I.ok.mod.kin JA JB.type hc M.at_ M.fn ?_
  refine thn (run_fn (us := [.ref a, .ref b]) (vs := [.ref a, .ref b]) F hr hb .nil pass0 I (.cons rfl (.cons rfl .nil)) q) fun z s' hz => ?_
  obtain ⟨v2, H2, I2, r2, q2⟩ := hz
  have fin : EP X pins σ Q z s' := ⟨v2, H2, I2, r2, q2⟩
  cases v2 with
  | non => cases (show z = Value.none from r2); exact fin
  | bl c => cases (show z = Value.bool c from r2); exact fin
  | int i => obtain ⟨t, rfl⟩ := (show ∃ t, z = Value.int i t from r2); exact fin
  | str i => obtain ⟨t, rfl⟩ := (show ∃ t, z = Value.str i t from r2); exact fin
  | byt i => obtain ⟨t, rfl⟩ := (show ∃ t, z = Value.bytes i t from r2); exact fin
  | flt i => obtain ⟨t, rfl⟩ := (show ∃ t, z = Value.float i t from r2); exact fin
  | ref p => cases (show z = Value.ref p from r2); exact fin
  | ty n => cases (show z = Value.type n from r2); exact fin
end

/-! ### C.m(e, ..), m a staticmethod of C -/
structure SMet (K : PySem.W.Frag) (C : Addr) (m : Str) (p g : Addr) : Prop where
  at_ : PySem.W.findCls K (.ref C) (.type "type") m = some (.get (.builtin "staticmethod.__get__") (.ref p) .none (.ref C))
  rc : ∃ rest, PySem.W.recIn K p "staticmethod" = some (.ref g :: rest)
  kp : PySem.W.keepIn K (.ref g) = true
section
variable {X : Cx} {pins : List (Addr × Obj)} {σ : L2.St} {H : Hp} {s : Shared} {CX : CXT} {k : Nat} {C p g : Addr} {fd : FuncData} {ps : List Str} {sp : Sp} {E : XK} {o e : Expr} {es : List Expr} {m : Str} {pos apos : Pos} {ta : TE} {t : TA} {pl : Sem Bool} {A : Around} {EE : Value → Shared → Prop}
theorem get_static {Q : Value × List Value → Shared → Prop} (I : Inv X pins σ H s) (r : ClX.CRead X.K C (.type "type")) (c : SMet X.K C m p g) (h : ∀ s', Inv X pins σ H s' → Q (.ref g, []) s') :
    wpAny (model X.prog X.w) A (getMethod (.ref C) m pl) Q EE s := by
  obtain ⟨rest, hp⟩ := c.rc
  refine PySem.W.method_cls I.kIn r.ga ?_
  refine PySem.W.cls_bind I.kIn r.rd c.at_ ?_
  refine wpAny_call (PySem.W.sm_get (s := { s with toks := s.toks + 1 }) I.kIn hp (PySem.W.handed_on rfl ?_))
  exact h _ (I.tok _)
/-- C.m(e, ..) -/
def tStat (C : Addr) (sp : Sp) (E : XK) (ta : TE) (t : TA) : TE := fun σ H Q => ta σ H fun x H1 => x = .ref C ∧ t σ H1 fun vs H2 => sp vs H2 Q E
theorem pe_static (he : PE X o ta) (r : ClX.CRead X.K C (.type "type")) (c : SMet X.K C m p g) (F : FnOk X.prog X.w X.K X.mg X.base CX k g fd ps sp) (hr : Room k X.A) (hb : Binds X.K fd ps []) (hx : Passes CX X E) (ha : PA X (e :: es) t)
    (hst : starEach (e :: es) X.env = (false, eval e X.env) :: starEach es X.env := by rfl) (hpl : (backTo pos (starEach es X.env)).any (·.1) = false := by rfl)
    (ht : eval (.Call (.Attribute o m apos) (e :: es) [] pos) X.env = (do
      let ov ← eval o X.env
      standAt apos.atName
      let (f, first) ← holding [ov] (getMethod ov m pl)
      callWith pos f first (backTo pos (starEach (e :: es) X.env)) (backToKw pos (keywordEach [] X.env))) := by rfl) :
    PE X (.Call (.Attribute o m apos) (e :: es) [] pos) (tStat C sp E ta t) := by
  refine ⟨fun pins s σ H Q I h => ?_⟩
  refine PySem.W.methodCall_KW (pl := pl) (thn (he.run pins s σ H _ I h) fun u s1 hh => ?_) ht
  obtain ⟨x, H1, I1, rx, ex, q⟩ := hh
  subst ex
  obtain rfl : u = Value.ref C := rx
  refine get_static I1 r c fun s2 I2 => ?_
  refine PySem.W.callWith_K (first := []) (h₀ := X.base) I.ok.mod.kin c.kp (thn (ha.run pos pins s2 σ H1 _ I2 q) fun us s3 hh => ?_) hst hpl
  obtain ⟨vs, H2, I3, rv, q2⟩ := hh
  refine ⟨I3.kIn, ?_⟩
  exact run_fn (us := us) (vs := vs) (ds := []) (dvs := []) F hr hb .nil hx I3 rv (by rw [List.append_nil]; exact q2)
end

/-! ### t[::-1] of a tuple -/
section
variable {prog : Program} {w : World} {A : Around} {E : Value → Shared → Prop} {s : Shared}
theorem applied_back {sl : Addr} {vl vu vs : Value} {n : Nat} {Q : Int × Int × Nat → Shared → Prop} (hs : s.heap.IsSliceOf sl vl vu vs) (pl : IsPart vl none) (pu : IsPart vu none) (ps : IsPart vs (some (-1)))
    (h : Q ((n : Int) - 1, -1, n) s) : wpAny (model prog w) A (Builtin.Slice.sliceApplied (.ref sl) (pure (n : Int))) Q E s := by
  obtain ⟨os, hos, hcs, hds⟩ := id hs
  unfold Builtin.Slice.sliceApplied Builtin.Slice.sliceFields
  refine wpAny_bind (wpAny_bind (wpAny_field hos hds (x := vl) rfl ?_))
  refine wpAny_bind (wpAny_field hos hds (x := vu) rfl ?_)
  refine wpAny_bind (wpAny_field hos hds (x := vs) rfl (wpAny_pure ?_))
  refine wpAny_bind (HT.slicePart_ ps ?_)
  show wpAny _ _ (if ((-1 : Int) == 0) = true then _ else _) _ _ s
  rw [if_neg (by decide)]
  refine wpAny_bind (HT.slicePart_ pl ?_)
  refine wpAny_bind (HT.slicePart_ pu (wpAny_bind (wpAny_pure ?_)))
  show wpAny _ _ (pure ((n : Int) - 1, (-1 : Int), Builtin.Slice.slicePlaces ((n : Int) - 1) (-1) (-1))) _ _ s
  have e : Builtin.Slice.slicePlaces ((n : Int) - 1) (-1) (-1) = n := by
    unfold Builtin.Slice.slicePlaces
    rw [if_neg (by decide)]
    by_cases c : (n : Int) - 1 > -1
    · rw [if_pos c, show (-(-1) : Int) = 1 by decide, Int.ediv_one]
      omega
    · rw [if_neg c]
      omega
  rw [e]
  exact wpAny_pure h
theorem pick_back (xs : Array Value) : ((List.range xs.size).filterMap fun (k : Nat) => xs[(((xs.size : Nat) : Int) - 1 + (k : Int) * (-1)).toNat]?).toArray = xs.toList.reverse.toArray := by
  have e1 : ∀ l : List Nat, (∀ k ∈ l, k < xs.size) → l.filterMap (fun (k : Nat) => xs[(((xs.size : Nat) : Int) - 1 + (k : Int) * (-1)).toNat]?) = (l.map fun k => xs.size - 1 - k).filterMap (xs[·]?) := by
    intro l hl
    induction l with
    | nil => rfl
    | cons k l ih =>
      have := hl k List.mem_cons_self
      have e : (((xs.size : Nat) : Int) - 1 + (k : Int) * (-1)).toNat = xs.size - 1 - k := by omega
      rw [List.map_cons, List.filterMap_cons, List.filterMap_cons, e, ih fun j hj => hl j (List.mem_cons_of_mem _ hj)]
  rw [e1 _ fun k hk => List.mem_range.mp hk, PySem.W.krv_range, List.filterMap_reverse, PySem.W.krv_all]
theorem item_back {t sl : Addr} {items : Array Value} {vl vu vs : Value} {Q : Value → Shared → Prop} (ht : IsTup s.heap t items) (hs : s.heap.IsSliceOf sl vl vu vs) (pl : IsPart vl none) (pu : IsPart vu none) (ps : IsPart vs (some (-1)))
    (h : Q (.ref s.heap.objs.size) { s with heap := s.heap.push { cls := .type "tuple", data := .seq items.toList.reverse.toArray } }) (hsz : items.size ≤ sizeLine) : wpAny (model prog w) A (getItem (.ref t) (.ref sl)) Q E s := by
  have hso : sizeOk (.seq items.toList.reverse.toArray) := by
    show items.toList.reverse.toArray.size ≤ sizeLine
    rw [List.size_toArray, List.length_reverse, Array.length_toList]
    exact hsz
  obtain ⟨os, hos, hcs, hds⟩ := id hs
  have hTs : s.TypeIs (.ref sl) "slice" := ⟨os, hos, hcs⟩
  unfold getItem
  try with_reducible refine wpAny_holding ?_
  try refine wpAny_bind (wpAny_pure ?_)
  refine wpAny_bind (wpAny_sequenceKey ht.typeIs (by decide) ?_)
  refine wpAny_bind (wpAny_callSpecial?_slot (name := Str.ofString "__getitem__") ht.typeIs PyProof.Rows.slot_tuple_getitem (wpAny_call_entry PyProof.Rows.slot_tuple_getitem ht.typeIs entry_tuple_getitem ?_ (args_tuple_getitem _ _)))
  show wpAny _ _ (Builtin.Tuple.tupleItemsOf (.ref t) >>= _) _ _ s
  refine wpAny_bind (tupleItemsOf_ ht (wpAny_bind (wpAny_typeOf hTs ?_)))
  rw [if_pos (by decide)]
  refine wpAny_bind (applied_back hs pl pu ps ?_)
  have hno : ¬ ((((items.size : Nat) : Int) - 1 == 0 && (-1 : Int) == 1 && items.size == items.size) = true) := by
    rw [show ((-1 : Int) == 1) = false by decide, Bool.and_false, Bool.false_and]
    exact Bool.false_ne_true
  show wpAny _ _ (if (((items.size : Nat) : Int) - 1 == 0 && (-1 : Int) == 1 && items.size == items.size) = true then _ else _) _ _ s
  rw [if_neg hno, pick_back]
  first
    | exact wpAny_bind (m := Builtin.Tuple.tupleExact _) (wpAny_newObj_type (wpAny_pure ⟨_, rfl, wpAny_pure h⟩) hso)
    | exact wpAny_bind (m := Builtin.Tuple.tupleExact _) (wpAny_newObj_type (wpAny_bind (wpAny_pure (wpAny_pure ⟨_, rfl, wpAny_pure h⟩))) hso)
    | exact wpAny_bind (wpAny_bind (m := Builtin.Tuple.tupleExact _) (wpAny_newObj_type (wpAny_pure (wpAny_pure ⟨_, rfl, wpAny_pure h⟩)) hso))
    | exact wpAny_bind (wpAny_bind (m := Builtin.Tuple.tupleExact _) (wpAny_newObj_type (wpAny_pure ⟨_, rfl, wpAny_pure h⟩) hso))
end
section
variable {X : Cx}
def tBack (K : PySem.W.Frag) (te : TE) : TE := fun σ H Q => te σ H fun x H1 => ∃ a xs, x = .ref a ∧ SqT K H1 a xs ∧ ∀ p, H1 p = none → Q (.ref p) (upd H1 p (.tup xs.reverse))
theorem pe_back {e : Expr} {te : TE} {k : Nat} {p1 p2 p3 pos : Pos} (he : PE X e te) : PE X (.Subscript e (.Slice none none (some (.UnaryOp .USub (.Constant (.int 1) k p1) p2)) p3) pos) (tBack X.K te) := by
  refine ⟨fun pins s σ H Q I h => ?_⟩
  refine Subscript_ (thn (he.run pins s σ H _ I h) fun v s1 hh => ?_)
  obtain ⟨x, H1, I1, r1, a, xs, ex, hx, q⟩ := hh
  subst ex
  cases r1
  have hst : PO X (some (.UnaryOp .USub (.Constant (.int 1) k p1) p2)) (tPart (tUn (rU fun i => .int (-i)) (tC (.int 1)))) := po_some (pe_un un_neg pe_int)
  refine wpAny_Slice (thn (po_none.run pins s1 σ H1 (fun o H2 => o = none ∧ H2 = H1) I1 ⟨rfl, rfl⟩) fun vl s2 hh => ?_)
  obtain ⟨l, H2, I2, pl, el, e2⟩ := hh
  subst el e2
  refine thn (po_none.run pins s2 σ H2 (fun o H3 => o = none ∧ H3 = H2) I2 ⟨rfl, rfl⟩) fun vu s3 hh => ?_
  obtain ⟨u, H3, I3, pu, eu, e3⟩ := hh
  subst eu e3
  refine thn (hst.run pins s3 σ H3 (fun o H4 => o = some (-1) ∧ H4 = H3) I3 ⟨1, rfl, -1, rfl, rfl, rfl⟩) fun vs s4 hh => ?_
  obtain ⟨o, H4, I4, ps, eo, e4⟩ := hh
  subst eo e4
  have I5 : Inv X pins σ H4 { s4 with heap := s4.heap.push { cls := .type "slice", data := .fields #[vl, vu, vs] } } := I4.kept (t' := s4.toks) fun b ob q => Heap.get?_push_of_some _ q
  obtain ⟨its, r, ht, hz⟩ := I5.tuple hx
  have hlen := r.length
  show wpAny (model X.prog X.w) X.A (subscriptTail e (.Slice none none (some (.UnaryOp .USub (.Constant (.int 1) k p1) p2)) p3) (.ref a) (.ref s4.heap.objs.size)) (EP X pins σ Q) X.xe { s4 with heap := s4.heap.push { cls := .type "slice", data := .fields #[vl, vu, vs] } }
  refine tail_any (ops := [.ref a, .ref s4.heap.objs.size]) ht.typeIs (PyProof.Rows.slot_tuple_getitem.lookup) ?_ (by with_unfolding_all rfl)
  refine item_back ht (Heap.IsSliceOf.new _ vl vu vs) pl pu ps ?_ (by rw [List.size_toArray]; omega)
  refine ⟨.ref _, _, I5.laid (t' := s4.toks) (o := .tup xs.reverse) (fun b ob q => Heap.get?_push_of_some _ q) (Nat.le_refl _) ?_, rfl, q _ (I5.hok.fresh (Nat.le_refl _))⟩
  exact ⟨by rw [List.length_reverse]; exact hz, _, r.reverse, IsTup.new _ _⟩
end

/-! ### min of a list of data -/
theorem minOf_mem {α : Type} {lt : α → α → Bool} : ∀ {l : List α} {m : α}, SpM.minOf lt l = some m → m ∈ l := by
  intro l m h
  cases l with
  | nil => cases h
  | cons x xs =>
    have h' := Option.some.inj h
    subst h'
    have key : ∀ (l : List α) (b : α), l.foldl (fun b y => if lt y b = true then y else b) b ∈ b :: l := by
      intro l
      induction l with
      | nil => intro b; exact List.mem_cons_self
      | cons a l ih =>
        intro b
        rw [List.foldl_cons]
        rcases List.mem_cons.mp (ih (if lt a b = true then a else b)) with e | e
        · rw [e]
          split
          · exact List.mem_cons_of_mem _ List.mem_cons_self
          · exact List.mem_cons_self
        · exact List.mem_cons_of_mem _ (List.mem_cons_of_mem _ e)
    exact key xs x
theorem minOf_map {α β : Type} {lt : α → α → Bool} {lt' : β → β → Bool} (f : α → β) (h : ∀ x y, lt' (f x) (f y) = lt x y) : ∀ l : List α, SpM.minOf lt' (l.map f) = (SpM.minOf lt l).map f := by
  intro l
  cases l with
  | nil => rfl
  | cons x xs =>
    show some ((xs.map f).foldl _ (f x)) = some (f (xs.foldl _ x))
    congr 1
    induction xs generalizing x with
    | nil => rfl
    | cons a l ih =>
      rw [List.map_cons, List.foldl_cons, List.foldl_cons, h]
      by_cases c : lt a x = true
      · rw [if_pos c, if_pos c]
        exact ih a
      · rw [if_neg c, if_neg c]
        exact ih x
section
variable {X : Cx} {pins : List (Addr × Obj)} {σ : L2.St} {H : Hp} {s : Shared}
theorem dpAll_get {K : PySem.W.Frag} : ∀ {xs : List V} {ds : List PyData} {i : Nat} {x : V}, DpAll K H xs ds → xs[i]? = some x → ∃ d, ds[i]? = some d ∧ Dp K H x d
  | _, _, _, _, .nil, h => by simp at h
  | _, _, 0, _, .cons h1 _, h => by
    simp at h
    subst h
    exact ⟨_, rfl, h1⟩
  | _, _, i + 1, _, .cons _ h2, h => dpAll_get (i := i) h2 (by simpa using h)
def rMinD (K : PySem.W.Frag) : List V → Hp → VK → Prop := fun vs H Q => ∃ (a : Addr) (xs : List V) (ds : List PyData) (d : PyData), vs = [.ref a] ∧ SqL K H a xs ∧ DpAll K H xs ds ∧ PySem.W.AlikeAll ds ∧ PyData.depthAll ds ≤ 10 ∧ SpM.minOf PySem.W.dataLt ds = some d ∧
  ∀ (i : Nat) (x : V), xs[i]? = some x → ds[i]? = some d → Q x H
theorem cr_minD (hc : X.calm = true) (hu : X.A.units + 64 < cLine) : CallR X (.builtin "min") (rMinD X.K) := by
  intro pins s σ H vs us Q I r hq
  obtain ⟨a, xs, ds, d, rfl, hs, hd, ha, hz, hm, q⟩ := hq
  cases r with
  | cons r1 rr =>
    cases rr
    cases r1
    obtain ⟨its, rv, p, _⟩ := I.list hs
    obtain ⟨as, ra⟩ := Dp.readsAll I ds xs its hd rv
    cases ds with
    | nil => cases hm
    | cons d0 ds =>
      have hm' : PySem.W.minD d0 ds = d := Option.some.inj hm
      refine PySem.W.min_list_data (l := a) (vs := its.toArray) (I.ok.hd hc) p.isList (by simpa using ra) ha (by omega) fun i v h' tk bs hv hr k => ?_
      have hv' : its[i]? = some v := by simpa using hv
      have hi : i < xs.length := by
        rw [rv.length]
        exact (List.getElem?_eq_some_iff.mp hv').1
      obtain ⟨x, hx⟩ : ∃ x, xs[i]? = some x := ⟨_, List.getElem?_eq_getElem hi⟩
      obtain ⟨v2, hv2, rx⟩ := rv.get hx
      obtain rfl : v = v2 := Option.some.inj (hv'.symm.trans hv2)
      obtain ⟨di, hdi, hD⟩ := dpAll_get hd hx
      have I2 : L2.Inv X pins σ H { s with heap := h', toks := tk } := I.kept k
      obtain ⟨cs, rd⟩ := Dp.reads I2 di x v hD rx
      have e : di = PySem.W.minD d0 ds := PySem.W.alike_unique di _ v _ _ (ha.1 di (List.mem_of_getElem? hdi) _ (by rw [hm']; exact minOf_mem hm)) rd hr
      exact ⟨x, H, I2, rx, q i x hx (by rw [hdi, e, hm'])⟩
end

/-! ### a op b op c op d -/
section
variable {X : Cx} {a b c d : Expr} {ta tb tc td : TE} {pos : Pos}
def tChain3 (r r2 r3 : R2) (ta tb tc td : TE) : TE := fun σ H Q => ta σ H fun x H1 => tb σ H1 fun y H2 => r x y H2 fun z H3 => ∃ k, z = .bl k ∧
  (if k = true then tc σ H3 fun v H4 => r2 y v H4 fun z2 H5 => ∃ k2, z2 = .bl k2 ∧ (if k2 = true then td σ H5 fun u H6 => r3 v u H6 Q else Q (.bl false) H5) else Q (.bl false) H3)
theorem pe_chain3 {op op2 op3 : CmpOp} {r r2 r3 : R2} (h1 : OpR X (compareOp op) r) (h2 : OpR X (compareOp op2) r2) (h3 : OpR X (compareOp op3) r3) (ha : PE X a ta) (hb : PE X b tb) (hc : PE X c tc) (hd : PE X d td)
    (hm : lastMarks [op, op2, op3] [b, c, d] = false := by with_unfolding_all rfl) : PE X (.Compare a [op, op2, op3] [b, c, d] pos) (tChain3 r r2 r3 ta tb tc td) := by
  refine ⟨fun pins s σ H Q I h => ?_⟩
  refine Compare_chain (thn (ha.run pins s σ H _ I h) fun v s1 hh => ?_) hm
  obtain ⟨x, H1, I1, q1, q2⟩ := hh
  refine chain_link (thn (hb.run pins s1 σ H1 _ I1 q2) fun u s2 hh => ?_)
  obtain ⟨y, H2, I2, q3, q4⟩ := hh
  refine thn (h1 pins s2 σ H2 x y v u _ I2 q1 q3 q4) fun w s3 hh => ?_
  obtain ⟨z, H3, I3, r4, k, e, q5⟩ := hh
  subst e
  cases r4
  refine wpAny_truthy_bool ?_
  cases k with
  | false => exact ite_ff ⟨.bl false, H3, I3, rfl, q5⟩
  | true =>
    refine ite_tt (chain_link (thn (hc.run pins s3 σ H3 _ I3 q5) fun w s4 hh => ?_))
    obtain ⟨y3, H4, I4, r5, q6⟩ := hh
    refine thn (h2 pins s4 σ H4 y y3 u w _ I4 q3 r5 q6) fun w2 s5 hh => ?_
    obtain ⟨z2, H5, I5, r6, k2, e, q7⟩ := hh
    subst e
    cases r6
    refine wpAny_truthy_bool ?_
    cases k2 with
    | false => exact ite_ff ⟨.bl false, H5, I5, rfl, q7⟩
    | true =>
      refine ite_tt (chain_last (thn (hd.run pins s5 σ H5 _ I5 q7) fun w3 s6 hh => ?_))
      obtain ⟨y4, H6, I6, r7, q8⟩ := hh
      exact h3 pins s6 σ H6 y3 y4 w w3 Q I6 r5 r7 q8
end
end Sp
set_option maxRecDepth 100000
set_option maxHeartbeats 0
/-! The head: what the top leaves, by one kernel run; printed by gen_head.py. -/
namespace Sp
open PySem PySem.Spec PyProof.Rows L2
/-! ### facts of the classes -/
abbrev aGl (K : PySem.W.Frag) : Addr := He.ga K "Glue"
abbrev aMe (K : PySem.W.Frag) : Addr := He.ga K "Measure"
abbrev aBk (K : PySem.W.Frag) : Addr := He.ga K "Blocked"
/-- an instance of Glue: its isinstance, its + -/
def glueB (K : PySem.W.Frag) : Bool := PySem.W.selfFirst K (aGl K) && (He.eqO (PySem.W.findIn K (.ref (aGl K)) "__class__") (some (some (.builtin "object.__class__"))) &&
  (He.eqO (PySem.W.specialIn K (.builtin "object.__class__") "__get__") (some (some (.builtin "getset_descriptor.__get__"))) && (decide (PySem.W.takesIn K (.builtin "object.__class__") = some true) &&
  (decide (PySem.W.mroIn K (aGl K) (.type "object") = some true) && decide (PySem.W.kitOne K (.ref (aGl K)) (.ref (aGl K)) = some true)))))
/-- Measure.of, a staticmethod read off the class -/
def measB (K : PySem.W.Frag) : Bool := He5.wrapB K (aMe K) "staticmethod" "staticmethod.__get__" "of" && (PySem.W.readsIn K (aMe K) (.type "type") &&
  He.eqO (PySem.W.specialIn K (.ref (aMe K)) "__getattribute__") (some (some (.builtin "type.__getattribute__"))))
/-- the class object of Blocked -/
def blkB (K : PySem.W.Frag) : Bool := match K.lookup (aBk K) with
  | some ⟨.type "type", _, .cls cd, sl⟩ => (match cd.mro, sl.toList with
    | .ref d :: bm, [_, _, _, _, some (.builtin n), _] => decide (d = aBk K) && (decide (n = "ValueError.__new__") && (!cd.hasDel && (PySem.HandSPX.refsVE bm && cd.hasDict)))
    | _, _ => false)
  | _ => false
def blkI (K : PySem.W.Frag) : Bool := He.eqO (PySem.W.findIn K (.ref (aBk K)) "__setattr__") (some (some (.builtin "object.__setattr__"))) && (He.eqO (PySem.W.findIn K (.ref (aBk K)) "__getattribute__") (some (some (.builtin "BaseException.__getattribute__"))) &&
  (He.eqO (PySem.W.findIn K (.ref (aBk K)) "__getattr__") (some none) && (He.eqO (PySem.W.findIn K (.ref (aBk K)) "__init__") (some (some (.ref (He.ma K (aBk K) "__init__")))) && (decide (PySem.W.typeIn K (.ref (He.ma K (aBk K) "__init__")) = some (.type "function")) &&
  (PySem.W.keepIn K (.ref (aBk K)) && (decide (PySem.W.subIn K (.ref (aBk K)) (.type "BaseException") = some true) && (decide (PySem.W.typeIn K (.ref (aBk K)) = some (.type "type")) &&
  (PySem.W.hasDictIn K (aBk K) && decide (PySem.W.exmOne K (.ref (aBk K)) (.ref (aBk K)) = some true)))))))))
/-- Blocked.__init__: its code record, its cell, what its super() comes to -/
def blkS (K : PySem.W.Frag) : Bool := He.eqO (PySem.W.ks_superIn K (aBk K) (aBk K) "__init__") (some (some (.builtin "ValueError.__init__"))) && (decide (PySem.W.subIn K (.ref (aBk K)) (.type "ValueError") = some true) &&
  (decide (PySem.W.mroIn K (aBk K) (.ref (aBk K)) = some true) && (He.eqO (PySem.W.nsIn K cStatics "thirdparty.any") (some none) &&
  (match K.lookup (He.ma K (aBk K) "__init__") with
    | some ⟨_, _, .func fd, _⟩ => PySem.W.codeIn K fd.code "Blocked.__init__" && (He.dflB K fd.defaults [] && ((match fd.code with
      | .ref c => (match K.lookup c with
        | some ⟨_, _, .fields vs, _⟩ => (match vs[2]? with
          | some (Value.str z _) => decide (z = "/claim/cut.py")
          | _ => false)
        | _ => false)
      | _ => false) && (match fd.closure with
      | [(_, c)] => (match K.lookup c with
        | some ⟨_, _, .cell (some (.ref d)), _⟩ => decide (d = aBk K)
        | _ => false)
      | _ => false)))
    | _ => false))))
def facts : List (PySem.W.Frag → Bool) := [
  fun K => (He.Fa.glo "Blocked").ok K,
  fun K => (He.Fa.glo "Glue").ok K,
  fun K => (He.Fa.glo "ends_at_hyphen").ok K,
  fun K => (He.Fa.glo "joint_glue").ok K,
  fun K => (He.Fa.glo "extended_glue").ok K,
  fun K => (He.Fa.glo "finished_glue").ok K,
  fun K => (He.Fa.glo "line_glue").ok K,
  fun K => (He.Fa.glo "room_of").ok K,
  fun K => (He.Fa.glo "both_price").ok K,
  fun K => (He.Fa.glo "left_price").ok K,
  fun K => (He.Fa.glo "price_with_glue").ok K,
  fun K => (He.Fa.glo "extra_of").ok K,
  fun K => (He.Fa.glo "box_places").ok K,
  fun K => (He.Fa.glo "gap_spans").ok K,
  fun K => (He.Fa.glo "count_overlapping").ok K,
  fun K => (He.Fa.glo "price_with_count").ok K,
  fun K => (He.Fa.glo "lines_from").ok K,
  fun K => (He.Fa.glo "LineTable").ok K,
  fun K => (He.Fa.glo "farthest_ends").ok K,
  fun K => (He.Fa.glo "stretch_of").ok K,
  fun K => (He.Fa.glo "prefixes_to").ok K,
  fun K => (He.Fa.glo "best_prefixes").ok K,
  fun K => (He.Fa.glo "break_forward").ok K,
  fun K => (He.Fa.glo "continuations").ok K,
  fun K => (He.Fa.glo "best_continuations").ok K,
  fun K => (He.Fa.glo "break_lines").ok K,
  fun K => (He.Fa.glo "Measure").ok K,
  fun K => (He.Fa.glo "_law_pool").ok K,
  fun K => (He.Fa.glo "_law_take").ok K,
  fun K => (He.Fa.glo "_law_is_integer").ok K,
  fun K => (He.Fa.glo "_law_same").ok K,
  fun K => (He.Fa.glo "_law_joint").ok K,
  fun K => (He.Fa.glo "_law_bare").ok K,
  fun K => (He.Fa.glo "_law_glue").ok K,
  fun K => (He.Fa.glo "_law_line_key").ok K,
  fun K => (He.Fa.glo "_law_mirror").ok K,
  fun K => (He.Fa.glo "_law_backward").ok K,
  fun K => (He.Fa.glo "_law_onward").ok K,
  fun K => (He.Fa.glo "_law_sound").ok K,
  fun K => (He.Fa.glo "_law_agree").ok K,
  fun K => (He.Fa.glo "law").ok K,
  fun K => (He.Fa.free "len").ok K,
  fun K => (He.Fa.free "range").ok K,
  fun K => (He.Fa.free "isinstance").ok K,
  fun K => (He.Fa.free "max").ok K,
  fun K => (He.Fa.free "min").ok K,
  fun K => (He.Fa.free "sum").ok K,
  fun K => (He.Fa.free "abs").ok K,
  fun K => (He.Fa.free "int").ok K,
  fun K => (He.Fa.free "bool").ok K,
  fun K => (He.Fa.free "str").ok K,
  fun K => (He.Fa.free "tuple").ok K,
  fun K => (He.Fa.free "list").ok K,
  fun K => (He.Fa.free "super").ok K,
  fun K => (He.Fa.cls "Glue").ok K,
  fun K => (He.Fa.cls "LineTable").ok K,
  fun K => (He.Fa.cls "Measure").ok K,
  fun K => (He.Fa.mkr "Glue").ok K,
  fun K => (He.Fa.mkr "LineTable").ok K,
  fun K => (He.Fa.mkr "Measure").ok K,
  fun K => (He.Fa.noat "Glue" "width").ok K,
  fun K => (He.Fa.noat "Glue" "stretch").ok K,
  fun K => (He.Fa.noat "Glue" "shrink").ok K,
  fun K => (He.Fa.noat "LineTable" "row").ok K,
  fun K => (He.Fa.noat "LineTable" "fitting").ok K,
  fun K => (He.Fa.noat "LineTable" "boxes").ok K,
  fun K => (He.Fa.noat "LineTable" "rivers").ok K,
  fun K => (He.Fa.noat "LineTable" "ends_from").ok K,
  fun K => (He.Fa.noat "LineTable" "starts_to").ok K,
  fun K => (He.Fa.noat "LineTable" "gaps").ok K,
  fun K => (He.Fa.noat "Measure" "width").ok K,
  fun K => (He.Fa.noat "Measure" "indent").ok K,
  fun K => (He.Fa.noat "Measure" "align").ok K,
  fun K => (He.Fa.noat "Measure" "hyphen").ok K,
  fun K => (He.Fa.noat "Measure" "twin").ok K,
  fun K => (He.Fa.noat "Measure" "river").ok K,
  fun K => (He.Fa.noat "Measure" "loose").ok K,
  fun K => (He.Fa.noat "Blocked" "start").ok K,
  fun K => (He.Fa.noat "Blocked" "end").ok K,
  fun K => (He.Fa.meth "Glue" "__add__").ok K,
  fun K => (He.Fa.meth "LineTable" "pair").ok K,
  glueB,
  measB,
  blkB,
  blkI,
  blkS]
def fns : List He5.DefA := [
  ⟨fun K => He.fAd K ("Glue", some "__init__"), "__init__", "Glue.__init__", defArgs s_Glue_init, defBody s_Glue_init, defScope s_Glue_init, [], []⟩,
  ⟨fun K => He.fAd K ("Glue", some "__add__"), "__add__", "Glue.__add__", defArgs s_Glue_add, defBody s_Glue_add, defScope s_Glue_add, [], []⟩,
  ⟨fun K => He.fAd K ("ends_at_hyphen", none), "ends_at_hyphen", "ends_at_hyphen", defArgs s_ends_at_hyphen, defBody s_ends_at_hyphen, defScope s_ends_at_hyphen, [], []⟩,
  ⟨fun K => He.fAd K ("joint_glue", none), "joint_glue", "joint_glue", defArgs s_joint_glue, defBody s_joint_glue, defScope s_joint_glue, [], []⟩,
  ⟨fun K => He.fAd K ("extended_glue", none), "extended_glue", "extended_glue", defArgs s_extended_glue, defBody s_extended_glue, defScope s_extended_glue, [], []⟩,
  ⟨fun K => He.fAd K ("finished_glue", none), "finished_glue", "finished_glue", defArgs s_finished_glue, defBody s_finished_glue, defScope s_finished_glue, [], []⟩,
  ⟨fun K => He.fAd K ("line_glue", none), "line_glue", "line_glue", defArgs s_line_glue, defBody s_line_glue, defScope s_line_glue, [], []⟩,
  ⟨fun K => He.fAd K ("room_of", none), "room_of", "room_of", defArgs s_room_of, defBody s_room_of, defScope s_room_of, [], []⟩,
  ⟨fun K => He.fAd K ("both_price", none), "both_price", "both_price", defArgs s_both_price, defBody s_both_price, defScope s_both_price, [], []⟩,
  ⟨fun K => He.fAd K ("left_price", none), "left_price", "left_price", defArgs s_left_price, defBody s_left_price, defScope s_left_price, [], []⟩,
  ⟨fun K => He.fAd K ("price_with_glue", none), "price_with_glue", "price_with_glue", defArgs s_price_with_glue, defBody s_price_with_glue, defScope s_price_with_glue, [], []⟩,
  ⟨fun K => He.fAd K ("extra_of", none), "extra_of", "extra_of", defArgs s_extra_of, defBody s_extra_of, defScope s_extra_of, [], []⟩,
  ⟨fun K => He.fAd K ("box_places", none), "box_places", "box_places", defArgs s_box_places, defBody s_box_places, defScope s_box_places, [], []⟩,
  ⟨fun K => He.fAd K ("gap_spans", none), "gap_spans", "gap_spans", defArgs s_gap_spans, defBody s_gap_spans, defScope s_gap_spans, [], []⟩,
  ⟨fun K => He.fAd K ("count_overlapping", none), "count_overlapping", "count_overlapping", defArgs s_count_overlapping, defBody s_count_overlapping, defScope s_count_overlapping, [], []⟩,
  ⟨fun K => He.fAd K ("price_with_count", none), "price_with_count", "price_with_count", defArgs s_price_with_count, defBody s_price_with_count, defScope s_price_with_count, [], []⟩,
  ⟨fun K => He.fAd K ("lines_from", none), "lines_from", "lines_from", defArgs s_lines_from, defBody s_lines_from, defScope s_lines_from, [], []⟩,
  ⟨fun K => He.fAd K ("LineTable", some "__init__"), "__init__", "LineTable.__init__", defArgs s_LineTable_init, defBody s_LineTable_init, defScope s_LineTable_init, [], []⟩,
  ⟨fun K => He.fAd K ("LineTable", some "pair"), "pair", "LineTable.pair", defArgs s_LineTable_pair, defBody s_LineTable_pair, defScope s_LineTable_pair, [], []⟩,
  ⟨fun K => He.fAd K ("farthest_ends", none), "farthest_ends", "farthest_ends", defArgs s_farthest_ends, defBody s_farthest_ends, defScope s_farthest_ends, [], []⟩,
  ⟨fun K => He.fAd K ("stretch_of", none), "stretch_of", "stretch_of", defArgs s_stretch_of, defBody s_stretch_of, defScope s_stretch_of, [], []⟩,
  ⟨fun K => He.fAd K ("prefixes_to", none), "prefixes_to", "prefixes_to", defArgs s_prefixes_to, defBody s_prefixes_to, defScope s_prefixes_to, [], []⟩,
  ⟨fun K => He.fAd K ("best_prefixes", none), "best_prefixes", "best_prefixes", defArgs s_best_prefixes, defBody s_best_prefixes, defScope s_best_prefixes, [], []⟩,
  ⟨fun K => He.fAd K ("break_forward", none), "break_forward", "break_forward", defArgs s_break_forward, defBody s_break_forward, defScope s_break_forward, [], []⟩,
  ⟨fun K => He.fAd K ("continuations", none), "continuations", "continuations", defArgs s_continuations, defBody s_continuations, defScope s_continuations, [], []⟩,
  ⟨fun K => He.fAd K ("best_continuations", none), "best_continuations", "best_continuations", defArgs s_best_continuations, defBody s_best_continuations, defScope s_best_continuations, [], []⟩,
  ⟨fun K => He.fAd K ("break_lines", none), "break_lines", "break_lines", defArgs s_break_lines, defBody s_break_lines, defScope s_break_lines, [], []⟩,
  ⟨fun K => He.fAd K ("Measure", some "__init__"), "__init__", "Measure.__init__", defArgs s_Measure_init, defBody s_Measure_init, defScope s_Measure_init, [], [("indent", .int 0), ("align", .str "both"), ("hyphen", .int 50), ("twin", .int 100), ("river", .int 0), ("loose", .int 2)]⟩,
  ⟨fun K => He5.wf K (He.ga K "Measure") "staticmethod" "of", "of", "Measure.of", defArgs s_Measure_of, defBody s_Measure_of, defScope s_Measure_of, [], []⟩,
  ⟨fun K => He.fAd K ("_law_pool", none), "_law_pool", "_law_pool", defArgs s_law_pool, defBody s_law_pool, defScope s_law_pool, [], []⟩,
  ⟨fun K => He.fAd K ("_law_take", none), "_law_take", "_law_take", defArgs s_law_take, defBody s_law_take, defScope s_law_take, [], []⟩,
  ⟨fun K => He.fAd K ("_law_is_integer", none), "_law_is_integer", "_law_is_integer", defArgs s_law_is_integer, defBody s_law_is_integer, defScope s_law_is_integer, [], []⟩,
  ⟨fun K => He.fAd K ("_law_same", none), "_law_same", "_law_same", defArgs s_law_same, defBody s_law_same, defScope s_law_same, [], []⟩,
  ⟨fun K => He.fAd K ("_law_joint", none), "_law_joint", "_law_joint", defArgs s_law_joint, defBody s_law_joint, defScope s_law_joint, [], []⟩,
  ⟨fun K => He.fAd K ("_law_bare", none), "_law_bare", "_law_bare", defArgs s_law_bare, defBody s_law_bare, defScope s_law_bare, [], []⟩,
  ⟨fun K => He.fAd K ("_law_glue", none), "_law_glue", "_law_glue", defArgs s_law_glue, defBody s_law_glue, defScope s_law_glue, [], []⟩,
  ⟨fun K => He.fAd K ("_law_line_key", none), "_law_line_key", "_law_line_key", defArgs s_law_line_key, defBody s_law_line_key, defScope s_law_line_key, [], []⟩,
  ⟨fun K => He.fAd K ("_law_mirror", none), "_law_mirror", "_law_mirror", defArgs s_law_mirror, defBody s_law_mirror, defScope s_law_mirror, [], []⟩,
  ⟨fun K => He.fAd K ("_law_backward", none), "_law_backward", "_law_backward", defArgs s_law_backward, defBody s_law_backward, defScope s_law_backward, [], []⟩,
  ⟨fun K => He.fAd K ("_law_onward", none), "_law_onward", "_law_onward", defArgs s_law_onward, defBody s_law_onward, defScope s_law_onward, [], []⟩,
  ⟨fun K => He.fAd K ("_law_sound", none), "_law_sound", "_law_sound", defArgs s_law_sound, defBody s_law_sound, defScope s_law_sound, [], []⟩,
  ⟨fun K => He.fAd K ("_law_agree", none), "_law_agree", "_law_agree", defArgs s_law_agree, defBody s_law_agree, defScope s_law_agree, [], []⟩,
  ⟨fun K => He.fAd K ("law", none), "law", "law", defArgs s_law, defBody s_law, defScope s_law, [], []⟩]
abbrev FnB : Type := Option (Str × Str × Arguments × FuncBody × Scope × Addr × List Str × Addr)
/-- Blocked.__init__ as it stands -/
def blkF (K : PySem.W.Frag) : FnB := match K.lookup (He.ma K (aBk K) "__init__") with
  | some ⟨_, _, .func fd, _⟩ => some (fd.name, fd.qualname, fd.params, fd.body, fd.scope, fd.globals, fd.closure.map (·.1), fd.builtins)
  | _ => none
def blkV : FnB := some ("__init__", "Blocked.__init__", defArgs s_Blocked_init, .stmts (defBody s_Blocked_init), defScope s_Blocked_init, mainGlobals, ["__class__"], builtinsNs)
abbrev Seen : Type := Bool × List He.FnW × FnB
def seen (K : PySem.W.Frag) : Seen := ((facts.all fun f => f K) && (fns.all fun d => d.ok K), fns.map (fun d => He5.fnA K (d.at_ K)), blkF K)
def meant : Seen := (true, fns.map He5.DefA.val, blkV)
def Told (K : PySem.W.Frag) : Prop := seen K = meant
theorem Told.fact {K : PySem.W.Frag} (c : Told K) (i : Nat) {f : PySem.W.Frag → Bool} (h : facts[i]? = some f) : f K = true := by
  have c1 : ((facts.all fun f => f K) && fns.all fun d => d.ok K) = true := congrArg (fun z : Seen => z.1) c
  exact List.all_eq_true.mp (Bool.and_eq_true_iff.mp c1).1 f (List.mem_of_getElem? h)
theorem Told.def_ {K : PySem.W.Frag} (c : Told K) (i : Nat) {d : He5.DefA} (h : fns[i]? = some d) : ∃ fd, FunD K d.name d.qual d.params d.body d.scope (d.dvs K) (d.kws K) (d.at_ K) fd := by
  have c1 : ((facts.all fun f => f K) && fns.all fun d => d.ok K) = true := congrArg (fun z : Seen => z.1) c
  have c2 := (Bool.and_eq_true_iff.mp c1).2
  have e : fns.map (fun d => He5.fnA K (d.at_ K)) = fns.map He5.DefA.val := congrArg (fun z : Seen => z.2.1) c
  have e2 : (fns.map fun d => He5.fnA K (d.at_ K))[i]? = (fns.map He5.DefA.val)[i]? := congrArg (fun l => l[i]?) e
  rw [List.getElem?_map, List.getElem?_map, h] at e2
  exact He5.DefA.funD (Option.some.inj e2) (List.all_eq_true.mp c2 d (List.mem_of_getElem? h))
/-- what the head tells of K and the module's names -/
structure Tx (K : PySem.W.Frag) (mg : Str → Option Value) : Prop where
  told : Told K
  glo : ∀ x : Str, (He.Fa.glo x).ok K = true → mg x = some (.ref (He.ga K x))
  free : ∀ x : Str, (He.Fa.free x).ok K = true → mg x = none
section
variable {K : PySem.W.Frag} {mg : Str → Option Value}
theorem g_Blocked (T : Tx K mg) : mg "Blocked" = some (.ref (He.ga K "Blocked")) := T.glo _ (T.told.fact 0 rfl)
theorem g_Glue (T : Tx K mg) : mg "Glue" = some (.ref (He.ga K "Glue")) := T.glo _ (T.told.fact 1 rfl)
theorem g_ends_at_hyphen (T : Tx K mg) : mg "ends_at_hyphen" = some (.ref (He.ga K "ends_at_hyphen")) := T.glo _ (T.told.fact 2 rfl)
theorem g_joint_glue (T : Tx K mg) : mg "joint_glue" = some (.ref (He.ga K "joint_glue")) := T.glo _ (T.told.fact 3 rfl)
theorem g_extended_glue (T : Tx K mg) : mg "extended_glue" = some (.ref (He.ga K "extended_glue")) := T.glo _ (T.told.fact 4 rfl)
theorem g_finished_glue (T : Tx K mg) : mg "finished_glue" = some (.ref (He.ga K "finished_glue")) := T.glo _ (T.told.fact 5 rfl)
theorem g_line_glue (T : Tx K mg) : mg "line_glue" = some (.ref (He.ga K "line_glue")) := T.glo _ (T.told.fact 6 rfl)
theorem g_room_of (T : Tx K mg) : mg "room_of" = some (.ref (He.ga K "room_of")) := T.glo _ (T.told.fact 7 rfl)
theorem g_both_price (T : Tx K mg) : mg "both_price" = some (.ref (He.ga K "both_price")) := T.glo _ (T.told.fact 8 rfl)
theorem g_left_price (T : Tx K mg) : mg "left_price" = some (.ref (He.ga K "left_price")) := T.glo _ (T.told.fact 9 rfl)
theorem g_price_with_glue (T : Tx K mg) : mg "price_with_glue" = some (.ref (He.ga K "price_with_glue")) := T.glo _ (T.told.fact 10 rfl)
theorem g_extra_of (T : Tx K mg) : mg "extra_of" = some (.ref (He.ga K "extra_of")) := T.glo _ (T.told.fact 11 rfl)
theorem g_box_places (T : Tx K mg) : mg "box_places" = some (.ref (He.ga K "box_places")) := T.glo _ (T.told.fact 12 rfl)
theorem g_gap_spans (T : Tx K mg) : mg "gap_spans" = some (.ref (He.ga K "gap_spans")) := T.glo _ (T.told.fact 13 rfl)
theorem g_count_overlapping (T : Tx K mg) : mg "count_overlapping" = some (.ref (He.ga K "count_overlapping")) := T.glo _ (T.told.fact 14 rfl)
theorem g_price_with_count (T : Tx K mg) : mg "price_with_count" = some (.ref (He.ga K "price_with_count")) := T.glo _ (T.told.fact 15 rfl)
theorem g_lines_from (T : Tx K mg) : mg "lines_from" = some (.ref (He.ga K "lines_from")) := T.glo _ (T.told.fact 16 rfl)
theorem g_LineTable (T : Tx K mg) : mg "LineTable" = some (.ref (He.ga K "LineTable")) := T.glo _ (T.told.fact 17 rfl)
theorem g_farthest_ends (T : Tx K mg) : mg "farthest_ends" = some (.ref (He.ga K "farthest_ends")) := T.glo _ (T.told.fact 18 rfl)
theorem g_stretch_of (T : Tx K mg) : mg "stretch_of" = some (.ref (He.ga K "stretch_of")) := T.glo _ (T.told.fact 19 rfl)
theorem g_prefixes_to (T : Tx K mg) : mg "prefixes_to" = some (.ref (He.ga K "prefixes_to")) := T.glo _ (T.told.fact 20 rfl)
theorem g_best_prefixes (T : Tx K mg) : mg "best_prefixes" = some (.ref (He.ga K "best_prefixes")) := T.glo _ (T.told.fact 21 rfl)
theorem g_break_forward (T : Tx K mg) : mg "break_forward" = some (.ref (He.ga K "break_forward")) := T.glo _ (T.told.fact 22 rfl)
theorem g_continuations (T : Tx K mg) : mg "continuations" = some (.ref (He.ga K "continuations")) := T.glo _ (T.told.fact 23 rfl)
theorem g_best_continuations (T : Tx K mg) : mg "best_continuations" = some (.ref (He.ga K "best_continuations")) := T.glo _ (T.told.fact 24 rfl)
theorem g_break_lines (T : Tx K mg) : mg "break_lines" = some (.ref (He.ga K "break_lines")) := T.glo _ (T.told.fact 25 rfl)
theorem g_Measure (T : Tx K mg) : mg "Measure" = some (.ref (He.ga K "Measure")) := T.glo _ (T.told.fact 26 rfl)
theorem g_law_pool (T : Tx K mg) : mg "_law_pool" = some (.ref (He.ga K "_law_pool")) := T.glo _ (T.told.fact 27 rfl)
theorem g_law_take (T : Tx K mg) : mg "_law_take" = some (.ref (He.ga K "_law_take")) := T.glo _ (T.told.fact 28 rfl)
theorem g_law_is_integer (T : Tx K mg) : mg "_law_is_integer" = some (.ref (He.ga K "_law_is_integer")) := T.glo _ (T.told.fact 29 rfl)
theorem g_law_same (T : Tx K mg) : mg "_law_same" = some (.ref (He.ga K "_law_same")) := T.glo _ (T.told.fact 30 rfl)
theorem g_law_joint (T : Tx K mg) : mg "_law_joint" = some (.ref (He.ga K "_law_joint")) := T.glo _ (T.told.fact 31 rfl)
theorem g_law_bare (T : Tx K mg) : mg "_law_bare" = some (.ref (He.ga K "_law_bare")) := T.glo _ (T.told.fact 32 rfl)
theorem g_law_glue (T : Tx K mg) : mg "_law_glue" = some (.ref (He.ga K "_law_glue")) := T.glo _ (T.told.fact 33 rfl)
theorem g_law_line_key (T : Tx K mg) : mg "_law_line_key" = some (.ref (He.ga K "_law_line_key")) := T.glo _ (T.told.fact 34 rfl)
theorem g_law_mirror (T : Tx K mg) : mg "_law_mirror" = some (.ref (He.ga K "_law_mirror")) := T.glo _ (T.told.fact 35 rfl)
theorem g_law_backward (T : Tx K mg) : mg "_law_backward" = some (.ref (He.ga K "_law_backward")) := T.glo _ (T.told.fact 36 rfl)
theorem g_law_onward (T : Tx K mg) : mg "_law_onward" = some (.ref (He.ga K "_law_onward")) := T.glo _ (T.told.fact 37 rfl)
theorem g_law_sound (T : Tx K mg) : mg "_law_sound" = some (.ref (He.ga K "_law_sound")) := T.glo _ (T.told.fact 38 rfl)
theorem g_law_agree (T : Tx K mg) : mg "_law_agree" = some (.ref (He.ga K "_law_agree")) := T.glo _ (T.told.fact 39 rfl)
theorem g_law (T : Tx K mg) : mg "law" = some (.ref (He.ga K "law")) := T.glo _ (T.told.fact 40 rfl)
theorem z_len (T : Tx K mg) : mg "len" = none := T.free _ (T.told.fact 41 rfl)
theorem z_range (T : Tx K mg) : mg "range" = none := T.free _ (T.told.fact 42 rfl)
theorem z_isinstance (T : Tx K mg) : mg "isinstance" = none := T.free _ (T.told.fact 43 rfl)
theorem z_max (T : Tx K mg) : mg "max" = none := T.free _ (T.told.fact 44 rfl)
theorem z_min (T : Tx K mg) : mg "min" = none := T.free _ (T.told.fact 45 rfl)
theorem z_sum (T : Tx K mg) : mg "sum" = none := T.free _ (T.told.fact 46 rfl)
theorem z_abs (T : Tx K mg) : mg "abs" = none := T.free _ (T.told.fact 47 rfl)
theorem z_int (T : Tx K mg) : mg "int" = none := T.free _ (T.told.fact 48 rfl)
theorem z_bool (T : Tx K mg) : mg "bool" = none := T.free _ (T.told.fact 49 rfl)
theorem z_str (T : Tx K mg) : mg "str" = none := T.free _ (T.told.fact 50 rfl)
theorem z_tuple (T : Tx K mg) : mg "tuple" = none := T.free _ (T.told.fact 51 rfl)
theorem z_list (T : Tx K mg) : mg "list" = none := T.free _ (T.told.fact 52 rfl)
theorem z_super (T : Tx K mg) : mg "super" = none := T.free _ (T.told.fact 53 rfl)
theorem c_Glue (T : Told K) : Cls K (He.ga K "Glue") := He.cls_ok (T.fact 54 rfl)
theorem c_LineTable (T : Told K) : Cls K (He.ga K "LineTable") := He.cls_ok (T.fact 55 rfl)
theorem c_Measure (T : Told K) : Cls K (He.ga K "Measure") := He.cls_ok (T.fact 56 rfl)
theorem m_Glue (T : Told K) : Mk K (He.ga K "Glue") (He.ma K (He.ga K "Glue") "__init__") := He.mkr_ok (T.fact 57 rfl)
theorem m_LineTable (T : Told K) : Mk K (He.ga K "LineTable") (He.ma K (He.ga K "LineTable") "__init__") := He.mkr_ok (T.fact 58 rfl)
theorem m_Measure (T : Told K) : Mk K (He.ga K "Measure") (He.ma K (He.ga K "Measure") "__init__") := He.mkr_ok (T.fact 59 rfl)
theorem n_Glue_width (T : Told K) : NoAttr K (He.ga K "Glue") "width" := He.noat_ok (T.fact 60 rfl)
theorem n_Glue_stretch (T : Told K) : NoAttr K (He.ga K "Glue") "stretch" := He.noat_ok (T.fact 61 rfl)
theorem n_Glue_shrink (T : Told K) : NoAttr K (He.ga K "Glue") "shrink" := He.noat_ok (T.fact 62 rfl)
theorem n_LineTable_row (T : Told K) : NoAttr K (He.ga K "LineTable") "row" := He.noat_ok (T.fact 63 rfl)
theorem n_LineTable_fitting (T : Told K) : NoAttr K (He.ga K "LineTable") "fitting" := He.noat_ok (T.fact 64 rfl)
theorem n_LineTable_boxes (T : Told K) : NoAttr K (He.ga K "LineTable") "boxes" := He.noat_ok (T.fact 65 rfl)
theorem n_LineTable_rivers (T : Told K) : NoAttr K (He.ga K "LineTable") "rivers" := He.noat_ok (T.fact 66 rfl)
theorem n_LineTable_ends_from (T : Told K) : NoAttr K (He.ga K "LineTable") "ends_from" := He.noat_ok (T.fact 67 rfl)
theorem n_LineTable_starts_to (T : Told K) : NoAttr K (He.ga K "LineTable") "starts_to" := He.noat_ok (T.fact 68 rfl)
theorem n_LineTable_gaps (T : Told K) : NoAttr K (He.ga K "LineTable") "gaps" := He.noat_ok (T.fact 69 rfl)
theorem n_Measure_width (T : Told K) : NoAttr K (He.ga K "Measure") "width" := He.noat_ok (T.fact 70 rfl)
theorem n_Measure_indent (T : Told K) : NoAttr K (He.ga K "Measure") "indent" := He.noat_ok (T.fact 71 rfl)
theorem n_Measure_align (T : Told K) : NoAttr K (He.ga K "Measure") "align" := He.noat_ok (T.fact 72 rfl)
theorem n_Measure_hyphen (T : Told K) : NoAttr K (He.ga K "Measure") "hyphen" := He.noat_ok (T.fact 73 rfl)
theorem n_Measure_twin (T : Told K) : NoAttr K (He.ga K "Measure") "twin" := He.noat_ok (T.fact 74 rfl)
theorem n_Measure_river (T : Told K) : NoAttr K (He.ga K "Measure") "river" := He.noat_ok (T.fact 75 rfl)
theorem n_Measure_loose (T : Told K) : NoAttr K (He.ga K "Measure") "loose" := He.noat_ok (T.fact 76 rfl)
theorem n_Blocked_start (T : Told K) : NoAttr K (He.ga K "Blocked") "start" := He.noat_ok (T.fact 77 rfl)
theorem n_Blocked_end (T : Told K) : NoAttr K (He.ga K "Blocked") "end" := He.noat_ok (T.fact 78 rfl)
theorem h_Glue_add (T : Told K) : Meth K (He.ga K "Glue") "__add__" (He.ma K (He.ga K "Glue") "__add__") := He.meth_ok (T.fact 79 rfl)
theorem h_LineTable_pair (T : Told K) : Meth K (He.ga K "LineTable") "pair" (He.ma K (He.ga K "LineTable") "pair") := He.meth_ok (T.fact 80 rfl)
theorem f_glueB (T : Told K) : glueB K = true := T.fact 81 rfl
theorem f_measB (T : Told K) : measB K = true := T.fact 82 rfl
theorem f_blkB (T : Told K) : blkB K = true := T.fact 83 rfl
theorem f_blkI (T : Told K) : blkI K = true := T.fact 84 rfl
theorem f_blkS (T : Told K) : blkS K = true := T.fact 85 rfl
theorem F_Glue_init (T : Told K) : ∃ fd, Fun K "__init__" "Glue.__init__" s_Glue_init (He.fAd K ("Glue", some "__init__")) fd := (T.def_ 0 rfl).imp fun _ F => He5.fun_of F
theorem F_Glue_add (T : Told K) : ∃ fd, Fun K "__add__" "Glue.__add__" s_Glue_add (He.fAd K ("Glue", some "__add__")) fd := (T.def_ 1 rfl).imp fun _ F => He5.fun_of F
theorem F_ends_at_hyphen (T : Told K) : ∃ fd, Fun K "ends_at_hyphen" "ends_at_hyphen" s_ends_at_hyphen (He.fAd K ("ends_at_hyphen", none)) fd := (T.def_ 2 rfl).imp fun _ F => He5.fun_of F
theorem F_joint_glue (T : Told K) : ∃ fd, Fun K "joint_glue" "joint_glue" s_joint_glue (He.fAd K ("joint_glue", none)) fd := (T.def_ 3 rfl).imp fun _ F => He5.fun_of F
theorem F_extended_glue (T : Told K) : ∃ fd, Fun K "extended_glue" "extended_glue" s_extended_glue (He.fAd K ("extended_glue", none)) fd := (T.def_ 4 rfl).imp fun _ F => He5.fun_of F
theorem F_finished_glue (T : Told K) : ∃ fd, Fun K "finished_glue" "finished_glue" s_finished_glue (He.fAd K ("finished_glue", none)) fd := (T.def_ 5 rfl).imp fun _ F => He5.fun_of F
theorem F_line_glue (T : Told K) : ∃ fd, Fun K "line_glue" "line_glue" s_line_glue (He.fAd K ("line_glue", none)) fd := (T.def_ 6 rfl).imp fun _ F => He5.fun_of F
theorem F_room_of (T : Told K) : ∃ fd, Fun K "room_of" "room_of" s_room_of (He.fAd K ("room_of", none)) fd := (T.def_ 7 rfl).imp fun _ F => He5.fun_of F
theorem F_both_price (T : Told K) : ∃ fd, Fun K "both_price" "both_price" s_both_price (He.fAd K ("both_price", none)) fd := (T.def_ 8 rfl).imp fun _ F => He5.fun_of F
theorem F_left_price (T : Told K) : ∃ fd, Fun K "left_price" "left_price" s_left_price (He.fAd K ("left_price", none)) fd := (T.def_ 9 rfl).imp fun _ F => He5.fun_of F
theorem F_price_with_glue (T : Told K) : ∃ fd, Fun K "price_with_glue" "price_with_glue" s_price_with_glue (He.fAd K ("price_with_glue", none)) fd := (T.def_ 10 rfl).imp fun _ F => He5.fun_of F
theorem F_extra_of (T : Told K) : ∃ fd, Fun K "extra_of" "extra_of" s_extra_of (He.fAd K ("extra_of", none)) fd := (T.def_ 11 rfl).imp fun _ F => He5.fun_of F
theorem F_box_places (T : Told K) : ∃ fd, Fun K "box_places" "box_places" s_box_places (He.fAd K ("box_places", none)) fd := (T.def_ 12 rfl).imp fun _ F => He5.fun_of F
theorem F_gap_spans (T : Told K) : ∃ fd, Fun K "gap_spans" "gap_spans" s_gap_spans (He.fAd K ("gap_spans", none)) fd := (T.def_ 13 rfl).imp fun _ F => He5.fun_of F
theorem F_count_overlapping (T : Told K) : ∃ fd, Fun K "count_overlapping" "count_overlapping" s_count_overlapping (He.fAd K ("count_overlapping", none)) fd := (T.def_ 14 rfl).imp fun _ F => He5.fun_of F
theorem F_price_with_count (T : Told K) : ∃ fd, Fun K "price_with_count" "price_with_count" s_price_with_count (He.fAd K ("price_with_count", none)) fd := (T.def_ 15 rfl).imp fun _ F => He5.fun_of F
theorem F_lines_from (T : Told K) : ∃ fd, Fun K "lines_from" "lines_from" s_lines_from (He.fAd K ("lines_from", none)) fd := (T.def_ 16 rfl).imp fun _ F => He5.fun_of F
theorem F_LineTable_init (T : Told K) : ∃ fd, Fun K "__init__" "LineTable.__init__" s_LineTable_init (He.fAd K ("LineTable", some "__init__")) fd := (T.def_ 17 rfl).imp fun _ F => He5.fun_of F
theorem F_LineTable_pair (T : Told K) : ∃ fd, Fun K "pair" "LineTable.pair" s_LineTable_pair (He.fAd K ("LineTable", some "pair")) fd := (T.def_ 18 rfl).imp fun _ F => He5.fun_of F
theorem F_farthest_ends (T : Told K) : ∃ fd, Fun K "farthest_ends" "farthest_ends" s_farthest_ends (He.fAd K ("farthest_ends", none)) fd := (T.def_ 19 rfl).imp fun _ F => He5.fun_of F
theorem F_stretch_of (T : Told K) : ∃ fd, Fun K "stretch_of" "stretch_of" s_stretch_of (He.fAd K ("stretch_of", none)) fd := (T.def_ 20 rfl).imp fun _ F => He5.fun_of F
theorem F_prefixes_to (T : Told K) : ∃ fd, Fun K "prefixes_to" "prefixes_to" s_prefixes_to (He.fAd K ("prefixes_to", none)) fd := (T.def_ 21 rfl).imp fun _ F => He5.fun_of F
theorem F_best_prefixes (T : Told K) : ∃ fd, Fun K "best_prefixes" "best_prefixes" s_best_prefixes (He.fAd K ("best_prefixes", none)) fd := (T.def_ 22 rfl).imp fun _ F => He5.fun_of F
theorem F_break_forward (T : Told K) : ∃ fd, Fun K "break_forward" "break_forward" s_break_forward (He.fAd K ("break_forward", none)) fd := (T.def_ 23 rfl).imp fun _ F => He5.fun_of F
theorem F_continuations (T : Told K) : ∃ fd, Fun K "continuations" "continuations" s_continuations (He.fAd K ("continuations", none)) fd := (T.def_ 24 rfl).imp fun _ F => He5.fun_of F
theorem F_best_continuations (T : Told K) : ∃ fd, Fun K "best_continuations" "best_continuations" s_best_continuations (He.fAd K ("best_continuations", none)) fd := (T.def_ 25 rfl).imp fun _ F => He5.fun_of F
theorem F_break_lines (T : Told K) : ∃ fd, Fun K "break_lines" "break_lines" s_break_lines (He.fAd K ("break_lines", none)) fd := (T.def_ 26 rfl).imp fun _ F => He5.fun_of F
theorem F_Measure_init (T : Told K) : ∃ fd, FunD K "__init__" "Measure.__init__" (defArgs s_Measure_init) (defBody s_Measure_init) (defScope s_Measure_init) [] [("indent", .int 0), ("align", .str "both"), ("hyphen", .int 50), ("twin", .int 100), ("river", .int 0), ("loose", .int 2)] (He.fAd K ("Measure", some "__init__")) fd := T.def_ 27 rfl
theorem F_Measure_of (T : Told K) : ∃ fd, Fun K "of" "Measure.of" s_Measure_of (He5.wf K (He.ga K "Measure") "staticmethod" "of") fd := (T.def_ 28 rfl).imp fun _ F => He5.fun_of F
theorem F_law_pool (T : Told K) : ∃ fd, Fun K "_law_pool" "_law_pool" s_law_pool (He.fAd K ("_law_pool", none)) fd := (T.def_ 29 rfl).imp fun _ F => He5.fun_of F
theorem F_law_take (T : Told K) : ∃ fd, Fun K "_law_take" "_law_take" s_law_take (He.fAd K ("_law_take", none)) fd := (T.def_ 30 rfl).imp fun _ F => He5.fun_of F
theorem F_law_is_integer (T : Told K) : ∃ fd, Fun K "_law_is_integer" "_law_is_integer" s_law_is_integer (He.fAd K ("_law_is_integer", none)) fd := (T.def_ 31 rfl).imp fun _ F => He5.fun_of F
theorem F_law_same (T : Told K) : ∃ fd, Fun K "_law_same" "_law_same" s_law_same (He.fAd K ("_law_same", none)) fd := (T.def_ 32 rfl).imp fun _ F => He5.fun_of F
theorem F_law_joint (T : Told K) : ∃ fd, Fun K "_law_joint" "_law_joint" s_law_joint (He.fAd K ("_law_joint", none)) fd := (T.def_ 33 rfl).imp fun _ F => He5.fun_of F
theorem F_law_bare (T : Told K) : ∃ fd, Fun K "_law_bare" "_law_bare" s_law_bare (He.fAd K ("_law_bare", none)) fd := (T.def_ 34 rfl).imp fun _ F => He5.fun_of F
theorem F_law_glue (T : Told K) : ∃ fd, Fun K "_law_glue" "_law_glue" s_law_glue (He.fAd K ("_law_glue", none)) fd := (T.def_ 35 rfl).imp fun _ F => He5.fun_of F
theorem F_law_line_key (T : Told K) : ∃ fd, Fun K "_law_line_key" "_law_line_key" s_law_line_key (He.fAd K ("_law_line_key", none)) fd := (T.def_ 36 rfl).imp fun _ F => He5.fun_of F
theorem F_law_mirror (T : Told K) : ∃ fd, Fun K "_law_mirror" "_law_mirror" s_law_mirror (He.fAd K ("_law_mirror", none)) fd := (T.def_ 37 rfl).imp fun _ F => He5.fun_of F
theorem F_law_backward (T : Told K) : ∃ fd, Fun K "_law_backward" "_law_backward" s_law_backward (He.fAd K ("_law_backward", none)) fd := (T.def_ 38 rfl).imp fun _ F => He5.fun_of F
theorem F_law_onward (T : Told K) : ∃ fd, Fun K "_law_onward" "_law_onward" s_law_onward (He.fAd K ("_law_onward", none)) fd := (T.def_ 39 rfl).imp fun _ F => He5.fun_of F
theorem F_law_sound (T : Told K) : ∃ fd, Fun K "_law_sound" "_law_sound" s_law_sound (He.fAd K ("_law_sound", none)) fd := (T.def_ 40 rfl).imp fun _ F => He5.fun_of F
theorem F_law_agree (T : Told K) : ∃ fd, Fun K "_law_agree" "_law_agree" s_law_agree (He.fAd K ("_law_agree", none)) fd := (T.def_ 41 rfl).imp fun _ F => He5.fun_of F
theorem F_law (T : Told K) : ∃ fd, Fun K "law" "law" s_law (He.fAd K ("law", none)) fd := (T.def_ 42 rfl).imp fun _ F => He5.fun_of F
end
end Sp
set_option maxRecDepth 100000
set_option maxHeartbeats 0
/-! The one kernel run of the top. -/
namespace Sp
open PySem PySem.Spec PyProof.Rows L2
def seenAt (g : Addr → Option Obj) : Seen := seen (He.frG g (He5.asA g 6))
def hk : PySem.W.Hook where
  α := Seen
  obs := fun s => seenAt s.heap.get?
  val := fun _ => meant
  says := fun _ h => ∃ K : PySem.W.Frag, K.In h ∧ Told K
  of := fun _ _ e => ⟨_, He.frG_in, e⟩
  keeps := fun _ _ _ ⟨K, hK, c⟩ k => ⟨K, PySem.W.Frag.In.keeps hK k, c⟩
abbrev R : PySem.W.OpenRow := PySem.W.OpenLaw.row PySem.Challenge.rw_stylepages_k57_whole_two_ways_of_lines
def ob (s : PySem.W.SharedT) : Seen := seenAt (HandSHeadRun.getT s)
theorem ob_eq (s : PySem.W.SharedT) : ob s = hk.obs s.abs := by
  have e : HandSHeadRun.getT s = s.abs.heap.get? := funext (HandSHeadRun.getT_eq s)
  show seenAt (HandSHeadRun.getT s) = seenAt s.abs.heap.get?
  rw [e]
def loose : List PySem.Str := (["_wall", "StyleError", "Blocked", "Glue", "ends_at_hyphen", "joint_glue", "extended_glue", "finished_glue", "line_glue", "room_of", "both_price", "left_price", "price_with_glue", "extra_of", "box_places", "gap_spans", "count_overlapping", "price_with_count", "lines_from", "LineTable"] : List PySem.Str) ++ (["farthest_ends", "stretch_of", "prefixes_to", "best_prefixes", "break_forward", "continuations", "best_continuations", "break_lines", "Measure", "_law_pool", "_law_take", "_law_is_integer", "_law_same", "_law_joint", "_law_bare", "_law_glue", "_law_line_key", "_law_mirror", "_law_backward", "_law_onward"] : List PySem.Str) ++ (["_law_sound", "_law_agree"] : List PySem.Str)
theorem run (w : World) : HandSHeadRun.RunEq R (PySem.W.view R.prog [51]) hk ob 4000 loose w := by
  intro os
  kernel_rfl
end Sp
set_option maxRecDepth 100000
set_option maxHeartbeats 2000000
/-! The mirrors of the defs of the lines; where the objects stand; a def's promise with all that a caller needs. -/
namespace Sp
open PySem PySem.Spec PyProof.Rows L2

/-! ### mirrors -/
structure G where
  w : Int
  s : Int
  k : Int
def G.add (a b : G) : G := ⟨a.w + b.w, a.s + b.s, a.k + b.k⟩
inductive J where
  | hy (x j : Int)
  | gp (w s k : Int)
def J.isHy : J → Bool
  | .hy _ _ => true
  | .gp _ _ _ => false
def J.xt : J → Int
  | .hy x _ => x
  | .gp w _ _ => w
structure Ms where
  width : Int
  indent : Int
  both : Bool
  hyphen : Int
  twin : Int
  river : Int
  loose : Int
structure Rw where
  ws : List Int
  js : List J
def Rw.n (r : Rw) : Nat := r.ws.length
def Rw.j (r : Rw) (i : Nat) : J := r.js.getD i (.gp 1 0 0)
def Rw.wd (r : Rw) (i : Nat) : Int := r.ws.getD i 1
def JOk : J → Int → Int → Prop
  | .hy x j, a, b => 1 ≤ x ∧ x ≤ 500 ∧ 0 ≤ j ∧ j < a ∧ j < b
  | .gp w s k, _, _ => 1 ≤ w ∧ w ≤ 500 ∧ 0 ≤ s ∧ s ≤ 500 ∧ 0 ≤ k ∧ k < w
structure Rw.Ok (r : Rw) : Prop where
  len : r.js.length = r.ws.length - 1
  n : r.ws.length ≤ 100
  w : ∀ x ∈ r.ws, 1 ≤ x ∧ x ≤ 5000
  j : ∀ i, i + 1 < r.n → JOk (r.j i) (r.wd i) (r.wd (i + 1))
structure Ms.Ok (m : Ms) : Prop where
  w : 1 ≤ m.width ∧ m.width ≤ 10500
  i : 0 ≤ m.indent ∧ m.indent ≤ 99
  h : 0 ≤ m.hyphen ∧ m.hyphen ≤ 9999
  t : 0 ≤ m.twin ∧ m.twin ≤ 9999
  r : 0 ≤ m.river ∧ m.river ≤ 9
  l : 0 ≤ m.loose ∧ m.loose ≤ 9
def endsHy (r : Rw) (e : Nat) : Bool := decide (e < r.n) && (r.j (e - 1)).isHy
def jG : J → G
  | .hy _ j => ⟨-j, 0, 0⟩
  | .gp w s k => ⟨w, s, k⟩
def xtG (r : Rw) (g : G) (b : Nat) : G := (g.add (jG (r.j (b - 1)))).add ⟨r.wd b, 0, 0⟩
def fnG (r : Rw) (g : G) (e : Nat) : G := if endsHy r e = true then g.add ⟨(r.j (e - 1)).xt, 0, 0⟩ else g
/-- the boxes s .. s + k with their joints -/
def inn (r : Rw) (s : Nat) : Nat → G
  | 0 => ⟨r.wd s, 0, 0⟩
  | k + 1 => xtG r (inn r s k) (s + k + 1)
def lnG (r : Rw) (s e : Nat) : G := fnG r (inn r s (e - (s + 1))) e
def room (m : Ms) (s : Nat) : Int := if s = 0 then m.width - m.indent else m.width
def bothP (g : G) (rm : Int) (last : Bool) (loose : Int) : Option Int :=
  if rm - g.w < 0 then (if -(rm - g.w) > g.k then none else some (100 * (rm - g.w) * (rm - g.w) / (g.k * g.k)))
  else if rm - g.w = 0 ∨ last = true then some 0
  else if rm - g.w > loose * g.s then none else some (100 * (rm - g.w) * (rm - g.w) / (g.s * g.s))
def leftP (g : G) (rm : Int) (last : Bool) : Option Int :=
  if rm - g.w < 0 then none else if last = true then some 0 else some (100 * (rm - g.w) * (rm - g.w) / (rm * rm))
def price (r : Rw) (e : Nat) (g : G) (rm : Int) (m : Ms) : Option Int :=
  (if m.both = true then bothP g rm (decide (e = r.n)) m.loose else leftP g rm (decide (e = r.n))).map fun p => if endsHy r e = true then p + m.hyphen else p

/-! ### where things stand -/
def JV : J → List V
  | .hy x j => [.str "hyphen", .int x, .int j]
  | .gp w s k => [.str "gap", .int w, .int s, .int k]
def RowAt (H : Hp) (p : Addr) (r : Rw) : Prop := ∃ (aw aj : Addr) (as : List Addr), H p = some (.tup [.ref aw, .ref aj]) ∧ H aw = some (.tup (r.ws.map V.int)) ∧ H aj = some (.tup (as.map V.ref)) ∧ as.length = r.js.length ∧
  ∀ (i : Nat) (a : Addr), as[i]? = some a → H a = some (.tup (JV (r.j i)))
def gF (g : G) : List (Str × V) := [("width", .int g.w), ("stretch", .int g.s), ("shrink", .int g.k)]
def GlAt (K : PySem.W.Frag) (H : Hp) (a : Addr) (g : G) : Prop := ∃ dx, H a = some (.ins (aGl K) dx (gF g))
def alS (b : Bool) : Str := if b = true then "both" else "left"
def mF (m : Ms) : List (Str × V) := [("width", .int m.width), ("indent", .int m.indent), ("align", .str (alS m.both)), ("hyphen", .int m.hyphen), ("twin", .int m.twin), ("river", .int m.river), ("loose", .int m.loose)]
def MsAt (K : PySem.W.Frag) (H : Hp) (a : Addr) (m : Ms) : Prop := ∃ dx, H a = some (.ins (aMe K) dx (mF m))
section
variable {K : PySem.W.Frag} {H H' : Hp} {p a : Addr} {r : Rw} {g : G} {m : Ms}
theorem RowAt.same (h : RowAt H p r) (s : Same H H') : RowAt H' p r := by
  obtain ⟨aw, aj, as, h1, h2, h3, h4, h5⟩ := h
  exact ⟨aw, aj, as, s _ _ h1, s _ _ h2, s _ _ h3, h4, fun i a e => s _ _ (h5 i a e)⟩
theorem GlAt.same (h : GlAt K H a g) (s : Same H H') : GlAt K H' a g := h.imp fun _ e => s _ _ e
theorem MsAt.same (h : MsAt K H a m) (s : Same H H') : MsAt K H' a m := h.imp fun _ e => s _ _ e
theorem same_upd {o : HO} (h : H p = none) : Same H (upd H p o) := fun b x e => by
  rw [upd_ne (ne_of_none e h)]
  exact e
theorem gF_w (g : G) : (gF g).lookup ("width" : Str) = some (.int g.w) := rfl
theorem gF_s (g : G) : (gF g).lookup ("stretch" : Str) = some (.int g.s) := rfl
theorem gF_k (g : G) : (gF g).lookup ("shrink" : Str) = some (.int g.k) := rfl
theorem mF_width (m : Ms) : (mF m).lookup ("width" : Str) = some (.int m.width) := rfl
theorem mF_indent (m : Ms) : (mF m).lookup ("indent" : Str) = some (.int m.indent) := rfl
theorem mF_align (m : Ms) : (mF m).lookup ("align" : Str) = some (.str (alS m.both)) := rfl
theorem mF_hyphen (m : Ms) : (mF m).lookup ("hyphen" : Str) = some (.int m.hyphen) := rfl
theorem mF_twin (m : Ms) : (mF m).lookup ("twin" : Str) = some (.int m.twin) := rfl
theorem mF_river (m : Ms) : (mF m).lookup ("river" : Str) = some (.int m.river) := rfl
theorem mF_loose (m : Ms) : (mF m).lookup ("loose" : Str) = some (.int m.loose) := rfl
end

/-! ### a def with what a caller needs -/
structure Df (P : Program) (w : World) (K : PySem.W.Frag) (mg : Str → Option Value) (base : Heap) (CX : CXT) (k : Nat) (x : Str) (f : Addr) (ps : List Str) (sp : L2.Sp) : Prop where
  ex : ∃ fd, FnOk P w K mg base CX k f fd ps sp ∧ Binds K fd ps []
  kp : PySem.W.keepIn K (.ref f) = true
  gl : mg x = some (.ref f)
section
variable {X : Cx} {k : Nat} {x : Str} {f : Addr} {ps : List Str} {sp : L2.Sp} {p pos : Pos} {e : Expr} {es : List Expr} {t : TA}
theorem pe_d (D : Df X.prog X.w X.K X.mg X.base CX0 k x f ps sp) (hr : Room k X.A) (hg : Gl X x) (ha : PA X (e :: es) t) (hdb : (x == ("__debug__" : Str)) = false := by decide)
    (he : starEach (e :: es) X.env = (false, eval e X.env) :: starEach es X.env := by rfl) (hpl : (backTo pos (starEach es X.env)).any (·.1) = false := by rfl) : PE X (.Call (.Name x p) (e :: es) [] pos) (tCall sp [] E0 t) := by
  obtain ⟨fd, F, b⟩ := D.ex
  exact pe_call F hr hg D.gl D.kp b .nil pass0 ha hdb he hpl
end
/-- an instance's making, likewise -/
structure Dm (P : Program) (w : World) (K : PySem.W.Frag) (mg : Str → Option Value) (base : Heap) (k : Nat) (x : Str) (C : Addr) (ps : List Str) (sp : L2.Sp) : Prop where
  ex : ∃ f fd, Mk K C f ∧ FnOk P w K mg base CX0 k f fd ps sp ∧ Binds K fd ps []
  gl : mg x = some (.ref C)
section
variable {X : Cx} {k : Nat} {x : Str} {C : Addr} {ps : List Str} {sp : L2.Sp} {p pos : Pos} {e : Expr} {es : List Expr} {t : TA}
theorem pe_dm (D : Dm X.prog X.w X.K X.mg X.base k x C ps sp) (hr : Room (k + 1) X.A) (hg : Gl X x) (ha : PA X (e :: es) t) (hdb : (x == ("__debug__" : Str)) = false := by decide)
    (he : starEach (e :: es) X.env = (false, eval e X.env) :: starEach es X.env := by rfl) (hpl : (backTo pos (starEach es X.env)).any (·.1) = false := by rfl) : PE X (.Call (.Name x p) (e :: es) [] pos) (tMake C sp [] E0 t) := by
  obtain ⟨f, fd, M, F, b⟩ := D.ex
  exact pe_make M F hr hg D.gl b .nil pass0 ha hdb he hpl
end

/-! ### joining the ways of an if -/
theorem join_E {b : Bool} {ta tb : TE} {σ : L2.St} {H : Hp} {Q : VK} (v : V) (ha : b = true → ∀ Q' : VK, Q' v H → ta σ H Q') (hb : b = false → ∀ Q' : VK, Q' v H → tb σ H Q') (q : Q v H) : if b = true then ta σ H Q else tb σ H Q := by
  cases b with
  | true => exact iteT (ha rfl Q q)
  | false => exact iteF (hb rfl Q q)
theorem join_S {b : Bool} {t u : TS} {D : Ends} {σ : L2.St} {H : Hp} (Z : L2.St → Hp → Prop) (ht : b = true → ∀ D' : Ends, (∀ σ' H', Z σ' H' → D'.nx σ' H') → t D' σ H) (hu : b = false → ∀ D' : Ends, (∀ σ' H', Z σ' H' → D'.nx σ' H') → u D' σ H)
    (hz : ∀ σ' H', Z σ' H' → D.nx σ' H') : if b = true then t D σ H else u D σ H := by
  cases b with
  | true => exact iteT (ht rfl D hz)
  | false => exact iteF (hu rfl D hz)
/-- a statement that only goes on: what holds behind it -/
theorem join_seq {t u : TS} {D : Ends} {σ : L2.St} {H : Hp} (Z : L2.St → Hp → Prop) (h1 : ∀ D' : Ends, (∀ σ' H', Z σ' H' → D'.nx σ' H') → t D' σ H) (h2 : ∀ σ' H', Z σ' H' → u D σ' H') : tSeq t u D σ H := h1 { D with nx := u D } h2
end Sp
set_option maxRecDepth 100000
set_option maxHeartbeats 2000000
/-! Glue, and the defs that reckon the glue of a line. -/
namespace Sp
open PySem PySem.Spec PyProof.Rows L2
section
variable {P : Program} {w : World} {K : PySem.W.Frag} {mg : Str → Option Value} {base : Heap}

/-! ### Glue(..) -/
def spGi (K : PySem.W.Frag) : L2.Sp := fun vs H Q _ => ∃ (p dx : Addr) (g : G), vs = [.ref p, .int g.w, .int g.s, .int g.k] ∧ H p = some (.ins (aGl K) dx []) ∧
  ∀ H' : Hp, H' p = some (.ins (aGl K) dx (gF g)) → (∀ b o, H b = some o → b ≠ p → H' b = some o) → Q .non H'
theorem gF_new (g : G) : putF "shrink" (.int g.k) (putF "stretch" (.int g.s) (putF "width" (.int g.w) [])) = gF g := rfl
theorem d_glue (T : Tx K mg) : Dm P w K mg base 1 "Glue" (aGl K) ["self", "width", "stretch", "shrink"] (spGi K) := by
  obtain ⟨fd, F⟩ := F_Glue_init T.told
  refine ⟨⟨_, fd, m_Glue T.told, ?_, F.binds fun _ _ _ _ _ _ us hl => match us, hl with | [_, _, _, _], _ => rfl⟩, g_Glue T⟩
  have nw := n_Glue_width T.told
  have ns := n_Glue_stretch T.told
  have nk := n_Glue_shrink T.told
  refine F.ok sc_Glue_init (fun vs H Q E h => ?_) (fun cdv A outer s H vs Q E hr h => ?_)
  · obtain ⟨p, dx, g, rfl, _⟩ := h
    rfl
  · obtain ⟨p, dx, g, rfl, hp, q⟩ := h
    refine ⟨_, pss_cons (ps_fld (pv 0) (pv 1) rfl) (pss_cons (ps_fld (pv 0) (pv 2) rfl) (pss_one (ps_fld (pv 0) (pv 3) rfl))), ?_⟩
    refine ⟨_, rfl, _, rfl, p, _, dx, [], rfl, hp, c_Glue T.told, nw, (by show 0 < 1000; decide), ?_⟩
    refine ⟨_, rfl, _, rfl, p, _, dx, _, rfl, upd_same, c_Glue T.told, ns, (by show 1 < 1000; decide), ?_⟩
    refine ⟨_, rfl, _, rfl, p, _, dx, _, rfl, upd_same, c_Glue T.told, nk, (by show 2 < 1000; decide), ?_⟩
    refine q _ (upd_same.trans (congrArg (fun l => some (HO.ins (aGl K) dx l)) (gF_new g))) fun b o e hb => ?_
    rw [upd_ne hb, upd_ne hb, upd_ne hb]
    exact e
/-- the reading of Glue(..) from what its caller wants -/
theorem glue_made {H1 : Hp} {Z : Addr → Hp → Prop} {ww s k : Int} (q : ∀ (H' : Hp) (x : Addr), Same H1 H' → H1 x = none → GlAt K H' x ⟨ww, s, k⟩ → Z x H') :
    ∀ x dx, H1 x = none → H1 dx = none → dx ≠ x → spGi K (.ref x :: ([.int ww, .int s, .int k] ++ [])) (upd (upd H1 dx (.own x)) x (.ins (aGl K) dx [])) (fun v H2 => v = .non ∧ Z x H2) E0 := by
  intro x dx nx nd ne
  refine ⟨x, dx, ⟨ww, s, k⟩, rfl, upd_same, fun H' e kp => ⟨rfl, ?_⟩⟩
  exact q H' x (Same.made nx nd kp) nx ⟨dx, e⟩

section
variable {X : Cx} {p pos : Pos} {e : Expr} {es : List Expr} {t : TA}
/-- Glue(e, ..) as its callers see it -/
def tGl (K : PySem.W.Frag) (t : TA) : TE := fun σ H Q => t σ H fun vs H1 => ∃ ww s k : Int, vs = [.int ww, .int s, .int k] ∧ ∀ (H' : Hp) (x : Addr), Same H1 H' → H1 x = none → GlAt K H' x ⟨ww, s, k⟩ → Q (.ref x) H'
theorem pe_gl (T : Tx X.K X.mg) (hr : Room 2 X.A) (hg : Gl X "Glue") (ha : PA X (e :: es) t) (he : starEach (e :: es) X.env = (false, eval e X.env) :: starEach es X.env := by rfl)
    (hpl : (backTo pos (starEach es X.env)).any (·.1) = false := by rfl) : PE X (.Call (.Name "Glue" p) (e :: es) [] pos) (tGl X.K t) := by
  obtain ⟨⟨f, fd, M, F, b⟩, gl⟩ := d_glue (P := X.prog) (w := X.w) (base := X.base) T
  refine ⟨fun pins s σ H Q I h => ?_⟩
  refine wpAny_Call_Name_kw (ld_glob I hg gl ?_ (by decide))
  refine PySem.W.callWith_K (h₀ := X.base) I.ok.mod.kin M.kp (thn (ha.run pos pins s σ H _ I h) fun us s1 hh => ?_) he hpl
  obtain ⟨vs, H1, I1, r, ww, s', k', rfl, q⟩ := hh
  refine ⟨I1.kIn, run_make (dvs := []) (ds := []) M F hr b .nil pass0 I1 r ?_⟩
  exact glue_made (Z := fun x H' => Q (.ref x) H') q
end

/-! ### a + b -/
def spGa (K : PySem.W.Frag) : L2.Sp := fun vs H Q _ => ∃ (a b : Addr) (g h : G), vs = [.ref a, .ref b] ∧ GlAt K H a g ∧ GlAt K H b h ∧ ∀ (H' : Hp) (x : Addr), Same H H' → H x = none → GlAt K H' x (g.add h) → Q (.ref x) H'
theorem gl_type (T : Tx K mg) {H : Hp} {a dx : Addr} {fs : List (Str × V)} (h : H a = some (.ins (aGl K) dx fs)) : TyX K H (.ref a) (.ref (aGl K)) := by
  have b := f_glueB T.told
  unfold glueB at b
  obtain ⟨_, b⟩ := Bool.and_eq_true_iff.mp b
  obtain ⟨b1, b⟩ := Bool.and_eq_true_iff.mp b
  obtain ⟨b2, b⟩ := Bool.and_eq_true_iff.mp b
  obtain ⟨b3, b⟩ := Bool.and_eq_true_iff.mp b
  obtain ⟨b4, _⟩ := Bool.and_eq_true_iff.mp b
  exact .base (.ins h (c_Glue T.told) (He.eqO_ok b1) (He.eqO_ok b2) (of_decide_eq_true b3) (of_decide_eq_true b4))
theorem gl_kit (T : Tx K mg) : PySem.W.kitOne K (.ref (aGl K)) (.ref (aGl K)) = some true := by
  have b := f_glueB T.told
  unfold glueB at b
  obtain ⟨_, b⟩ := Bool.and_eq_true_iff.mp b
  obtain ⟨_, b⟩ := Bool.and_eq_true_iff.mp b
  obtain ⟨_, b⟩ := Bool.and_eq_true_iff.mp b
  obtain ⟨_, b⟩ := Bool.and_eq_true_iff.mp b
  obtain ⟨_, b⟩ := Bool.and_eq_true_iff.mp b
  exact of_decide_eq_true b
theorem gl_first (T : Tx K mg) : PySem.W.selfFirst K (aGl K) = true := by
  have b := f_glueB T.told
  unfold glueB at b
  exact (Bool.and_eq_true_iff.mp b).1
theorem ok_add (T : Tx K mg) : ∃ fd, FnOk P w K mg base CX0 3 (He.ma K (aGl K) "__add__") fd ["self", "other"] (spGa K) ∧ Binds K fd ["self", "other"] [] := by
  obtain ⟨fd, F⟩ := F_Glue_add T.told
  refine ⟨fd, ?_, F.binds fun _ _ _ _ _ _ us hl => match us, hl with | [_, _], _ => rfl⟩
  have nw := n_Glue_width T.told
  have ns := n_Glue_stretch T.told
  have nk := n_Glue_shrink T.told
  refine F.ok sc_Glue_add (fun vs H Q E h => ?_) (fun cdv A outer s H vs Q E hr h => ?_)
  · obtain ⟨a, b, g, h, rfl, _⟩ := h
    rfl
  · obtain ⟨a, b, g, h, rfl, ⟨dx, ea⟩, ⟨dy, eb⟩, q⟩ := h
    refine ⟨_, pss_cons (ps_if (pt_not (pt_val (pe_callB call_isi (by rfl) (z_isinstance T) (by decide +kernel) (pa_cons (pv 1) (pa_cons (pe_glob (v := .ref (aGl K)) (by rfl) (g_Glue T) rfl) pa_nil))))) pss_never pss_nil)
      (pss_one (ps_ret (pe_gl T hr (by rfl) (pa_cons (pe_op op_add (pe_fld (pv 0) rfl) (pe_fld (pv 1) rfl)) (pa_cons (pe_op op_add (pe_fld (pv 0) rfl) (pe_fld (pv 1) rfl)) (pa_cons (pe_op op_add (pe_fld (pv 0) rfl) (pe_fld (pv 1) rfl)) pa_nil)))))), ?_⟩
    refine ⟨.ref b, rfl, .ref b, .ref (aGl K), .ref (aGl K), .ref (aGl K), true, rfl, .own _, gl_type T eb, gl_kit T, true, rfl, iteF ?_⟩
    refine ⟨_, rfl, a, _, dx, _, _, rfl, ea, c_Glue T.told, nw, gF_w g, _, rfl, b, _, dy, _, _, rfl, eb, c_Glue T.told, nw, gF_w h, _, _, rfl, rfl, ?_⟩
    refine ⟨_, rfl, a, _, dx, _, _, rfl, ea, c_Glue T.told, ns, gF_s g, _, rfl, b, _, dy, _, _, rfl, eb, c_Glue T.told, ns, gF_s h, _, _, rfl, rfl, ?_⟩
    refine ⟨_, rfl, a, _, dx, _, _, rfl, ea, c_Glue T.told, nk, gF_k g, _, rfl, b, _, dy, _, _, rfl, eb, c_Glue T.told, nk, gF_k h, _, _, rfl, rfl, ?_⟩
    exact ⟨_, _, _, rfl, q⟩
section
variable {X : Cx} {a b : Expr} {ta tb : TE} {pos : Pos}
/-- a + b of two glues -/
def rGa (K : PySem.W.Frag) : R2 := fun x y H Q => ∃ a b g h, x = .ref a ∧ y = .ref b ∧ GlAt K H a g ∧ GlAt K H b h ∧ ∀ (H' : Hp) (p : Addr), Same H H' → H p = none → GlAt K H' p (g.add h) → Q (.ref p) H'
theorem op_ga (T : Tx X.K X.mg) (hr : Room 3 X.A) : OpR X (binaryOp .Add) (rGa X.K) := by
  obtain ⟨fd, F, b⟩ := ok_add (P := X.prog) (w := X.w) (base := X.base) T
  intro pins s σ H x y v u Q I rx ry hq
  obtain ⟨a, c, g, h, rfl, rfl, ⟨dx, ea⟩, ⟨dy, eb⟩, q⟩ := hq
  exact op_own_add (h_Glue_add T.told) (gl_first T) F hr b pins s σ H _ _ v u Q I rx ry ⟨a, c, dx, dy, _, _, rfl, rfl, ea, eb, a, c, g, h, rfl, ⟨dx, ea⟩, ⟨dy, eb⟩, q⟩
end
end
end Sp
set_option maxRecDepth 100000
set_option maxHeartbeats 2000000
/-! The glue of a line. -/
namespace Sp
open PySem PySem.Spec PyProof.Rows L2
section
variable {P : Program} {w : World} {K : PySem.W.Frag} {mg : Str → Option Value} {base : Heap}
theorem small100 {n : Nat} (h : n ≤ 100) : n ≤ sizeLine := Nat.le_trans h (by decide)

/-! ### items of a row -/
theorem row_w {r : Rw} {i : Nat} {z : Int} (h : i < r.n) (e : z = (i : Int)) : atI (r.ws.map V.int) z = some (.int (r.wd i)) := by
  refine at_of e ?_
  have h' : i < r.ws.length := h
  rw [List.getElem?_map, List.getElem?_eq_getElem h']
  unfold Rw.wd
  rw [List.getD_eq_getElem?_getD, List.getElem?_eq_getElem h']
  rfl
theorem row_j {as : List Addr} {r : Rw} {i : Nat} {z : Int} (hl : as.length = r.js.length) (h : i < r.js.length) (e : z = (i : Int)) : ∃ a, as[i]? = some a ∧ atI (as.map V.ref) z = some (.ref a) := by
  have h' : i < as.length := by omega
  refine ⟨as[i], List.getElem?_eq_getElem h', at_of e ?_⟩
  rw [List.getElem?_map, List.getElem?_eq_getElem h']
  rfl
theorem jv0 (j : J) {z : Int} (e : z = 0) : atI (JV j) z = some (.str (if j.isHy = true then "hyphen" else "gap")) := by
  subst e
  cases j <;> rfl

/-! ### ends_at_hyphen -/
def spEh : L2.Sp := fun vs H Q _ => ∃ (p : Addr) (r : Rw) (z : Int) (e : Nat), vs = [.ref p, .int z] ∧ z = (e : Int) ∧ RowAt H p r ∧ r.Ok ∧ 1 ≤ e ∧ Q (.bl (endsHy r e)) H
theorem d_eh (T : Tx K mg) : Df P w K mg base CX0 1 "ends_at_hyphen" (He.ga K "ends_at_hyphen") ["row", "end"] spEh := by
  obtain ⟨fd, F⟩ := F_ends_at_hyphen T.told
  refine ⟨⟨fd, ?_, F.binds fun _ _ _ _ _ _ us hl => match us, hl with | [_, _], _ => rfl⟩, F.kp, g_ends_at_hyphen T⟩
  refine F.ok sc_ends_at_hyphen (fun vs H Q E h => ?_) (fun cdv A outer s H vs Q E hr h => ?_)
  · obtain ⟨p, r, z, e, rfl, _⟩ := h
    rfl
  · obtain ⟨p, r, z, e, rfl, ez, ⟨aw, aj, as, h1, h2, h3, h4, h5⟩, ok, he, q⟩ := h
    refine ⟨_, pss_cons (ps_asg (pv 0) (pg_tup rfl (pgs_cons (pg_name (i := 2) sc_ends_at_hyphen.nd rfl (.inl rfl)) (pgs_cons (pg_name (i := 3) sc_ends_at_hyphen.nd rfl (.inl rfl)) pgs_nil))))
      (pss_one (ps_ret (pe_and (pe_cmpR op_lt (pv 1) (pe_callB call_len_seq (by rfl) (z_len T) PySem.boot_len (pa_cons (pv 2) pa_nil)) (nomark _))
        (pe_one (pe_cmpR op_eq (pe_ix ix_tup (pe_ix ix_tup (pv 3) (pe_op op_sub (pv 1) pe_int) (fun _ _ => rfl)) pe_int (fun _ _ => rfl)) pe_str (nomark _)))))), ?_⟩
    refine ⟨_, rfl, p, _, rfl, SqT.of h1, rfl, _, _, rfl, _, _, rfl, rfl, ?_⟩
    refine ⟨_, rfl, _, rfl, aw, _, rfl, .inr (SqT.of h2), _, _, rfl, rfl, _, rfl, ?_⟩
    rw [List.length_map]
    by_cases c : e < r.n
    · have c' : z < (r.ws.length : Int) := by
        have : e < r.ws.length := c
        omega
      rw [decide_eq_true c']
      refine iteT ?_
      have hj : e - 1 < r.js.length := by
        have := ok.len
        have : e < r.ws.length := c
        omega
      obtain ⟨a, ha, hat⟩ := row_j (z := z - 1) h4 hj (by omega)
      refine ⟨_, rfl, _, rfl, _, _, rfl, rfl, aj, _, _, _, rfl, rfl, SqT.of h3, hat, a, _, _, _, rfl, rfl, SqT.of (h5 _ _ ha), jv0 _ rfl, rfl, ?_⟩
      have e1 : decide (V.str (if (r.j (e - 1)).isHy = true then "hyphen" else "gap") = V.str "hyphen") = endsHy r e := by
        unfold endsHy
        rw [decide_eq_true c, Bool.true_and]
        cases r.j (e - 1) with
        | hy x j => rfl
        | gp a b c => rfl
      rw [e1]
      exact q
    · have c' : ¬ z < (r.ws.length : Int) := by
        have : ¬ e < r.ws.length := c
        omega
      rw [decide_eq_false c']
      refine iteF ?_
      have e1 : endsHy r e = false := by
        unfold endsHy
        rw [decide_eq_false c, Bool.false_and]
      rw [e1] at q
      exact q

/-! ### joint_glue -/
def spJg (K : PySem.W.Frag) : L2.Sp := fun vs H Q _ => ∃ (a : Addr) (j : J), vs = [.ref a] ∧ H a = some (.tup (JV j)) ∧ ∀ (H' : Hp) (x : Addr), Same H H' → H x = none → GlAt K H' x (jG j) → Q (.ref x) H'
theorem d_jg (T : Tx K mg) : Df P w K mg base CX0 3 "joint_glue" (He.ga K "joint_glue") ["joint"] (spJg K) := by
  obtain ⟨fd, F⟩ := F_joint_glue T.told
  refine ⟨⟨fd, ?_, F.binds fun _ _ _ _ _ _ us hl => match us, hl with | [_], _ => rfl⟩, F.kp, g_joint_glue T⟩
  refine F.ok sc_joint_glue (fun vs H Q E h => ?_) (fun cdv A outer s H vs Q E hr h => ?_)
  · obtain ⟨a, j, rfl, _⟩ := h
    rfl
  · obtain ⟨a, j, rfl, ha, q⟩ := h
    refine ⟨_, pss_cons (ps_if (pt_cmpR op_eq (pe_ix ix_tup (pv 0) pe_int (fun _ _ => rfl)) pe_str (nomark _))
        (pss_one (ps_ret (pe_gl T hr (by rfl) (pa_cons (pe_ix ix_tup (pv 0) pe_int (fun _ _ => rfl)) (pa_cons (pe_ix ix_tup (pv 0) pe_int (fun _ _ => rfl)) (pa_cons (pe_ix ix_tup (pv 0) pe_int (fun _ _ => rfl)) pa_nil)))))) pss_nil)
      (pss_one (ps_ret (pe_gl T hr (by rfl) (pa_cons (pe_un un_neg (pe_ix ix_tup (pv 0) pe_int (fun _ _ => rfl))) (pa_cons pe_int (pa_cons pe_int pa_nil)))))), ?_⟩
    refine ⟨_, rfl, a, _, _, _, rfl, rfl, SqT.of ha, jv0 _ rfl, rfl, _, rfl, ?_⟩
    cases j with
    | hy x j =>
      refine iteF ?_
      refine ⟨_, rfl, a, _, _, .int j, rfl, rfl, SqT.of ha, rfl, _, rfl, ?_⟩
      exact ⟨_, _, _, rfl, q⟩
    | gp a1 b1 c1 =>
      refine iteT ?_
      refine ⟨_, rfl, a, _, _, .int a1, rfl, rfl, SqT.of ha, rfl, _, rfl, a, _, _, .int b1, rfl, rfl, SqT.of ha, rfl, _, rfl, a, _, _, .int c1, rfl, rfl, SqT.of ha, rfl, ?_⟩
      exact ⟨_, _, _, rfl, q⟩

/-! ### extended_glue -/
def spXg (K : PySem.W.Frag) : L2.Sp := fun vs H Q _ => ∃ (p a : Addr) (r : Rw) (g : G) (z : Int) (b : Nat), vs = [.ref p, .ref a, .int z] ∧ z = (b : Int) ∧ RowAt H p r ∧ r.Ok ∧ GlAt K H a g ∧ 1 ≤ b ∧ b < r.n ∧
  ∀ (H' : Hp) (x : Addr), Same H H' → H x = none → GlAt K H' x (xtG r g b) → Q (.ref x) H'
theorem d_xg (T : Tx K mg) : Df P w K mg base CX0 4 "extended_glue" (He.ga K "extended_glue") ["row", "inner", "box"] (spXg K) := by
  obtain ⟨fd, F⟩ := F_extended_glue T.told
  refine ⟨⟨fd, ?_, F.binds fun _ _ _ _ _ _ us hl => match us, hl with | [_, _, _], _ => rfl⟩, F.kp, g_extended_glue T⟩
  have DJ : Df P w K mg base CX0 3 "joint_glue" (He.ga K "joint_glue") ["joint"] (spJg K) := d_jg T
  refine F.ok sc_extended_glue (fun vs H Q E h => ?_) (fun cdv A outer s H vs Q E hr h => ?_)
  · obtain ⟨p, a, r, g, z, b, rfl, _⟩ := h
    rfl
  · obtain ⟨p, a, r, g, z, b, rfl, ez, ⟨aw, aj, as, h1, h2, h3, h4, h5⟩, ok, hg, hb1, hb2, q⟩ := h
    refine ⟨_, pss_cons (ps_asg (pv 0) (pg_tup rfl (pgs_cons (pg_name (i := 3) sc_extended_glue.nd rfl (.inl rfl)) (pgs_cons (pg_name (i := 4) sc_extended_glue.nd rfl (.inl rfl)) pgs_nil))))
      (pss_one (ps_ret (pe_op (op_ga T hr) (pe_op (op_ga T hr) (pv 1) (pe_d DJ hr (by rfl) (pa_cons (pe_ix ix_tup (pv 4) (pe_op op_sub (pv 2) pe_int) (fun _ _ => rfl)) pa_nil)))
        (pe_gl T (hr.mono (by decide)) (by rfl) (pa_cons (pe_ix ix_tup (pv 3) (pv 2) (fun _ _ => rfl)) (pa_cons pe_int (pa_cons pe_int pa_nil))))))), ?_⟩
    refine ⟨_, rfl, p, _, rfl, SqT.of h1, rfl, _, _, rfl, _, _, rfl, rfl, ?_⟩
    have hj : b - 1 < r.js.length := by
      have := ok.len
      have : b < r.ws.length := hb2
      omega
    obtain ⟨c, hc, hat⟩ := row_j (z := z - 1) h4 hj (by omega)
    refine ⟨_, rfl, _, rfl, _, rfl, _, _, rfl, rfl, aj, _, _, _, rfl, rfl, SqT.of h3, hat, c, _, rfl, h5 _ _ hc, fun H1 x1 s1 n1 e1 => ?_⟩
    refine ⟨a, x1, g, _, rfl, rfl, hg.same s1, e1, fun H2 x2 s2 n2 e2 => ?_⟩
    refine ⟨_, rfl, _, rfl, aw, _, _, _, rfl, rfl, SqT.of (s2 _ _ (s1 _ _ h2)), row_w hb2 ez, ?_⟩
    refine ⟨_, _, _, rfl, fun H3 x3 s3 n3 e3 => ?_⟩
    refine ⟨x2, x3, _, _, rfl, rfl, e2.same s3, e3, fun H4 x4 s4 n4 e4 => ?_⟩
    have s04 : Same H H4 := (s1.trans s2).trans (s3.trans s4)
    exact q H4 x4 s04 (((s1.trans s2).trans s3).free n4) e4

/-! ### finished_glue -/
def spFg (K : PySem.W.Frag) : L2.Sp := fun vs H Q _ => ∃ (p a : Addr) (r : Rw) (g : G) (z : Int) (e : Nat), vs = [.ref p, .ref a, .int z] ∧ z = (e : Int) ∧ RowAt H p r ∧ r.Ok ∧ GlAt K H a g ∧ 1 ≤ e ∧
  ∀ (H' : Hp) (x : Addr), Same H H' → GlAt K H' x (fnG r g e) → Q (.ref x) H'
theorem d_fg (T : Tx K mg) : Df P w K mg base CX0 4 "finished_glue" (He.ga K "finished_glue") ["row", "inner", "end"] (spFg K) := by
  obtain ⟨fd, F⟩ := F_finished_glue T.told
  refine ⟨⟨fd, ?_, F.binds fun _ _ _ _ _ _ us hl => match us, hl with | [_, _, _], _ => rfl⟩, F.kp, g_finished_glue T⟩
  have DE : Df P w K mg base CX0 1 "ends_at_hyphen" (He.ga K "ends_at_hyphen") ["row", "end"] spEh := d_eh T
  refine F.ok sc_finished_glue (fun vs H Q E h => ?_) (fun cdv A outer s H vs Q E hr h => ?_)
  · obtain ⟨p, a, r, g, z, e, rfl, _⟩ := h
    rfl
  · obtain ⟨p, a, r, g, z, e, rfl, ez, hrow, ok, hg, he, q⟩ := h
    obtain ⟨aw, aj, as, h1, h2, h3, h4, h5⟩ := id hrow
    have hr1 : Room 1 _ := hr.mono (by decide)
    have hr2 : Room 2 _ := hr.mono (by decide)
    refine ⟨_, pss_cons (ps_if (pt_val (pe_d DE hr1 (by rfl) (pa_cons (pv 0) (pa_cons (pv 2) pa_nil))))
        (pss_one (ps_ret (pe_op (op_ga T hr) (pv 1) (pe_gl T hr2 (by rfl) (pa_cons (pe_ix ix_tup (pe_ix ix_tup (pe_ix ix_tup (pv 0) pe_int (fun _ _ => rfl)) (pe_op op_sub (pv 2) pe_int) (fun _ _ => rfl)) pe_int (fun _ _ => rfl)) (pa_cons pe_int (pa_cons pe_int pa_nil))))))) pss_nil)
      (pss_one (ps_ret (pv 1))), ?_⟩
    refine ⟨_, rfl, _, rfl, p, r, z, e, rfl, ez, hrow, ok, he, _, rfl, ?_⟩
    unfold fnG at q
    by_cases c : endsHy r e = true
    · rw [if_pos c] at q
      rw [if_pos c]
      have hen : e < r.n := by
        unfold endsHy at c
        exact of_decide_eq_true (Bool.and_eq_true_iff.mp c).1
      have hj : e - 1 < r.js.length := by
        have := ok.len
        have : e < r.ws.length := hen
        omega
      obtain ⟨b, hb, hat⟩ := row_j (z := z - 1) h4 hj (by omega)
      have hx : atI (JV (r.j (e - 1))) 1 = some (.int (r.j (e - 1)).xt) := by
        cases r.j (e - 1) <;> rfl
      refine ⟨_, rfl, _, rfl, p, _, _, .ref aj, rfl, rfl, SqT.of h1, rfl, _, rfl, _, _, rfl, rfl, aj, _, _, _, rfl, rfl, SqT.of h3, hat, b, _, _, _, rfl, rfl, SqT.of (h5 _ _ hb), hx, ?_⟩
      refine ⟨_, _, _, rfl, fun H3 x3 s3 n3 e3 => ?_⟩
      refine ⟨a, x3, _, _, rfl, rfl, hg.same s3, e3, fun H4 x4 s4 n4 e4 => ?_⟩
      exact q H4 x4 (s3.trans s4) e4
    · rw [if_neg c] at q
      rw [if_neg c]
      exact ⟨_, rfl, q H a (Same.refl H) hg⟩

/-! ### line_glue -/
def spLg (K : PySem.W.Frag) : L2.Sp := fun vs H Q _ => ∃ (p : Addr) (r : Rw) (y z : Int) (s e : Nat), vs = [.ref p, .int y, .int z] ∧ y = (s : Int) ∧ z = (e : Int) ∧ RowAt H p r ∧ r.Ok ∧ s < e ∧ e ≤ r.n ∧
  ∀ (H' : Hp) (x : Addr), Same H H' → GlAt K H' x (lnG r s e) → Q (.ref x) H'
theorem d_lg (T : Tx K mg) : Df P w K mg base CX0 5 "line_glue" (He.ga K "line_glue") ["row", "start", "end"] (spLg K) := by
  obtain ⟨fd, F⟩ := F_line_glue T.told
  refine ⟨⟨fd, ?_, F.binds fun _ _ _ _ _ _ us hl => match us, hl with | [_, _, _], _ => rfl⟩, F.kp, g_line_glue T⟩
  have DX : Df P w K mg base CX0 4 "extended_glue" (He.ga K "extended_glue") ["row", "inner", "box"] (spXg K) := d_xg T
  have DF : Df P w K mg base CX0 4 "finished_glue" (He.ga K "finished_glue") ["row", "inner", "end"] (spFg K) := d_fg T
  refine F.ok sc_line_glue (fun vs H Q E h => ?_) (fun cdv A outer s H vs Q E hr h => ?_)
  · obtain ⟨p, r, y, z, s, e, rfl, _⟩ := h
    rfl
  · obtain ⟨p, r, y, z, s, e, rfl, ey, ez, hrow, ok, hse, hen, q⟩ := h
    obtain ⟨aw, aj, as, h1, h2, h3, h4, h5⟩ := id hrow
    have hr2 : Room 2 _ := hr.mono (by decide)
    have hn : r.n ≤ 100 := ok.n
    refine ⟨_, pss_cons (ps_set (i := 3) sc_line_glue.nd rfl (.inl rfl) (pe_gl T hr2 (by rfl) (pa_cons (pe_ix ix_tup (pe_ix ix_tup (pv 0) pe_int (fun _ _ => rfl)) (pv 1) (fun _ _ => rfl)) (pa_cons pe_int (pa_cons pe_int pa_nil)))))
      (pss_cons (ps_for PassesOwn.never rfl (pi_range2 (by rfl) (z_range T) (pa_cons (pe_op op_add (pv 1) pe_int) (pa_cons (pv 2) pa_nil))) (pg_name (i := 4) sc_line_glue.nd rfl (.inl rfl))
        (pss_one (ps_set (i := 3) sc_line_glue.nd rfl (.inl rfl) (pe_d DX hr (by rfl) (pa_cons (pv 0) (pa_cons (pv 3) (pa_cons (pv 4) pa_nil)))))))
      (pss_one (ps_ret (pe_d DF hr (by rfl) (pa_cons (pv 0) (pa_cons (pv 3) (pa_cons (pv 2) pa_nil))))))), ?_⟩
    refine ⟨_, rfl, p, _, _, .ref aw, rfl, rfl, SqT.of h1, rfl, _, rfl, aw, _, _, _, rfl, rfl, SqT.of h2, row_w (i := s) (by omega) ey, ?_⟩
    refine ⟨_, _, _, rfl, fun H1 x1 s1 n1 e1 => ?_⟩
    refine ⟨_, rfl, _, _, rfl, rfl, _, rfl, _, _, rfl, ⟨by omega, by omega, by omega, by omega⟩, ?_⟩
    have hcount : (z - (y + 1)).toNat = e - (s + 1) := by omega
    rw [hcount]
    refine for_range (lo := y + 1) (n := e - (s + 1)) (fun i σ H2 => ∃ (a : Addr) (v : Option V), σ = [some (.ref p), some (.int y), some (.int z), some (.ref a), v] ∧ Same H H2 ∧ GlAt K H2 a (inn r s i)) ⟨x1, none, rfl, s1, e1⟩ ?_ ?_
    · rintro i σ H2 hi ⟨a, v, rfl, s2, e2⟩
      refine ⟨_, rfl, _, rfl, _, rfl, p, a, r, inn r s i, _, s + i + 1, rfl, by omega, hrow.same s2, ok, e2, by omega, by omega, fun H3 x3 s3 n3 e3 => ?_⟩
      exact ⟨x3, _, rfl, s2.trans s3, e3⟩
    · rintro σ H2 ⟨a, v, rfl, s2, e2⟩
      refine ⟨_, rfl, _, rfl, _, rfl, p, a, r, _, z, e, rfl, ez, hrow.same s2, ok, e2, by omega, fun H3 x3 s3 e3 => ?_⟩
      exact q H3 x3 (s2.trans s3) e3
end
end Sp
set_option maxRecDepth 100000
set_option maxHeartbeats 2000000
/-! The price of a line. -/
namespace Sp
open PySem PySem.Spec PyProof.Rows L2
/-! ### bounds -/
structure GOk (g : G) : Prop where
  w : 1 ≤ g.w ∧ g.w ≤ 600000
  s : 0 ≤ g.s ∧ g.s ≤ 60000
  k : 0 ≤ g.k ∧ g.k ≤ 60000
theorem wd_ok {r : Rw} (ok : r.Ok) {i : Nat} (h : i < r.n) : 1 ≤ r.wd i ∧ r.wd i ≤ 5000 := by
  have h' : i < r.ws.length := h
  refine ok.w _ ?_
  unfold Rw.wd
  rw [List.getD_eq_getElem?_getD, List.getElem?_eq_getElem h']
  exact List.getElem_mem _
theorem jG_ok {r : Rw} (ok : r.Ok) {i : Nat} (h : i + 1 < r.n) : 0 ≤ (jG (r.j i)).s ∧ (jG (r.j i)).s ≤ 500 ∧ 0 ≤ (jG (r.j i)).k ∧ (jG (r.j i)).k ≤ 500 ∧ (jG (r.j i)).w ≤ 500 ∧ 1 ≤ (jG (r.j i)).w + r.wd (i + 1) ∧ 1 ≤ (r.j i).xt ∧ (r.j i).xt ≤ 500 := by
  have hj := ok.j i h
  have hw := wd_ok ok h
  cases e : r.j i with
  | hy x j =>
    rw [e] at hj
    obtain ⟨h1, h2, h3, h4, h5⟩ := hj
    refine ⟨Int.le_refl _, (by show (0 : Int) ≤ 500; decide), Int.le_refl _, (by show (0 : Int) ≤ 500; decide), ?_, ?_, h1, h2⟩
    · show -j ≤ 500
      omega
    · show 1 ≤ -j + r.wd (i + 1)
      omega
  | gp a s k =>
    rw [e] at hj
    obtain ⟨h1, h2, h3, h4, h5, h6⟩ := hj
    refine ⟨h3, h4, h5, ?_, h2, ?_, h1, h2⟩
    · show k ≤ 500
      omega
    · show 1 ≤ a + r.wd (i + 1)
      omega
theorem inn_b {r : Rw} (ok : r.Ok) {s : Nat} : ∀ k : Nat, s + k < r.n → 1 ≤ (inn r s k).w ∧ (inn r s k).w ≤ 5500 * (k + 1) ∧ 0 ≤ (inn r s k).s ∧ (inn r s k).s ≤ 500 * k ∧ 0 ≤ (inn r s k).k ∧ (inn r s k).k ≤ 500 * k
  | 0, h => by
    have := wd_ok ok (i := s) (by omega)
    refine ⟨this.1, ?_, Int.le_refl _, Int.le_refl _, Int.le_refl _, Int.le_refl _⟩
    show r.wd s ≤ 5500 * (0 + 1)
    omega
  | k + 1, h => by
    obtain ⟨i1, i2, i3, i4, i5, i6⟩ := inn_b ok (s := s) k (by omega)
    have hj := jG_ok ok (i := s + k) (by omega)
    have hw := wd_ok ok (i := s + k + 1) (by omega)
    have e : (s + k + 1 : Nat) - 1 = s + k := by omega
    have ew : (inn r s (k + 1)).w = (inn r s k).w + (jG (r.j (s + k))).w + r.wd (s + k + 1) := by
      show (xtG r (inn r s k) (s + k + 1)).w = _
      unfold xtG
      rw [e]
      rfl
    have es : (inn r s (k + 1)).s = (inn r s k).s + (jG (r.j (s + k))).s + 0 := by
      show (xtG r (inn r s k) (s + k + 1)).s = _
      unfold xtG
      rw [e]
      rfl
    have ek : (inn r s (k + 1)).k = (inn r s k).k + (jG (r.j (s + k))).k + 0 := by
      show (xtG r (inn r s k) (s + k + 1)).k = _
      unfold xtG
      rw [e]
      rfl
    rw [ew, es, ek]
    refine ⟨by omega, by push_cast; omega, by omega, by push_cast; omega, by omega, by push_cast; omega⟩
theorem fin_ok {r : Rw} (ok : r.Ok) {s k : Nat} (h : s + k < r.n) : GOk (fnG r (inn r s k) (s + k + 1)) := by
  obtain ⟨i1, i2, i3, i4, i5, i6⟩ := inn_b ok k h
  have hn : r.n ≤ 100 := ok.n
  unfold fnG
  by_cases c : endsHy r (s + k + 1) = true
  · rw [if_pos c]
    have hen : s + k + 1 < r.n := by
      unfold endsHy at c
      exact of_decide_eq_true (Bool.and_eq_true_iff.mp c).1
    have hj := jG_ok ok (i := s + k) hen
    have e : (s + k + 1 : Nat) - 1 = s + k := by omega
    rw [e]
    refine ⟨⟨?_, ?_⟩, ⟨?_, ?_⟩, ⟨?_, ?_⟩⟩
    · show 1 ≤ (inn r s k).w + (r.j (s + k)).xt
      omega
    · show (inn r s k).w + (r.j (s + k)).xt ≤ 600000
      omega
    · show 0 ≤ (inn r s k).s + 0
      omega
    · show (inn r s k).s + 0 ≤ 60000
      omega
    · show 0 ≤ (inn r s k).k + 0
      omega
    · show (inn r s k).k + 0 ≤ 60000
      omega
  · rw [if_neg c]
    exact ⟨⟨i1, by omega⟩, ⟨i3, by omega⟩, ⟨i5, by omega⟩⟩
theorem ln_ok {r : Rw} (ok : r.Ok) {s e : Nat} (h : s < e) (he : e ≤ r.n) : GOk (lnG r s e) := by
  have := fin_ok ok (s := s) (k := e - (s + 1)) (by omega)
  rw [show s + (e - (s + 1)) + 1 = e by omega] at this
  exact this
theorem room_ok {m : Ms} (ok : m.Ok) (s : Nat) : -100 ≤ room m s ∧ room m s ≤ 10500 := by
  have := ok.w
  have := ok.i
  unfold room
  split <;> omega
def oI : Option Int → V
  | none => .non
  | some i => .int i
theorem mul_in {i j : Int} (h : -(2 ^ 64) < i ∧ i < 2 ^ 64) : CMul i j := .inl h
theorem sq_div {i k : Int} (h : 0 < k) (h2 : k ≤ 60000) : CDivW i (k * k) := by
  have e : k * k ≤ 60000 * 60000 := Int.mul_le_mul h2 h2 (by omega) (by omega)
  have p : 0 < k * k := Int.mul_pos h h
  exact wide_div (b := 40) p (by omega) (by decide) (by decide)

section
variable {P : Program} {w : World} {K : PySem.W.Frag} {mg : Str → Option Value} {base : Heap}
/-! ### room_of -/
def spRo (K : PySem.W.Frag) : L2.Sp := fun vs H Q _ => ∃ (a : Addr) (y : Int) (s : Nat) (m : Ms), vs = [.int y, .ref a] ∧ y = (s : Int) ∧ MsAt K H a m ∧ Q (.int (room m s)) H
theorem d_ro (T : Tx K mg) : Df P w K mg base CX0 1 "room_of" (He.ga K "room_of") ["start", "measure"] (spRo K) := by
  obtain ⟨fd, F⟩ := F_room_of T.told
  refine ⟨⟨fd, ?_, F.binds fun _ _ _ _ _ _ us hl => match us, hl with | [_, _], _ => rfl⟩, F.kp, g_room_of T⟩
  refine F.ok sc_room_of (fun vs H Q E h => ?_) (fun cdv A outer s H vs Q E hr h => ?_)
  · obtain ⟨a, y, s, m, rfl, _⟩ := h
    rfl
  · obtain ⟨a, y, s, m, rfl, ey, ⟨dx, hm⟩, q⟩ := h
    refine ⟨_, pss_cons (ps_if (pt_cmpR op_eq (pv 0) pe_int (nomark _)) (pss_one (ps_ret (pe_op op_sub (pe_fld (pv 1) rfl) (pe_fld (pv 1) rfl)))) pss_nil) (pss_one (ps_ret (pe_fld (pv 1) rfl))), ?_⟩
    refine ⟨_, rfl, rfl, _, rfl, ?_⟩
    unfold room at q
    by_cases c : s = 0
    · have c' : V.int y = V.int 0 := by rw [ey, c]; rfl
      rw [decide_eq_true c']
      rw [if_pos c] at q
      refine iteT ⟨_, rfl, a, _, dx, _, _, rfl, hm, c_Measure T.told, n_Measure_width T.told, mF_width m, _, rfl, a, _, dx, _, _, rfl, hm, c_Measure T.told, n_Measure_indent T.told, mF_indent m, _, _, rfl, rfl, q⟩
    · have c' : ¬ V.int y = V.int 0 := fun z => c (by have := V.int.inj z; omega)
      rw [decide_eq_false c']
      rw [if_neg c] at q
      exact iteF ⟨_, rfl, a, _, dx, _, _, rfl, hm, c_Measure T.told, n_Measure_width T.told, mF_width m, q⟩

/-! ### both_price, left_price -/
def spBo (K : PySem.W.Frag) : L2.Sp := fun vs H Q _ => ∃ (a : Addr) (g : G) (rm : Int) (last : Bool) (loose : Int), vs = [.ref a, .int rm, .bl last, .int loose] ∧ GlAt K H a g ∧ GOk g ∧ -100 ≤ rm ∧ rm ≤ 10500 ∧ 0 ≤ loose ∧ loose ≤ 9 ∧ Q (oI (bothP g rm last loose)) H
theorem d_bo (T : Tx K mg) : Df P w K mg base CX0 1 "both_price" (He.ga K "both_price") ["glue", "room", "last", "loose"] (spBo K) := by
  obtain ⟨fd, F⟩ := F_both_price T.told
  refine ⟨⟨fd, ?_, F.binds fun _ _ _ _ _ _ us hl => match us, hl with | [_, _, _, _], _ => rfl⟩, F.kp, g_both_price T⟩
  have nw := n_Glue_width T.told
  have ns := n_Glue_stretch T.told
  have nk := n_Glue_shrink T.told
  have cg := c_Glue T.told
  refine F.ok sc_both_price (fun vs H Q E h => ?_) (fun cdv A outer s H vs Q E hr h => ?_)
  · obtain ⟨a, g, rm, last, loose, rfl, _⟩ := h
    rfl
  · obtain ⟨a, g, rm, last, loose, rfl, ⟨dx, hg⟩, gk, h1, h2, h3, h4, q⟩ := h
    refine ⟨_, pss_cons (ps_set (i := 4) sc_both_price.nd rfl (.inl rfl) (pe_op op_sub (pv 1) (pe_fld (pv 0) rfl)))
      (pss_cons (ps_if (pt_cmpR op_lt (pv 4) pe_int (nomark _))
        (pss_cons (ps_if (pt_cmpR op_gt (pe_un un_neg (pv 4)) (pe_fld (pv 0) rfl) (nomark _)) (pss_one (ps_ret pe_non)) pss_nil)
          (pss_one (ps_ret (pe_op op_fdivW (pe_op op_mul (pe_op op_mul pe_int (pv 4)) (pv 4)) (pe_op op_mul (pe_fld (pv 0) rfl) (pe_fld (pv 0) rfl)))))) pss_nil)
      (pss_cons (ps_if (PW.pt (pw_or (pt_cmpR op_eq (pv 4) pe_int (nomark _)) (pw_or1 (pt_val (pv 2))))) (pss_one (ps_ret pe_int)) pss_nil)
      (pss_cons (ps_if (pt_cmpR op_gt (pv 4) (pe_op op_mul (pv 3) (pe_fld (pv 0) rfl)) (nomark _)) (pss_one (ps_ret pe_non)) pss_nil)
      (pss_one (ps_ret (pe_op op_fdivW (pe_op op_mul (pe_op op_mul pe_int (pv 4)) (pv 4)) (pe_op op_mul (pe_fld (pv 0) rfl) (pe_fld (pv 0) rfl)))))))), ?_⟩
    have gw := gk.w
    have gs := gk.s
    have gk' := gk.k
    refine ⟨_, rfl, _, rfl, a, _, dx, _, _, rfl, hg, cg, nw, gF_w g, _, _, rfl, rfl, ?_⟩
    refine ⟨_, rfl, _, _, rfl, rfl, _, rfl, ?_⟩
    unfold bothP at q
    have hm1 : -(2 ^ 64) < (100 : Int) ∧ (100 : Int) < 2 ^ 64 := by decide
    have hm2 : -(2 ^ 64) < 100 * (rm - g.w) ∧ 100 * (rm - g.w) < 2 ^ 64 := by omega
    by_cases c : rm - g.w < 0
    · rw [if_pos c] at q
      rw [decide_eq_true c]
      refine iteT ⟨_, rfl, _, rfl, _, rfl, a, _, dx, _, _, rfl, hg, cg, nk, gF_k g, _, _, rfl, rfl, _, rfl, ?_⟩
      by_cases c2 : g.k < -(rm - g.w)
      · rw [if_pos c2] at q
        rw [decide_eq_true c2]
        exact iteT q
      · rw [if_neg c2] at q
        rw [decide_eq_false c2]
        refine iteF ⟨_, rfl, _, _, rfl, rfl, mul_in hm1, _, rfl, _, _, rfl, rfl, mul_in hm2, _, rfl, a, _, dx, _, _, rfl, hg, cg, nk, gF_k g, _, rfl, a, _, dx, _, _, rfl, hg, cg, nk, gF_k g, _, _, rfl, rfl, mul_in (by omega), _, _, rfl, rfl, sq_div (by omega) gk'.2, q⟩
    · rw [if_neg c] at q
      rw [decide_eq_false c]
      refine iteF ⟨_, rfl, rfl, _, rfl, ?_⟩
      have rest : ¬ (rm - g.w = 0 ∨ last = true) → (if rm - g.w > loose * g.s then none else some (100 * (rm - g.w) * (rm - g.w) / (g.s * g.s)) : Option Int) = (if rm - g.w < 0 then (if -(rm - g.w) > g.k then none else some (100 * (rm - g.w) * (rm - g.w) / (g.k * g.k)))
        else if rm - g.w = 0 ∨ last = true then some 0 else if rm - g.w > loose * g.s then none else some (100 * (rm - g.w) * (rm - g.w) / (g.s * g.s)) : Option Int) := fun z => by rw [if_neg c, if_neg z]
      by_cases c0 : rm - g.w = 0
      · rw [if_pos (.inl c0)] at q
        rw [decide_eq_true (show V.int (rm - g.w) = V.int 0 by rw [c0])]
        exact iteT (iteT q)
      · rw [decide_eq_false (show ¬ V.int (rm - g.w) = V.int 0 from fun z => c0 (V.int.inj z))]
        refine iteF ⟨_, rfl, last, rfl, ?_⟩
        cases last with
        | true =>
          rw [if_pos (.inr rfl)] at q
          exact iteT q
        | false =>
          rw [if_neg (by rintro (z | z); exact c0 z; cases z)] at q
          refine iteF ⟨_, rfl, _, rfl, _, rfl, a, _, dx, _, _, rfl, hg, cg, ns, gF_s g, _, _, rfl, rfl, mul_in (by omega), _, _, rfl, rfl, _, rfl, ?_⟩
          by_cases c2 : loose * g.s < rm - g.w
          · rw [if_pos c2] at q
            rw [decide_eq_true c2]
            exact iteT q
          · rw [if_neg c2] at q
            rw [decide_eq_false c2]
            have sp : 0 < g.s := by
              rcases Int.lt_or_le 0 g.s with z | z
              · exact z
              · have e0 : g.s = 0 := by omega
                rw [e0, Int.mul_zero] at c2
                omega
            refine iteF ⟨_, rfl, _, _, rfl, rfl, mul_in hm1, _, rfl, _, _, rfl, rfl, mul_in hm2, _, rfl, a, _, dx, _, _, rfl, hg, cg, ns, gF_s g, _, rfl, a, _, dx, _, _, rfl, hg, cg, ns, gF_s g, _, _, rfl, rfl, mul_in (by omega), _, _, rfl, rfl, sq_div sp gs.2, q⟩
def spLe (K : PySem.W.Frag) : L2.Sp := fun vs H Q _ => ∃ (a : Addr) (g : G) (rm : Int) (last : Bool), vs = [.ref a, .int rm, .bl last] ∧ GlAt K H a g ∧ GOk g ∧ -100 ≤ rm ∧ rm ≤ 10500 ∧ Q (oI (leftP g rm last)) H
theorem d_le (T : Tx K mg) : Df P w K mg base CX0 1 "left_price" (He.ga K "left_price") ["glue", "room", "last"] (spLe K) := by
  obtain ⟨fd, F⟩ := F_left_price T.told
  refine ⟨⟨fd, ?_, F.binds fun _ _ _ _ _ _ us hl => match us, hl with | [_, _, _], _ => rfl⟩, F.kp, g_left_price T⟩
  have nw := n_Glue_width T.told
  have cg := c_Glue T.told
  refine F.ok sc_left_price (fun vs H Q E h => ?_) (fun cdv A outer s H vs Q E hr h => ?_)
  · obtain ⟨a, g, rm, last, rfl, _⟩ := h
    rfl
  · obtain ⟨a, g, rm, last, rfl, ⟨dx, hg⟩, gk, h1, h2, q⟩ := h
    refine ⟨_, pss_cons (ps_set (i := 3) sc_left_price.nd rfl (.inl rfl) (pe_op op_sub (pv 1) (pe_fld (pv 0) rfl)))
      (pss_cons (ps_if (pt_cmpR op_lt (pv 3) pe_int (nomark _)) (pss_one (ps_ret pe_non)) pss_nil)
      (pss_cons (ps_if (pt_val (pv 2)) (pss_one (ps_ret pe_int)) pss_nil)
      (pss_one (ps_ret (pe_op op_fdivW (pe_op op_mul (pe_op op_mul pe_int (pv 3)) (pv 3)) (pe_op op_mul (pv 1) (pv 1))))))), ?_⟩
    have gw := gk.w
    refine ⟨_, rfl, _, rfl, a, _, dx, _, _, rfl, hg, cg, nw, gF_w g, _, _, rfl, rfl, ?_⟩
    refine ⟨_, rfl, _, _, rfl, rfl, _, rfl, ?_⟩
    unfold leftP at q
    by_cases c : rm - g.w < 0
    · rw [if_pos c] at q
      rw [decide_eq_true c]
      exact iteT q
    · rw [if_neg c] at q
      rw [decide_eq_false c]
      refine iteF ⟨_, rfl, last, rfl, ?_⟩
      cases last with
      | true => exact iteT q
      | false => exact iteF ⟨_, rfl, _, _, rfl, rfl, mul_in (by decide), _, rfl, _, _, rfl, rfl, mul_in (by omega), _, rfl, _, rfl, _, _, rfl, rfl, mul_in (by omega), _, _, rfl, rfl, sq_div (k := rm) (by omega) (by omega), q⟩

/-! ### price_with_glue -/
def spPg (K : PySem.W.Frag) : L2.Sp := fun vs H Q _ => ∃ (p a b : Addr) (r : Rw) (z : Int) (e : Nat) (g : G) (rm : Int) (m : Ms), vs = [.ref p, .int z, .ref a, .int rm, .ref b] ∧ z = (e : Int) ∧ RowAt H p r ∧ r.Ok ∧ 1 ≤ e ∧ GlAt K H a g ∧ GOk g ∧ -100 ≤ rm ∧ rm ≤ 10500 ∧
  MsAt K H b m ∧ m.Ok ∧ Q (oI (price r e g rm m)) H
theorem al_both (b : Bool) : decide (V.str (alS b) = V.str "both") = b := by cases b <;> rfl
theorem d_pg (T : Tx K mg) : Df P w K mg base CX0 2 "price_with_glue" (He.ga K "price_with_glue") ["row", "end", "glue", "room", "measure"] (spPg K) := by
  obtain ⟨fd, F⟩ := F_price_with_glue T.told
  refine ⟨⟨fd, ?_, F.binds fun _ _ _ _ _ _ us hl => match us, hl with | [_, _, _, _, _], _ => rfl⟩, F.kp, g_price_with_glue T⟩
  have DE : Df P w K mg base CX0 1 "ends_at_hyphen" (He.ga K "ends_at_hyphen") ["row", "end"] spEh := d_eh T
  have DB : Df P w K mg base CX0 1 "both_price" (He.ga K "both_price") ["glue", "room", "last", "loose"] (spBo K) := d_bo T
  have DL : Df P w K mg base CX0 1 "left_price" (He.ga K "left_price") ["glue", "room", "last"] (spLe K) := d_le T
  have cm := c_Measure T.told
  refine F.ok sc_price_with_glue (fun vs H Q E h => ?_) (fun cdv A outer s H vs Q E hr h => ?_)
  · obtain ⟨p, a, b, r, z, e, g, rm, m, rfl, _⟩ := h
    rfl
  · obtain ⟨p, a, b, r, z, e, g, rm, m, rfl, ez, hrow, ok, he, hg, gk, h1, h2, ⟨dm, hm⟩, mok, q⟩ := h
    obtain ⟨aw, aj, as, r1, r2, _⟩ := id hrow
    have nd := sc_price_with_glue.nd
    refine ⟨_, pss_cons (ps_set (i := 5) nd rfl (.inl rfl) (pe_cmpR op_eq (pv 1) (pe_callB call_len_seq (by rfl) (z_len T) PySem.boot_len (pa_cons (pe_ix ix_tup (pv 0) pe_int (fun _ _ => rfl)) pa_nil)) (nomark _)))
      (pss_cons (ps_if (pt_cmpR op_eq (pe_fld (pv 4) rfl) pe_str (nomark _))
        (pss_one (ps_set (i := 6) nd rfl (.inl rfl) (pe_d DB hr (by rfl) (pa_cons (pv 2) (pa_cons (pv 3) (pa_cons (pv 5) (pa_cons (pe_fld (pv 4) rfl) pa_nil)))))))
        (pss_one (ps_set (i := 6) nd rfl (.inl rfl) (pe_d DL hr (by rfl) (pa_cons (pv 2) (pa_cons (pv 3) (pa_cons (pv 5) pa_nil)))))))
      (pss_cons (ps_if (PW.pt (pw_and (pt_cmpR op_notN (pv 6) pe_non (nomark _)) (pw_and1 (pt_val (pe_d DE hr (by rfl) (pa_cons (pv 0) (pa_cons (pv 1) pa_nil))))))) (pss_one (ps_ret (pe_op op_add (pv 6) (pe_fld (pv 4) rfl)))) pss_nil)
      (pss_one (ps_ret (pv 6))))), ?_⟩
    refine ⟨_, rfl, _, rfl, p, _, _, .ref aw, rfl, rfl, SqT.of r1, rfl, aw, _, rfl, .inr (SqT.of r2), rfl, ?_⟩
    rw [List.length_map]
    have el : decide (V.int z = V.int ((r.ws.length : Nat) : Int)) = decide (e = r.n) := by
      have : V.int z = V.int ((r.ws.length : Nat) : Int) ↔ e = r.n := by
        constructor
        · intro q
          have := V.int.inj q
          show e = r.ws.length
          omega
        · intro q
          rw [ez, q]
          rfl
      exact decide_eq_decide.mpr this
    rw [el]
    refine ⟨_, rfl, b, _, dm, _, _, rfl, hm, cm, n_Measure_align T.told, mF_align m, rfl, _, rfl, ?_⟩
    rw [al_both]
    have tail : ∀ o : Option Int, (Q (oI (o.map fun p => if endsHy r e = true then p + m.hyphen else p)) H) →
        (tSeq (tIfS (tAnd (tTest (tOp (fun x y H Q => y = .non ∧ Q (.bl (!decide (x = .non))) H) (tVar 6) (tC .non))) (tB (tCall spEh [] E0 (tCons (tVar 0) (tCons (tVar 1) tNil))))) (tRet (tOp (rI0 fun i j => .int (i + j)) (tVar 6) (tFld K (tVar 4) "hyphen"))) tNext) (tRet (tVar 6)))
          { nx := fun _ H' => Q .non H', rt := Q } [some (.ref p), some (.int z), some (.ref a), some (.int rm), some (.ref b), some (.bl (decide (e = r.n))), some (oI o)] H := by
      intro o ho
      refine ⟨_, rfl, rfl, _, rfl, ?_⟩
      cases o with
      | none => exact iteF (iteF ⟨_, rfl, ho⟩)
      | some i =>
        refine iteT ⟨_, rfl, _, rfl, p, r, z, e, rfl, ez, hrow, ok, he, _, rfl, ?_⟩
        simp only [Option.map_some] at ho
        by_cases c : endsHy r e = true
        · rw [if_pos c] at ho
          rw [if_pos c]
          exact ⟨_, rfl, _, rfl, b, _, dm, _, _, rfl, hm, cm, n_Measure_hyphen T.told, mF_hyphen m, _, _, rfl, rfl, ho⟩
        · rw [if_neg c] at ho
          rw [if_neg c]
          exact ⟨_, rfl, ho⟩
    unfold price at q
    cases hb : m.both with
    | true =>
      rw [hb, if_pos rfl] at q
      refine iteT ⟨_, rfl, _, rfl, _, rfl, _, rfl, b, _, dm, _, _, rfl, hm, cm, n_Measure_loose T.told, mF_loose m, a, g, rm, _, m.loose, rfl, hg, gk, h1, h2, mok.l.1, mok.l.2, ?_⟩
      exact tail _ q
    | false =>
      rw [hb, if_neg Bool.false_ne_true] at q
      refine iteF ⟨_, rfl, _, rfl, _, rfl, a, g, rm, _, rfl, hg, gk, h1, h2, ?_⟩
      exact tail _ q
end
end Sp
set_option maxRecDepth 100000
set_option maxHeartbeats 2000000
/-! The places of the boxes, the spans of the gaps, how many of them overlap. -/
namespace Sp
open PySem PySem.Spec PyProof.Rows L2
/-! ### two lists alike -/
inductive A2 {α β : Type} (Z : α → β → Prop) : List α → List β → Prop
  | nil : A2 Z [] []
  | cons {a : α} {b : β} {as : List α} {bs : List β} (h : Z a b) (t : A2 Z as bs) : A2 Z (a :: as) (b :: bs)
section
variable {α β : Type} {Z Z' : α → β → Prop}
theorem A2.length : ∀ {as : List α} {bs : List β}, A2 Z as bs → as.length = bs.length
  | _, _, .nil => rfl
  | _, _, .cons _ t => congrArg Nat.succ t.length
theorem A2.imp (f : ∀ a b, Z a b → Z' a b) : ∀ {as : List α} {bs : List β}, A2 Z as bs → A2 Z' as bs
  | _, _, .nil => .nil
  | _, _, .cons h t => .cons (f _ _ h) (t.imp f)
theorem A2.snoc {a : α} {b : β} (h : Z a b) : ∀ {as : List α} {bs : List β}, A2 Z as bs → A2 Z (as ++ [a]) (bs ++ [b])
  | _, _, .nil => .cons h .nil
  | _, _, .cons h' t => .cons h' (t.snoc h)
theorem A2.cat {as' : List α} {bs' : List β} (u : A2 Z as' bs') : ∀ {as : List α} {bs : List β}, A2 Z as bs → A2 Z (as ++ as') (bs ++ bs')
  | _, _, .nil => u
  | _, _, .cons h' t => .cons h' (A2.cat u t)
theorem A2.get : ∀ {as : List α} {bs : List β} {i : Nat} {a : α}, A2 Z as bs → as[i]? = some a → ∃ b, bs[i]? = some b ∧ Z a b
  | _, _, _, _, .nil, h => by simp at h
  | _, _, 0, _, .cons h t, e => by
    simp at e
    subst e
    exact ⟨_, rfl, h⟩
  | _, _, i + 1, _, .cons _ t, e => A2.get (i := i) t (by simpa using e)
theorem A2.getR : ∀ {as : List α} {bs : List β} {i : Nat} {b : β}, A2 Z as bs → bs[i]? = some b → ∃ a, as[i]? = some a ∧ Z a b
  | _, _, _, _, .nil, h => by simp at h
  | _, _, 0, _, .cons h t, e => by
    simp at e
    subst e
    exact ⟨_, rfl, h⟩
  | _, _, i + 1, _, .cons _ t, e => A2.getR (i := i) t (by simpa using e)
theorem A2.map {γ : Type} (f : γ → α) (g : γ → β) (h : ∀ c, Z (f c) (g c)) : ∀ l : List γ, A2 Z (l.map f) (l.map g)
  | [] => .nil
  | c :: l => .cons (h c) (A2.map f g h l)
end
/-- all but a stays -/
def But (a : Addr) (H H' : Hp) : Prop := ∀ b o, H b = some o → b ≠ a → H' b = some o
theorem But.refl (a : Addr) (H : Hp) : But a H H := fun _ _ e _ => e
theorem But.to {a : Addr} {H H1 H2 : Hp} (h : But a H H1) (s : Same H1 H2) : But a H H2 := fun b o e n => s b o (h b o e n)
theorem But.put {a : Addr} {H H1 : Hp} {o : HO} (h : But a H H1) : But a H (upd H1 a o) := fun b u e n => by
  rw [upd_ne n]
  exact h b u e n
theorem But.same {a : Addr} {H0 H H' : Hp} (s : Same H0 H) (n : H0 a = none) (h : But a H H') : Same H0 H' := fun b o e => h b o (s b o e) (ne_of_none e n)
/-- items -/
def TII (H : Hp) (v : V) (p : Int × Int) : Prop := ∃ b, v = .ref b ∧ H b = some (.tup [.int p.1, .int p.2])
theorem TII.same {H H' : Hp} {v : V} {p : Int × Int} (s : Same H H') (h : TII H v p) : TII H' v p := h.imp fun _ e => ⟨e.1, s _ _ e.2⟩
def LsAt {β : Type} (H : Hp) (a : Addr) (Z : Hp → V → β → Prop) (l : List β) : Prop := ∃ xs, H a = some (.lst xs) ∧ A2 (Z H) xs l

/-! ### mirrors -/
def exI (rest : Int) (g b : G) (last : Bool) (m : Ms) : Int :=
  if m.both = true ∧ rest < 0 then -(-rest * b.k / g.k) else if m.both = true ∧ 0 < rest ∧ last = false then rest * b.s / g.s else 0
def plainAt (r : Rw) (m : Ms) (s : Nat) : Nat → Int
  | 0 => if s = 0 then m.indent else 0
  | k + 1 => plainAt r m s k + r.wd (s + k) + (jG (r.j (s + k))).w
def befAt (r : Rw) (s : Nat) : Nat → G
  | 0 => ⟨0, 0, 0⟩
  | k + 1 => (befAt r s k).add (jG (r.j (s + k)))
def placeAt (r : Rw) (m : Ms) (s e k : Nat) : Int := plainAt r m s k + exI (room m s - (lnG r s e).w) (lnG r s e) (befAt r s k) (decide (e = r.n)) m
def spanK (r : Rw) (m : Ms) (s e k : Nat) : Option (Int × Int) := if (r.j (s + k)).isHy = true then none else some (placeAt r m s e k + r.wd (s + k), placeAt r m s e (k + 1))
def spanL (r : Rw) (m : Ms) (s e i : Nat) : List (Int × Int) := (List.range i).filterMap (spanK r m s e)
def spans (r : Rw) (m : Ms) (s e : Nat) : List (Int × Int) := spanL r m s e (e - 1 - s)
def skipN (u : List (Int × Int)) (f : Int) : Nat → Nat → Nat
  | 0, a => a
  | k + 1, a => if a < u.length ∧ (u.getD a (0, 0)).2 ≤ f then skipN u f k (a + 1) else a
def covS (u : List (Int × Int)) (x : Int × Nat) (p : Int × Int) : Int × Nat :=
  (if skipN u p.1 (u.length - x.2) x.2 < u.length ∧ (u.getD (skipN u p.1 (u.length - x.2) x.2) (0, 0)).1 < p.2 then x.1 + 1 else x.1, skipN u p.1 (u.length - x.2) x.2)
def cov (u l : List (Int × Int)) : Int := (l.foldl (covS u) (0, 0)).1
def prC (r : Rw) (m : Ms) (mid e : Nat) (c : Int) : Option Int := if 0 < m.river ∧ m.river ≤ c then none else if endsHy r mid = true ∧ endsHy r e = true then some m.twin else some 0
theorem bef_b {r : Rw} (ok : r.Ok) {s : Nat} : ∀ k : Nat, s + k < r.n → 0 ≤ (befAt r s k).s ∧ (befAt r s k).s ≤ 500 * k ∧ 0 ≤ (befAt r s k).k ∧ (befAt r s k).k ≤ 500 * k
  | 0, _ => ⟨Int.le_refl _, Int.le_refl _, Int.le_refl _, Int.le_refl _⟩
  | k + 1, h => by
    obtain ⟨i3, i4, i5, i6⟩ := bef_b ok (s := s) k (by omega)
    have hj := jG_ok ok (i := s + k) (by omega)
    have es : (befAt r s (k + 1)).s = (befAt r s k).s + (jG (r.j (s + k))).s := rfl
    have ek : (befAt r s (k + 1)).k = (befAt r s k).k + (jG (r.j (s + k))).k := rfl
    rw [es, ek]
    refine ⟨by omega, by push_cast; omega, by omega, by push_cast; omega⟩
/-- a possible line -/
def Poss (r : Rw) (m : Ms) (s e : Nat) : Prop := price r e (lnG r s e) (room m s) m ≠ none
theorem poss_k {r : Rw} {m : Ms} {s e : Nat} (h : Poss r m s e) (hb : m.both = true) (hr : room m s - (lnG r s e).w < 0) : 0 < (lnG r s e).k := by
  rcases Int.lt_or_le 0 (lnG r s e).k with z | z
  · exact z
  · refine absurd ?_ h
    unfold price bothP
    rw [if_pos hb, if_pos hr, if_pos (by omega)]
    rfl
theorem poss_s {r : Rw} {m : Ms} (mok : m.Ok) {s e : Nat} (h : Poss r m s e) (hb : m.both = true) (hr : 0 < room m s - (lnG r s e).w) (hl : ¬ e = r.n) (hs : 0 ≤ (lnG r s e).s) : 0 < (lnG r s e).s := by
  rcases Int.lt_or_le 0 (lnG r s e).s with z | z
  · exact z
  · refine absurd ?_ h
    unfold price bothP
    have e0 : (lnG r s e).s = 0 := by omega
    rw [if_pos hb, if_neg (by omega), if_neg (by rw [decide_eq_false hl]; rintro (q | q); omega; cases q), e0, Int.mul_zero, if_pos (by omega)]
    rfl

section
variable {P : Program} {w : World} {K : PySem.W.Frag} {mg : Str → Option Value} {base : Heap}
/-! ### extra_of -/
def spEx (K : PySem.W.Frag) : L2.Sp := fun vs H Q _ => ∃ (a b c : Addr) (rest : Int) (g bg : G) (last : Bool) (m : Ms), vs = [.int rest, .ref a, .ref b, .bl last, .ref c] ∧ GlAt K H a g ∧ GlAt K H b bg ∧ MsAt K H c m ∧ -1000000 ≤ rest ∧ rest ≤ 1000000 ∧ g.k ≤ 60000 ∧ g.s ≤ 60000 ∧
  (m.both = true → rest < 0 → 0 < g.k) ∧ (m.both = true → 0 < rest → last = false → 0 < g.s) ∧ Q (.int (exI rest g bg last m)) H
theorem d_ex (T : Tx K mg) : Df P w K mg base CX0 1 "extra_of" (He.ga K "extra_of") ["rest", "glue", "before", "last", "measure"] (spEx K) := by
  obtain ⟨fd, F⟩ := F_extra_of T.told
  refine ⟨⟨fd, ?_, F.binds fun _ _ _ _ _ _ us hl => match us, hl with | [_, _, _, _, _], _ => rfl⟩, F.kp, g_extra_of T⟩
  have ns := n_Glue_stretch T.told
  have nk := n_Glue_shrink T.told
  have cg := c_Glue T.told
  have cm := c_Measure T.told
  have na := n_Measure_align T.told
  refine F.ok sc_extra_of (fun vs H Q E h => ?_) (fun cdv A outer s H vs Q E hr h => ?_)
  · obtain ⟨a, b, c, rest, g, bg, last, m, rfl, _⟩ := h
    rfl
  · obtain ⟨a, b, c, rest, g, bg, last, m, rfl, ⟨da, hg⟩, ⟨db, hb⟩, ⟨dm, hm⟩, l1, l2, l3, l4, p1, p2, q⟩ := h
    refine ⟨_, pss_cons (ps_if (PW.pt (pw_and (pt_cmpR op_eq (pe_fld (pv 4) rfl) pe_str (nomark _)) (pw_and1 (pt_cmpR op_lt (pv 0) pe_int (nomark _)))))
        (pss_one (ps_ret (pe_un un_neg (pe_op op_fdivW (pe_op op_mul (pe_un un_neg (pv 0)) (pe_fld (pv 2) rfl)) (pe_fld (pv 1) rfl))))) pss_nil)
      (pss_cons (ps_if (PW.pt (pw_and (pt_cmpR op_eq (pe_fld (pv 4) rfl) pe_str (nomark _)) (pw_and (pt_cmpR op_gt (pv 0) pe_int (nomark _)) (pw_and1 (pt_not (pt_val (pv 3)))))))
        (pss_one (ps_ret (pe_op op_fdivW (pe_op op_mul (pv 0) (pe_fld (pv 2) rfl)) (pe_fld (pv 1) rfl)))) pss_nil)
      (pss_one (ps_ret pe_int))), ?_⟩
    refine ⟨_, rfl, c, _, dm, _, _, rfl, hm, cm, na, mF_align m, rfl, _, rfl, ?_⟩
    rw [al_both]
    have two : Q (.int (if m.both = true ∧ 0 < rest ∧ last = false then rest * bg.s / g.s else 0)) H → (tSeq (tIfS (tAnd (tTest (tOp rEq (tFld K (tVar 4) "align") (tC (.str "both")))) (tAnd (tTest (tOp (rI0 fun i j => .bl (decide (j < i))) (tVar 0) (tC (.int 0)))) (tNot (tB (tVar 3)))))
        (tRet (tOp (rI CDivW fun i j => .int (i / j)) (tOp (rI CMul fun i j => .int (i * j)) (tVar 0) (tFld K (tVar 2) "stretch")) (tFld K (tVar 1) "stretch"))) tNext) (tRet (tC (.int 0)))) { nx := fun _ H' => Q .non H', rt := Q } [some (.int rest), some (.ref a), some (.ref b), some (.bl last), some (.ref c)] H := by
      intro q2
      refine ⟨_, rfl, c, _, dm, _, _, rfl, hm, cm, na, mF_align m, rfl, _, rfl, ?_⟩
      rw [al_both]
      cases hbo : m.both with
      | false =>
        rw [hbo, if_neg (by rintro ⟨z, _⟩; cases z)] at q2
        exact iteF (iteF q2)
      | true =>
        refine iteT ⟨_, rfl, _, _, rfl, rfl, _, rfl, ?_⟩
        by_cases c2 : 0 < rest
        · rw [decide_eq_true c2]
          refine iteT ⟨_, rfl, last, rfl, ?_⟩
          cases hl : last with
          | true =>
            rw [hbo, hl, if_neg (by rintro ⟨_, _, z⟩; cases z)] at q2
            exact iteF q2
          | false =>
            rw [hbo, hl, if_pos ⟨rfl, c2, rfl⟩] at q2
            have sp := p2 hbo c2 hl
            exact iteT ⟨_, rfl, _, rfl, b, _, db, _, _, rfl, hb, cg, ns, gF_s bg, _, _, rfl, rfl, mul_in (by omega), _, rfl, a, _, da, _, _, rfl, hg, cg, ns, gF_s g, _, _, rfl, rfl, wide_div (b := 40) sp (by omega) (by decide) (by decide), q2⟩
        · rw [decide_eq_false c2]
          rw [if_neg (by rintro ⟨_, z, _⟩; exact c2 z)] at q2
          exact iteF (iteF q2)
    unfold exI at q
    cases hbo : m.both with
    | false =>
      rw [if_neg (by rw [hbo]; rintro ⟨z, _⟩; cases z)] at q
      exact iteF (iteF (two q))
    | true =>
      refine iteT ⟨_, rfl, _, _, rfl, rfl, _, rfl, ?_⟩
      by_cases c1 : rest < 0
      · rw [if_pos ⟨hbo, c1⟩] at q
        rw [decide_eq_true c1]
        have kp := p1 hbo c1
        exact iteT ⟨_, rfl, _, rfl, _, rfl, b, _, db, _, _, rfl, hb, cg, nk, gF_k bg, _, _, rfl, rfl, mul_in (by omega), _, rfl, a, _, da, _, _, rfl, hg, cg, nk, gF_k g, _, _, rfl, rfl, wide_div (b := 40) kp (by omega) (by decide) (by decide), _, rfl, q⟩
      · rw [if_neg (by rintro ⟨_, z⟩; exact c1 z)] at q
        rw [decide_eq_false c1]
        exact iteF (two q)

/-! ### box_places -/
def spBx (K : PySem.W.Frag) : L2.Sp := fun vs H Q _ => ∃ (p c : Addr) (r : Rw) (m : Ms) (y z : Int) (s e : Nat), vs = [.ref p, .int y, .int z, .ref c] ∧ y = (s : Int) ∧ z = (e : Int) ∧ RowAt H p r ∧ r.Ok ∧ MsAt K H c m ∧ m.Ok ∧ s < e ∧ e ≤ r.n ∧ Poss r m s e ∧
  ∀ (H' : Hp) (x : Addr), Same H H' → H x = none → H' x = some (.lst ((List.range (e - s)).map fun k => .int (placeAt r m s e k))) → Q (.ref x) H'
theorem d_bx (T : Tx K mg) : Df P w K mg base CX0 6 "box_places" (He.ga K "box_places") ["row", "start", "end", "measure"] (spBx K) := by
  obtain ⟨fd, F⟩ := F_box_places T.told
  refine ⟨⟨fd, ?_, F.binds fun _ _ _ _ _ _ us hl => match us, hl with | [_, _, _, _], _ => rfl⟩, F.kp, g_box_places T⟩
  have DL : Df P w K mg base CX0 5 "line_glue" (He.ga K "line_glue") ["row", "start", "end"] (spLg K) := d_lg T
  have DR : Df P w K mg base CX0 1 "room_of" (He.ga K "room_of") ["start", "measure"] (spRo K) := d_ro T
  have DJ : Df P w K mg base CX0 3 "joint_glue" (He.ga K "joint_glue") ["joint"] (spJg K) := d_jg T
  have DE : Df P w K mg base CX0 1 "extra_of" (He.ga K "extra_of") ["rest", "glue", "before", "last", "measure"] (spEx K) := d_ex T
  have nd := sc_box_places.nd
  have cg := c_Glue T.told
  have cm := c_Measure T.told
  have nw := n_Glue_width T.told
  refine F.ok sc_box_places (fun vs H Q E h => ?_) (fun cdv A outer s H vs Q E hr h => ?_)
  · obtain ⟨p, c, r, m, y, z, s, e, rfl, _⟩ := h
    rfl
  · obtain ⟨p, c, r, m, y, z, s, e, rfl, ey, ez, hrow, ok, hm, mok, hse, hen, hp, q⟩ := h
    obtain ⟨aw, aj, as, h1, h2, h3, h4, h5⟩ := id hrow
    have hr1 : Room 1 _ := hr.mono (by decide)
    have hr2 : Room 2 _ := hr.mono (by decide)
    have hr3 : Room 3 _ := hr.mono (by decide)
    have hn : r.n ≤ 100 := ok.n
    refine ⟨_, pss_cons (ps_asg (pv 0) (pg_tup rfl (pgs_cons (pg_name (i := 4) nd rfl (.inl rfl)) (pgs_cons (pg_name (i := 5) nd rfl (.inl rfl)) pgs_nil))))
      (pss_cons (ps_set (i := 6) nd rfl (.inl rfl) (pe_d DL hr (by rfl) (pa_cons (pv 0) (pa_cons (pv 1) (pa_cons (pv 2) pa_nil)))))
      (pss_cons (ps_set (i := 7) nd rfl (.inl rfl) (pe_op op_sub (pe_d DR hr1 (by rfl) (pa_cons (pv 1) (pa_cons (pv 3) pa_nil))) (pe_fld (pv 6) rfl)))
      (pss_cons (ps_set (i := 8) nd rfl (.inl rfl) (pe_cmpR op_eq (pv 2) (pe_callB call_len_seq (by rfl) (z_len T) PySem.boot_len (pa_cons (pv 4) pa_nil)) (nomark _)))
      (pss_cons (ps_set (i := 9) nd rfl (.inl rfl) (pe_ifExp (pt_cmpR op_eq (pv 1) pe_int (nomark _)) (pe_fld (pv 3) rfl) pe_int))
      (pss_cons (ps_set (i := 10) nd rfl (.inl rfl) (pe_gl T hr2 (by rfl) (pa_cons pe_int (pa_cons pe_int (pa_cons pe_int pa_nil)))))
      (pss_cons (ps_set (i := 11) nd rfl (.inl rfl) (pe_lst pa_nil))
      (pss_cons (ps_for PassesOwn.never rfl (pi_range2 (by rfl) (z_range T) (pa_cons (pv 1) (pa_cons (pv 2) pa_nil))) (pg_name (i := 12) nd rfl (.inl rfl))
        (pss_cons (ps_if (pt_cmpR op_gt (pv 12) (pv 1) (nomark _))
            (pss_cons (ps_set (i := 13) nd rfl (.inl rfl) (pe_d DJ hr3 (by rfl) (pa_cons (pe_ix ix_tup (pv 5) (pe_op op_sub (pv 12) pe_int) (fun _ _ => rfl)) pa_nil)))
            (pss_cons (ps_set (i := 9) nd rfl (.inl rfl) (pe_op op_add (pe_op op_add (pv 9) (pe_ix ix_tup (pv 4) (pe_op op_sub (pv 12) pe_int) (fun _ _ => rfl))) (pe_fld (pv 13) rfl)))
            (pss_one (ps_set (i := 10) nd rfl (.inl rfl) (pe_op (op_ga T hr3) (pv 10) (pv 13)))))) pss_nil)
          (pss_one (ps_expr (pe_bm PySem.F.plainAttrs_list PySem.F.slot_list_append PySem.F.type_list_append mt_append (pv 11)
            (pa_cons (pe_op op_add (pv 9) (pe_d DE hr1 (by rfl) (pa_cons (pv 7) (pa_cons (pv 6) (pa_cons (pv 10) (pa_cons (pv 8) (pa_cons (pv 3) pa_nil))))))) pa_nil))))))
      (pss_one (ps_ret (pv 11)))))))))), ?_⟩
    refine ⟨_, rfl, p, _, rfl, SqT.of h1, rfl, _, _, rfl, _, _, rfl, rfl, ?_⟩
    -- glue, rest
    refine ⟨_, rfl, _, rfl, _, rfl, p, r, y, z, s, e, rfl, ey, ez, hrow, ok, hse, hen, fun H1 ag s1 e1 => ?_⟩
    obtain ⟨dg, e1'⟩ := id e1
    refine ⟨_, rfl, _, rfl, c, y, s, m, rfl, ey, hm.same s1, _, rfl, ag, _, dg, _, _, rfl, e1', cg, nw, gF_w _, _, _, rfl, rfl, ?_⟩
    -- last
    refine ⟨_, rfl, _, rfl, aw, _, rfl, .inr (SqT.of (s1 _ _ h2)), rfl, ?_⟩
    rw [List.length_map]
    have el : decide (V.int z = V.int ((r.ws.length : Nat) : Int)) = decide (e = r.n) := by
      refine decide_eq_decide.mpr ⟨fun q => ?_, fun q => ?_⟩
      · have := V.int.inj q
        show e = r.ws.length
        omega
      · rw [ez, q]
        rfl
    rw [el]
    -- plain
    obtain ⟨dm, hm'⟩ := hm.same s1
    refine ⟨_, rfl, rfl, _, rfl, ?_⟩
    refine join_E (.int (plainAt r m s 0)) (fun hb Q' q' => ?_) (fun hb Q' q' => ?_) ?_
    · have c0 : s = 0 := by
        have := V.int.inj (of_decide_eq_true hb)
        omega
      have e0 : plainAt r m s 0 = m.indent := if_pos c0
      rw [e0] at q'
      exact ⟨_, rfl, c, _, dm, _, _, rfl, hm', cm, n_Measure_indent T.told, mF_indent m, q'⟩
    · have c0 : ¬ s = 0 := fun z => of_decide_eq_false hb (by rw [ey, z]; rfl)
      have e0 : plainAt r m s 0 = 0 := if_neg c0
      rw [e0] at q'
      exact q'
    -- before, places
    refine ⟨_, _, _, rfl, fun H2 ab s2 n2 e2 => ?_⟩
    refine ⟨Nat.zero_le _, fun ap np => ?_⟩
    refine ⟨_, rfl, _, rfl, _, _, rfl, ⟨by omega, by omega, by omega, by omega⟩, ?_⟩
    have hcount : (z - y).toNat = e - s := by omega
    rw [hcount]
    have s3 : Same H2 (upd H2 ap (.lst [])) := same_upd np
    have s03 : Same H (upd H2 ap (.lst [])) := (s1.trans s2).trans s3
    have np0 : H ap = none := (s1.trans s2).free np
    have glk := ln_ok ok hse hen
    have rmk := room_ok mok s
    have gw := glk.w
    have gs := glk.s
    have gk := glk.k
    refine for_range (lo := y) (n := e - s) (fun i σ H' => ∃ (ab : Addr) (v12 v13 : Option V), σ = [some (.ref p), some (.int y), some (.int z), some (.ref c), some (.ref aw), some (.ref aj), some (.ref ag), some (.int (room m s - (lnG r s e).w)), some (.bl (decide (e = r.n))), some (.int (plainAt r m s (i - 1))), some (.ref ab), some (.ref ap), v12, v13] ∧
      But ap (upd H2 ap (.lst [])) H' ∧ GlAt K H' ab (befAt r s (i - 1)) ∧ H' ap = some (.lst ((List.range i).map fun k => .int (placeAt r m s e k)))) ⟨ab, none, none, rfl, But.refl _ _, e2.same s3, upd_same⟩ ?_ ?_
    · rintro i σ H4 hi ⟨ab, v12, v13, rfl, hB, hg, hap⟩
      refine ⟨_, rfl, _, rfl, _, _, rfl, rfl, _, rfl, ?_⟩
      refine join_S (fun σ' H' => ∃ (ab : Addr) (v13 : Option V), σ' = [some (.ref p), some (.int y), some (.int z), some (.ref c), some (.ref aw), some (.ref aj), some (.ref ag), some (.int (room m s - (lnG r s e).w)), some (.bl (decide (e = r.n))), some (.int (plainAt r m s i)), some (.ref ab), some (.ref ap), some (.int (y + i)), v13] ∧
        But ap (upd H2 ap (.lst [])) H' ∧ GlAt K H' ab (befAt r s i) ∧ H' ap = some (.lst ((List.range i).map fun k => .int (placeAt r m s e k)))) (fun hb D' hD => ?_) (fun hb D' hD => ?_) ?_
      · have hi0 : 0 < i := by
          have := of_decide_eq_true hb
          omega
        obtain ⟨k, rfl⟩ : ∃ k, i = k + 1 := ⟨i - 1, by omega⟩
        have s04 : Same H H4 := But.same s03 np0 hB
        obtain ⟨b, hb1, hb2⟩ := row_j (r := r) (i := s + k) (z := y + ((k + 1 : Nat) : Int) - 1) h4 (by have := ok.len; have : r.ws.length = r.n := rfl; omega) (by omega)
        refine ⟨_, rfl, _, rfl, _, _, rfl, rfl, aj, _, _, _, rfl, rfl, SqT.of (s04 _ _ h3), hb2, b, _, rfl, s04 _ _ (h5 _ _ hb1), fun H5 x5 s5 n5 e5 => ?_⟩
        obtain ⟨d5, e5'⟩ := id e5
        refine ⟨_, rfl, _, rfl, _, rfl, _, _, rfl, rfl, aw, _, _, _, rfl, rfl, SqT.of (s5 _ _ (s04 _ _ h2)), row_w (i := s + k) (by omega) (by omega), _, _, rfl, rfl, _, rfl, x5, _, d5, _, _, rfl, e5', cg, nw, gF_w _, _, _, rfl, rfl, ?_⟩
        refine ⟨_, rfl, _, rfl, ab, x5, _, _, rfl, rfl, hg.same s5, e5, fun H6 x6 s6 n6 e6 => ?_⟩
        exact hD _ _ ⟨x6, _, rfl, (hB.to s5).to s6, e6, s6 _ _ (s5 _ _ hap)⟩
      · have hi0 : i = 0 := by
          have := of_decide_eq_false hb
          omega
        subst hi0
        exact hD _ _ ⟨ab, _, rfl, hB, hg, hap⟩
      · rintro σ' H5 ⟨ab, v13, rfl, hB, hg, hap⟩
        have s05 : Same H H5 := But.same s03 np0 hB
        have nag : ag ≠ ap := ne_of_none (s2 _ _ e1') np
        have hag : GlAt K H5 ag (lnG r s e) := ⟨dg, hB _ _ (s3 _ _ (s2 _ _ e1')) nag⟩
        have hb := bef_b ok (s := s) i (by omega)
        refine ⟨_, rfl, .inl ⟨rfl, _, SqL.of hap⟩, _, rfl, _, rfl, _, rfl, _, rfl, _, rfl, _, rfl, ag, ab, c, _, lnG r s e, befAt r s i, _, m, rfl, hag, hg, hm.same s05, by omega, by omega, gk.2, gs.2,
          fun q1 q2 => poss_k hp q1 q2, fun q1 q2 q3 => poss_s mok hp q1 q2 (of_decide_eq_false q3) gs.1, _, _, rfl, rfl, ap, _, _, rfl, rfl, hap, ?_, ?_⟩
        · rw [List.length_map, List.length_range]
          exact Nat.lt_of_lt_of_le (show i < 101 by omega) (by decide)
        · refine ⟨ab, _, v13, rfl, hB.put, ?_, ?_⟩
          · obtain ⟨d, hg'⟩ := hg
            exact ⟨d, by rw [upd_ne (ne_of hg' hap (by intro w; cases w))]; exact hg'⟩
          · rw [upd_same, List.range_succ, List.map_append]
            rfl
    · rintro σ H4 ⟨ab, v12, v13, rfl, hB, hg, hap⟩
      exact ⟨_, rfl, q H4 ap (But.same s03 np0 hB) np0 hap⟩
end
end Sp
set_option maxRecDepth 100000
set_option maxHeartbeats 2000000
/-! gap_spans, count_overlapping, price_with_count. -/
namespace Sp
open PySem PySem.Spec PyProof.Rows L2
section
variable {P : Program} {w : World} {K : PySem.W.Frag} {mg : Str → Option Value} {base : Heap}
theorem len100 {n : Nat} (h : n ≤ 1000) : n < sizeLine := Nat.lt_of_le_of_lt h (by decide)
theorem spanL_succ (r : Rw) (m : Ms) (s e i : Nat) : spanL r m s e (i + 1) = spanL r m s e i ++ (spanK r m s e i).toList := by
  unfold spanL
  rw [List.range_succ, List.filterMap_append]
  congr 1
theorem spanL_len (r : Rw) (m : Ms) (s e i : Nat) : (spanL r m s e i).length ≤ i := by
  unfold spanL
  exact Nat.le_trans (List.length_filterMap_le _ _) (by rw [List.length_range]; exact Nat.le_refl _)

/-! ### gap_spans -/
def spGs (K : PySem.W.Frag) : L2.Sp := fun vs H Q _ => ∃ (p c : Addr) (r : Rw) (m : Ms) (y z : Int) (s e : Nat), vs = [.ref p, .int y, .int z, .ref c] ∧ y = (s : Int) ∧ z = (e : Int) ∧ RowAt H p r ∧ r.Ok ∧ MsAt K H c m ∧ m.Ok ∧ s < e ∧ e ≤ r.n ∧ Poss r m s e ∧
  ∀ (H' : Hp) (x : Addr), Same H H' → H x = none → LsAt H' x TII (spans r m s e) → Q (.ref x) H'
theorem d_gs (T : Tx K mg) : Df P w K mg base CX0 7 "gap_spans" (He.ga K "gap_spans") ["row", "start", "end", "measure"] (spGs K) := by
  obtain ⟨fd, F⟩ := F_gap_spans T.told
  refine ⟨⟨fd, ?_, F.binds fun _ _ _ _ _ _ us hl => match us, hl with | [_, _, _, _], _ => rfl⟩, F.kp, g_gap_spans T⟩
  have DB : Df P w K mg base CX0 6 "box_places" (He.ga K "box_places") ["row", "start", "end", "measure"] (spBx K) := d_bx T
  have nd := sc_gap_spans.nd
  refine F.ok sc_gap_spans (fun vs H Q E h => ?_) (fun cdv A outer s H vs Q E hr h => ?_)
  · obtain ⟨p, c, r, m, y, z, s, e, rfl, _⟩ := h
    rfl
  · obtain ⟨p, c, r, m, y, z, s, e, rfl, ey, ez, hrow, ok, hm, mok, hse, hen, hp, q⟩ := h
    obtain ⟨aw, aj, as, h1, h2, h3, h4, h5⟩ := id hrow
    have hn : r.n ≤ 100 := ok.n
    refine ⟨_, pss_cons (ps_asg (pv 0) (pg_tup rfl (pgs_cons (pg_name (i := 4) nd rfl (.inl rfl)) (pgs_cons (pg_name (i := 5) nd rfl (.inl rfl)) pgs_nil))))
      (pss_cons (ps_set (i := 6) nd rfl (.inl rfl) (pe_d DB hr (by rfl) (pa_cons (pv 0) (pa_cons (pv 1) (pa_cons (pv 2) (pa_cons (pv 3) pa_nil))))))
      (pss_cons (ps_set (i := 7) nd rfl (.inl rfl) (pe_lst pa_nil))
      (pss_cons (ps_for PassesOwn.never rfl (pi_range2 (by rfl) (z_range T) (pa_cons (pv 1) (pa_cons (pe_op op_sub (pv 2) pe_int) pa_nil))) (pg_name (i := 8) nd rfl (.inl rfl))
        (pss_one (ps_if (pt_cmpR op_eq (pe_ix ix_tup (pe_ix ix_tup (pv 5) (pv 8) (fun _ _ => rfl)) pe_int (fun _ _ => rfl)) pe_str (nomark _))
          (pss_cons (ps_set (i := 9) nd rfl (.inl rfl) (pe_op op_add (pe_ix ix_list (pv 6) (pe_op op_sub (pv 8) (pv 1)) (fun _ _ => rfl)) (pe_ix ix_tup (pv 4) (pv 8) (fun _ _ => rfl))))
          (pss_one (ps_expr (pe_bm PySem.F.plainAttrs_list PySem.F.slot_list_append PySem.F.type_list_append mt_append (pv 7)
            (pa_cons (pe_tup (pa_cons (pv 9) (pa_cons (pe_ix ix_list (pv 6) (pe_op op_add (pe_op op_sub (pv 8) (pv 1)) pe_int) (fun _ _ => rfl)) pa_nil))) pa_nil))))) pss_nil)))
      (pss_one (ps_ret (pv 7)))))), ?_⟩
    refine ⟨_, rfl, p, _, rfl, SqT.of h1, rfl, _, _, rfl, _, _, rfl, rfl, ?_⟩
    refine ⟨_, rfl, _, rfl, _, rfl, _, rfl, p, c, r, m, y, z, s, e, rfl, ey, ez, hrow, ok, hm, mok, hse, hen, hp, fun H1 ap s1 n1 e1 => ?_⟩
    refine ⟨Nat.zero_le _, fun aS nS => ?_⟩
    have s2 : Same H1 (upd H1 aS (.lst [])) := same_upd nS
    have s02 : Same H (upd H1 aS (.lst [])) := s1.trans s2
    have nS0 : H aS = none := s1.free nS
    have nap : ap ≠ aS := ne_of_none e1 nS
    refine ⟨_, rfl, _, rfl, _, _, rfl, rfl, _, _, rfl, ⟨by omega, by omega, by omega, by omega⟩, ?_⟩
    have hcount : (z - 1 - y).toNat = e - 1 - s := by omega
    rw [hcount]
    have gp : ∀ k, k < e - s → ∀ zz : Int, zz = (k : Int) → atI ((List.range (e - s)).map fun k => V.int (placeAt r m s e k)) zz = some (.int (placeAt r m s e k)) := fun k hk zz ez' => by
      refine at_of ez' ?_
      rw [List.getElem?_map, List.getElem?_range hk]
      rfl
    refine for_range (lo := y) (n := e - 1 - s) (fun i σ H' => ∃ (v8 v9 : Option V), σ = [some (.ref p), some (.int y), some (.int z), some (.ref c), some (.ref aw), some (.ref aj), some (.ref ap), some (.ref aS), v8, v9] ∧
      But aS (upd H1 aS (.lst [])) H' ∧ LsAt H' aS TII (spanL r m s e i)) ⟨none, none, rfl, But.refl _ _, [], upd_same, .nil⟩ ?_ ?_
    · rintro i σ H4 hi ⟨v8, v9, rfl, hB, xs, hx, ha⟩
      have s04 : Same H H4 := But.same s02 nS0 hB
      have hap : H4 ap = some (.lst ((List.range (e - s)).map fun k => .int (placeAt r m s e k))) := hB _ _ (s2 _ _ e1) nap
      obtain ⟨b, hb1, hb2⟩ := row_j (r := r) (i := s + i) (z := y + (i : Int)) h4 (by have := ok.len; have : r.ws.length = r.n := rfl; omega) (by omega)
      have hbt := s04 _ _ (h5 _ _ hb1)
      refine ⟨_, rfl, _, rfl, aj, _, _, _, rfl, rfl, SqT.of (s04 _ _ h3), hb2, b, _, _, _, rfl, rfl, SqT.of hbt, jv0 _ rfl, rfl, _, rfl, ?_⟩
      have hk : spanK r m s e i = if (r.j (s + i)).isHy = true then none else some (placeAt r m s e i + r.wd (s + i), placeAt r m s e (i + 1)) := rfl
      have hsu := spanL_succ r m s e i
      cases hj : (r.j (s + i)).isHy with
      | true =>
        rw [hk, hj, if_pos rfl] at hsu
        refine iteF ⟨_, v9, rfl, hB, xs, hx, ?_⟩
        rw [hsu]
        show A2 (TII H4) xs (spanL r m s e i ++ [])
        rw [List.append_nil]
        exact ha
      | false =>
        rw [hk, hj, if_neg Bool.false_ne_true] at hsu
        refine iteT ⟨_, rfl, _, rfl, _, rfl, _, _, rfl, rfl, ap, _, _, _, rfl, rfl, SqL.of hap, gp i (by omega) _ (by omega), _, rfl, _, rfl, aw, _, _, _, rfl, rfl, SqT.of (s04 _ _ h2), row_w (i := s + i) (by omega) (by omega), _, _, rfl, rfl, ?_⟩
        refine ⟨_, rfl, .inl ⟨rfl, _, SqL.of hx⟩, _, rfl, _, rfl, _, rfl, _, rfl, _, _, rfl, rfl, _, _, rfl, rfl, ap, _, _, _, rfl, rfl, SqL.of hap, gp (i + 1) (by omega) _ (by omega), (by show 2 ≤ sizeLine; decide), fun t nt => ?_⟩
        have st : Same H4 (upd H4 t (.tup [.int (placeAt r m s e i + r.wd (s + i)), .int (placeAt r m s e (i + 1))])) := same_upd nt
        have nat : aS ≠ t := ne_of_none hx nt
        refine ⟨aS, _, _, rfl, rfl, st _ _ hx, ?_, ?_⟩
        · rw [ha.length]
          exact len100 (by have := spanL_len r m s e i; omega)
        · refine ⟨_, _, rfl, (hB.to st).put, _, upd_same, ?_⟩
          rw [hsu]
          have keep : ∀ v q, TII H4 v q → TII (upd (upd H4 t (.tup [.int (placeAt r m s e i + r.wd (s + i)), .int (placeAt r m s e (i + 1))])) aS (.lst (xs ++ [.ref t]))) v q := by
            rintro v q ⟨b, e1, e2⟩
            refine ⟨b, e1, ?_⟩
            rw [upd_ne (ne_of e2 hx (by intro w; cases w))]
            exact st _ _ e2
          exact (ha.imp keep).snoc ⟨t, rfl, by rw [upd_ne nat.symm, upd_same]⟩
    · rintro σ H4 ⟨v8, v9, rfl, hB, hl⟩
      exact ⟨_, rfl, q H4 aS (But.same s02 nS0 hB) nS0 hl⟩

/-! ### count_overlapping -/
theorem tii_get {H : Hp} {xs : List V} {l : List (Int × Int)} {i : Nat} {p : Int × Int} (h : A2 (TII H) xs l) (e : l[i]? = some p) : ∃ b, xs[i]? = some (.ref b) ∧ H b = some (.tup [.int p.1, .int p.2]) := by
  obtain ⟨v, hv, b, rfl, hb⟩ := h.getR e
  exact ⟨b, hv, hb⟩
def spCo : L2.Sp := fun vs H Q _ => ∃ (a b : Addr) (u l : List (Int × Int)), vs = [.ref a, .ref b] ∧ LsAt H a TII u ∧ LsAt H b TII l ∧ u.length ≤ 100 ∧ Q (.int (cov u l)) H
theorem d_co (T : Tx K mg) : Df P w K mg base CX0 1 "count_overlapping" (He.ga K "count_overlapping") ["upper", "lower"] spCo := by
  obtain ⟨fd, F⟩ := F_count_overlapping T.told
  refine ⟨⟨fd, ?_, F.binds fun _ _ _ _ _ _ us hl => match us, hl with | [_, _], _ => rfl⟩, F.kp, g_count_overlapping T⟩
  have nd := sc_count_overlapping.nd
  refine F.ok sc_count_overlapping (fun vs H Q E h => ?_) (fun cdv A outer s H vs Q E hr h => ?_)
  · obtain ⟨a, b, u, l, rfl, _⟩ := h
    rfl
  · obtain ⟨a, b, u, l, rfl, ⟨xu, hu, au⟩, ⟨xl, hl, al⟩, hlen, q⟩ := h
    have ul := au.length
    refine ⟨_, pss_cons (ps_set (i := 2) nd rfl (.inl rfl) pe_int) (pss_cons (ps_set (i := 3) nd rfl (.inl rfl) pe_int)
      (pss_cons (ps_for PassesOwn.never rfl (pi_list (pv 1)) (pg_tup rfl (pgs_cons (pg_name (i := 4) nd rfl (.inl rfl)) (pgs_cons (pg_name (i := 5) nd rfl (.inl rfl)) pgs_nil)))
        (pss_cons (ps_while PassesOwn.never (PW.pt (pw_and (pt_cmpR op_lt (pv 3) (pe_callB call_len_seq (by rfl) (z_len T) PySem.boot_len (pa_cons (pv 0) pa_nil)) (nomark _))
              (pw_and1 (pt_cmpR op_le (pe_ix ix_tup (pe_ix ix_list (pv 0) (pv 3) (fun _ _ => rfl)) pe_int (fun _ _ => rfl)) (pv 4) (nomark _)))))
            (pss_one (ps_set (i := 3) nd rfl (.inl rfl) (pe_op op_add (pv 3) pe_int))))
        (pss_one (ps_if (PW.pt (pw_and (pt_cmpR op_lt (pv 3) (pe_callB call_len_seq (by rfl) (z_len T) PySem.boot_len (pa_cons (pv 0) pa_nil)) (nomark _))
              (pw_and1 (pt_cmpR op_lt (pe_ix ix_tup (pe_ix ix_list (pv 0) (pv 3) (fun _ _ => rfl)) pe_int (fun _ _ => rfl)) (pv 5) (nomark _)))))
            (pss_one (ps_set (i := 2) nd rfl (.inl rfl) (pe_op op_add (pv 2) pe_int))) pss_nil))))
      (pss_one (ps_ret (pv 2))))), ?_⟩
    refine ⟨_, rfl, b, rfl, ⟨_, SqL.of hl⟩, for_list (K := K) (a := b) (xs := xl) (fun i σ H' => ∃ (z : Int) (v4 v5 : Option V), σ = [some (.ref a), some (.ref b), some (.int ((l.take i).foldl (covS u) (0, 0)).1), some (.int z), v4, v5] ∧ z = (((l.take i).foldl (covS u) (0, 0)).2 : Int) ∧ ((l.take i).foldl (covS u) (0, 0)).2 ≤ u.length ∧ H' = H)
      ⟨0, none, none, rfl, rfl, Nat.zero_le _, rfl⟩ (fun i σ H' _ h => ?_) ?_ ?_⟩
    · obtain ⟨z, v4, v5, _, _, _, rfl⟩ := h
      exact SqL.of hl
    · rintro i x σ H' hi ⟨z, v4, v5, rfl, ez, hle, rfl⟩
      obtain ⟨pr, hpr, t, rfl, ht⟩ := al.get hi
      have hil : i < l.length := (List.getElem?_eq_some_iff.mp hpr).1
      have htk : l.take (i + 1) = l.take i ++ [pr] := by
        rw [List.take_add_one, hpr]
        rfl
      have hf : (l.take (i + 1)).foldl (covS u) (0, 0) = covS u ((l.take i).foldl (covS u) (0, 0)) pr := by
        rw [htk, List.foldl_append]
        rfl
      refine ⟨t, _, rfl, SqT.of ht, rfl, _, _, rfl, _, _, rfl, rfl, ?_⟩
      -- while
      generalize hst : (l.take i).foldl (covS u) (0, 0) = st at *
      obtain ⟨c0, a0⟩ := st
      have item : ∀ k, k < u.length → ∀ zz : Int, zz = (k : Int) → ∃ b', atI xu zz = some (.ref b') ∧ H' b' = some (.tup [.int (u.getD k (0, 0)).1, .int (u.getD k (0, 0)).2]) := fun k hk zz e => by
        obtain ⟨b', h1, h2⟩ := tii_get (i := k) (p := u.getD k (0, 0)) au (by rw [List.getD_eq_getElem?_getD, List.getElem?_eq_getElem hk]; rfl)
        exact ⟨b', at_of e h1, h2⟩
      refine join_seq (fun σ' H2 => ∃ z2 : Int, σ' = [some (.ref a), some (.ref b), some (.int c0), some (.int z2), some (.int pr.1), some (.int pr.2)] ∧ z2 = (skipN u pr.1 (u.length - a0) a0 : Int) ∧ skipN u pr.1 (u.length - a0) a0 ≤ u.length ∧ H2 = H') (fun D' hD => ?_) ?_
      · refine ⟨fun m σ H2 => ∃ (z : Int) (k : Nat), σ = [some (.ref a), some (.ref b), some (.int c0), some (.int z), some (.int pr.1), some (.int pr.2)] ∧ z = (k : Int) ∧ k ≤ u.length ∧ m = u.length - k ∧ skipN u pr.1 (u.length - k) k = skipN u pr.1 (u.length - a0) a0 ∧ H2 = H',
          ⟨_, z, a0, rfl, ez, hle, rfl, rfl, rfl⟩, ?_⟩
        rintro m σ H2 ⟨z, k, rfl, ez, hk, rfl, hs, rfl⟩
        refine ⟨_, rfl, _, rfl, a, _, rfl, .inl (SqL.of hu), _, _, rfl, rfl, _, rfl, ?_⟩
        by_cases c1 : k < u.length
        · rw [decide_eq_true (show z < (xu.length : Int) by omega)]
          obtain ⟨b', g1, g2⟩ := item k c1 z ez
          refine iteT ⟨_, rfl, _, rfl, a, _, _, _, rfl, rfl, SqL.of hu, g1, b', _, _, _, rfl, rfl, SqT.of g2, rfl, _, rfl, _, _, rfl, rfl, _, rfl, ?_⟩
          obtain ⟨n, hn⟩ : ∃ n, u.length - k = n + 1 := ⟨u.length - k - 1, by omega⟩
          have hu1 : skipN u pr.1 (n + 1) k = if k < u.length ∧ (u.getD k (0, 0)).2 ≤ pr.1 then skipN u pr.1 n (k + 1) else k := rfl
          by_cases c2 : (u.getD k (0, 0)).2 ≤ pr.1
          · rw [decide_eq_true c2]
            rw [hn, hu1, if_pos ⟨c1, c2⟩] at hs
            refine iteT ⟨fun σ' H3 => ∃ z2 : Int, σ' = [some (.ref a), some (.ref b), some (.int c0), some (.int z2), some (.int pr.1), some (.int pr.2)] ∧ z2 = ((k + 1 : Nat) : Int) ∧ H3 = H2, ?_, ?_⟩
            · rintro σ' H3 ⟨z2, rfl, e2, rfl⟩
              refine ⟨u.length - (k + 1), by omega, z2, k + 1, rfl, e2, by omega, rfl, ?_, rfl⟩
              rw [show u.length - (k + 1) = n by omega]
              exact hs
            · exact ⟨_, rfl, _, _, rfl, rfl, _, rfl, by push_cast; omega, rfl⟩
          · rw [decide_eq_false c2]
            rw [hn, hu1, if_neg (fun q => c2 q.2)] at hs
            exact iteF (hD _ _ ⟨z, rfl, by rw [← hs]; exact ez, by rw [← hs]; exact hk, rfl⟩)
        · rw [decide_eq_false (show ¬ z < (xu.length : Int) by omega)]
          have e0 : u.length - k = 0 := by omega
          rw [e0] at hs
          have hs' : k = skipN u pr.1 (u.length - a0) a0 := hs
          exact iteF (iteF (hD _ _ ⟨z, rfl, by rw [← hs']; exact ez, by rw [← hs']; exact hk, rfl⟩))
      · rintro σ' H2 ⟨z2, rfl, e2, hle2, rfl⟩
        have fin : ∀ c : Int, c = ((l.take (i + 1)).foldl (covS u) (0, 0)).1 → ∃ (z : Int) (v4 v5 : Option V), [some (V.ref a), some (.ref b), some (.int c), some (.int z2), some (.int pr.1), some (.int pr.2)] = [some (V.ref a), some (.ref b), some (.int ((l.take (i + 1)).foldl (covS u) (0, 0)).1), some (.int z), v4, v5] ∧ z = (((l.take (i + 1)).foldl (covS u) (0, 0)).2 : Int) ∧ ((l.take (i + 1)).foldl (covS u) (0, 0)).2 ≤ u.length ∧ H2 = H2 := fun c hc => by
          refine ⟨z2, _, _, by rw [hc], ?_, ?_, rfl⟩
          · rw [hf]
            exact e2
          · rw [hf]
            exact hle2
        have hval : ((l.take (i + 1)).foldl (covS u) (0, 0)).1 = if skipN u pr.1 (u.length - a0) a0 < u.length ∧ (u.getD (skipN u pr.1 (u.length - a0) a0) (0, 0)).1 < pr.2 then c0 + 1 else c0 := by
          rw [hf]
          rfl
        refine ⟨_, rfl, _, rfl, a, _, rfl, .inl (SqL.of hu), _, _, rfl, rfl, _, rfl, ?_⟩
        by_cases c1 : skipN u pr.1 (u.length - a0) a0 < u.length
        · rw [decide_eq_true (show z2 < (xu.length : Int) by omega)]
          obtain ⟨b', g1, g2⟩ := item _ c1 z2 e2
          refine iteT ⟨_, rfl, _, rfl, a, _, _, _, rfl, rfl, SqL.of hu, g1, b', _, _, _, rfl, rfl, SqT.of g2, rfl, _, rfl, _, _, rfl, rfl, _, rfl, ?_⟩
          by_cases c2 : (u.getD (skipN u pr.1 (u.length - a0) a0) (0, 0)).1 < pr.2
          · rw [decide_eq_true c2]
            rw [if_pos ⟨c1, c2⟩] at hval
            exact iteT ⟨_, rfl, _, _, rfl, rfl, fin _ hval.symm⟩
          · rw [decide_eq_false c2]
            rw [if_neg fun q => c2 q.2] at hval
            exact iteF (fin _ hval.symm)
        · rw [decide_eq_false (show ¬ z2 < (xu.length : Int) by omega)]
          rw [if_neg fun q => c1 q.1] at hval
          exact iteF (iteF (fin _ hval.symm))
    · rintro σ H' ⟨z, v4, v5, rfl, ez, hle, rfl⟩
      refine ⟨_, rfl, ?_⟩
      have e : l.take xl.length = l := by rw [al.length, List.take_length]
      rw [e]
      exact q

/-! ### price_with_count -/
def spPc (K : PySem.W.Frag) : L2.Sp := fun vs H Q _ => ∃ (p c : Addr) (r : Rw) (m : Ms) (y z n : Int) (i e : Nat), vs = [.ref p, .int y, .int z, .ref c, .int n] ∧ y = (i : Int) ∧ z = (e : Int) ∧ RowAt H p r ∧ r.Ok ∧ MsAt K H c m ∧ 1 ≤ i ∧ 1 ≤ e ∧ Q (oI (prC r m i e n)) H
theorem d_pc (T : Tx K mg) : Df P w K mg base CX0 2 "price_with_count" (He.ga K "price_with_count") ["row", "middle", "end", "measure", "count"] (spPc K) := by
  obtain ⟨fd, F⟩ := F_price_with_count T.told
  refine ⟨⟨fd, ?_, F.binds fun _ _ _ _ _ _ us hl => match us, hl with | [_, _, _, _, _], _ => rfl⟩, F.kp, g_price_with_count T⟩
  have DE : Df P w K mg base CX0 1 "ends_at_hyphen" (He.ga K "ends_at_hyphen") ["row", "end"] spEh := d_eh T
  have cm := c_Measure T.told
  have nr := n_Measure_river T.told
  have nt := n_Measure_twin T.told
  refine F.ok sc_price_with_count (fun vs H Q E h => ?_) (fun cdv A outer s H vs Q E hr h => ?_)
  · obtain ⟨p, c, r, m, y, z, n, i, e, rfl, _⟩ := h
    rfl
  · obtain ⟨p, c, r, m, y, z, n, i, e, rfl, ey, ez, hrow, ok, ⟨dm, hm⟩, hi, he, q⟩ := h
    refine ⟨_, pss_cons (ps_if (PW.pt (pw_and (pt_cmpR op_gt (pe_fld (pv 3) rfl) pe_int (nomark _)) (pw_and1 (pt_cmpR op_ge (pv 4) (pe_fld (pv 3) rfl) (nomark _))))) (pss_one (ps_ret pe_non)) pss_nil)
      (pss_cons (ps_if (PW.pt (pw_and (pt_val (pe_d DE hr (by rfl) (pa_cons (pv 0) (pa_cons (pv 1) pa_nil)))) (pw_and1 (pt_val (pe_d DE hr (by rfl) (pa_cons (pv 0) (pa_cons (pv 2) pa_nil))))))) (pss_one (ps_ret (pe_fld (pv 3) rfl))) pss_nil)
      (pss_one (ps_ret pe_int))), ?_⟩
    refine ⟨_, rfl, c, _, dm, _, _, rfl, hm, cm, nr, mF_river m, _, _, rfl, rfl, _, rfl, ?_⟩
    unfold prC at q
    have two : ¬ (0 < m.river ∧ m.river ≤ n) → (tSeq (tIfS (tAnd (tB (tCall spEh [] E0 (tCons (tVar 0) (tCons (tVar 1) tNil)))) (tB (tCall spEh [] E0 (tCons (tVar 0) (tCons (tVar 2) tNil))))) (tRet (tFld K (tVar 3) "twin")) tNext) (tRet (tC (.int 0)))) { nx := fun _ H' => Q .non H', rt := Q } [some (.ref p), some (.int y), some (.int z), some (.ref c), some (.int n)] H := by
      intro hc
      rw [if_neg hc] at q
      refine ⟨_, rfl, _, rfl, p, r, y, i, rfl, ey, hrow, ok, hi, _, rfl, ?_⟩
      cases h1 : endsHy r i with
      | false =>
        rw [if_neg (by rw [h1]; rintro ⟨z, _⟩; cases z)] at q
        exact iteF (iteF q)
      | true =>
        refine iteT ⟨_, rfl, _, rfl, p, r, z, e, rfl, ez, hrow, ok, he, _, rfl, ?_⟩
        cases h2 : endsHy r e with
        | false =>
          rw [if_neg (by rw [h2]; rintro ⟨_, z⟩; cases z)] at q
          exact iteF q
        | true =>
          rw [if_pos ⟨h1, h2⟩] at q
          exact iteT ⟨_, rfl, c, _, dm, _, _, rfl, hm, cm, nt, mF_twin m, q⟩
    by_cases c1 : 0 < m.river
    · rw [decide_eq_true c1]
      refine iteT ⟨_, rfl, _, rfl, c, _, dm, _, _, rfl, hm, cm, nr, mF_river m, _, _, rfl, rfl, _, rfl, ?_⟩
      by_cases c2 : m.river ≤ n
      · rw [decide_eq_true c2]
        rw [if_pos ⟨c1, c2⟩] at q
        exact iteT q
      · rw [decide_eq_false c2]
        exact iteF (two fun z => c2 z.2)
    · rw [decide_eq_false c1]
      exact iteF (iteF (two fun z => c1 z.1))
end
end Sp
set_option maxRecDepth 100000
set_option maxHeartbeats 2000000
/-! lines_from: the lines that begin at a box. -/
namespace Sp
open PySem PySem.Spec PyProof.Rows L2
def TNI (H : Hp) (v : V) (p : Nat × Int) : Prop := ∃ b, v = .ref b ∧ H b = some (.tup [.int (p.1 : Int), .int p.2])
theorem TNI.same {H H' : Hp} {v : V} {p : Nat × Int} (s : Same H H') (h : TNI H v p) : TNI H' v p := h.imp fun _ e => ⟨e.1, s _ _ e.2⟩
def lineP (r : Rw) (m : Ms) (s k : Nat) : Option (Nat × Int) := (price r (s + k + 1) (fnG r (inn r s k) (s + k + 1)) (room m s) m).map fun p => (s + k + 1, p)
def lfL (r : Rw) (m : Ms) (s i : Nat) : List (Nat × Int) := (List.range i).filterMap (lineP r m s)
def brk (r : Rw) (m : Ms) (s k : Nat) : Bool := decide (s + k + 1 = r.n) || decide (room m s < (inn r s k).w - (inn r s k).k)
def stopN (r : Rw) (m : Ms) (s : Nat) : Nat → Nat → Nat
  | 0, i => i
  | f + 1, i => if brk r m s i = true then i + 1 else stopN r m s f (i + 1)
def lf (r : Rw) (m : Ms) (s : Nat) : List (Nat × Int) := lfL r m s (stopN r m s (r.n - s) 0)
theorem stopN_le {r : Rw} {m : Ms} {s : Nat} : ∀ f i, stopN r m s f i ≤ i + f
  | 0, i => Nat.le_refl _
  | f + 1, i => by
    unfold stopN
    by_cases c : brk r m s i = true
    · rw [if_pos c]
      omega
    · rw [if_neg c]
      have := stopN_le (r := r) (m := m) (s := s) f (i + 1)
      omega
theorem lfL_len (r : Rw) (m : Ms) (s i : Nat) : (lfL r m s i).length ≤ i := by
  refine Nat.le_trans (List.length_filterMap_le _ _) ?_
  rw [List.length_range]
  exact Nat.le_refl _
theorem lfL_succ (r : Rw) (m : Ms) (s i : Nat) : lfL r m s (i + 1) = lfL r m s i ++ (lineP r m s i).toList := by
  unfold lfL
  rw [List.range_succ, List.filterMap_append]
  cases h : lineP r m s i <;> simp [h]
theorem lfL_mem {r : Rw} {m : Ms} {s i e : Nat} {p : Int} (h : (e, p) ∈ lfL r m s i) : ∃ k, k < i ∧ e = s + k + 1 ∧ price r e (lnG r s e) (room m s) m = some p := by
  obtain ⟨k, hk, h2⟩ := List.mem_filterMap.mp h
  unfold lineP at h2
  obtain ⟨q, hq, e2⟩ := Option.map_eq_some_iff.mp h2
  cases e2
  refine ⟨k, List.mem_range.mp hk, rfl, ?_⟩
  unfold lnG
  rw [show s + k + 1 - (s + 1) = k by omega]
  exact hq
theorem lf_mem {r : Rw} {m : Ms} {s e : Nat} {p : Int} (hs : s < r.n) (h : (e, p) ∈ lf r m s) : s < e ∧ e ≤ r.n ∧ price r e (lnG r s e) (room m s) m = some p := by
  obtain ⟨k, hk, h1, h2⟩ := lfL_mem h
  have := stopN_le (r := r) (m := m) (s := s) (r.n - s) 0
  exact ⟨by omega, by omega, h2⟩
theorem lfL_asc (r : Rw) (m : Ms) (s : Nat) : ∀ i, (lfL r m s i).Pairwise (fun a b => a.1 < b.1)
  | 0 => List.Pairwise.nil
  | i + 1 => by
    rw [lfL_succ]
    refine List.pairwise_append.mpr ⟨lfL_asc r m s i, ?_, fun a ha b hb => ?_⟩
    · cases lineP r m s i with
      | none => exact List.Pairwise.nil
      | some x => exact List.pairwise_singleton _ _
    · obtain ⟨a1, a2⟩ := a
      obtain ⟨k, hk, h1, _⟩ := lfL_mem ha
      cases h : lineP r m s i with
      | none => rw [h] at hb; cases hb
      | some x =>
        rw [h] at hb
        have : b = x := by simpa using hb
        subst this
        unfold lineP at h
        obtain ⟨q, _, e2⟩ := Option.map_eq_some_iff.mp h
        subst e2
        show a1 < s + i + 1
        omega
theorem lf_len {r : Rw} {m : Ms} {s : Nat} : (lf r m s).length ≤ r.n - s := by
  have h1 := stopN_le (r := r) (m := m) (s := s) (r.n - s) 0
  have h2 := lfL_len r m s (stopN r m s (r.n - s) 0)
  unfold lf
  omega
theorem LsAt.snoc {H H' : Hp} {a : Addr} {xs : List V} {β : Type} {Z : Hp → V → β → Prop} {l : List β} {v : V} {y : β} (h1 : A2 (Z H) xs l) (hz : ∀ v y, Z H v y → Z H' v y) (h2 : Z H' v y) (ha : H' a = some (.lst (xs ++ [v]))) : LsAt H' a Z (l ++ [y]) :=
  ⟨_, ha, (h1.imp hz).snoc h2⟩
section
variable {P : Program} {w : World} {K : PySem.W.Frag} {mg : Str → Option Value} {base : Heap}
def spLf (K : PySem.W.Frag) : L2.Sp := fun vs H Q _ => ∃ (p c : Addr) (r : Rw) (m : Ms) (y : Int) (s : Nat), vs = [.ref p, .int y, .ref c] ∧ y = (s : Int) ∧ RowAt H p r ∧ r.Ok ∧ MsAt K H c m ∧ m.Ok ∧ s < r.n ∧
  ∀ (H' : Hp) (x : Addr), Same H H' → H x = none → LsAt H' x TNI (lf r m s) → Q (.ref x) H'
theorem d_lf (T : Tx K mg) : Df P w K mg base CX0 5 "lines_from" (He.ga K "lines_from") ["row", "start", "measure"] (spLf K) := by
  obtain ⟨fd, F⟩ := F_lines_from T.told
  refine ⟨⟨fd, ?_, F.binds fun _ _ _ _ _ _ us hl => match us, hl with | [_, _, _], _ => rfl⟩, F.kp, g_lines_from T⟩
  have DR : Df P w K mg base CX0 1 "room_of" (He.ga K "room_of") ["start", "measure"] (spRo K) := d_ro T
  have DF : Df P w K mg base CX0 4 "finished_glue" (He.ga K "finished_glue") ["row", "inner", "end"] (spFg K) := d_fg T
  have DX : Df P w K mg base CX0 4 "extended_glue" (He.ga K "extended_glue") ["row", "inner", "box"] (spXg K) := d_xg T
  have DP : Df P w K mg base CX0 2 "price_with_glue" (He.ga K "price_with_glue") ["row", "end", "glue", "room", "measure"] (spPg K) := d_pg T
  have nd := sc_lines_from.nd
  have cg := c_Glue T.told
  have nw := n_Glue_width T.told
  have nk := n_Glue_shrink T.told
  refine F.ok sc_lines_from (fun vs H Q E h => ?_) (fun cdv A outer st H vs Q E hr h => ?_)
  · obtain ⟨p, c, r, m, y, s, rfl, _⟩ := h
    rfl
  · obtain ⟨p, c, r, m, y, s, rfl, ey, hrow, ok, hm, mok, hs, q⟩ := h
    obtain ⟨aw, aj, as, h1, h2, h3, h4, h5⟩ := id hrow
    have hr1 : Room 1 _ := hr.mono (by decide)
    have hr2 : Room 2 _ := hr.mono (by decide)
    have hr4 : Room 4 _ := hr.mono (by decide)
    have hn : r.n ≤ 100 := ok.n
    have hnl : r.ws.length = r.n := rfl
    refine ⟨_, pss_cons (ps_set (i := 3) nd rfl (.inl rfl) (pe_ix ix_tup (pv 0) pe_int (fun _ _ => rfl)))
      (pss_cons (ps_set (i := 4) nd rfl (.inl rfl) (pe_d DR hr1 (by rfl) (pa_cons (pv 1) (pa_cons (pv 2) pa_nil))))
      (pss_cons (ps_set (i := 5) nd rfl (.inl rfl) (pe_gl T hr2 (by rfl) (pa_cons (pe_ix ix_tup (pv 3) (pv 1) (fun _ _ => rfl)) (pa_cons pe_int (pa_cons pe_int pa_nil)))))
      (pss_cons (ps_set (i := 6) nd rfl (.inl rfl) (pe_lst pa_nil))
      (pss_cons (ps_for PassesOwn.never rfl (pi_range2 (by rfl) (z_range T) (pa_cons (pe_op op_add (pv 1) pe_int) (pa_cons (pe_op op_add (pe_callB call_len_seq (by rfl) (z_len T) PySem.boot_len (pa_cons (pv 3) pa_nil)) pe_int) pa_nil))) (pg_name (i := 7) nd rfl (.inl rfl))
        (pss_cons (ps_set (i := 8) nd rfl (.inl rfl) (pe_d DP hr2 (by rfl) (pa_cons (pv 0) (pa_cons (pv 7) (pa_cons (pe_d DF hr4 (by rfl) (pa_cons (pv 0) (pa_cons (pv 5) (pa_cons (pv 7) pa_nil)))) (pa_cons (pv 4) (pa_cons (pv 2) pa_nil)))))))
        (pss_cons (ps_if (pt_cmpR op_notN (pv 8) pe_non (nomark _)) (pss_one (ps_expr (pe_bm PySem.F.plainAttrs_list PySem.F.slot_list_append PySem.F.type_list_append mt_append (pv 6) (pa_cons (pe_tup (pa_cons (pv 7) (pa_cons (pv 8) pa_nil))) pa_nil)))) pss_nil)
        (pss_cons (ps_if (PW.pt (pw_or (pt_cmpR op_eq (pv 7) (pe_callB call_len_seq (by rfl) (z_len T) PySem.boot_len (pa_cons (pv 3) pa_nil)) (nomark _)) (pw_or1 (pt_cmpR op_gt (pe_op op_sub (pe_fld (pv 5) rfl) (pe_fld (pv 5) rfl)) (pv 4) (nomark _))))) (pss_one ps_break) pss_nil)
        (pss_one (ps_set (i := 5) nd rfl (.inl rfl) (pe_d DX hr4 (by rfl) (pa_cons (pv 0) (pa_cons (pv 5) (pa_cons (pv 7) pa_nil))))))))))
      (pss_one (ps_ret (pv 6))))))), ?_⟩
    refine ⟨_, rfl, p, _, _, .ref aw, rfl, rfl, SqT.of h1, rfl, ?_⟩
    refine ⟨_, rfl, _, rfl, c, y, s, m, rfl, ey, hm, ?_⟩
    refine ⟨_, rfl, _, rfl, aw, _, _, _, rfl, rfl, SqT.of h2, row_w hs ey, _, _, _, rfl, fun H1 ag s1 n1 e1 => ?_⟩
    refine ⟨Nat.zero_le _, fun ap np => ?_⟩
    refine ⟨_, rfl, _, _, rfl, rfl, _, rfl, aw, _, rfl, .inr (SqT.of ((s1.trans (same_upd np)) _ _ h2)), _, _, rfl, rfl, _, _, rfl, ?_⟩
    rw [List.length_map, hnl]
    refine ⟨⟨by omega, by omega, by omega, by omega⟩, ?_⟩
    have hcount : ((r.n : Int) + 1 - (y + 1)).toNat = r.n - s := by omega
    rw [hcount]
    have s2 : Same H1 (upd H1 ap (.lst [])) := same_upd np
    have s02 : Same H (upd H1 ap (.lst [])) := s1.trans s2
    have np0 : H ap = none := s1.free np
    have rmk := room_ok mok s
    have fin : ∀ (σ : L2.St) (H' : Hp) (ag' : Addr) (v7 v8 : Option V) (i : Nat), i = stopN r m s (r.n - s) 0 → σ = [some (.ref p), some (.int y), some (.ref c), some (.ref aw), some (.int (room m s)), some (.ref ag'), some (.ref ap), v7, v8] → But ap (upd H1 ap (.lst [])) H' → LsAt H' ap TNI (lfL r m s i) →
        tRet (tVar 6) { nx := fun _ H' => Q .non H', rt := Q } σ H' := by
      rintro σ H' ag' v7 v8 i hi rfl hB hL
      subst hi
      exact ⟨_, rfl, q H' ap (But.same s02 np0 hB) np0 hL⟩
    refine for_range (lo := y + 1) (n := r.n - s) (fun i σ H' => ∃ (ag' : Addr) (v7 v8 : Option V), σ = [some (.ref p), some (.int y), some (.ref c), some (.ref aw), some (.int (room m s)), some (.ref ag'), some (.ref ap), v7, v8] ∧
      But ap (upd H1 ap (.lst [])) H' ∧ (i < r.n - s → GlAt K H' ag' (inn r s i)) ∧ LsAt H' ap TNI (lfL r m s i) ∧ stopN r m s (r.n - s - i) i = stopN r m s (r.n - s) 0) ⟨ag, none, none, rfl, But.refl _ _, fun _ => e1.same s2, ⟨[], upd_same, .nil⟩, rfl⟩ ?_ ?_
    · rintro i σ H4 hi ⟨ag', v7, v8, rfl, hB, hg, ⟨xs, hx1, hx2⟩, hst⟩
      have hg := hg hi
      have s04 : Same H H4 := But.same s02 np0 hB
      have ez : y + 1 + (i : Int) = ((s + i + 1 : Nat) : Int) := by omega
      refine ⟨_, rfl, _, rfl, _, rfl, _, rfl, _, rfl, p, ag', r, inn r s i, _, s + i + 1, rfl, ez, hrow.same s04, ok, hg, by omega, fun H5 x5 s5 e5 => ?_⟩
      have s05 := s04.trans s5
      refine ⟨_, rfl, _, rfl, p, x5, c, r, _, s + i + 1, _, _, m, rfl, ez, hrow.same s05, ok, by omega, e5, fin_ok ok (by omega), rmk.1, rmk.2, hm.same s05, mok, ?_⟩
      have hB5 := hB.to s5
      have hx5 := s5 _ _ hx1
      have hx25 : A2 (TNI H5) xs (lfL r m s i) := hx2.imp fun _ _ h => h.same s5
      have xl : xs.length < sizeLine := by
        rw [hx2.length]
        refine Nat.lt_of_le_of_lt (lfL_len _ _ _ _) (Nat.lt_of_lt_of_le (show i < 101 by omega) (by decide))
      refine ⟨_, rfl, rfl, _, rfl, ?_⟩
      refine join_S (fun σ H6 => ∃ v8 : Option V, σ = [some (.ref p), some (.int y), some (.ref c), some (.ref aw), some (.int (room m s)), some (.ref ag'), some (.ref ap), some (.int (y + 1 + i)), v8] ∧ But ap (upd H1 ap (.lst [])) H6 ∧ GlAt K H6 ag' (inn r s i) ∧ LsAt H6 ap TNI (lfL r m s (i + 1)))
        (fun hb D' hD => ?_) (fun hb D' hD => ?_) ?_
      · cases hp : price r (s + i + 1) (fnG r (inn r s i) (s + i + 1)) (room m s) m with
        | none => rw [hp] at hb; cases hb
        | some pr =>
          have hl : lineP r m s i = some (s + i + 1, pr) := by
            unfold lineP
            rw [hp]
            rfl
          refine ⟨_, rfl, .inl ⟨rfl, _, SqL.of hx5⟩, _, rfl, _, rfl, (by show 2 ≤ sizeLine; decide), fun t nt => ?_⟩
          have s6 : Same H5 (upd H5 t (.tup [.int (y + 1 + i), .int pr])) := same_upd nt
          refine ⟨ap, _, _, rfl, rfl, s6 _ _ hx5, xl, ?_⟩
          refine hD _ _ ⟨_, rfl, (hB5.to s6).put, ?_, ?_⟩
          · obtain ⟨d, hg'⟩ := hg
            have hg6 := s6 _ _ (s5 _ _ hg')
            exact ⟨d, by rw [upd_ne (ne_of hg6 (s6 _ _ hx5) (by intro w; cases w))]; exact hg6⟩
          · rw [lfL_succ, hl]
            have nt' : t ≠ ap := fun z => by rw [z, hx5] at nt; cases nt
            refine LsAt.snoc (H := upd H5 t (.tup [.int (y + 1 + i), .int pr])) (hx25.imp fun _ _ h => h.same s6) (fun v y h => ?_) ⟨t, rfl, ?_⟩ upd_same
            · obtain ⟨b, e1, e2⟩ := h
              exact ⟨b, e1, by rw [upd_ne (ne_of e2 (s6 _ _ hx5) (by intro w; cases w))]; exact e2⟩
            · rw [upd_ne nt', upd_same]
              show some (HO.tup [.int (y + 1 + i), .int pr]) = some (HO.tup [.int ((s + i + 1 : Nat) : Int), .int pr])
              rw [ez]
      · cases hp : price r (s + i + 1) (fnG r (inn r s i) (s + i + 1)) (room m s) m with
        | some pr => rw [hp] at hb; cases hb
        | none =>
          have hl : lineP r m s i = none := by
            unfold lineP
            rw [hp]
            rfl
          refine hD _ _ ⟨_, rfl, hB5, hg.same s5, ?_⟩
          rw [lfL_succ, hl]
          exact ⟨xs, hx5, by simpa using hx25⟩
      · rintro σ' H6 ⟨v8, rfl, hB6, hg6, hL6⟩
        have s06 : Same H H6 := But.same s02 np0 hB6
        obtain ⟨d6, hg6'⟩ := id hg6
        obtain ⟨f, hf⟩ : ∃ f, r.n - s - i = f + 1 := ⟨r.n - s - i - 1, by omega⟩
        have hst' : stopN r m s (r.n - s - i) i = if brk r m s i = true then i + 1 else stopN r m s f (i + 1) := by
          rw [hf]
          rfl
        rw [hst'] at hst
        refine ⟨_, rfl, _, rfl, aw, _, rfl, .inr (SqT.of (s06 _ _ h2)), rfl, _, rfl, ?_⟩
        rw [List.length_map, hnl]
        have el : decide (V.int (y + 1 + i) = V.int ((r.n : Nat) : Int)) = decide (s + i + 1 = r.n) := by
          refine decide_eq_decide.mpr ⟨fun q => ?_, fun q => ?_⟩
          · have := V.int.inj q
            omega
          · rw [ez, q]
        rw [el]
        by_cases c1 : s + i + 1 = r.n
        · have hb : brk r m s i = true := by
            unfold brk
            rw [decide_eq_true c1, Bool.true_or]
          rw [if_pos hb] at hst
          rw [decide_eq_true c1]
          refine iteT (iteT ?_)
          exact fin _ _ ag' _ v8 (i + 1) hst rfl hB6 hL6
        · rw [decide_eq_false c1]
          refine iteF ⟨_, rfl, ag', _, d6, _, _, rfl, hg6', cg, nw, gF_w _, _, rfl, ag', _, d6, _, _, rfl, hg6', cg, nk, gF_k _, _, _, rfl, rfl, _, rfl, _, _, rfl, rfl, _, rfl, ?_⟩
          by_cases c2 : room m s < (inn r s i).w - (inn r s i).k
          · have hb : brk r m s i = true := by
              unfold brk
              rw [decide_eq_true c2, Bool.or_true]
            rw [if_pos hb] at hst
            rw [decide_eq_true c2]
            refine iteT ?_
            exact fin _ _ ag' _ v8 (i + 1) hst rfl hB6 hL6
          · have hb : ¬ brk r m s i = true := by
              unfold brk
              rw [decide_eq_false c1, decide_eq_false c2]
              exact Bool.false_ne_true
            rw [if_neg hb] at hst
            rw [decide_eq_false c2]
            refine iteF ?_
            refine ⟨_, rfl, _, rfl, _, rfl, p, ag', r, _, _, s + i + 1, rfl, ez, hrow.same s06, ok, hg6, by omega, by omega, fun H7 x7 s7 n7 e7 => ?_⟩
            obtain ⟨xs6, hx6, hz6⟩ := hL6
            refine ⟨x7, _, v8, rfl, hB6.to s7, fun _ => e7, ⟨xs6, s7 _ _ hx6, hz6.imp fun _ _ h => h.same s7⟩, ?_⟩
            rw [show r.n - s - (i + 1) = f by omega]
            exact hst
    · rintro σ H4 ⟨ag', v7, v8, rfl, hB, _, hL, hst⟩
      refine fin _ _ ag' v7 v8 (r.n - s) ?_ rfl hB hL
      rw [Nat.sub_self] at hst
      exact hst
end
end Sp
set_option maxRecDepth 100000
set_option maxHeartbeats 2000000
/-! The table of a row's lines. -/
namespace Sp
open PySem PySem.Spec PyProof.Rows L2
abbrev aTb (K : PySem.W.Frag) : Addr := He.ga K "LineTable"
def sE (r : Rw) (m : Ms) (s : Nat) : List (Nat × Int) := if s < r.n then lf r m s else []
def sTp (r : Rw) (m : Ms) (i k : Nat) : List Nat := (List.range i).filter fun s => decide (k ∈ (lf r m s).map (·.1))
def sT (r : Rw) (m : Ms) (k : Nat) : List Nat := sTp r m r.n k
def sTq (r : Rw) (m : Ms) (i j k : Nat) : List Nat := sTp r m i k ++ if k ∈ ((lf r m i).take j).map (·.1) then [i] else []
def rivB (m : Ms) : Bool := decide (0 < m.river)
def EndsAt (H : Hp) (a : Addr) (r : Rw) (m : Ms) : Prop := ∃ bs : List Addr, H a = some (.lst (bs.map V.ref)) ∧ bs.length = r.n + 1 ∧ ∀ (i : Nat) (b : Addr), bs[i]? = some b → LsAt H b TNI (sE r m i)
def intV (i : Nat) : V := .int (i : Int)
def StartsAt (H : Hp) (a : Addr) (r : Rw) (m : Ms) : Prop := ∃ bs : List Addr, H a = some (.lst (bs.map V.ref)) ∧ bs.length = r.n + 1 ∧ ∀ (i : Nat) (b : Addr), bs[i]? = some b → H b = some (.lst ((sT r m i).map intV))
def keyO (s e : Nat) : List Key := [.inl (s : Int), .inl (e : Int)]
def GapsAt (H : Hp) (a : Addr) (r : Rw) (m : Ms) : Prop := 0 < m.river → ∃ kvs, H a = some (.dT kvs) ∧ ∀ s e p, (e, p) ∈ sE r m s → ∃ c, valV kvs (keyO s e) = some (.ref c) ∧ LsAt H c TII (spans r m s e)
def tF (p c ae at_ g : Addr) (r : Rw) (m : Ms) : List (Str × V) := [("row", .ref p), ("fitting", .ref c), ("boxes", .int (r.n : Int)), ("rivers", .bl (rivB m)), ("ends_from", .ref ae), ("starts_to", .ref at_), ("gaps", .ref g)]
def TbAt (K : PySem.W.Frag) (H : Hp) (t : Addr) (r : Rw) (m : Ms) : Prop := ∃ dx p c ae at_ g, H t = some (.ins (aTb K) dx (tF p c ae at_ g r m)) ∧ RowAt H p r ∧ MsAt K H c m ∧ EndsAt H ae r m ∧ StartsAt H at_ r m ∧ GapsAt H g r m
section
variable {K : PySem.W.Frag} {H H' : Hp} {a b t : Addr} {r : Rw} {m : Ms}
theorem LsAt.sameN {l : List (Nat × Int)} (h : LsAt H a TNI l) (s : Same H H') : LsAt H' a TNI l := h.imp fun _ e => ⟨s _ _ e.1, e.2.imp fun _ _ z => z.same s⟩
theorem LsAt.sameI {l : List (Int × Int)} (h : LsAt H a TII l) (s : Same H H') : LsAt H' a TII l := h.imp fun _ e => ⟨s _ _ e.1, e.2.imp fun _ _ z => z.same s⟩
theorem EndsAt.same (h : EndsAt H a r m) (s : Same H H') : EndsAt H' a r m := h.imp fun _ e => ⟨s _ _ e.1, e.2.1, fun i b q => (e.2.2 i b q).sameN s⟩
theorem StartsAt.same (h : StartsAt H a r m) (s : Same H H') : StartsAt H' a r m := h.imp fun _ e => ⟨s _ _ e.1, e.2.1, fun i b q => s _ _ (e.2.2 i b q)⟩
theorem GapsAt.same (h : GapsAt H a r m) (s : Same H H') : GapsAt H' a r m := fun hr => (h hr).imp fun _ e => ⟨s _ _ e.1, fun x y p q => (e.2 x y p q).imp fun _ z => ⟨z.1, z.2.sameI s⟩⟩
theorem TbAt.same (h : TbAt K H t r m) (s : Same H H') : TbAt K H' t r m := by
  obtain ⟨dx, p, c, ae, at_, g, h1, h2, h3, h4, h5, h6⟩ := h
  exact ⟨dx, p, c, ae, at_, g, s _ _ h1, h2.same s, h3.same s, h4.same s, h5.same s, h6.same s⟩
/-- what is at an object of another kind stays -/
theorem RowAt.but {x : Addr} {o : HO} (h : RowAt H a r) (hB : But x H H') (hx : H x = some o) (ho : ∀ ys, o ≠ .tup ys) : RowAt H' a r := by
  obtain ⟨aw, aj, as, h1, h2, h3, h4, h5⟩ := h
  have st : ∀ b ys, H b = some (.tup ys) → H' b = some (.tup ys) := fun b ys e => hB _ _ e (ne_of e hx (fun z => ho ys z.symm))
  exact ⟨aw, aj, as, st _ _ h1, st _ _ h2, st _ _ h3, h4, fun i b e => st _ _ (h5 i b e)⟩
theorem MsAt.but {x c : Addr} (h : MsAt K H c m) (hB : But x H H') (n : c ≠ x) : MsAt K H' c m := h.imp fun _ e => hB _ _ e n
theorem TNI.but {x : Addr} {o : HO} {v : V} {p : Nat × Int} (h : TNI H v p) (hB : But x H H') (hx : H x = some o) (ho : ∀ ys, o ≠ .tup ys) : TNI H' v p := h.imp fun _ e => ⟨e.1, hB _ _ e.2 (ne_of e.2 hx fun z => ho _ z.symm)⟩
theorem TII.but {x : Addr} {o : HO} {v : V} {p : Int × Int} (h : TII H v p) (hB : But x H H') (hx : H x = some o) (ho : ∀ ys, o ≠ .tup ys) : TII H' v p := h.imp fun _ e => ⟨e.1, hB _ _ e.2 (ne_of e.2 hx fun z => ho _ z.symm)⟩
theorem LsAt.butN {x : Addr} {o : HO} {l : List (Nat × Int)} (h : LsAt H a TNI l) (hB : But x H H') (hx : H x = some o) (ho : ∀ ys, o ≠ .tup ys) (n : a ≠ x) : LsAt H' a TNI l := h.imp fun _ e => ⟨hB _ _ e.1 n, e.2.imp fun _ _ z => z.but hB hx ho⟩
theorem LsAt.butI {x : Addr} {o : HO} {l : List (Int × Int)} (h : LsAt H a TII l) (hB : But x H H') (hx : H x = some o) (ho : ∀ ys, o ≠ .tup ys) (n : a ≠ x) : LsAt H' a TII l := h.imp fun _ e => ⟨hB _ _ e.1 n, e.2.imp fun _ _ z => z.but hB hx ho⟩
theorem EndsAt.but {x : Addr} {C dx : Addr} {fs : List (Str × V)} (h : EndsAt H a r m) (hB : But x H H') (hx : H x = some (.ins C dx fs)) : EndsAt H' a r m := by
  obtain ⟨bs, h1, h2, h3⟩ := h
  refine ⟨bs, hB _ _ h1 (ne_of h1 hx (by intro z; cases z)), h2, fun i b e => ?_⟩
  have h4 := h3 i b e
  obtain ⟨xs, e1, e2⟩ := id h4
  exact h4.butN hB hx (by intro _ z; cases z) (ne_of e1 hx (by intro z; cases z))
theorem But.trans {x : Addr} {H1 H2 H3 : Hp} (h : But x H1 H2) (h' : But x H2 H3) : But x H1 H3 := fun b o e n => h' b o (h b o e n) n
theorem But.fresh {x y : Addr} {o : HO} (h : But x H H') (n : H y = none) : But x H (upd H' y o) := fun b u e nb => by
  rw [upd_ne (ne_of_none e n)]
  exact h b u e nb
theorem but_upd {x : Addr} {o : HO} : But x H (upd H x o) := (But.refl x H).put
theorem But.of {x : Addr} (s : Same H H') : But x H H' := fun b o e _ => s b o e
end
theorem sTp_succ (r : Rw) (m : Ms) (i k : Nat) : sTp r m (i + 1) k = sTp r m i k ++ if k ∈ (lf r m i).map (·.1) then [i] else [] := by
  unfold sTp
  rw [List.range_succ, List.filter_append]
  congr 1
  by_cases c : k ∈ (lf r m i).map (·.1)
  · rw [if_pos c]
    simp [c]
  · rw [if_neg c]
    simp [c]
theorem sTq_zero (r : Rw) (m : Ms) (i k : Nat) : sTq r m i 0 k = sTp r m i k := by
  unfold sTq
  simp
theorem sTq_all (r : Rw) (m : Ms) (i k : Nat) : sTq r m i (lf r m i).length k = sTp r m (i + 1) k := by
  unfold sTq
  rw [List.take_length, sTp_succ]
theorem lf_asc (r : Rw) (m : Ms) (s : Nat) : (lf r m s).Pairwise (fun a b => a.1 < b.1) := lfL_asc r m s _
theorem take_lt {l : List (Nat × Int)} (h : l.Pairwise (fun a b => a.1 < b.1)) {j : Nat} {x : Nat × Int} (hx : l[j]? = some x) : x.1 ∉ (l.take j).map (·.1) := by
  intro hm
  obtain ⟨y, hy, e⟩ := List.mem_map.mp hm
  obtain ⟨i, hi, rfl⟩ := List.mem_iff_getElem.mp hy
  rw [List.length_take] at hi
  obtain ⟨hj, rfl⟩ := List.getElem?_eq_some_iff.mp hx
  have := List.pairwise_iff_getElem.mp h i j (by omega) hj (by omega)
  rw [List.getElem_take] at e
  omega
theorem sTq_put {r : Rw} {m : Ms} {i j : Nat} {x : Nat × Int} (hx : (lf r m i)[j]? = some x) : sTq r m i (j + 1) x.1 = sTq r m i j x.1 ++ [i] := by
  unfold sTq
  have h1 : x.1 ∈ ((lf r m i).take (j + 1)).map (·.1) := by
    rw [List.take_add_one, hx, List.map_append]
    exact List.mem_append_right _ (by simp)
  rw [if_pos h1, if_neg (take_lt (lf_asc r m i) hx), List.append_nil]
theorem sTq_keep {r : Rw} {m : Ms} {i j k : Nat} {x : Nat × Int} (hx : (lf r m i)[j]? = some x) (hk : k ≠ x.1) : sTq r m i (j + 1) k = sTq r m i j k := by
  unfold sTq
  have h1 : k ∈ ((lf r m i).take (j + 1)).map (·.1) ↔ k ∈ ((lf r m i).take j).map (·.1) := by
    rw [List.take_add_one, hx, List.map_append, List.mem_append]
    refine ⟨fun h => h.elim id fun z => ?_, .inl⟩
    exact absurd (by simpa using z) hk
  by_cases c : k ∈ ((lf r m i).take j).map (·.1)
  · rw [if_pos c, if_pos (h1.mpr c)]
  · rw [if_neg c, if_neg (fun z => c (h1.mp z))]
theorem sTp_len (r : Rw) (m : Ms) (i k : Nat) : (sTp r m i k).length ≤ i := by
  refine Nat.le_trans (List.length_filter_le _ _) ?_
  rw [List.length_range]
  exact Nat.le_refl _
theorem sTq_len (r : Rw) (m : Ms) (i j k : Nat) : (sTq r m i j k).length ≤ i + 1 := by
  unfold sTq
  have := sTp_len r m i k
  rw [List.length_append]
  split
  · rw [List.length_singleton]
    omega
  · rw [List.length_nil]
    omega
theorem sE_lt {r : Rw} {m : Ms} {s : Nat} (h : s < r.n) : sE r m s = lf r m s := if_pos h

theorem snoc_get {α : Type} {l : List α} {x b : α} {k : Nat} (h : (l ++ [x])[k]? = some b) : l[k]? = some b ∨ (k = l.length ∧ b = x) := by
  rcases Nat.lt_trichotomy k l.length with c | c | c
  · exact .inl (by rw [List.getElem?_append_left c] at h; exact h)
  · subst c
    rw [List.getElem?_append_right (Nat.le_refl _), Nat.sub_self] at h
    exact .inr ⟨rfl, (Option.some.inj h).symm⟩
  · rw [List.getElem?_append_right (by omega)] at h
    obtain ⟨f, hf⟩ : ∃ f, k - l.length = f + 1 := ⟨k - l.length - 1, by omega⟩
    rw [hf] at h
    cases h
def f4 (ar am : Addr) (r : Rw) (m : Ms) : List (Str × V) := [("row", .ref ar), ("fitting", .ref am), ("boxes", .int (r.n : Int)), ("rivers", .bl (rivB m))]
def f5 (ar am ae : Addr) (r : Rw) (m : Ms) : List (Str × V) := [("row", .ref ar), ("fitting", .ref am), ("boxes", .int (r.n : Int)), ("rivers", .bl (rivB m)), ("ends_from", .ref ae)]
def f6 (ar am ae at_ : Addr) (r : Rw) (m : Ms) : List (Str × V) := [("row", .ref ar), ("fitting", .ref am), ("boxes", .int (r.n : Int)), ("rivers", .bl (rivB m)), ("ends_from", .ref ae), ("starts_to", .ref at_)]
def TbM (K : PySem.W.Frag) (H5 : Hp) (p dx at_ g : Addr) (fs : List (Str × V)) (bs : List Addr) (r : Rw) (m : Ms) (i j : Nat) (H' : Hp) : Prop :=
  But p H5 H' ∧ H' p = some (.ins (aTb K) dx fs) ∧ H' at_ = some (.lst (bs.map V.ref)) ∧ (∀ (k : Nat) (b : Addr), bs[k]? = some b → H' b = some (.lst ((sTq r m i j k).map intV))) ∧
  ∃ kvs, H' g = some (.dT kvs) ∧ kvs.length ≤ 200 * i + j ∧ (0 < m.river → ∀ s e, (s < i ∧ e ∈ (lf r m s).map (·.1) ∨ s = i ∧ e ∈ ((lf r m i).take j).map (·.1)) → ∃ c, valV kvs (keyO s e) = some (.ref c) ∧ c ∉ bs ∧ c ≠ g ∧ LsAt H' c TII (spans r m s e))
theorem TbM.turn {K : PySem.W.Frag} {H5 H' : Hp} {p dx at_ g : Addr} {fs : List (Str × V)} {bs : List Addr} {r : Rw} {m : Ms} {i : Nat} (hl : (lf r m i).length ≤ 200) (h : TbM K H5 p dx at_ g fs bs r m i (lf r m i).length H') : TbM K H5 p dx at_ g fs bs r m (i + 1) 0 H' := by
  obtain ⟨h1, h2, h3, h4, kvs, h5, h6, h7⟩ := h
  refine ⟨h1, h2, h3, fun k b e => ?_, kvs, h5, by omega, fun hr s e hd => h7 hr s e ?_⟩
  · rw [h4 k b e, sTq_all, sTq_zero]
  · rcases hd with ⟨hs, he⟩ | ⟨hs, he⟩
    · by_cases c : s = i
      · subst c
        exact .inr ⟨rfl, by rw [List.take_length]; exact he⟩
      · exact .inl ⟨by omega, he⟩
    · rw [List.take_zero] at he
      cases he
theorem keyO_inj {s e s' e' : Nat} (h : keyO s e = keyO s' e') : s = s' ∧ e = e' := by
  unfold keyO at h
  have h1 := (List.cons.inj h).1
  have h2 := (List.cons.inj (List.cons.inj h).2).1
  have h1 := Sum.inl.inj h1
  have h2 := Sum.inl.inj h2
  omega
theorem mapref_get {es : List Addr} {i : Nat} {b : Addr} (h : es[i]? = some b) : (es.map V.ref)[i]? = some (.ref b) := by
  rw [List.getElem?_map, h]
  rfl
theorem sc_LT : FnScope ["self", "row", "measure", "start", "end", "price", "place"] ["self", "row", "measure"] (defScope s_LineTable_init) := ⟨rfl, rfl, rfl, by decide +kernel, rfl, by decide +kernel, by decide +kernel⟩
section
variable {P : Program} {w : World} {K : PySem.W.Frag} {mg : Str → Option Value} {base : Heap}
def spTi (K : PySem.W.Frag) : L2.Sp := fun vs H Q _ => ∃ (p dx ar am : Addr) (r : Rw) (m : Ms), vs = [.ref p, .ref ar, .ref am] ∧ H p = some (.ins (aTb K) dx []) ∧ am ≠ p ∧ RowAt H ar r ∧ r.Ok ∧ MsAt K H am m ∧ m.Ok ∧
  ∀ H' : Hp, TbAt K H' p r m → But p H H' → Q .non H'
theorem d_tab (T : Tx K mg) : Dm P w K mg base 8 "LineTable" (aTb K) ["self", "row", "measure"] (spTi K) := by
  obtain ⟨fd, F⟩ := F_LineTable_init T.told
  refine ⟨⟨_, fd, m_LineTable T.told, ?_, F.binds fun _ _ _ _ _ _ us hl => match us, hl with | [_, _, _], _ => rfl⟩, g_LineTable T⟩
  have nRo := n_LineTable_row T.told
  have nFi := n_LineTable_fitting T.told
  have nBo := n_LineTable_boxes T.told
  have nRi := n_LineTable_rivers T.told
  have nEn := n_LineTable_ends_from T.told
  have nSt := n_LineTable_starts_to T.told
  have nGa := n_LineTable_gaps T.told
  have cT : Cls K (aTb K) := c_LineTable T.told
  have cM := c_Measure T.told
  have DL : Df P w K mg base CX0 5 "lines_from" (He.ga K "lines_from") ["row", "start", "measure"] (spLf K) := d_lf T
  have DG : Df P w K mg base CX0 7 "gap_spans" (He.ga K "gap_spans") ["row", "start", "end", "measure"] (spGs K) := d_gs T
  have nd := sc_LT.nd
  refine F.ok sc_LT (fun vs H Q E h => ?_) (fun cdv A outer st H vs Q E hr h => ?_)
  · obtain ⟨p, dx, ar, am, r, m, rfl, _⟩ := h
    rfl
  · obtain ⟨p, dx, ar, am, r, m, rfl, hp, nam, hrow, ok, hm, mok, q⟩ := h
    have hr5 : Room 5 _ := hr.mono (by decide)
    have hr7 : Room 7 _ := hr.mono (by decide)
    have hu := hu_of hr
    have hn : r.n ≤ 100 := ok.n
    refine ⟨_, pss_cons (ps_fld (pv 0) (pv 1) rfl)
      (pss_cons (ps_fld (pv 0) (pv 2) rfl)
      (pss_cons (ps_fld (pv 0) (pe_callB call_len_seq (by rfl) (z_len T) PySem.boot_len (pa_cons (pe_ix ix_tup (pv 1) pe_int (fun _ _ => rfl)) pa_nil)) rfl)
      (pss_cons (ps_fld (pv 0) (pe_cmpR op_gt (pe_fld (pv 2) rfl) pe_int (nomark _)) rfl)
      (pss_cons (ps_fld (pv 0) (pe_op op_cat (pe_lc (own := [("place", 6)]) (g := gName 6) (tt := tYes) rfl nd (pi_range1 (by rfl) (z_range T) (pa_cons (pe_fld (pv 0) rfl) pa_nil)) (blkOk_by (N := ["self", "row", "measure", "start", "end", "price", "place"]) (sc := defScope s_LineTable_init) (by decide +kernel))
          (fun _ _ _ _ _ => pg_name (i := 6) nd rfl (.inl rfl)) (fun _ _ _ _ _ => pts_nil) (fun _ _ _ _ _ => pe_d DL hr5 (by rfl) (pa_cons (pv 1) (pa_cons (pv 6) (pa_cons (pv 2) pa_nil))))) (pe_lst (pa_cons (pe_lst pa_nil) pa_nil))) rfl)
      (pss_cons (ps_fld (pv 0) (pe_lc (own := [("place", 6)]) (g := gName 6) (tt := tYes) rfl nd (pi_range1 (by rfl) (z_range T) (pa_cons (pe_op op_add (pe_fld (pv 0) rfl) pe_int) pa_nil)) (blkOk_by (N := ["self", "row", "measure", "start", "end", "price", "place"]) (sc := defScope s_LineTable_init) (by decide +kernel))
          (fun _ _ _ _ _ => pg_name (i := 6) nd rfl (.inl rfl)) (fun _ _ _ _ _ => pts_nil) (fun _ _ _ _ _ => pe_lst pa_nil)) rfl)
      (pss_cons (ps_fld (pv 0) pe_dnewT rfl)
      (pss_one (ps_for PassesOwn.never rfl (pi_range1 (by rfl) (z_range T) (pa_cons (pe_fld (pv 0) rfl) pa_nil)) (pg_name (i := 3) nd rfl (.inl rfl))
        (pss_one (ps_for PassesOwn.never rfl (pi_list (pe_ix ix_list (pe_fld (pv 0) rfl) (pv 3) (fun _ _ => rfl))) (pg_tup rfl (pgs_cons (pg_name (i := 4) nd rfl (.inl rfl)) (pgs_cons (pg_name (i := 5) nd rfl (.inl rfl)) pgs_nil)))
          (pss_cons (ps_expr (pe_bm PySem.F.plainAttrs_list PySem.F.slot_list_append PySem.F.type_list_append mt_append (pe_ix ix_list (pe_fld (pv 0) rfl) (pv 4) (fun _ _ => rfl)) (pa_cons (pv 3) pa_nil)))
          (pss_one (ps_if (pt_val (pe_fld (pv 0) rfl)) (pss_one (ps_dput hu (pe_fld (pv 0) rfl) (pe_tup (pa_cons (pv 3) (pa_cons (pv 4) pa_nil))) (pe_d DG hr7 (by rfl) (pa_cons (pv 1) (pa_cons (pv 3) (pa_cons (pv 4) (pa_cons (pv 2) pa_nil))))) rfl)) pss_nil))))))))))))), ?_⟩
    obtain ⟨aw, aj, as, h1, h2, h3, h4, h5⟩ := id hrow
    obtain ⟨dm, hm'⟩ := id hm
    have hnl : r.ws.length = r.n := rfl
    have tupOff : ∀ {b : Addr} {ys : List V}, H b = some (.tup ys) → b ≠ p := fun e => ne_of e hp (by intro z; cases z)
    refine join_seq (fun σ' H' => σ' = [some (.ref p), some (.ref ar), some (.ref am), none, none, none, none] ∧ But p H H' ∧ H' p = some (.ins (aTb K) dx [("row", .ref ar)])) (fun D' hD => ?_) ?_
    · exact ⟨_, rfl, _, rfl, p, _, dx, [], rfl, hp, cT, nRo, (by show 0 < 1000; decide), hD _ _ ⟨rfl, but_upd, upd_same⟩⟩
    rintro σ H1 ⟨rfl, hB1, hp1⟩
    refine join_seq (fun σ' H' => σ' = [some (.ref p), some (.ref ar), some (.ref am), none, none, none, none] ∧ But p H H' ∧ H' p = some (.ins (aTb K) dx [("row", .ref ar), ("fitting", .ref am)])) (fun D' hD => ?_) ?_
    · exact ⟨_, rfl, _, rfl, p, _, dx, _, rfl, hp1, cT, nFi, (by show 1 < 1000; decide), hD _ _ ⟨rfl, hB1.put, upd_same⟩⟩
    rintro σ H2 ⟨rfl, hB2, hp2⟩
    refine join_seq (fun σ' H' => σ' = [some (.ref p), some (.ref ar), some (.ref am), none, none, none, none] ∧ But p H H' ∧ H' p = some (.ins (aTb K) dx [("row", .ref ar), ("fitting", .ref am), ("boxes", .int (r.n : Int))])) (fun D' hD => ?_) ?_
    · refine ⟨_, rfl, ar, _, _, .ref aw, rfl, rfl, SqT.of (hB2 _ _ h1 (tupOff h1)), rfl, aw, _, rfl, .inr (SqT.of (hB2 _ _ h2 (tupOff h2))), _, rfl, p, _, dx, _, rfl, hp2, cT, nBo, (by show 2 < 1000; decide), ?_⟩
      rw [List.length_map, hnl]
      exact hD _ _ ⟨rfl, hB2.put, upd_same⟩
    rintro σ H3 ⟨rfl, hB3, hp3⟩
    refine join_seq (fun σ' H' => σ' = [some (.ref p), some (.ref ar), some (.ref am), none, none, none, none] ∧ But p H H' ∧ H' p = some (.ins (aTb K) dx (f4 ar am r m))) (fun D' hD => ?_) ?_
    · refine ⟨_, rfl, am, _, dm, _, _, rfl, hB3 _ _ hm' nam, cM, n_Measure_river T.told, mF_river m, _, _, rfl, rfl, _, rfl, p, _, dx, _, rfl, hp3, cT, nRi, (by show 3 < 1000; decide), ?_⟩
      exact hD _ _ ⟨rfl, hB3.put, upd_same⟩
    rintro σ H4 ⟨rfl, hB4, hp4⟩
    have hrow4 : RowAt H4 ar r := hrow.but hB4 hp (by intro _ z; cases z)
    have hm4 : MsAt K H4 am m := hm.but hB4 nam
    -- ends_from
    refine join_seq (fun σ' H' => σ' = [some (.ref p), some (.ref ar), some (.ref am), none, none, none, none] ∧ But p H H' ∧ ∃ ae : Addr, H' p = some (.ins (aTb K) dx (f5 ar am ae r m)) ∧ EndsAt H' ae r m) (fun D' hD => ?_) ?_
    · refine ⟨_, rfl, p, _, dx, _, _, rfl, hp4, cT, nBo, rfl, _, rfl, by omega, by omega, fun D nD => lc_range (fun i H' => But D (upd H4 D (.lst [])) H' ∧ ∃ bs : List Addr, bs.length = i ∧ H' D = some (.lst (bs.map V.ref)) ∧ ∀ (k : Nat) (b : Addr), bs[k]? = some b → b ≠ D ∧ LsAt H' b TNI (lf r m k))
        ⟨But.refl _ _, [], rfl, upd_same, fun k b e => by simp at e⟩ ?_ ?_⟩
      · rintro i H' hi ⟨hB, bs, hl, hDl, hbs⟩
        have s0 : Same H4 H' := But.same (same_upd nD) nD hB
        refine ⟨rfl, _, rfl, _, rfl, _, rfl, ar, am, r, m, _, i, rfl, by omega, hrow4.same s0, ok, hm4.same s0, mok, by omega, fun H5 x5 s5 n5 e5 => ⟨bs.map V.ref, s5 _ _ hDl, ?_, (hB.to s5).put, bs ++ [x5], ?_, ?_, ?_⟩⟩
        · rw [List.length_map, hl]
          exact Nat.lt_of_lt_of_le (show i < 101 by omega) (by decide)
        · rw [List.length_append, hl]
          rfl
        · rw [upd_same, List.map_append]
          rfl
        · intro k b e
          have nx : x5 ≠ D := fun z => by rw [z, hDl] at n5; cases n5
          have hD5 := s5 _ _ hDl
          rcases snoc_get e with e | ⟨e1, e2⟩
          · obtain ⟨g1, g2⟩ := hbs k b e
            exact ⟨g1, (g2.sameN s5).butN but_upd hD5 (by intro _ z; cases z) g1⟩
          · subst e2
            refine ⟨nx, ?_⟩
            rw [e1, hl]
            exact e5.butN but_upd hD5 (by intro _ z; cases z) nx
      · rintro H' ⟨hB, bs, hl, hDl, hbs⟩
        have s0 : Same H4 H' := But.same (same_upd nD) nD hB
        refine ⟨Nat.zero_le _, fun a na => ⟨by show 1 ≤ sizeLine; decide, fun b nb => ⟨D, b, _, _, rfl, rfl, (same_upd nb) _ _ ((same_upd na) _ _ hDl), upd_same, ?_, fun ae nae => ?_⟩⟩⟩
        · rw [List.length_map, hl]
          exact Nat.le_trans (show _ ≤ 101 from by show ((r.n : Int)).toNat + 1 ≤ 101; omega) (by decide)
        · have s1 := (same_upd (o := .lst []) na)
          have s2 := (same_upd (o := .lst [V.ref a]) nb)
          have s3 := (same_upd (o := .lst (bs.map V.ref ++ [V.ref a])) nae)
          have s13 := (s1.trans s2).trans s3
          have hp3 := s13 _ _ (s0 _ _ hp4)
          refine ⟨_, rfl, p, _, dx, _, rfl, hp3, cT, nEn, (by show 4 < 1000; decide), hD _ _ ⟨rfl, But.put (hB4.to (s0.trans s13)), ae, upd_same, ?_⟩⟩
          refine EndsAt.but (x := p) ?_ but_upd hp3
          refine ⟨bs ++ [a], ?_, ?_, fun k c e => ?_⟩
          · rw [upd_same, List.map_append]
            rfl
          · rw [List.length_append, hl]
            show ((r.n : Int)).toNat + 1 = r.n + 1
            omega
          · rcases snoc_get e with e | ⟨e1, e2⟩
            · have hk : k < r.n := by
                have := (List.getElem?_eq_some_iff.mp e).1
                omega
              rw [sE_lt hk]
              exact (hbs k c e).2.sameN s13
            · subst e2
              have hk : ¬ k < r.n := by omega
              unfold sE
              rw [if_neg hk]
              exact ⟨[], s3 _ _ (s2 _ _ upd_same), .nil⟩
    rintro σ H5 ⟨rfl, hB5, ae, hp5, hE⟩
    -- starts_to
    refine join_seq (fun σ' H' => σ' = [some (.ref p), some (.ref ar), some (.ref am), none, none, none, none] ∧ But p H5 H' ∧ ∃ (at_ : Addr) (bs : List Addr), H' p = some (.ins (aTb K) dx (f6 ar am ae at_ r m)) ∧ H5 at_ = none ∧ H' at_ = some (.lst (bs.map V.ref)) ∧ bs.length = r.n + 1 ∧ bs.Nodup ∧ at_ ∉ bs ∧ ∀ b ∈ bs, H5 b = none ∧ H' b = some (.lst [])) (fun D' hD => ?_) ?_
    · refine ⟨_, rfl, p, _, dx, _, _, rfl, hp5, cT, nBo, rfl, _, _, rfl, rfl, _, rfl, by omega, by omega, fun D nD => lc_range (fun i H' => But D (upd H5 D (.lst [])) H' ∧ ∃ bs : List Addr, bs.length = i ∧ H' D = some (.lst (bs.map V.ref)) ∧ bs.Nodup ∧ ∀ b ∈ bs, b ≠ D ∧ H5 b = none ∧ H' b = some (.lst []))
        ⟨But.refl _ _, [], rfl, upd_same, List.Pairwise.nil, fun b e => by simp at e⟩ ?_ ?_⟩
      · rintro i H' hi ⟨hB, bs, hl, hDl, hnd, hbs⟩
        have s0 : Same H5 H' := But.same (same_upd nD) nD hB
        refine ⟨rfl, Nat.zero_le _, fun a na => ⟨bs.map V.ref, (same_upd na) _ _ hDl, ?_, (hB.to (same_upd na)).put, bs ++ [a], ?_, ?_, ?_, ?_⟩⟩
        · rw [List.length_map, hl]
          exact Nat.lt_of_lt_of_le (show i < 102 by omega) (by decide)
        · rw [List.length_append, hl]
          rfl
        · rw [upd_same, List.map_append]
          rfl
        · refine List.pairwise_append.mpr ⟨hnd, List.pairwise_singleton _ _, fun x hx y hy => ?_⟩
          have hy : y = a := by simpa using hy
          subst hy
          exact ne_of_none (hbs x hx).2.2 na
        · intro b hb
          have nx : a ≠ D := fun z => by rw [z, hDl] at na; cases na
          rcases List.mem_append.mp hb with hb | hb
          · obtain ⟨g1, g2, g3⟩ := hbs b hb
            exact ⟨g1, g2, by rw [upd_ne g1]; exact (same_upd na) _ _ g3⟩
          · have hb : b = a := by simpa using hb
            subst hb
            exact ⟨nx, s0.free na, by rw [upd_ne nx, upd_same]⟩
      · rintro H' ⟨hB, bs, hl, hDl, hnd, hbs⟩
        have s0 : Same H5 H' := But.same (same_upd nD) nD hB
        have hp6 := s0 _ _ hp5
        refine ⟨_, rfl, p, _, dx, _, rfl, hp6, cT, nSt, (by show 5 < 1000; decide), hD _ _ ⟨rfl, But.put (But.of s0), D, bs, upd_same, nD, ?_, by omega, hnd, fun z => (hbs _ z).1 rfl, fun b hb => ?_⟩⟩
        · rw [upd_ne (ne_of hDl hp6 (by intro z; cases z))]
          exact hDl
        · obtain ⟨g1, g2, g3⟩ := hbs b hb
          exact ⟨g2, by rw [upd_ne (ne_of g3 hp6 (by intro z; cases z))]; exact g3⟩
    rintro σ H6 ⟨rfl, hB6, at_, bs, hp6, nat, hat, hlb, hnd, natb, hbs⟩
    -- gaps
    refine join_seq (fun σ' H' => σ' = [some (.ref p), some (.ref ar), some (.ref am), none, none, none, none] ∧ ∃ g : Addr, g ∉ bs ∧ H5 g = none ∧ TbM K H5 p dx at_ g (tF ar am ae at_ g r m) bs r m 0 0 H') (fun D' hD => ?_) ?_
    · intro g ng
      have s7 := same_upd (o := .dT []) ng
      have hp7 := s7 _ _ hp6
      have g5 : H5 g = none := by
        cases e : H5 g with
        | none => rfl
        | some o =>
          have np : g ≠ p := fun z => by rw [z, hp6] at ng; cases ng
          rw [hB6 _ _ e np] at ng
          cases ng
      refine ⟨_, rfl, p, _, dx, _, rfl, hp7, cT, nGa, (by show 6 < 1000; decide), hD _ _ ⟨rfl, g, fun z => ?_, g5, But.put (hB6.to s7), upd_same, ?_, fun k b e => ?_, [], ?_, Nat.zero_le _, ?_⟩⟩
      · rw [(hbs g z).2] at ng
        cases ng
      · rw [upd_ne (ne_of (s7 _ _ hat) hp7 (by intro z; cases z))]
        exact s7 _ _ hat
      · have hb := (hbs b (List.mem_of_getElem? e)).2
        rw [upd_ne (ne_of (s7 _ _ hb) hp7 (by intro z; cases z)), s7 _ _ hb, sTq_zero]
        rfl
      · rw [upd_ne (show g ≠ p from fun z => by rw [z, hp6] at ng; cases ng)]
        exact upd_same
      · rintro _ s e (⟨hs, _⟩ | ⟨hs, he⟩)
        · omega
        · rw [List.take_zero] at he
          cases he
    rintro σ H7 ⟨rfl, g, ngb, g5, hT7⟩
    -- the loops
    obtain ⟨es, he1, he2, he3⟩ := hE
    refine ⟨_, rfl, p, _, dx, _, _, rfl, hT7.2.1, cT, nBo, rfl, _, rfl, by omega, by omega, for_range (fun i σ H' => ∃ v3 v4 v5 : Option V, σ = [some (.ref p), some (.ref ar), some (.ref am), v3, v4, v5, none] ∧ TbM K H5 p dx at_ g (tF ar am ae at_ g r m) bs r m i 0 H') ⟨none, none, none, rfl, hT7⟩ ?_ ?_⟩
    · rintro i σ H' hi ⟨v3, v4, v5, rfl, hT⟩
      have hi' : i < r.n := by omega
      obtain ⟨b, hb⟩ : ∃ b, es[i]? = some b := ⟨_, List.getElem?_eq_getElem (by omega)⟩
      obtain ⟨xs, hx1, hx2⟩ := he3 i b hb
      rw [sE_lt hi'] at hx2
      have npb : b ≠ p := ne_of hx1 hp5 (by intro z; cases z)
      have npae : ae ≠ p := ne_of he1 hp5 (by intro z; cases z)
      have lfl : (lf r m i).length ≤ 200 := by
        have := lf_len (r := r) (m := m) (s := i)
        omega
      refine ⟨_, rfl, p, _, dx, _, _, rfl, hT.2.1, cT, nEn, rfl, _, rfl, ae, _, _, _, rfl, rfl, SqL.of (hT.1 _ _ he1 npae), at_of (by omega) (mapref_get hb), b, rfl, ⟨_, SqL.of (hT.1 _ _ hx1 npb)⟩,
        for_list (K := K) (a := b) (xs := xs) (fun j σ H'' => ∃ v4 v5 : Option V, σ = [some (.ref p), some (.ref ar), some (.ref am), some (.int (0 + i)), v4, v5, none] ∧ TbM K H5 p dx at_ g (tF ar am ae at_ g r m) bs r m i j H'') ⟨v4, v5, rfl, hT⟩ (fun j σ H'' _ h => ?_) ?_ ?_⟩
      · obtain ⟨_, _, _, h⟩ := h
        exact SqL.of (h.1 _ _ hx1 npb)
      · rintro j x σ H'' hj ⟨v4, v5, rfl, hT2⟩
        obtain ⟨t1, t2, t3, t4, kvs, t5, t6, t7⟩ := id hT2
        obtain ⟨⟨e, pr⟩, hep, t, rfl, ht⟩ := hx2.get hj
        obtain ⟨hse, hen, hpr⟩ := lf_mem hi' (List.mem_of_getElem? hep)
        have ht2 := t1 _ _ ht (ne_of ht hp5 (by intro z; cases z))
        obtain ⟨be, hbe⟩ : ∃ c, bs[e]? = some c := ⟨_, List.getElem?_eq_getElem (by omega)⟩
        have mbe : be ∈ bs := List.mem_of_getElem? hbe
        have hbe' := t4 e be hbe
        have nbe : ∀ {c : Addr}, c ∉ bs → c ≠ be := fun h z => h (z ▸ mbe)
        refine ⟨t, _, rfl, SqT.of ht2, rfl, _, _, rfl, _, _, rfl, rfl, ?_⟩
        refine join_seq (fun σ' H3 => σ' = [some (.ref p), some (.ref ar), some (.ref am), some (.int (0 + i)), some (.int e), some (.int pr), none] ∧ But p H5 H3 ∧ H3 p = some (.ins (aTb K) dx (tF ar am ae at_ g r m)) ∧ H3 at_ = some (.lst (bs.map V.ref)) ∧ (∀ (k : Nat) (b : Addr), bs[k]? = some b → H3 b = some (.lst ((sTq r m i (j + 1) k).map intV))) ∧
          H3 g = some (.dT kvs) ∧ (0 < m.river → ∀ s e, (s < i ∧ e ∈ (lf r m s).map (·.1) ∨ s = i ∧ e ∈ ((lf r m i).take j).map (·.1)) → ∃ c, valV kvs (keyO s e) = some (.ref c) ∧ c ∉ bs ∧ c ≠ g ∧ LsAt H3 c TII (spans r m s e))) (fun D' hD => ?_) ?_
        · refine ⟨_, rfl, p, _, dx, _, _, rfl, t2, cT, nSt, rfl, _, rfl, at_, _, _, _, rfl, rfl, SqL.of t3, at_of rfl (mapref_get hbe), .inl ⟨rfl, _, SqL.of hbe'⟩, _, rfl, be, _, _, rfl, rfl, hbe', ?_, hD _ _ ⟨rfl, t1.fresh (hbs be mbe).1, ?_, ?_, fun k b' hk => ?_, ?_, fun hr s e' hd => ?_⟩⟩
          · rw [List.length_map]
            exact Nat.lt_of_le_of_lt (sTq_len r m i j e) (Nat.lt_of_lt_of_le (show i + 1 < 102 by omega) (by decide))
          · rw [upd_ne (ne_of t2 hbe' (by intro z; cases z))]
            exact t2
          · rw [upd_ne (nbe natb)]
            exact t3
          · by_cases c : k = e
            · subst c
              have : b' = be := Option.some.inj (hk.symm.trans hbe)
              subst this
              rw [upd_same, sTq_put hep, List.map_append, Int.zero_add]
              rfl
            · have nb' : b' ≠ be := fun z => c ((List.getElem?_inj (List.getElem?_eq_some_iff.mp hk).1 hnd).mp (by rw [hk, hbe, z]))
              rw [upd_ne nb', sTq_keep hep c]
              exact t4 k b' hk
          · rw [upd_ne (nbe ngb)]
            exact t5
          · obtain ⟨c, c1, c2, c3, c4⟩ := t7 hr s e' hd
            exact ⟨c, c1, c2, c3, c4.butI but_upd hbe' (by intro _ z; cases z) (nbe c2)⟩
        rintro σ H3 ⟨rfl, z1, z2, z3, z4, z5, z7⟩
        refine ⟨_, rfl, p, _, dx, _, _, rfl, z2, cT, nRi, rfl, rivB m, rfl, ?_⟩
        by_cases hrv : 0 < m.river
        · rw [show rivB m = true from decide_eq_true hrv]
          refine iteT ?_
          refine ⟨_, rfl, _, rfl, _, rfl, _, rfl, ar, am, r, m, _, _, i, e, rfl, by omega, rfl, hrow.but (hB5.trans z1) hp (by intro _ z; cases z), ok, hm.but (hB5.trans z1) nam, mok, hse, hen, (fun z => by rw [hpr] at z; cases z), fun H4 x s n hx => ?_⟩
          refine ⟨_, rfl, p, _, dx, _, _, rfl, s _ _ z2, cT, nGa, rfl, _, rfl, _, rfl, (by show 2 ≤ sizeLine; decide), fun t2 nt2 => ?_⟩
          have s2 := same_upd (o := .tup [.int (0 + i), .int e]) nt2
          have s12 := s.trans s2
          refine ⟨g, _, rfl, DPut.t (k := keyO i e) (s12 _ _ z5) (upd_same.trans (by rw [Int.zero_add]; rfl)) (Nat.lt_of_le_of_lt t6 (Nat.lt_of_lt_of_le (show 200 * i + j < 30000 by have := (List.getElem?_eq_some_iff.mp hep).1; omega) (by decide))), ?_⟩
          refine ⟨_, _, rfl, (z1.to s12).fresh g5, ?_, ?_, fun k b' hk => ?_, _, upd_same, ?_, fun _ s' e' hd => ?_⟩
          · rw [upd_ne (ne_of (s12 _ _ z2) (s12 _ _ z5) (by intro z; cases z))]
            exact s12 _ _ z2
          · rw [upd_ne (ne_of (s12 _ _ z3) (s12 _ _ z5) (by intro z; cases z))]
            exact s12 _ _ z3
          · rw [upd_ne (ne_of (s12 _ _ (z4 k b' hk)) (s12 _ _ z5) (by intro z; cases z))]
            exact s12 _ _ (z4 k b' hk)
          · have := length_putK kvs (keyO i e) (.ref x)
            omega
          · rw [valV_put]
            by_cases c : keyO s' e' = keyO i e
            · obtain ⟨c1, c2⟩ := keyO_inj c
              subst c1 c2
              rw [if_pos rfl]
              have xg : x ≠ g := fun z => by rw [z, z5] at n; cases n
              exact ⟨x, rfl, (fun z => by obtain ⟨k, hk⟩ := List.mem_iff_getElem?.mp z; rw [z4 k x hk] at n; cases n), xg, (hx.sameI s2).butI but_upd (s12 _ _ z5) (by intro _ z; cases z) xg⟩
            · rw [if_neg c]
              obtain ⟨c0, c1, c2, c3, c4⟩ := z7 hrv s' e' (by
                rcases hd with hd | ⟨hd, he'⟩
                · exact .inl hd
                · refine .inr ⟨hd, ?_⟩
                  rw [List.take_add_one, hep, List.map_append, List.mem_append] at he'
                  refine he'.elim id fun z => ?_
                  have z : e' = e := by simpa using z
                  exact absurd (by rw [hd, z]) c)
              exact ⟨c0, c1, c2, c3, (c4.sameI s12).butI but_upd (s12 _ _ z5) (by intro _ z; cases z) c3⟩
        · rw [show rivB m = false from decide_eq_false hrv]
          refine iteF ⟨_, _, rfl, z1, z2, z3, z4, kvs, z5, by omega, fun hr => absurd hr hrv⟩
      · rintro σ H'' ⟨v4, v5, rfl, hT2⟩
        rw [hx2.length] at hT2
        exact ⟨_, v4, v5, rfl, hT2.turn lfl⟩
    · rintro σ H' ⟨v3, v4, v5, rfl, t1, t2, t3, t4, kvs, t5, t6, t7⟩
      have hnn : ((r.n : Int)).toNat = r.n := by omega
      rw [hnn] at t4 t6 t7
      refine q H' ⟨dx, ar, am, ae, at_, g, t2, hrow.but (hB5.trans t1) hp (by intro _ z; cases z), hm.but (hB5.trans t1) nam, EndsAt.but ⟨es, he1, he2, he3⟩ t1 hp5, ⟨bs, t3, hlb, fun i b e => ?_⟩, fun hr => ⟨kvs, t5, fun s e pr hm => ?_⟩⟩ (hB5.trans t1)
      · rw [t4 i b e, sTq_zero]
        rfl
      · by_cases c : s < r.n
        · rw [sE_lt c] at hm
          obtain ⟨c, c1, _, _, c2⟩ := t7 hr s e (.inl ⟨c, List.mem_map.mpr ⟨_, hm, rfl⟩⟩)
          exact ⟨c, c1, c2⟩
        · unfold sE at hm
          rw [if_neg c] at hm
          cases hm
end
end Sp
set_option maxRecDepth 100000
set_option maxHeartbeats 2000000
/-! The table as the plain law sees it; LineTable(..) and .pair(..). -/
namespace Sp
open PySem PySem.Spec PyProof.Rows L2
def prT (r : Rw) (m : Ms) (s i e : Nat) : Option Int := prC r m i e (if 0 < m.river then cov (spans r m s i) (spans r m i e) else 0)
def sysOf (r : Rw) (m : Ms) : SpM.Sys := ⟨r.n, sE r m, sT r m, prT r m, rivB m⟩
theorem sq_nn (x : Int) : 0 ≤ x * x := by
  rcases Int.le_total 0 x with h | h
  · exact Int.mul_nonneg h h
  · have := Int.mul_nonneg (a := -x) (b := -x) (by omega) (by omega)
    rw [Int.neg_mul_neg] at this
    exact this
theorem sq_nn2 (x : Int) : 0 ≤ 100 * x * x := by
  rw [Int.mul_assoc]
  exact Int.mul_nonneg (by decide) (sq_nn x)
theorem price_nn {r : Rw} {m : Ms} {e : Nat} {g : G} {rm p : Int} (mok : m.Ok) (h : price r e g rm m = some p) : 0 ≤ p := by
  unfold price at h
  obtain ⟨q, hq, e2⟩ := Option.map_eq_some_iff.mp h
  have hh := mok.h.1
  have q0 : 0 ≤ q := by
    by_cases c : m.both = true
    · rw [if_pos c] at hq
      unfold bothP at hq
      split at hq
      · split at hq
        · cases hq
        · cases hq
          exact Int.ediv_nonneg (sq_nn2 _) (sq_nn _)
      · split at hq
        · cases hq
          exact Int.le_refl _
        · split at hq
          · cases hq
          · cases hq
            exact Int.ediv_nonneg (sq_nn2 _) (sq_nn _)
    · rw [if_neg c] at hq
      unfold leftP at hq
      split at hq
      · cases hq
      · split at hq
        · cases hq
          exact Int.le_refl _
        · cases hq
          exact Int.ediv_nonneg (sq_nn2 _) (sq_nn _)
  subst e2
  split <;> omega
theorem sE_mem {r : Rw} {m : Ms} {s e : Nat} {p : Int} (h : (e, p) ∈ sE r m s) : s < r.n ∧ (e, p) ∈ lf r m s := by
  unfold sE at h
  split at h
  · exact ⟨by assumption, h⟩
  · cases h
theorem prC_nn {r : Rw} {m : Ms} {i e : Nat} {c q : Int} (mok : m.Ok) (h : prC r m i e c = some q) : 0 ≤ q := by
  have := mok.t.1
  unfold prC at h
  by_cases c1 : 0 < m.river ∧ m.river ≤ c
  · rw [if_pos c1] at h
    cases h
  · rw [if_neg c1] at h
    by_cases c2 : endsHy r i = true ∧ endsHy r e = true
    · rw [if_pos c2] at h
      cases h
      exact this
    · rw [if_neg c2] at h
      cases h
      exact Int.le_refl _
theorem sys_ok {r : Rw} {m : Ms} (mok : m.Ok) : (sysOf r m).Ok where
  e1 := fun s e p h => by
    obtain ⟨h1, h2⟩ := sE_mem h
    obtain ⟨h3, h4, h5⟩ := lf_mem h1 h2
    exact ⟨h3, h4, price_nn mok h5⟩
  e2 := fun s => by
    show (sE r m s).Pairwise _
    unfold sE
    split
    · exact lf_asc r m s
    · exact List.Pairwise.nil
  t := fun s k => by
    show s ∈ sTp r m r.n k ↔ ∃ p, (k, p) ∈ sE r m s
    unfold sTp
    rw [List.mem_filter, List.mem_range, decide_eq_true_iff]
    constructor
    · rintro ⟨h1, h2⟩
      obtain ⟨⟨e, p⟩, h3, h4⟩ := List.mem_map.mp h2
      cases h4
      exact ⟨p, by rw [sE_lt h1]; exact h3⟩
    · rintro ⟨p, h⟩
      obtain ⟨h1, h2⟩ := sE_mem h
      exact ⟨h1, List.mem_map.mpr ⟨_, h2, rfl⟩⟩
  p1 := fun s i e q h => by
    exact prC_nn mok h
  p2 := fun h s s' i e => by
    have h : rivB m = false := h
    have hr : ¬ 0 < m.river := of_decide_eq_false h
    show prT r m s i e = prT r m s' i e ∧ (prT r m s i e).isSome = true
    unfold prT prC
    rw [if_neg hr, if_neg hr, if_neg (fun z => hr z.1)]
    refine ⟨rfl, ?_⟩
    split <;> rfl
theorem sys_nd (r : Rw) (m : Ms) (k : Nat) : ((sysOf r m).T k).Nodup := List.nodup_range.filter _
theorem sys_e {r : Rw} {m : Ms} (mok : m.Ok) {s e : Nat} {p : Int} (h : (e, p) ∈ sE r m s) : s < e ∧ e ≤ r.n ∧ 0 ≤ p := (sys_ok mok).e1 s e p h
theorem spans_len (r : Rw) (m : Ms) (s e : Nat) (h : e ≤ 100) : (spans r m s e).length ≤ 100 := Nat.le_trans (spanL_len r m s e _) (by omega)
def oN : Option Nat → V
  | none => .non
  | some s => .int (s : Int)
section
variable {P : Program} {w : World} {K : PySem.W.Frag} {mg : Str → Option Value} {base : Heap}
/-! ### LineTable(..) -/
theorem tab_made {H1 : Hp} {Z : Addr → Hp → Prop} {ar am : Addr} {r : Rw} {m : Ms} (hrow : RowAt H1 ar r) (ok : r.Ok) (hm : MsAt K H1 am m) (mok : m.Ok) (q : ∀ (H' : Hp) (x : Addr), Same H1 H' → H1 x = none → TbAt K H' x r m → Z x H') :
    ∀ x dx, H1 x = none → H1 dx = none → dx ≠ x → spTi K (.ref x :: ([.ref ar, .ref am] ++ [])) (upd (upd H1 dx (.own x)) x (.ins (aTb K) dx [])) (fun v H2 => v = .non ∧ Z x H2) E0 := by
  intro x dx nx nd ne
  obtain ⟨dm, hm'⟩ := id hm
  have s2 : Same H1 (upd (upd H1 dx (.own x)) x (.ins (aTb K) dx [])) := by
    have s1 := same_upd (o := .own x) nd
    refine s1.trans (same_upd ?_)
    rw [upd_ne ne.symm]
    exact nx
  refine ⟨x, dx, ar, am, r, m, rfl, upd_same, ne_of_none hm' nx, hrow.same s2, ok, hm.same s2, mok, fun H' h1 h2 => ⟨rfl, ?_⟩⟩
  refine q H' x (fun b o e => ?_) nx h1
  exact h2 b o (s2 b o e) (ne_of_none e nx)
section
variable {X : Cx} {p pos : Pos} {e : Expr} {es : List Expr} {t : TA}
def tTb (K : PySem.W.Frag) (t : TA) : TE := fun σ H Q => t σ H fun vs H1 => ∃ (ar am : Addr) (r : Rw) (m : Ms), vs = [.ref ar, .ref am] ∧ RowAt H1 ar r ∧ r.Ok ∧ MsAt K H1 am m ∧ m.Ok ∧ ∀ (H' : Hp) (x : Addr), Same H1 H' → H1 x = none → TbAt K H' x r m → Q (.ref x) H'
theorem pe_tb (T : Tx X.K X.mg) (hr : Room 9 X.A) (hg : Gl X "LineTable") (ha : PA X (e :: es) t) (he : starEach (e :: es) X.env = (false, eval e X.env) :: starEach es X.env := by rfl)
    (hpl : (backTo pos (starEach es X.env)).any (·.1) = false := by rfl) : PE X (.Call (.Name "LineTable" p) (e :: es) [] pos) (tTb X.K t) := by
  obtain ⟨⟨f, fd, M, F, b⟩, gl⟩ := d_tab (P := X.prog) (w := X.w) (base := X.base) T
  refine ⟨fun pins s σ H Q I h => ?_⟩
  refine wpAny_Call_Name_kw (ld_glob I hg gl ?_ (by decide))
  refine PySem.W.callWith_K (h₀ := X.base) I.ok.mod.kin M.kp (thn (ha.run pos pins s σ H _ I h) fun us s1 hh => ?_) he hpl
  obtain ⟨vs, H1, I1, r', ar, am, r, m, rfl, h1, h2, h3, h4, q⟩ := hh
  refine ⟨I1.kIn, run_make (dvs := []) (ds := []) M F hr b .nil pass0 I1 r' ?_⟩
  exact tab_made (Z := fun x H' => Q (.ref x) H') h1 h2 h3 h4 q
end

/-! ### .pair(..) -/
def spPr (K : PySem.W.Frag) : L2.Sp := fun vs H Q _ => ∃ (t : Addr) (r : Rw) (m : Ms) (st : Option Nat) (y z : Int) (i e : Nat), vs = [.ref t, oN st, .int y, .int z] ∧ y = (i : Int) ∧ z = (e : Int) ∧ TbAt K H t r m ∧ r.Ok ∧ m.Ok ∧ (∃ p, (e, p) ∈ sE r m i) ∧ (∀ s, st = some s → ∃ p, (i, p) ∈ sE r m s) ∧
  ∀ H', Same H H' → Q (oI ((sysOf r m).prO st i e)) H'
theorem ok_pair (T : Tx K mg) : ∃ fd, FnOk P w K mg base CX0 3 (He.ma K (aTb K) "pair") fd ["self", "start", "middle", "end"] (spPr K) ∧ Binds K fd ["self", "start", "middle", "end"] [] := by
  obtain ⟨fd, F⟩ := F_LineTable_pair T.told
  refine ⟨fd, ?_, F.binds fun _ _ _ _ _ _ us hl => match us, hl with | [_, _, _, _], _ => rfl⟩
  have nRo := n_LineTable_row T.told
  have nFi := n_LineTable_fitting T.told
  have nRi := n_LineTable_rivers T.told
  have nGa := n_LineTable_gaps T.told
  have cT : Cls K (aTb K) := c_LineTable T.told
  have DC : Df P w K mg base CX0 1 "count_overlapping" (He.ga K "count_overlapping") ["upper", "lower"] spCo := d_co T
  have DP : Df P w K mg base CX0 2 "price_with_count" (He.ga K "price_with_count") ["row", "middle", "end", "measure", "count"] (spPc K) := d_pc T
  have nd := sc_LineTable_pair.nd
  refine F.ok sc_LineTable_pair (fun vs H Q E h => ?_) (fun cdv A outer st0 H vs Q E hr h => ?_)
  · obtain ⟨t, r, m, st, y, z, i, e, rfl, _⟩ := h
    rfl
  · obtain ⟨t, r, m, st, y, z, i, e, rfl, ey, ez, hT, ok, mok, ⟨pe, hie⟩, hst, q⟩ := h
    obtain ⟨dx, p, c, ae, at_, g, t1, t2, t3, t4, t5, t6⟩ := id hT
    have hr1 : Room 1 _ := hr.mono (by decide)
    have hu := hu_of hr
    have hn : r.n ≤ 100 := ok.n
    refine ⟨_, pss_cons (ps_if (pt_cmpR op_isN (pv 1) pe_non (nomark _)) (pss_one (ps_ret pe_int)) pss_nil)
      (pss_cons (ps_set (i := 4) nd rfl (.inl rfl) pe_int)
      (pss_cons (ps_if (pt_val (pe_fld (pv 0) rfl)) (pss_one (ps_set (i := 4) nd rfl (.inl rfl) (pe_d DC hr1 (by rfl) (pa_cons (pe_dget hu (pe_fld (pv 0) rfl) (pe_tup (pa_cons (pv 1) (pa_cons (pv 2) pa_nil))) (fun _ _ => rfl)) (pa_cons (pe_dget hu (pe_fld (pv 0) rfl) (pe_tup (pa_cons (pv 2) (pa_cons (pv 3) pa_nil))) (fun _ _ => rfl)) pa_nil))))) pss_nil)
      (pss_one (ps_ret (pe_d DP hr (by rfl) (pa_cons (pe_fld (pv 0) rfl) (pa_cons (pv 2) (pa_cons (pv 3) (pa_cons (pe_fld (pv 0) rfl) (pa_cons (pv 4) pa_nil)))))))))), ?_⟩
    refine ⟨_, rfl, rfl, _, rfl, ?_⟩
    cases st with
    | none => exact iteT (q H (Same.refl H))
    | some s =>
      obtain ⟨ps, hsi⟩ := hst s rfl
      obtain ⟨l1, l2, _⟩ := sys_e mok hie
      obtain ⟨l3, l4, _⟩ := sys_e mok hsi
      refine iteF ?_
      refine ⟨_, rfl, t, _, dx, _, _, rfl, t1, cT, nRi, rfl, rivB m, rfl, ?_⟩
      by_cases hrv : 0 < m.river
      · rw [show rivB m = true from decide_eq_true hrv]
        obtain ⟨kvs, g1, g2⟩ := t6 hrv
        obtain ⟨b1, v1, L1⟩ := g2 s i ps hsi
        obtain ⟨b2, v2, L2⟩ := g2 i e pe hie
        refine iteT ?_
        refine ⟨_, rfl, t, _, dx, _, _, rfl, t1, cT, nGa, rfl, _, rfl, _, rfl, (by show 2 ≤ sizeLine; decide), fun a1 n1 => ?_⟩
        have s1 := same_upd (o := .tup [.int (s : Int), .int y]) n1
        refine ⟨g, _, rfl, v1 ▸ DGet.t (k := keyO s i) (s1 _ _ g1) (upd_same.trans (by rw [ey]; rfl)), ?_⟩
        refine ⟨_, rfl, t, _, dx, _, _, rfl, s1 _ _ t1, cT, nGa, rfl, _, rfl, _, rfl, (by show 2 ≤ sizeLine; decide), fun a2 n2 => ?_⟩
        have s2 := same_upd (o := .tup [.int y, .int z]) n2
        have s12 := s1.trans s2
        refine ⟨g, _, rfl, v2 ▸ DGet.t (k := keyO i e) (s12 _ _ g1) (upd_same.trans (by rw [ey, ez]; rfl)), ?_⟩
        refine ⟨b1, b2, _, _, rfl, L1.sameI s12, L2.sameI s12, spans_len r m s i (by omega), ?_⟩
        refine ⟨_, rfl, t, _, dx, _, _, rfl, s12 _ _ t1, cT, nRo, rfl, _, rfl, _, rfl, _, rfl, t, _, dx, _, _, rfl, s12 _ _ t1, cT, nFi, rfl, _, rfl, p, c, r, m, _, _, _, i, e, rfl, ey, ez, t2.same s12, ok, t3.same s12, by omega, by omega, ?_⟩
        have q' : (sysOf r m).prO (some s) i e = prC r m i e (cov (spans r m s i) (spans r m i e)) := by
          show prT r m s i e = _
          unfold prT
          rw [if_pos hrv]
        have q := q _ s12
        rw [q'] at q
        exact q
      · rw [show rivB m = false from decide_eq_false hrv]
        refine iteF ?_
        refine ⟨_, rfl, t, _, dx, _, _, rfl, t1, cT, nRo, rfl, _, rfl, _, rfl, _, rfl, t, _, dx, _, _, rfl, t1, cT, nFi, rfl, _, rfl, p, c, r, m, _, _, _, i, e, rfl, ey, ez, t2, ok, t3, by omega, by omega, ?_⟩
        have q' : (sysOf r m).prO (some s) i e = prC r m i e 0 := by
          show prT r m s i e = _
          unfold prT
          rw [if_neg hrv]
        have q := q H (Same.refl H)
        rw [q'] at q
        exact q
end
end Sp
set_option maxRecDepth 100000
set_option maxHeartbeats 2000000
/-! The tuples of the searches as data, and min() of them. -/
namespace Sp
open PySem PySem.Spec PyProof.Rows L2
open PySem.W
def dI (i : Nat) : PyData := .int (i : Int)
def oD : Option Nat → PyData
  | none => .none
  | some s => .int (s : Int)
def dF (x : SpM.FT) : PyData := .tuple [.int x.1, .int x.2.1, .tuple (x.2.2.map dI)]
def dP (x : SpM.PT) : PyData := .tuple [.int x.1, .int x.2.1, .tuple (x.2.2.1.map dI), oD x.2.2.2]
def dC (x : SpM.CT) : PyData := .tuple [.int x.1, .int x.2.1, dI x.2.2]
abbrev lx (xs ys : List PyData) : Bool := PyProof.Rows.lexLt itemOrd (keyToksAll xs) (keyToksAll ys)
theorem eqv_int (a b : Int) : PyData.eqv (.int a) (.int b) = decide (a = b) := by
  rw [PyData.eqv]
  by_cases h : a = b
  · subst h
    simp
  · simp [h]
theorem lx_int (a b : Int) (xs ys : List PyData) : lx (.int a :: xs) (.int b :: ys) = (decide (a < b) || (decide (a = b) && lx xs ys)) := by
  unfold lx
  rw [dataLt_cons (by rfl), eqv_int]
  by_cases h : a = b
  · subst h
    simp
  · rw [decide_eq_false h, if_neg Bool.false_ne_true, dataLt_int]
    simp
theorem lx_nil : lx [] [] = false := lex_irrefl _
theorem lx_ints : ∀ l m : List Nat, lx (l.map dI) (m.map dI) = SpM.ltLb l m
  | [], [] => lx_nil
  | [], b :: m => by
    show lx [] (dI b :: m.map dI) = true
    unfold lx
    rw [toks_all_cons]
    simp only [keyToksAll]
    rw [lex_diff (O := itemOrd) (by simp)]
    rfl
  | a :: l, [] => by
    show lx (dI a :: l.map dI) [] = false
    unfold lx
    rw [toks_all_cons]
    simp only [keyToksAll]
    rw [lex_diff (O := itemOrd) (by simp)]
    rfl
  | a :: l, b :: m => by
    show lx (.int (a : Int) :: l.map dI) (.int (b : Int) :: m.map dI) = (decide (a < b) || (decide (a = b) && SpM.ltLb l m))
    rw [lx_int, lx_ints l m]
    congr 1
    · exact decide_eq_decide.mpr (by omega)
    · congr 1
      exact decide_eq_decide.mpr (by omega)
theorem alike_dI : ∀ l m : List Nat, PySem.W.alikeAll (l.map dI) (m.map dI) = true
  | [], _ => by simp [PySem.W.alikeAll]
  | _ :: _, [] => by simp [PySem.W.alikeAll]
  | a :: l, b :: m => by
    show PySem.W.alikeAll (.int (a : Int) :: l.map dI) (.int (b : Int) :: m.map dI) = true
    rw [PySem.W.alikeAll, alike_dI l m]
    rfl
theorem alike_tI (l m : List Nat) : PySem.W.alike (.tuple (l.map dI)) (.tuple (m.map dI)) = true := by
  rw [PySem.W.alike]
  exact alike_dI l m
theorem eqv_dI : ∀ l m : List Nat, PyData.eqvAll (l.map dI) (m.map dI) = decide (l = m)
  | [], [] => by simp [PyData.eqvAll]
  | [], b :: m => by simp [PyData.eqvAll]
  | a :: l, [] => by simp [PyData.eqvAll]
  | a :: l, b :: m => by
    show PyData.eqvAll (.int (a : Int) :: l.map dI) (.int (b : Int) :: m.map dI) = _
    rw [PySem.W.eqv_all_cons, eqv_int, eqv_dI l m]
    by_cases h : a = b
    · subst h
      simp
    · have h' : ¬ (a : Int) = b := by omega
      simp [h, h']
theorem eqv_tI (l m : List Nat) : PyData.eqv (.tuple (l.map dI)) (.tuple (m.map dI)) = decide (l = m) := by
  rw [PyData.eqv]
  exact eqv_dI l m
theorem lx_tI (l m : List Nat) (xs ys : List PyData) : lx (.tuple (l.map dI) :: xs) (.tuple (m.map dI) :: ys) = (if l = m then lx xs ys else SpM.ltLb l m) := by
  unfold lx
  rw [dataLt_cons (alike_tI l m), eqv_tI]
  by_cases h : l = m
  · rw [decide_eq_true h, if_pos rfl, if_pos h]
  · rw [decide_eq_false h, if_neg Bool.false_ne_true, if_neg h, dataLt_tuple]
    exact lx_ints l m
theorem ltLb_self : ∀ l : List Nat, SpM.ltLb l l = false
  | [] => rfl
  | a :: l => by simp [SpM.ltLb, ltLb_self l]
theorem lt_dF (x y : SpM.FT) : dataLt (dF x) (dF y) = SpM.ltF x y := by
  unfold dF SpM.ltF
  rw [dataLt_tuple]
  show lx _ _ = _
  rw [lx_int, lx_int, lx_tI]
  by_cases h : x.2.2 = y.2.2
  · rw [if_pos h, lx_nil, h, ltLb_self]
  · rw [if_neg h]
theorem lt_dC (x y : SpM.CT) : dataLt (dC x) (dC y) = SpM.ltC x y := by
  unfold dC SpM.ltC dI
  rw [dataLt_tuple]
  show lx _ _ = _
  rw [lx_int, lx_int, lx_int, lx_nil, Bool.and_false, Bool.or_false]
  congr 3
  congr 1
  exact decide_eq_decide.mpr (by omega)
theorem lt_dP {x y : SpM.PT} {s t : Nat} (hx : x.2.2.2 = some s) (hy : y.2.2.2 = some t) : dataLt (dP x) (dP y) = SpM.ltP x y := by
  obtain ⟨a, b, c, d⟩ := x
  obtain ⟨a', b', c', d'⟩ := y
  simp only at hx hy
  subst hx hy
  unfold dP SpM.ltP SpM.ltF SpM.toF oD
  rw [dataLt_tuple]
  show lx _ _ = _
  rw [lx_int, lx_int, lx_tI]
  simp only [Option.getD_some]
  by_cases h1 : a = a'
  · subst h1
    by_cases h2 : b = b'
    · subst h2
      by_cases h3 : c = c'
      · subst h3
        rw [if_pos rfl, lx_int, lx_nil, ltLb_self]
        simp
      · rw [if_neg h3]
        simp [h3]
    · simp [h2]
  · simp [h1]
theorem alike_dF (x y : SpM.FT) : PySem.W.alike (dF x) (dF y) = true := by
  unfold dF
  simp only [PySem.W.alike, PySem.W.alikeAll, alike_dI, Bool.and_self]
theorem alike_dC (x y : SpM.CT) : PySem.W.alike (dC x) (dC y) = true := by
  unfold dC dI
  simp only [PySem.W.alike, PySem.W.alikeAll, Bool.and_self]
theorem alike_dP {x y : SpM.PT} (h : x.2.2.2.isSome = y.2.2.2.isSome) : PySem.W.alike (dP x) (dP y) = true := by
  obtain ⟨a, b, c, d⟩ := x
  obtain ⟨a', b', c', d'⟩ := y
  unfold dP
  cases d <;> cases d' <;> simp only [Option.isSome_none, Option.isSome_some, Bool.false_eq_true, Bool.true_eq_false] at h <;> simp only [PySem.W.alike, PySem.W.alikeAll, alike_dI, Bool.and_self, oD]
theorem dp_dI : ∀ l : List Nat, PyData.depthAll (l.map dI) = 0
  | [] => rfl
  | a :: l => by
    show max (PyData.depth (.int (a : Int))) (PyData.depthAll (l.map dI)) = 0
    rw [dp_dI l]
    rfl
theorem depth_all {α : Type} (f : α → PyData) (n : Nat) (h : ∀ x, (f x).depth ≤ n) : ∀ l : List α, PyData.depthAll (l.map f) ≤ n
  | [] => Nat.zero_le _
  | a :: l => Nat.max_le.mpr ⟨h a, depth_all f n h l⟩
theorem depth_dF (x : SpM.FT) : (dF x).depth ≤ 10 := by
  unfold dF
  simp only [PyData.depth, PyData.depthAll, dp_dI]
  decide
theorem depth_dC (x : SpM.CT) : (dC x).depth ≤ 10 := by
  unfold dC dI
  simp only [PyData.depth, PyData.depthAll]
  decide
theorem depth_dP (x : SpM.PT) : (dP x).depth ≤ 10 := by
  unfold dP
  cases x.2.2.2 <;> simp only [PyData.depth, PyData.depthAll, dp_dI, oD] <;> decide
theorem minOf_map_on {α β : Type} {lt : α → α → Bool} {lt' : β → β → Bool} (f : α → β) (L : List α) (h : ∀ x ∈ L, ∀ y ∈ L, lt' (f x) (f y) = lt x y) : SpM.minOf lt' (L.map f) = (SpM.minOf lt L).map f := by
  cases L with
  | nil => rfl
  | cons x xs =>
    show some ((xs.map f).foldl _ (f x)) = some (f (xs.foldl _ x))
    congr 1
    have key : ∀ (l : List α) (b : α), b ∈ x :: xs → (∀ y ∈ l, y ∈ x :: xs) → (l.map f).foldl (fun b y => if lt' y b = true then y else b) (f b) = f (l.foldl (fun b y => if lt y b = true then y else b) b) := by
      intro l
      induction l with
      | nil => intro b _ _; rfl
      | cons a l ih =>
        intro b hb hl
        rw [List.map_cons, List.foldl_cons, List.foldl_cons, h a (hl a List.mem_cons_self) b hb]
        by_cases c : lt a b = true
        · rw [if_pos c, if_pos c]
          exact ih a (hl a List.mem_cons_self) fun y hy => hl y (List.mem_cons_of_mem _ hy)
        · rw [if_neg c, if_neg c]
          exact ih b hb fun y hy => hl y (List.mem_cons_of_mem _ hy)
    exact key xs x List.mem_cons_self fun y hy => List.mem_cons_of_mem _ hy
/-! ### on the heap -/
def ITI (H : Hp) (v : V) (l : List Nat) : Prop := ∃ u, v = .ref u ∧ H u = some (.tup (l.map intV))
def FTI (H : Hp) (v : V) (x : SpM.FT) : Prop := ∃ a u, v = .ref a ∧ H a = some (.tup [.int x.1, .int x.2.1, .ref u]) ∧ H u = some (.tup (x.2.2.map intV))
def PTI (H : Hp) (v : V) (x : SpM.PT) : Prop := ∃ a u, v = .ref a ∧ H a = some (.tup [.int x.1, .int x.2.1, .ref u, oN x.2.2.2]) ∧ H u = some (.tup (x.2.2.1.map intV))
def CTI (H : Hp) (v : V) (x : SpM.CT) : Prop := ∃ a, v = .ref a ∧ H a = some (.tup [.int x.1, .int x.2.1, intV x.2.2])
/-- items that keep as tuples keep -/
def TupOnly {β : Type} (Z : Hp → V → β → Prop) : Prop := ∀ (H H' : Hp) (v : V) (y : β), (∀ b ys, H b = some (.tup ys) → H' b = some (.tup ys)) → Z H v y → Z H' v y
theorem to_F : TupOnly FTI := fun H H' v y k ⟨a, u, e, h1, h2⟩ => ⟨a, u, e, k _ _ h1, k _ _ h2⟩
theorem to_P : TupOnly PTI := fun H H' v y k ⟨a, u, e, h1, h2⟩ => ⟨a, u, e, k _ _ h1, k _ _ h2⟩
theorem to_C : TupOnly CTI := fun H H' v y k ⟨a, e, h1⟩ => ⟨a, e, k _ _ h1⟩
section
variable {β : Type} {Z : Hp → V → β → Prop} {H H' : Hp} {a x : Addr} {o : HO} {l : List β}
theorem LsAt.sameZ (t : TupOnly Z) (h : LsAt H a Z l) (s : Same H H') : LsAt H' a Z l := h.imp fun _ e => ⟨s _ _ e.1, e.2.imp fun _ _ z => t _ _ _ _ (fun b ys q => s _ _ q) z⟩
theorem LsAt.butZ (t : TupOnly Z) (h : LsAt H a Z l) (hB : But x H H') (hx : H x = some o) (ho : ∀ ys, o ≠ .tup ys) (n : a ≠ x) : LsAt H' a Z l :=
  h.imp fun _ e => ⟨hB _ _ e.1 n, e.2.imp fun _ _ z => t _ _ _ _ (fun b ys q => hB _ _ q (ne_of q hx fun w => ho _ w.symm)) z⟩
theorem A2.butZ (t : TupOnly Z) {xs : List V} (h : A2 (Z H) xs l) (hB : But x H H') (hx : H x = some o) (ho : ∀ ys, o ≠ .tup ys) : A2 (Z H') xs l :=
  h.imp fun _ _ z => t _ _ _ _ (fun b ys q => hB _ _ q (ne_of q hx fun w => ho _ w.symm)) z
theorem A2.sameZ (t : TupOnly Z) {xs : List V} (h : A2 (Z H) xs l) (s : Same H H') : A2 (Z H') xs l := h.imp fun _ _ z => t _ _ _ _ (fun b ys q => s _ _ q) z
/-- y put at the end of the list at a -/
theorem ls_push (t : TupOnly Z) {xs : List V} {v : V} {y : β} (h1 : H a = some (.lst xs)) (h2 : A2 (Z H) xs l) (h3 : Z H v y) : LsAt (upd H a (.lst (xs ++ [v]))) a Z (l ++ [y]) := by
  have k : ∀ b ys, H b = some (.tup ys) → upd H a (.lst (xs ++ [v])) b = some (.tup ys) := fun b ys q => by
    rw [upd_ne (ne_of q h1 (by intro w; cases w))]
    exact q
  exact ⟨_, upd_same, (h2.imp fun _ _ z => t _ _ _ _ k z).snoc (t _ _ _ _ k h3)⟩
end
section
variable {K : PySem.W.Frag} {H : Hp}
theorem dp_ints : ∀ l : List Nat, DpAll K H (l.map intV) (l.map dI)
  | [] => .nil
  | i :: l => .cons (.int _) (dp_ints l)
theorem dp_F {v : V} {x : SpM.FT} (h : FTI H v x) : Dp K H v (dF x) := by
  obtain ⟨a, u, rfl, h1, h2⟩ := h
  exact .tup (SqT.of h1) (.cons (.int _) (.cons (.int _) (.cons (.tup (SqT.of h2) (dp_ints _)) .nil)))
theorem dp_P {v : V} {x : SpM.PT} (h : PTI H v x) : Dp K H v (dP x) := by
  obtain ⟨a, u, rfl, h1, h2⟩ := h
  refine .tup (SqT.of h1) (.cons (.int _) (.cons (.int _) (.cons (.tup (SqT.of h2) (dp_ints _)) (.cons ?_ .nil))))
  cases x.2.2.2 with
  | none => exact .non
  | some s => exact .int _
theorem dp_C {v : V} {x : SpM.CT} (h : CTI H v x) : Dp K H v (dC x) := by
  obtain ⟨a, rfl, h1⟩ := h
  exact .tup (SqT.of h1) (.cons (.int _) (.cons (.int _) (.cons (.int _) .nil)))
theorem dp_all {β : Type} {Z : V → β → Prop} {f : β → PyData} (h : ∀ v y, Z v y → Dp K H v (f y)) : ∀ {xs : List V} {l : List β}, A2 Z xs l → DpAll K H xs (l.map f)
  | _, _, .nil => .nil
  | _, _, .cons z t => .cons (h _ _ z) (dp_all h t)
/-- min() of a list of items: the reading -/
theorem min_of {β : Type} {Z : Hp → V → β → Prop} {f : β → PyData} {lt : β → β → Bool} {a : Addr} {l : List β} {m : β} {Q : VK} (hd : ∀ v y, Z H v y → Dp K H v (f y)) (hm : SpM.minOf lt l = some m) (hl : ∀ x ∈ l, ∀ y ∈ l, dataLt (f x) (f y) = lt x y ∨ l = [x])
    (ha : ∀ x ∈ l, ∀ y ∈ l, PySem.W.alike (f x) (f y) = true) (hn : ∀ x, f x ≠ .none) (hz : ∀ x, (f x).depth ≤ 10) (inj : ∀ x ∈ l, ∀ y ∈ l, f x = f y → x = y) (h : LsAt H a Z l) (q : ∀ v, Z H v m → Q v H) : rMinD K [.ref a] H Q := by
  obtain ⟨xs, h1, h2⟩ := h
  have hmem : m ∈ l := minOf_mem hm
  refine ⟨a, xs, l.map f, f m, rfl, SqL.of h1, dp_all hd h2, ⟨fun x hx y hy => ?_, fun x hx => ?_⟩, depth_all f 10 hz l, ?_, fun i x hx hi => ?_⟩
  · obtain ⟨x', hx', rfl⟩ := List.mem_map.mp hx
    obtain ⟨y', hy', rfl⟩ := List.mem_map.mp hy
    exact ha x' hx' y' hy'
  · obtain ⟨x', hx', rfl⟩ := List.mem_map.mp hx
    exact hn x'
  · by_cases c : ∃ x, l = [x]
    · obtain ⟨x, rfl⟩ := c
      have hm' : some x = some m := hm
      cases hm'
      rfl
    · rw [minOf_map_on f l fun x hx y hy => (hl x hx y hy).resolve_right fun z => c ⟨x, z⟩, hm]
      rfl
  · obtain ⟨y, hy, hz'⟩ := h2.get hx
    rw [List.getElem?_map, hy] at hi
    have e : f y = f m := Option.some.inj hi
    have := inj y (List.mem_of_getElem? hy) m hmem e
    subst this
    exact q x hz'
theorem dI_inj : ∀ {l m : List Nat}, l.map dI = m.map dI → l = m
  | [], [], _ => rfl
  | [], _ :: _, h => by cases h
  | _ :: _, [], h => by cases h
  | a :: l, b :: m, h => by
    obtain ⟨h1, h2⟩ := List.cons.inj h
    have h1 : (a : Int) = b := PyData.int.inj h1
    rw [dI_inj h2, show a = b by omega]
theorem dF_inj {x y : SpM.FT} (h : dF x = dF y) : x = y := by
  obtain ⟨a, b, c⟩ := x
  obtain ⟨a', b', c'⟩ := y
  unfold dF at h
  simp only [PyData.tuple.injEq, List.cons.injEq, PyData.int.injEq, and_true] at h
  obtain ⟨h1, h2, h3⟩ := h
  rw [h1, h2, dI_inj h3]
theorem dC_inj {x y : SpM.CT} (h : dC x = dC y) : x = y := by
  obtain ⟨a, b, c⟩ := x
  obtain ⟨a', b', c'⟩ := y
  unfold dC dI at h
  simp only [PyData.tuple.injEq, List.cons.injEq, PyData.int.injEq, and_true] at h
  obtain ⟨h1, h2, h3⟩ := h
  rw [h1, h2, show c = c' by omega]
theorem dP_inj {x y : SpM.PT} (h : dP x = dP y) : x = y := by
  obtain ⟨a, b, c, d⟩ := x
  obtain ⟨a', b', c', d'⟩ := y
  unfold dP at h
  simp only [PyData.tuple.injEq, List.cons.injEq, PyData.int.injEq, and_true] at h
  obtain ⟨h1, h2, h3, h4⟩ := h
  rw [h1, h2, dI_inj h3]
  cases d with
  | none =>
    cases d' with
    | none => rfl
    | some s => cases h4
  | some s =>
    cases d' with
    | none => cases h4
    | some s' =>
      have h4 : (s : Int) = s' := PyData.int.inj h4
      rw [show s = s' by omega]
theorem min_F {a : Addr} {l : List SpM.FT} {m : SpM.FT} {Q : VK} (hm : SpM.minOf SpM.ltF l = some m) (h : LsAt H a FTI l) (q : ∀ v, FTI H v m → Q v H) : rMinD K [.ref a] H Q :=
  min_of (f := dF) (fun _ _ => dp_F) hm (fun x _ y _ => .inl (lt_dF x y)) (fun x _ y _ => alike_dF x y) (fun x z => by unfold dF at z; cases z) depth_dF (fun _ _ _ _ => dF_inj) h q
theorem min_C {a : Addr} {l : List SpM.CT} {m : SpM.CT} {Q : VK} (hm : SpM.minOf SpM.ltC l = some m) (h : LsAt H a CTI l) (q : ∀ v, CTI H v m → Q v H) : rMinD K [.ref a] H Q :=
  min_of (f := dC) (fun _ _ => dp_C) hm (fun x _ y _ => .inl (lt_dC x y)) (fun x _ y _ => alike_dC x y) (fun x z => by unfold dC at z; cases z) depth_dC (fun _ _ _ _ => dC_inj) h q
theorem min_P {a : Addr} {l : List SpM.PT} {m : SpM.PT} {Q : VK} (hm : SpM.minOf SpM.ltP l = some m) (hs : (∀ x ∈ l, ∃ s, x.2.2.2 = some s) ∨ ∃ x, l = [x]) (h : LsAt H a PTI l) (q : ∀ v, PTI H v m → Q v H) : rMinD K [.ref a] H Q := by
  refine min_of (f := dP) (fun _ _ => dp_P) hm (fun x hx y hy => ?_) (fun x hx y hy => ?_) (fun x z => by unfold dP at z; cases z) depth_dP (fun _ _ _ _ => dP_inj) h q
  · rcases hs with hs | ⟨z, rfl⟩
    · obtain ⟨s, es⟩ := hs x hx
      obtain ⟨t, et⟩ := hs y hy
      exact .inl (lt_dP es et)
    · rw [List.mem_singleton.mp hx]
      exact .inr rfl
  · refine alike_dP ?_
    rcases hs with hs | ⟨z, rfl⟩
    · obtain ⟨s, es⟩ := hs x hx
      obtain ⟨t, et⟩ := hs y hy
      rw [es, et]
      rfl
    · rw [List.mem_singleton.mp hx, List.mem_singleton.mp hy]
end
end Sp
set_option maxRecDepth 100000
set_option maxHeartbeats 2000000
/-! prefixes_to. -/
namespace Sp
open PySem PySem.Spec PyProof.Rows L2
/-- a dict by pairs of places -/
def DtAt {β : Type} (Z : Hp → V → β → Prop) (H : Hp) (a : Addr) (b : Nat → Nat → Option β) (N : Nat) : Prop := ∃ kvs, H a = some (.dT kvs) ∧ kvs.length ≤ N ∧
  ∀ s k, (b s k = none → valV kvs (keyO s k) = none) ∧ ∀ x, b s k = some x → ∃ v, valV kvs (keyO s k) = some v ∧ Z H v x
section
variable {β : Type} {Z : Hp → V → β → Prop} {H H' : Hp} {a x t : Addr} {o : HO} {b : Nat → Nat → Option β} {N : Nat}
theorem DtAt.same (T : TupOnly Z) (h : DtAt Z H a b N) (s : Same H H') : DtAt Z H' a b N := h.imp fun _ e => ⟨s _ _ e.1, e.2.1, fun i k => ⟨(e.2.2 i k).1, fun x q => ((e.2.2 i k).2 x q).imp fun _ z => ⟨z.1, T _ _ _ _ (fun b ys q => s _ _ q) z.2⟩⟩⟩
theorem DtAt.but (T : TupOnly Z) (h : DtAt Z H a b N) (hB : But x H H') (hx : H x = some o) (ho : ∀ ys, o ≠ .tup ys) (n : a ≠ x) : DtAt Z H' a b N :=
  h.imp fun _ e => ⟨hB _ _ e.1 n, e.2.1, fun i k => ⟨(e.2.2 i k).1, fun x q => ((e.2.2 i k).2 x q).imp fun _ z => ⟨z.1, T _ _ _ _ (fun b ys q => hB _ _ q (ne_of q hx fun w => ho _ w.symm)) z.2⟩⟩⟩
theorem DtAt.le {M : Nat} (h : DtAt Z H a b N) (l : N ≤ M) : DtAt Z H a b M := h.imp fun _ e => ⟨e.1, Nat.le_trans e.2.1 l, e.2.2⟩
theorem DtAt.put (T : TupOnly Z) (h : DtAt Z H a b N) {s k : Nat} {v : V} {y : β} (hv : Z H v y) (ht : H t = some (.tup ((keyO s k).map kV))) (hN : N < 100000) : ∃ H1, DPut H a (.ref t) v H1 ∧ DtAt Z H1 a (SpM.setM b s k y) (N + 1) ∧ But a H H1 := by
  obtain ⟨kvs, h1, h2, h3⟩ := h
  refine ⟨_, DPut.t h1 ht (Nat.lt_of_lt_of_le (Nat.lt_of_le_of_lt h2 hN) (by decide)), ⟨_, upd_same, ?_, fun i j => ?_⟩, but_upd⟩
  · have := length_putK kvs (keyO s k) v
    omega
  · have kp : ∀ u z, Z H u z → Z (upd H a (.dT (putK kvs (keyO s k) v))) u z := fun u z q => T _ _ _ _ (fun b ys q => but_upd _ _ q (ne_of q h1 (by intro w; cases w))) q
    rw [valV_put]
    unfold SpM.setM
    by_cases c : i = s ∧ j = k
    · obtain ⟨c1, c2⟩ := c
      subst c1 c2
      rw [if_pos (show i = i ∧ j = j from ⟨rfl, rfl⟩), if_pos rfl]
      refine ⟨fun z => (by cases z), fun x z => ?_⟩
      cases z
      exact ⟨v, rfl, kp _ _ hv⟩
    · rw [if_neg c, if_neg fun z => c (keyO_inj z)]
      exact ⟨(h3 i j).1, fun x z => ((h3 i j).2 x z).imp fun _ q => ⟨q.1, kp _ _ q.2⟩⟩
theorem DtAt.has (h : DtAt Z H a b N) (ht : H t = some (.tup ((keyO i k).map kV))) : ∃ o, DGet H a (.ref t) o ∧ o.isSome = (b i k).isSome := by
  obtain ⟨kvs, h1, h2, h3⟩ := h
  refine ⟨_, DGet.t h1 ht, ?_⟩
  cases e : b i k with
  | none => rw [(h3 i k).1 e]; rfl
  | some x =>
    obtain ⟨v, hv, _⟩ := (h3 i k).2 x e
    rw [hv]
    rfl
theorem DtAt.get {y : β} (h : DtAt Z H a b N) (ht : H t = some (.tup ((keyO i k).map kV))) (e : b i k = some y) : ∃ v, DGet H a (.ref t) (some v) ∧ Z H v y := by
  obtain ⟨kvs, h1, h2, h3⟩ := h
  obtain ⟨v, hv, hz⟩ := (h3 i k).2 y e
  exact ⟨v, hv ▸ DGet.t h1 ht, hz⟩
end
def pfxE (best : SpM.FM) (k s : Nat) : Option SpM.PT := (best s k).map fun x => (x.1, x.2.1, x.2.2, some s)
def pfxL (S : SpM.Sys) (best : SpM.FM) (k : Nat) : List SpM.PT := (S.T k).filterMap (pfxE best k)
theorem pfxL_some {S : SpM.Sys} {best : SpM.FM} {k : Nat} : ∀ x ∈ pfxL S best k, ∃ s, x.2.2.2 = some s := by
  intro x hx
  obtain ⟨s, _, h⟩ := List.mem_filterMap.mp hx
  unfold pfxE at h
  obtain ⟨q, _, rfl⟩ := Option.map_eq_some_iff.mp h
  exact ⟨s, rfl⟩
theorem pfx_eq (S : SpM.Sys) (best : SpM.FM) (k : Nat) : SpM.pfx S best k = if k = 0 then [(0, 0, [], none)] else if S.riv = true then pfxL S best k else (SpM.minOf SpM.ltP (pfxL S best k)).toList := rfl
theorem pfx_some (S : SpM.Sys) (best : SpM.FM) (k : Nat) : (∀ x ∈ SpM.pfx S best k, ∃ s, x.2.2.2 = some s) ∨ ∃ x, SpM.pfx S best k = [x] := by
  rw [pfx_eq]
  by_cases h : k = 0
  · rw [if_pos h]
    exact .inr ⟨_, rfl⟩
  · rw [if_neg h]
    by_cases h2 : S.riv = true
    · rw [if_pos h2]
      exact .inl pfxL_some
    · rw [if_neg h2]
      refine .inl fun x hx => ?_
      cases e : SpM.minOf SpM.ltP (pfxL S best k) with
      | none => rw [e] at hx; cases hx
      | some y =>
        rw [e] at hx
        have : x = y := by simpa using hx
        subst this
        exact pfxL_some x (minOf_mem e)
theorem take_filterMap {α β : Type} {f : α → Option β} {l : List α} {i : Nat} {x : α} (h : l[i]? = some x) : (l.take (i + 1)).filterMap f = (l.take i).filterMap f ++ (f x).toList := by
  rw [List.take_add_one, h, List.filterMap_append]
  cases e : f x <;> simp [e]
theorem sc_PT : FnScope ["table", "best", "place", "found", "start"] ["table", "best", "place"] (defScope s_prefixes_to) := ⟨rfl, rfl, rfl, by decide +kernel, rfl, by decide +kernel, by decide +kernel⟩
section
variable {P : Program} {w : World} {K : PySem.W.Frag} {mg : Str → Option Value} {base : Heap}
def spPt (K : PySem.W.Frag) : L2.Sp := fun vs H Q _ => ∃ (t b : Addr) (r : Rw) (m : Ms) (y : Int) (k N : Nat) (best : SpM.FM), vs = [.ref t, .ref b, .int y] ∧ y = (k : Int) ∧ TbAt K H t r m ∧ r.Ok ∧ k ≤ r.n ∧ DtAt FTI H b best N ∧
  ∀ (H' : Hp) (x : Addr), Same H H' → H x = none → LsAt H' x PTI (SpM.pfx (sysOf r m) best k) → Q (.ref x) H'
theorem d_pt (T : Tx K mg) : Df P w K mg base CX0 1 "prefixes_to" (He.ga K "prefixes_to") ["table", "best", "place"] (spPt K) := by
  obtain ⟨fd, F⟩ := F_prefixes_to T.told
  refine ⟨⟨fd, ?_, F.binds fun _ _ _ _ _ _ us hl => match us, hl with | [_, _, _], _ => rfl⟩, F.kp, g_prefixes_to T⟩
  have nRi := n_LineTable_rivers T.told
  have nSt := n_LineTable_starts_to T.told
  have cT : Cls K (aTb K) := c_LineTable T.told
  have nd := sc_PT.nd
  refine F.ok sc_PT (fun vs H Q E h => ?_) (fun cdv A outer st H vs Q E hr h => ?_)
  · obtain ⟨t, b, r, m, y, k, N, best, rfl, _⟩ := h
    rfl
  · obtain ⟨t, b, r, m, y, k, N, best, rfl, ey, hT, ok, hk, hb, q⟩ := h
    have hu := hu_of hr
    have hn : r.n ≤ 100 := ok.n
    refine ⟨_, pss_cons (ps_if (pt_cmpR op_eq (pv 2) pe_int (nomark _)) (pss_one (ps_ret (pe_lst (pa_cons (pe_tup (pa_cons pe_int (pa_cons pe_int (pa_cons (pe_tup pa_nil) (pa_cons pe_non pa_nil))))) pa_nil)))) pss_nil)
      (pss_cons (ps_setLc (i := 3) (own := [("start", 4)]) (g := gName 4) rfl nd rfl rfl (by rfl) (pi_list (pe_ix ix_list (pe_fld (pv 0) rfl) (pv 2) (fun _ _ => rfl))) (blkOk_by (N := ["table", "best", "place", "found", "start"]) (sc := defScope s_prefixes_to) (by decide +kernel))
          (fun _ _ _ _ _ => pg_name (i := 4) nd rfl (.inl rfl)) (fun _ _ _ _ _ => pts_one (pt_cmp (pc_din hu (pe_tup (pa_cons (pv 4) (pa_cons (pv 2) pa_nil))) (pv 1)))) (fun _ _ _ _ _ => pe_op (show OpR _ (binaryOp .Add) (rCatT K) from op_catT) (pe_dget hu (pv 1) (pe_tup (pa_cons (pv 4) (pa_cons (pv 2) pa_nil))) (fun _ _ => rfl)) (pe_tup (pa_cons (pv 4) pa_nil))))
      (pss_cons (ps_if (PW.pt (pw_and (pt_cmpR op_gt (pe_callB call_len_seq (by rfl) (z_len T) PySem.boot_len (pa_cons (pv 3) pa_nil)) pe_int (nomark _)) (pw_and1 (pt_not (pt_val (pe_fld (pv 0) rfl))))))
          (pss_one (ps_ret (pe_lst (pa_cons (pe_callB (cr_minD rfl hr.units) (by rfl) (z_min T) (by decide +kernel) (pa_cons (pv 3) pa_nil)) pa_nil)))) pss_nil)
      (pss_one (ps_ret (pv 3))))), ?_⟩
    obtain ⟨dx, p, c, ae, at_, g, t1, t2, t3, t4, ⟨bs, b1, b2, b3⟩, t6⟩ := id hT
    refine ⟨_, rfl, rfl, _, rfl, ?_⟩
    rw [pfx_eq] at q
    by_cases c0 : k = 0
    · have c' : V.int y = V.int 0 := by rw [ey, c0]; rfl
      rw [decide_eq_true c']
      rw [if_pos c0] at q
      refine iteT ⟨Nat.zero_le _, fun u nu => ⟨by show 4 ≤ sizeLine; decide, fun x nx => ⟨by show 1 ≤ sizeLine; decide, fun l nl => ?_⟩⟩⟩
      have s1 := same_upd (o := .tup []) nu
      have s2 := same_upd (o := .tup [.int 0, .int 0, .ref u, .non]) nx
      have s3 := same_upd (o := .lst [.ref x]) nl
      refine q _ l ((s1.trans s2).trans s3) ((s1.trans s2).free nl) ⟨_, upd_same, .cons ⟨x, u, rfl, s3 _ _ upd_same, s3 _ _ (s2 _ _ upd_same)⟩ .nil⟩
    rw [if_neg c0] at q
    have c' : ¬ V.int y = V.int 0 := fun z => c0 (by have := V.int.inj z; omega)
    rw [decide_eq_false c']
    refine iteF ?_
    obtain ⟨bk, hbk⟩ : ∃ d, bs[k]? = some d := ⟨_, List.getElem?_eq_getElem (by omega)⟩
    have hl := b3 k bk hbk
    refine ⟨_, rfl, t, _, dx, _, _, rfl, t1, cT, nSt, rfl, _, rfl, at_, _, _, _, rfl, rfl, SqL.of b1, at_of ey (mapref_get hbk), bk, rfl, ⟨_, SqL.of hl⟩, fun D nD => ?_⟩
    have s0 := same_upd (o := .lst []) nD
    refine lc_list (K := K) (a := bk) (xs := (sT r m k).map intV) (fun i H' => But D (upd H D (.lst [])) H' ∧ LsAt H' D PTI (((sT r m k).take i).filterMap (pfxE best k))) ⟨But.refl _ _, _, upd_same, .nil⟩ (fun i H' _ h => ?_) ?_ ?_
    · exact SqL.of (But.same s0 nD h.1 _ _ hl)
    · rintro i x H' hi ⟨hB, xs, hx1, hx2⟩
      have s1 : Same H H' := But.same s0 nD hB
      rw [List.getElem?_map] at hi
      obtain ⟨s, hs, rfl⟩ := Option.map_eq_some_iff.mp hi
      have hb1 := hb.same to_F s1
      rw [take_filterMap hs]
      refine ⟨rfl, _, rfl, _, rfl, (by show 2 ≤ sizeLine; decide), fun t1 n1 => ?_⟩
      have s2 := same_upd (o := .tup [intV s, .int y]) n1
      have hb2 := hb1.same to_F s2
      obtain ⟨o, g1, g2⟩ := hb2.has (t := t1) (i := s) (k := k) (upd_same.trans (by rw [ey]; rfl))
      refine ⟨_, rfl, b, o, rfl, g1, _, rfl, ?_⟩
      rw [g2]
      unfold pfxE
      cases e : best s k with
      | none =>
        refine iteF ⟨hB.to s2, ?_⟩
        rw [Option.map_none, Option.toList_none, List.append_nil]
        exact ⟨xs, s2 _ _ hx1, hx2.sameZ to_P s2⟩
      | some x =>
        refine iteT ⟨_, rfl, _, rfl, _, rfl, (by show 2 ≤ sizeLine; decide), fun t2 n2 => ?_⟩
        have s3 := same_upd (o := .tup [intV s, .int y]) n2
        have hb3 := hb2.same to_F s3
        obtain ⟨v, gv, a1, u1, rfl, z1, z2⟩ := hb3.get (t := t2) (i := s) (k := k) (upd_same.trans (by rw [ey]; rfl)) e
        refine ⟨b, _, rfl, gv, _, rfl, (by show 1 ≤ sizeLine; decide), fun t3 n3 => ?_⟩
        have s4 := same_upd (o := .tup [intV s]) n3
        refine ⟨a1, t3, _, _, rfl, rfl, SqT.of (s4 _ _ z1), SqT.of upd_same, (by intro z; cases z), (by show 4 ≤ sizeLine; decide), (fun z => by cases z), fun _ t4 n4 => ?_⟩
        have s5 := same_upd (o := .tup [.int x.1, .int x.2.1, .ref u1, intV s]) n4
        have s25 := ((s2.trans s3).trans s4).trans s5
        have hx3 := s25 _ _ hx1
        refine ⟨xs, hx3, ?_, (hB.to s25).put, ?_⟩
        · rw [hx2.length]
          refine Nat.lt_of_le_of_lt (List.length_filterMap_le _ _) ?_
          rw [List.length_take]
          have := sTp_len r m r.n k
          exact Nat.lt_of_lt_of_le (show min i (sT r m k).length < 101 from Nat.lt_of_le_of_lt (Nat.min_le_right _ _) (by show (sTp r m r.n k).length < 101; omega)) (by decide)
        · exact ls_push to_P hx3 (hx2.sameZ to_P s25) ⟨t4, u1, rfl, upd_same, s5 _ _ (s4 _ _ z2)⟩
    · rintro H' ⟨hB, hL⟩
      rw [List.length_map, List.take_length] at hL
      have s1 : Same H H' := But.same s0 nD hB
      have hL : LsAt H' D PTI (pfxL (sysOf r m) best k) := hL
      obtain ⟨xs, hx1, hx2⟩ := id hL
      have hxl := hx2.length
      refine ⟨_, rfl, D, _, rfl, .inl (SqL.of hx1), _, _, rfl, rfl, _, rfl, ?_⟩
      have ret : Q (.ref D) H' → _ := id
      by_cases c1 : 0 < (pfxL (sysOf r m) best k).length
      · rw [decide_eq_true (show (0 : Int) < (xs.length : Int) by omega)]
        refine iteT ⟨_, rfl, t, _, dx, _, _, rfl, s1 _ _ t1, cT, nRi, rfl, rivB m, rfl, ?_⟩
        by_cases c2 : rivB m = true
        · rw [if_pos (show (sysOf r m).riv = true from c2)] at q
          rw [c2]
          exact iteF ⟨_, rfl, q H' D s1 nD hL⟩
        · rw [if_neg (show ¬ (sysOf r m).riv = true from c2)] at q
          rw [show rivB m = false by simpa using c2]
          refine iteT ⟨_, rfl, ?_⟩
          cases e : SpM.minOf SpM.ltP (pfxL (sysOf r m) best k) with
          | none =>
            rw [SpM.minOf_none.mp e] at c1
            cases c1
          | some mm =>
            rw [e] at q
            refine min_P e (.inl pfxL_some) hL fun v hv => ⟨by show 1 ≤ sizeLine; decide, fun l nl => ?_⟩
            have s3 := same_upd (o := .lst [v]) nl
            exact q _ l (s1.trans s3) (s1.free nl) ⟨_, upd_same, .cons (to_P _ _ _ _ (fun b ys q => s3 _ _ q) hv) .nil⟩
      · rw [decide_eq_false (show ¬ (0 : Int) < (xs.length : Int) by omega)]
        refine iteF (iteF ⟨_, rfl, ?_⟩)
        have e0 : pfxL (sysOf r m) best k = [] := List.eq_nil_of_length_eq_zero (by omega)
        rw [e0] at q hL
        by_cases c2 : (sysOf r m).riv = true
        · rw [if_pos c2] at q
          exact q H' D s1 nD hL
        · rw [if_neg c2] at q
          exact q H' D s1 nD hL
end
end Sp
set_option maxRecDepth 100000
set_option maxHeartbeats 2000000
/-! best_prefixes. -/
namespace Sp
open PySem PySem.Spec PyProof.Rows L2
theorem catA_of {K : PySem.W.Frag} {H : Hp} {a b : Addr} {xs ys : List V} {Q : VK} (h1 : H a = some (.tup xs)) (h2 : H b = some (.tup ys)) (hy : ys ≠ []) (hl : xs.length + ys.length ≤ sizeLine) (q : ∀ (u : Addr) (H' : Hp), Same H H' → H' u = some (.tup (xs ++ ys)) → Q (.ref u) H') : rCatA K (.ref a) (.ref b) H Q :=
  ⟨a, b, xs, ys, rfl, rfl, SqT.of h1, SqT.of h2, hl, (fun e => q b H (Same.refl H) (by rw [e]; exact h2)), (fun _ e => absurd e hy), fun _ _ p np => q p _ (same_upd np) upd_same⟩
section
variable {X : Cx} {o e : Expr} {es : List Expr} {ta : TE} {t : TA} {apos pos : Pos} {pl : Sem Bool}
theorem pe_pair (T : Tx X.K X.mg) (hr : Room 3 X.A) (he : PE X o ta) (ha : PA X (e :: es) t)
    (hst : starEach (e :: es) X.env = (false, eval e X.env) :: starEach es X.env := by rfl) (hpl : (backTo pos (starEach es X.env)).any (·.1) = false := by rfl)
    (ht : eval (.Call (.Attribute o "pair" apos) (e :: es) [] pos) X.env = (do
      let ov ← eval o X.env
      standAt apos.atName
      let (f, first) ← holding [ov] (getMethod ov "pair" pl)
      callWith pos f first (backTo pos (starEach (e :: es) X.env)) (backToKw pos (keywordEach [] X.env))) := by rfl) :
    PE X (.Call (.Attribute o "pair" apos) (e :: es) [] pos) (tMeth (aTb X.K) "pair" (spPr X.K) [] E0 ta t) := by
  obtain ⟨fd, F, b⟩ := ok_pair (P := X.prog) (w := X.w) (base := X.base) T
  exact pe_meth he (c_LineTable T.told) (h_LineTable_pair T.told) F hr b .nil pass0 ha hst hpl ht
end
/-! ### how long the ends are -/
def Bd (b : SpM.FM) (n : Nat) : Prop := ∀ s k x, b s k = some x → x.2.2.length ≤ n
theorem pfx_mem {S : SpM.Sys} {b : SpM.FM} {k : Nat} {x : SpM.PT} (h : x ∈ SpM.pfx S b k) : (k = 0 ∧ x = (0, 0, [], none)) ∨ ∃ s y, s ∈ S.T k ∧ b s k = some y ∧ x = (y.1, y.2.1, y.2.2, some s) := by
  have key : x ∈ pfxL S b k → ∃ s y, s ∈ S.T k ∧ b s k = some y ∧ x = (y.1, y.2.1, y.2.2, some s) := fun hx => by
    obtain ⟨s, hs, h⟩ := List.mem_filterMap.mp hx
    unfold pfxE at h
    obtain ⟨q, hq, rfl⟩ := Option.map_eq_some_iff.mp h
    exact ⟨s, q, hs, hq, rfl⟩
  rw [pfx_eq] at h
  by_cases c : k = 0
  · rw [if_pos c] at h
    exact .inl ⟨c, List.mem_singleton.mp h⟩
  · rw [if_neg c] at h
    by_cases h2 : S.riv = true
    · rw [if_pos h2] at h
      exact .inr (key h)
    · rw [if_neg h2] at h
      cases e : SpM.minOf SpM.ltP (pfxL S b k) with
      | none => rw [e] at h; cases h
      | some y =>
        rw [e] at h
        have : x = y := by simpa using h
        subst this
        exact .inr (key (minOf_mem e))
theorem pfx_len {S : SpM.Sys} {b : SpM.FM} {k n : Nat} (hb : Bd b n) {x : SpM.PT} (h : x ∈ SpM.pfx S b k) : x.2.2.1.length ≤ n := by
  rcases pfx_mem h with ⟨_, rfl⟩ | ⟨s, y, _, hy, rfl⟩
  · exact Nat.zero_le _
  · exact hb _ _ _ hy
theorem fset_bd {S : SpM.Sys} {ps : List SpM.PT} {mid n : Nat} {b : SpM.FM} {ep : Nat × Int} (hp : ∀ x ∈ ps, x.2.2.1.length ≤ n) (hb : Bd b (n + 1)) : Bd (SpM.fset S ps mid b ep) (n + 1) := by
  unfold SpM.fset
  cases e : SpM.minOf SpM.ltF (SpM.extF S ps mid ep) with
  | none => exact hb
  | some x =>
    intro s k y hy
    unfold SpM.setM at hy
    simp only at hy
    split at hy
    · cases hy
      obtain ⟨t, ht, h2⟩ := List.mem_filterMap.mp (minOf_mem e)
      obtain ⟨q, _, rfl⟩ := Option.map_eq_some_iff.mp h2
      have := hp t ht
      show (t.2.2.1 ++ [ep.1]).length ≤ n + 1
      rw [List.length_append, List.length_singleton]
      omega
    · exact hb _ _ _ hy
theorem fold_bd {S : SpM.Sys} {ps : List SpM.PT} {mid n : Nat} (hp : ∀ x ∈ ps, x.2.2.1.length ≤ n) : ∀ (l : List (Nat × Int)) (b : SpM.FM), Bd b (n + 1) → Bd (l.foldl (SpM.fset S ps mid) b) (n + 1)
  | [], b, hb => hb
  | a :: l, b, hb => by
    rw [List.foldl_cons]
    exact fold_bd hp l _ (fset_bd hp hb)
theorem bestF_bd (S : SpM.Sys) : ∀ i, Bd (SpM.bestF S i) i
  | 0 => fun s k x h => by cases h
  | i + 1 => fold_bd (fun x hx => pfx_len (bestF_bd S i) hx) _ _ fun s k x h => Nat.le_succ_of_le (bestF_bd S i s k x h)
theorem fset_none {S : SpM.Sys} {ps : List SpM.PT} {mid : Nat} {b : SpM.FM} {ep : Nat × Int} (e : SpM.minOf SpM.ltF (SpM.extF S ps mid ep) = none) : SpM.fset S ps mid b ep = b := by
  unfold SpM.fset
  rw [e]
theorem fset_some {S : SpM.Sys} {ps : List SpM.PT} {mid : Nat} {b : SpM.FM} {ep : Nat × Int} {x : SpM.FT} (e : SpM.minOf SpM.ltF (SpM.extF S ps mid ep) = some x) : SpM.fset S ps mid b ep = SpM.setM b mid ep.1 x := by
  unfold SpM.fset
  rw [e]
def extE (S : SpM.Sys) (mid : Nat) (ep : Nat × Int) (t : SpM.PT) : Option SpM.FT := (S.prO t.2.2.2 mid ep.1).map fun q => (t.1 + q + ep.2, t.2.1 + 1, t.2.2.1 ++ [ep.1])
theorem extF_eq (S : SpM.Sys) (ps : List SpM.PT) (mid : Nat) (ep : Nat × Int) : SpM.extF S ps mid ep = ps.filterMap (extE S mid ep) := rfl
theorem take_foldl {α β : Type} {f : β → α → β} {l : List α} {b : β} {i : Nat} {x : α} (h : l[i]? = some x) : (l.take (i + 1)).foldl f b = f ((l.take i).foldl f b) x := by
  rw [List.take_add_one, h, List.foldl_append]
  rfl
theorem pfx_le {S : SpM.Sys} {b : SpM.FM} {k : Nat} : (SpM.pfx S b k).length ≤ (S.T k).length + 1 := by
  rw [pfx_eq]
  split
  · simp
  · split
    · exact Nat.le_succ_of_le (List.length_filterMap_le _ _)
    · cases SpM.minOf SpM.ltP (pfxL S b k) <;> simp
section
variable {P : Program} {w : World} {K : PySem.W.Frag} {mg : Str → Option Value} {base : Heap}
def spBp (K : PySem.W.Frag) : L2.Sp := fun vs H Q _ => ∃ (t : Addr) (r : Rw) (m : Ms), vs = [.ref t] ∧ TbAt K H t r m ∧ r.Ok ∧ m.Ok ∧
  ∀ (H' : Hp) (x : Addr), Same H H' → H x = none → DtAt FTI H' x (SpM.bestF (sysOf r m) r.n) 20000 → Q (.ref x) H'
theorem d_bp (T : Tx K mg) : Df P w K mg base CX0 4 "best_prefixes" (He.ga K "best_prefixes") ["table"] (spBp K) := by
  obtain ⟨fd, F⟩ := F_best_prefixes T.told
  refine ⟨⟨fd, ?_, F.binds fun _ _ _ _ _ _ us hl => match us, hl with | [_], _ => rfl⟩, F.kp, g_best_prefixes T⟩
  have nBo := n_LineTable_boxes T.told
  have nEn := n_LineTable_ends_from T.told
  have cT : Cls K (aTb K) := c_LineTable T.told
  have DP : Df P w K mg base CX0 1 "prefixes_to" (He.ga K "prefixes_to") ["table", "best", "place"] (spPt K) := d_pt T
  have nd := sc_best_prefixes.nd
  refine F.ok sc_best_prefixes (fun vs H Q E h => ?_) (fun cdv A outer st H vs Q E hr h => ?_)
  · obtain ⟨t, r, m, rfl, _⟩ := h
    rfl
  · obtain ⟨t, r, m, rfl, hT, ok, mok, q⟩ := h
    have hr1 : Room 1 _ := hr.mono (by decide)
    have hr3 : Room 3 _ := hr.mono (by decide)
    have hu := hu_of hr
    have hn : r.n ≤ 100 := ok.n
    refine ⟨_, pss_cons (ps_set (i := 1) nd rfl (.inl rfl) pe_dnewT)
      (pss_cons (ps_for PassesOwn.never rfl (pi_range1 (by rfl) (z_range T) (pa_cons (pe_fld (pv 0) rfl) pa_nil)) (pg_name (i := 2) nd rfl (.inl rfl))
        (pss_cons (ps_set (i := 3) nd rfl (.inl rfl) (pe_d DP hr1 (by rfl) (pa_cons (pv 0) (pa_cons (pv 1) (pa_cons (pv 2) pa_nil)))))
        (pss_one (ps_for PassesOwn.never rfl (pi_list (pe_ix ix_list (pe_fld (pv 0) rfl) (pv 2) (fun _ _ => rfl))) (pg_tup rfl (pgs_cons (pg_name (i := 4) nd rfl (.inl rfl)) (pgs_cons (pg_name (i := 5) nd rfl (.inl rfl)) pgs_nil)))
          (pss_cons (ps_set (i := 6) nd rfl (.inl rfl) (pe_lst pa_nil))
          (pss_cons (ps_for PassesOwn.never rfl (pi_list (pv 3)) (pg_tup rfl (pgs_cons (pg_name (i := 7) nd rfl (.inl rfl)) (pgs_cons (pg_name (i := 8) nd rfl (.inl rfl)) (pgs_cons (pg_name (i := 9) nd rfl (.inl rfl)) (pgs_cons (pg_name (i := 10) nd rfl (.inl rfl)) pgs_nil)))))
            (pss_cons (ps_set (i := 11) nd rfl (.inl rfl) (pe_pair T hr3 (pv 0) (pa_cons (pv 10) (pa_cons (pv 2) (pa_cons (pv 4) pa_nil)))))
            (pss_one (ps_if (pt_cmpR op_notN (pv 11) pe_non (nomark _)) (pss_one (ps_expr (pe_bm PySem.F.plainAttrs_list PySem.F.slot_list_append PySem.F.type_list_append mt_append (pv 6)
                (pa_cons (pe_tup (pa_cons (pe_op op_add (pe_op op_add (pv 7) (pv 11)) (pv 5)) (pa_cons (pe_op op_add (pv 8) pe_int) (pa_cons (pe_op op_catA (pv 9) (pe_tup (pa_cons (pv 4) pa_nil))) pa_nil)))) pa_nil)))) pss_nil))))
          (pss_one (ps_if (pt_cmpR op_gt (pe_callB call_len_seq (by rfl) (z_len T) PySem.boot_len (pa_cons (pv 6) pa_nil)) pe_int (nomark _)) (pss_one (ps_dput hu (pv 1) (pe_tup (pa_cons (pv 2) (pa_cons (pv 4) pa_nil))) (pe_callB (cr_minD rfl hr.units) (by rfl) (z_min T) (by decide +kernel) (pa_cons (pv 6) pa_nil)) rfl)) pss_nil))))))))
      (pss_one (ps_ret (pv 1)))), ?_⟩
    obtain ⟨dx, p, c, ae, at_, g, t1, t2, t3, ⟨es, e1, e2, e3⟩, t5, t6⟩ := id hT
    intro a na
    have s0 := same_upd (o := .dT []) na
    refine ⟨_, rfl, t, _, dx, _, _, rfl, s0 _ _ t1, cT, nBo, rfl, _, rfl, by omega, by omega, for_range (fun i σ H' => ∃ v2 v3 v4 v5 v6 v7 v8 v9 v10 v11 : Option V, σ = [some (.ref t), some (.ref a), v2, v3, v4, v5, v6, v7, v8, v9, v10, v11] ∧ But a (upd H a (.dT [])) H' ∧ DtAt FTI H' a (SpM.bestF (sysOf r m) i) (200 * i))
      ⟨none, none, none, none, none, none, none, none, none, none, rfl, But.refl _ _, [], upd_same, Nat.zero_le _, fun s k => ⟨fun _ => rfl, fun x z => by cases z⟩⟩ ?_ ?_⟩
    · rintro i σ H0 hi ⟨v2, v3, v4, v5, v6, v7, v8, v9, v10, v11, rfl, hB0, hD0⟩
      have hi' : i < r.n := by omega
      have s1 : Same H H0 := But.same s0 na hB0
      refine ⟨_, rfl, _, rfl, _, rfl, t, a, r, m, _, i, _, _, rfl, by omega, hT.same s1, ok, by omega, hD0, fun H1 pl s2 n2 hL => ?_⟩
      have s12 := s1.trans s2
      have hD1 := hD0.same to_F s2
      have npl : pl ≠ a := fun z => by
        obtain ⟨kvs, k1, _⟩ := hD0
        rw [z, k1] at n2
        cases n2
      obtain ⟨b, hb⟩ : ∃ b, es[i]? = some b := ⟨_, List.getElem?_eq_getElem (by omega)⟩
      obtain ⟨xs, hx1, hx2⟩ := e3 i b hb
      refine ⟨_, rfl, t, _, dx, _, _, rfl, s12 _ _ t1, cT, nEn, rfl, _, rfl, ae, _, _, _, rfl, rfl, SqL.of (s12 _ _ e1), at_of (by omega) (mapref_get hb), b, rfl, ⟨_, SqL.of (s12 _ _ hx1)⟩,
        for_list (K := K) (a := b) (xs := xs) (fun j σ H' => ∃ v4 v5 v6 v7 v8 v9 v10 v11 : Option V, σ = [some (.ref t), some (.ref a), some (.int (0 + i)), some (.ref pl), v4, v5, v6, v7, v8, v9, v10, v11] ∧ But a H1 H' ∧
          DtAt FTI H' a (((sE r m i).take j).foldl (SpM.fset (sysOf r m) (SpM.pfx (sysOf r m) (SpM.bestF (sysOf r m) i) i) i) (SpM.bestF (sysOf r m) i)) (200 * i + j)) ⟨v4, v5, v6, v7, v8, v9, v10, v11, rfl, But.refl _ _, hD1⟩ (fun j σ H' _ h => ?_) ?_ ?_⟩
      · obtain ⟨_, _, _, _, _, _, _, _, _, hB, _⟩ := h
        exact SqL.of (But.same s12 na hB _ _ hx1)
      · rintro j x σ H2 hj ⟨v4, v5, v6, v7, v8, v9, v10, v11, rfl, hB2, hD2⟩
        obtain ⟨kv1, k1, _⟩ := id hD1
        have s02 : Same H H2 := But.same s12 na hB2
        obtain ⟨px, p1, p2⟩ := hL.butZ to_P hB2 k1 (by intro _ z; cases z) npl
        obtain ⟨⟨e, pr⟩, hep, tt, rfl, ht⟩ := hx2.get hj
        have hmem := List.mem_of_getElem? hep
        obtain ⟨l1, l2, _⟩ := sys_e mok hmem
        refine ⟨tt, _, rfl, SqT.of (s02 _ _ ht), rfl, _, _, rfl, _, _, rfl, rfl, ?_⟩
        refine ⟨Nat.zero_le _, fun fl nfl => ?_⟩
        have sf := same_upd (o := .lst []) nfl
        have npf : pl ≠ fl := fun z => by rw [← z, p1] at nfl; cases nfl
        rw [take_foldl hep]
        refine ⟨_, rfl, pl, rfl, ⟨_, SqL.of (sf _ _ p1)⟩, for_list (K := K) (a := pl) (xs := px) (fun l σ H' => ∃ v7 v8 v9 v10 v11 : Option V, σ = [some (.ref t), some (.ref a), some (.int (0 + i)), some (.ref pl), some (.int e), some (.int pr), some (.ref fl), v7, v8, v9, v10, v11] ∧ But fl (upd H2 fl (.lst [])) H' ∧
          LsAt H' fl FTI (((SpM.pfx (sysOf r m) (SpM.bestF (sysOf r m) i) i).take l).filterMap (extE (sysOf r m) i (e, pr)))) ⟨v7, v8, v9, v10, v11, rfl, But.refl _ _, [], upd_same, .nil⟩ (fun l σ H' _ h => ?_) ?_ ?_⟩
        · obtain ⟨_, _, _, _, _, _, hB, _⟩ := h
          exact SqL.of (But.same sf nfl hB _ _ p1)
        · rintro l x σ H3 hl ⟨v7, v8, v9, v10, v11, rfl, hB3, hL3⟩
          have s23 : Same H2 H3 := But.same sf nfl hB3
          obtain ⟨y, hy, hz⟩ := p2.get hl
          obtain ⟨a1, u1, rfl, z1, z2⟩ := to_P H2 H3 _ _ (fun _ _ q => s23 _ _ q) hz
          have ymem := List.mem_of_getElem? hy
          have ylen := pfx_len (bestF_bd (sysOf r m) i) ymem
          refine ⟨a1, _, rfl, SqT.of z1, rfl, _, _, rfl, _, _, rfl, _, _, rfl, _, _, rfl, rfl, ?_⟩
          refine ⟨_, rfl, t, dx, _, rfl, (s02.trans s23) _ _ t1, rfl, _, rfl, _, rfl, _, rfl, t, r, m, y.2.2.2, _, _, i, e, rfl, by omega, rfl, hT.same (s02.trans s23), ok, mok, ⟨pr, hmem⟩, fun s hs => ?_, fun H4 s4 => ?_⟩
          · rcases pfx_mem ymem with ⟨_, rfl⟩ | ⟨s', y', hs', _, rfl⟩
            · cases hs
            · cases hs
              exact ((sys_ok mok).t _ _).mp hs'
          · obtain ⟨fs, f1, f2⟩ := hL3.sameZ to_F s4
            refine ⟨_, rfl, rfl, _, rfl, ?_⟩
            rw [take_filterMap hy]
            unfold extE
            cases e5 : (sysOf r m).prO y.2.2.2 i e with
            | none =>
              refine iteF ⟨_, _, _, _, _, rfl, hB3.to s4, fs, f1, ?_⟩
              rw [Option.map_none, Option.toList_none, List.append_nil]
              exact f2
            | some w1 =>
              refine iteT ⟨_, rfl, .inl ⟨rfl, _, SqL.of f1⟩, _, rfl, _, rfl, _, _, rfl, rfl, _, rfl, _, _, rfl, rfl, _, rfl, _, _, rfl, rfl, _, rfl, _, rfl, (by show 1 ≤ sizeLine; decide), fun t2 n2' => ?_⟩
              have s5 := same_upd (o := .tup [.int (e : Int)]) n2'
              refine catA_of (s5 _ _ (s4 _ _ z2)) upd_same (by intro z; cases z) ?_ fun u' H6 s6 hu' => ⟨(by show 3 ≤ sizeLine; decide), fun t3 n3 => ?_⟩
              · rw [List.length_map]
                exact Nat.le_trans (show _ ≤ 101 by show y.2.2.1.length + 1 ≤ 101; omega) (by decide)
              · have s7 := same_upd (o := .tup [.int (y.1 + w1 + pr), .int (y.2.1 + 1), .ref u']) n3
                have s57 := (s5.trans s6).trans s7
                have f1' := s57 _ _ f1
                refine ⟨fl, _, _, rfl, rfl, f1', ?_, ?_⟩
                · rw [f2.length]
                  refine Nat.lt_of_le_of_lt (List.length_filterMap_le _ _) ?_
                  rw [List.length_take]
                  have h1 := pfx_le (S := sysOf r m) (b := SpM.bestF (sysOf r m) i) (k := i)
                  have h2 : ((sysOf r m).T i).length ≤ r.n := sTp_len r m r.n i
                  exact Nat.lt_of_lt_of_le (show _ < 102 from Nat.lt_of_le_of_lt (Nat.min_le_right _ _) (by omega)) (by decide)
                · refine ⟨_, _, _, _, _, rfl, ((hB3.to s4).to s57).put, ls_push to_F f1' (f2.sameZ to_F s57) ⟨t3, u', rfl, upd_same, ?_⟩⟩
                  rw [List.map_append]
                  exact s7 _ _ hu'
        · rintro σ H3 ⟨v7, v8, v9, v10, v11, rfl, hB3, hL3⟩
          have s23 : Same H2 H3 := But.same sf nfl hB3
          have hD3 := hD2.same to_F s23
          rw [p2.length, List.take_length, ← extF_eq] at hL3
          obtain ⟨fs, f1, f2⟩ := id hL3
          have fl2 := f2.length
          refine ⟨_, rfl, fl, _, rfl, .inl (SqL.of f1), _, _, rfl, rfl, _, rfl, ?_⟩
          cases e5 : SpM.minOf SpM.ltF (SpM.extF (sysOf r m) (SpM.pfx (sysOf r m) (SpM.bestF (sysOf r m) i) i) i (e, pr)) with
          | none =>
            rw [SpM.minOf_none.mp e5] at fl2
            rw [decide_eq_false (show ¬ (0 : Int) < (fs.length : Int) by rw [fl2]; decide)]
            refine iteF ⟨_, _, _, _, _, _, _, _, rfl, hB2.to s23, ?_⟩
            rw [fset_none e5]
            exact hD3.le (by omega)
          | some mm =>
            have ne : 0 < fs.length := by
              rw [fl2]
              exact List.length_pos_of_mem (minOf_mem e5)
            rw [decide_eq_true (show (0 : Int) < (fs.length : Int) by omega)]
            rw [fset_some e5]
            obtain ⟨a', xs', ds', d', ea, m1, m2, m3, m4, m5, m6⟩ := min_F (K := K) (Q := fun v _ => FTI H3 v mm) e5 hL3 (fun _ h => h)
            cases ea
            refine iteT ⟨_, rfl, fl, xs', ds', d', rfl, m1, m2, m3, m4, m5, fun k v hk hd => ⟨_, rfl, _, rfl, _, rfl, (by show 2 ≤ sizeLine; decide), fun t2 n2' => ?_⟩⟩
            have hv := m6 k v hk hd
            have s5 := same_upd (o := .tup [.int (0 + i), .int e]) n2'
            have lj : (sE r m i).length ≤ 200 := by
              rw [sE_lt hi']
              have := lf_len (r := r) (m := m) (s := i)
              omega
            have hjl := (List.getElem?_eq_some_iff.mp hep).1
            obtain ⟨H6, d1, d2, d3⟩ := (hD3.same to_F s5).put to_F (t := t2) (s := i) (k := e) (to_F _ _ _ _ (fun _ _ q => s5 _ _ q) hv) (upd_same.trans (by rw [Int.zero_add]; rfl)) (by omega)
            exact ⟨a, H6, rfl, d1, _, _, _, _, _, _, _, _, rfl, (hB2.to (s23.trans s5)).trans d3, d2.le (by omega)⟩
      · rintro σ H2 ⟨v4, v5, v6, v7, v8, v9, v10, v11, rfl, hB2, hD2⟩
        rw [hx2.length, List.take_length] at hD2
        have lj : (sE r m i).length ≤ 200 := by
          rw [sE_lt hi']
          have := lf_len (r := r) (m := m) (s := i)
          omega
        refine ⟨_, _, _, _, _, _, _, _, _, _, rfl, fun b' o hb' nb' => hB2 _ _ (s2 _ _ (hB0 _ _ hb' nb')) nb', ?_⟩
        exact hD2.le (by omega)
    · rintro σ H' ⟨v2, v3, v4, v5, v6, v7, v8, v9, v10, v11, rfl, hB, hD⟩
      have hnn : ((r.n : Int)).toNat = r.n := by omega
      rw [hnn] at hD
      exact ⟨_, rfl, q H' a (But.same s0 na hB) na (hD.le (by omega))⟩
end
end Sp
set_option maxRecDepth 100000
set_option maxHeartbeats 2000000
/-! continuations, best_continuations. -/
namespace Sp
open PySem PySem.Spec PyProof.Rows L2
def BTI (H : Hp) (v : V) (x : SpM.BT) : Prop := ∃ a, v = .ref a ∧ H a = some (.tup [.int x.1, .int x.2.1, oN x.2.2])
theorem to_B : TupOnly BTI := fun H H' v y k ⟨a, e, h1⟩ => ⟨a, e, k _ _ h1⟩
section
variable {P : Program} {w : World} {K : PySem.W.Frag} {mg : Str → Option Value} {base : Heap}
def spCn (K : PySem.W.Frag) : L2.Sp := fun vs H Q _ => ∃ (t b : Addr) (r : Rw) (m : Ms) (st : Option Nat) (y : Int) (i N : Nat) (best : SpM.BM), vs = [.ref t, .ref b, oN st, .int y] ∧ y = (i : Int) ∧ TbAt K H t r m ∧ r.Ok ∧ m.Ok ∧ i ≤ r.n ∧ DtAt BTI H b best N ∧ (∀ s, st = some s → ∃ p, (i, p) ∈ sE r m s) ∧
  ∀ (H' : Hp) (x : Addr), Same H H' → H x = none → LsAt H' x CTI (SpM.cts (sysOf r m) best st i) → Q (.ref x) H'
theorem d_cn (T : Tx K mg) : Df P w K mg base CX0 4 "continuations" (He.ga K "continuations") ["table", "best", "start", "middle"] (spCn K) := by
  obtain ⟨fd, F⟩ := F_continuations T.told
  refine ⟨⟨fd, ?_, F.binds fun _ _ _ _ _ _ us hl => match us, hl with | [_, _, _, _], _ => rfl⟩, F.kp, g_continuations T⟩
  have nEn := n_LineTable_ends_from T.told
  have cT : Cls K (aTb K) := c_LineTable T.told
  have nd := sc_continuations.nd
  refine F.ok sc_continuations (fun vs H Q E h => ?_) (fun cdv A outer st0 H vs Q E hr h => ?_)
  · obtain ⟨t, b, r, m, st, y, i, N, best, rfl, _⟩ := h
    rfl
  · obtain ⟨t, b, r, m, st, y, i, N, best, rfl, ey, hT, ok, mok, hi, hb, hst, q⟩ := h
    have hr3 : Room 3 _ := hr.mono (by decide)
    have hu := hu_of hr
    have hn : r.n ≤ 100 := ok.n
    refine ⟨_, pss_cons (ps_set (i := 4) nd rfl (.inl rfl) (pe_lst pa_nil))
      (pss_cons (ps_for PassesOwn.never rfl (pi_list (pe_ix ix_list (pe_fld (pv 0) rfl) (pv 3) (fun _ _ => rfl))) (pg_tup rfl (pgs_cons (pg_name (i := 5) nd rfl (.inl rfl)) (pgs_cons (pg_name (i := 6) nd rfl (.inl rfl)) pgs_nil)))
        (pss_one (ps_if (pt_cmp (pc_din hu (pe_tup (pa_cons (pv 3) (pa_cons (pv 5) pa_nil))) (pv 1)))
          (pss_cons (ps_set (i := 7) nd rfl (.inl rfl) (pe_pair T hr3 (pv 0) (pa_cons (pv 2) (pa_cons (pv 3) (pa_cons (pv 5) pa_nil)))))
          (pss_one (ps_if (pt_cmpR op_notN (pv 7) pe_non (nomark _))
            (pss_cons (ps_asg (pe_dget hu (pv 1) (pe_tup (pa_cons (pv 3) (pa_cons (pv 5) pa_nil))) (fun _ _ => rfl)) (pg_tup rfl (pgs_cons (pg_name (i := 8) nd rfl (.inl rfl)) (pgs_cons (pg_name (i := 9) nd rfl (.inl rfl)) (pgs_cons (pg_name (i := 10) nd rfl (.inl rfl)) pgs_nil)))))
            (pss_one (ps_expr (pe_bm PySem.F.plainAttrs_list PySem.F.slot_list_append PySem.F.type_list_append mt_append (pv 4)
                (pa_cons (pe_tup (pa_cons (pe_op op_add (pe_op op_add (pv 7) (pv 6)) (pv 8)) (pa_cons (pe_op op_add (pv 9) pe_int) (pa_cons (pv 5) pa_nil)))) pa_nil))))) pss_nil))) pss_nil)))
      (pss_one (ps_ret (pv 4)))), ?_⟩
    obtain ⟨dx, p, c, ae, at_, g, t1, t2, t3, ⟨es, e1, e2, e3⟩, t5, t6⟩ := id hT
    refine ⟨Nat.zero_le _, fun fl nfl => ?_⟩
    have s0 := same_upd (o := .lst []) nfl
    obtain ⟨d, hd⟩ : ∃ b, es[i]? = some b := ⟨_, List.getElem?_eq_getElem (by omega)⟩
    obtain ⟨xs, hx1, hx2⟩ := e3 i d hd
    have ll : (sE r m i).length ≤ 100 := by
      by_cases c : i < r.n
      · rw [sE_lt c]
        have := lf_len (r := r) (m := m) (s := i)
        omega
      · unfold sE
        rw [if_neg c]
        exact Nat.zero_le _
    refine ⟨_, rfl, t, _, dx, _, _, rfl, s0 _ _ t1, cT, nEn, rfl, _, rfl, ae, _, _, _, rfl, rfl, SqL.of (s0 _ _ e1), at_of ey (mapref_get hd), d, rfl, ⟨_, SqL.of (s0 _ _ hx1)⟩,
      for_list (K := K) (a := d) (xs := xs) (fun j σ H' => ∃ v5 v6 v7 v8 v9 v10 : Option V, σ = [some (.ref t), some (.ref b), some (oN st), some (.int y), some (.ref fl), v5, v6, v7, v8, v9, v10] ∧ But fl (upd H fl (.lst [])) H' ∧ LsAt H' fl CTI (((sE r m i).take j).filterMap (SpM.ctE (sysOf r m) best st i)))
        ⟨none, none, none, none, none, none, rfl, But.refl _ _, [], upd_same, .nil⟩ (fun j σ H' _ h => ?_) ?_ ?_⟩
    · obtain ⟨_, _, _, _, _, _, _, hB, _⟩ := h
      exact SqL.of (But.same s0 nfl hB _ _ hx1)
    · rintro j x σ H1 hj ⟨v5, v6, v7, v8, v9, v10, rfl, hB, fs, f1, f2⟩
      have s1 : Same H H1 := But.same s0 nfl hB
      obtain ⟨⟨e, pr⟩, hep, tt, rfl, ht⟩ := hx2.get hj
      have hmem := List.mem_of_getElem? hep
      obtain ⟨l1, l2, _⟩ := sys_e mok hmem
      have hb1 := hb.same to_B s1
      rw [take_filterMap hep]
      refine ⟨tt, _, rfl, SqT.of (s1 _ _ ht), rfl, _, _, rfl, _, _, rfl, rfl, ?_⟩
      refine ⟨_, rfl, _, rfl, (by show 2 ≤ sizeLine; decide), fun k1 n1 => ?_⟩
      have s2 := same_upd (o := .tup [.int y, .int e]) n1
      have hb2 := hb1.same to_B s2
      obtain ⟨o, g1, g2⟩ := hb2.has (t := k1) (i := i) (k := e) (upd_same.trans (by rw [ey]; rfl))
      refine ⟨_, rfl, b, o, rfl, g1, _, rfl, ?_⟩
      rw [g2]
      cases e5 : best i e with
      | none =>
        have e6 : SpM.ctE (sysOf r m) best st i (e, pr) = none := by
          unfold SpM.ctE
          show Option.bind (best i e) _ = none
          rw [e5]
          rfl
        refine iteF ⟨_, _, _, _, _, _, rfl, hB.to s2, fs, s2 _ _ f1, ?_⟩
        rw [e6, Option.toList_none, List.append_nil]
        exact f2.sameZ to_C s2
      | some x =>
        refine iteT ⟨_, rfl, t, dx, _, rfl, s2 _ _ (s1 _ _ t1), rfl, _, rfl, _, rfl, _, rfl, t, r, m, st, _, _, i, e, rfl, ey, rfl, hT.same (s1.trans s2), ok, mok, ⟨pr, hmem⟩, hst, fun H4 s4 => ?_⟩
        have s24 := s2.trans s4
        refine ⟨_, rfl, rfl, _, rfl, ?_⟩
        cases e7 : (sysOf r m).prO st i e with
        | none =>
          have e6 : SpM.ctE (sysOf r m) best st i (e, pr) = none := by
            unfold SpM.ctE
            show Option.bind (best i e) (fun x => Option.map _ ((sysOf r m).prO st i e)) = none
            rw [e5, e7]
            rfl
          refine iteF ⟨_, _, _, _, _, _, rfl, hB.to s24, fs, s24 _ _ f1, ?_⟩
          rw [e6, Option.toList_none, List.append_nil]
          exact f2.sameZ to_C s24
        | some w1 =>
          have e6 : SpM.ctE (sysOf r m) best st i (e, pr) = some (w1 + pr + x.1, x.2.1 + 1, e) := by
            unfold SpM.ctE
            show Option.bind (best i e) (fun x => Option.map (fun q => (q + pr + x.1, x.2.1 + 1, e)) ((sysOf r m).prO st i e)) = _
            rw [e5, e7]
            rfl
          refine iteT ⟨_, rfl, _, rfl, _, rfl, (by show 2 ≤ sizeLine; decide), fun k2 n2 => ?_⟩
          have s5 := same_upd (o := .tup [.int y, .int e]) n2
          have hb5 := (hb2.same to_B s4).same to_B s5
          obtain ⟨v, gv, a1, rfl, z1⟩ := hb5.get (t := k2) (i := i) (k := e) (upd_same.trans (by rw [ey]; rfl)) e5
          refine ⟨b, _, rfl, gv, a1, _, rfl, SqT.of z1, rfl, _, _, rfl, _, _, rfl, _, _, rfl, rfl, ?_⟩
          refine ⟨_, rfl, .inl ⟨rfl, _, SqL.of (s5 _ _ (s24 _ _ f1))⟩, _, rfl, _, rfl, _, _, rfl, rfl, _, rfl, _, _, rfl, rfl, _, rfl, _, _, rfl, rfl, _, rfl, (by show 3 ≤ sizeLine; decide), fun k3 n3 => ?_⟩
          have s6 := same_upd (o := .tup [.int (w1 + pr + x.1), .int (x.2.1 + 1), .int (e : Int)]) n3
          have s26 := (s24.trans s5).trans s6
          refine ⟨fl, _, _, rfl, rfl, s26 _ _ f1, ?_, ?_⟩
          · rw [f2.length]
            refine Nat.lt_of_le_of_lt (List.length_filterMap_le _ _) ?_
            rw [List.length_take]
            exact Nat.lt_of_lt_of_le (show _ < 101 from Nat.lt_of_le_of_lt (Nat.min_le_right _ _) (by omega)) (by decide)
          · refine ⟨_, _, _, _, _, _, rfl, (hB.to s26).put, ?_⟩
            rw [e6]
            exact ls_push to_C (s26 _ _ f1) (f2.sameZ to_C s26) ⟨k3, rfl, upd_same⟩
    · rintro σ H1 ⟨v5, v6, v7, v8, v9, v10, rfl, hB, hL⟩
      rw [hx2.length, List.take_length] at hL
      exact ⟨_, rfl, q H1 fl (But.same s0 nfl hB) nfl hL⟩
end
end Sp
set_option maxRecDepth 100000
set_option maxHeartbeats 2000000
/-! best_continuations. -/
namespace Sp
open PySem PySem.Spec PyProof.Rows L2
theorem bset_none {b : SpM.BM} {s mid : Nat} {f : List SpM.CT} (e : SpM.minOf SpM.ltC f = none) : SpM.bset b s mid f = b := by
  unfold SpM.bset
  rw [e]
theorem bset_some {b : SpM.BM} {s mid : Nat} {f : List SpM.CT} {x : SpM.CT} (e : SpM.minOf SpM.ltC f = some x) : SpM.bset b s mid f = SpM.setM b s mid (x.1, x.2.1, some x.2.2) := by
  unfold SpM.bset
  rw [e]
theorem drop_at {α : Type} {l : List α} {j : Nat} {x : α} (h : l[j]? = some x) : l.drop j = x :: l.drop (j + 1) := by
  obtain ⟨hj, rfl⟩ := List.getElem?_eq_some_iff.mp h
  exact List.drop_eq_getElem_cons hj
section
variable {P : Program} {w : World} {K : PySem.W.Frag} {mg : Str → Option Value} {base : Heap}
def spBc (K : PySem.W.Frag) : L2.Sp := fun vs H Q _ => ∃ (t : Addr) (r : Rw) (m : Ms), vs = [.ref t] ∧ TbAt K H t r m ∧ r.Ok ∧ m.Ok ∧ 1 ≤ r.n ∧
  ∀ (H' : Hp) (x : Addr), Same H H' → H x = none → DtAt BTI H' x (SpM.bestB (sysOf r m) (r.n - 1)) 30000 → Q (.ref x) H'
theorem d_bc (T : Tx K mg) : Df P w K mg base CX0 5 "best_continuations" (He.ga K "best_continuations") ["table"] (spBc K) := by
  obtain ⟨fd, F⟩ := F_best_continuations T.told
  refine ⟨⟨fd, ?_, F.binds fun _ _ _ _ _ _ us hl => match us, hl with | [_], _ => rfl⟩, F.kp, g_best_continuations T⟩
  have nBo := n_LineTable_boxes T.told
  have nRi := n_LineTable_rivers T.told
  have nSt := n_LineTable_starts_to T.told
  have cT : Cls K (aTb K) := c_LineTable T.told
  have DC : Df P w K mg base CX0 4 "continuations" (He.ga K "continuations") ["table", "best", "start", "middle"] (spCn K) := d_cn T
  have nd := sc_best_continuations.nd
  refine F.ok sc_best_continuations (fun vs H Q E h => ?_) (fun cdv A outer st0 H vs Q E hr h => ?_)
  · obtain ⟨t, r, m, rfl, _⟩ := h
    rfl
  · obtain ⟨t, r, m, rfl, hT, ok, mok, h1n, q⟩ := h
    have hr4 : Room 4 _ := hr.mono (by decide)
    have hu := hu_of hr
    have hn : r.n ≤ 100 := ok.n
    refine ⟨_, pss_cons (ps_set (i := 1) nd rfl (.inl rfl) pe_dnewT)
      (pss_cons (ps_for PassesOwn.never rfl (pi_list (pe_ix ix_list (pe_fld (pv 0) rfl) (pe_fld (pv 0) rfl) (fun _ _ => rfl))) (pg_name (i := 2) nd rfl (.inl rfl))
        (pss_one (ps_dput hu (pv 1) (pe_tup (pa_cons (pv 2) (pa_cons (pe_fld (pv 0) rfl) pa_nil))) (pe_tup (pa_cons pe_int (pa_cons pe_int (pa_cons pe_non pa_nil)))) rfl)))
      (pss_cons (ps_for PassesOwn.never rfl (pi_range3 (by rfl) (z_range T) (pa_cons (pe_op op_sub (pe_fld (pv 0) rfl) pe_int) (pa_cons pe_int (pa_cons (pe_un un_neg pe_int) pa_nil)))) (pg_name (i := 3) nd rfl (.inl rfl))
        (pss_cons (ps_set (i := 4) nd rfl (.inl rfl) pe_non)
        (pss_one (ps_for PassesOwn.never rfl (pi_list (pe_ix ix_list (pe_fld (pv 0) rfl) (pv 3) (fun _ _ => rfl))) (pg_name (i := 2) nd rfl (.inl rfl))
          (pss_cons (ps_if (PW.pt (pw_or (pt_cmpR op_isN (pv 4) pe_non (nomark _)) (pw_or1 (pt_val (pe_fld (pv 0) rfl))))) (pss_one (ps_set (i := 4) nd rfl (.inl rfl) (pe_d DC hr4 (by rfl) (pa_cons (pv 0) (pa_cons (pv 1) (pa_cons (pv 2) (pa_cons (pv 3) pa_nil))))))) pss_nil)
          (pss_one (ps_if (pt_cmpR op_gt (pe_callB call_len_seq (by rfl) (z_len T) PySem.boot_len (pa_cons (pv 4) pa_nil)) pe_int (nomark _)) (pss_one (ps_dput hu (pv 1) (pe_tup (pa_cons (pv 2) (pa_cons (pv 3) pa_nil))) (pe_callB (cr_minD rfl hr.units) (by rfl) (z_min T) (by decide +kernel) (pa_cons (pv 4) pa_nil)) rfl)) pss_nil)))))))
      (pss_one (ps_ret (pv 1))))), ?_⟩
    obtain ⟨dx, p, c, ae, at_, g, t1, t2, t3, t4, ⟨bs, b1, b2, b3⟩, t6⟩ := id hT
    intro a na
    have s0 := same_upd (o := .dT []) na
    obtain ⟨bn, hbn⟩ : ∃ d, bs[r.n]? = some d := ⟨_, List.getElem?_eq_getElem (by omega)⟩
    have hln := b3 r.n bn hbn
    have tl : ∀ k, ((sysOf r m).T k).length ≤ 100 := fun k => Nat.le_trans (sTp_len r m r.n k) hn
    -- the last lines
    refine ⟨_, rfl, t, _, dx, _, _, rfl, s0 _ _ t1, cT, nSt, rfl, _, rfl, t, _, dx, _, _, rfl, s0 _ _ t1, cT, nBo, rfl, at_, _, _, _, rfl, rfl, SqL.of (s0 _ _ b1), at_of rfl (mapref_get hbn), bn, rfl, ⟨_, SqL.of (s0 _ _ hln)⟩,
      for_list (K := K) (a := bn) (xs := (sT r m r.n).map intV) (fun j σ H' => ∃ v2 : Option V, σ = [some (.ref t), some (.ref a), v2, none, none] ∧ But a (upd H a (.dT [])) H' ∧ DtAt BTI H' a (((sT r m r.n).take j).foldl (fun b s => SpM.setM b s r.n (0, 0, none)) fun _ _ => none) j)
        ⟨none, rfl, But.refl _ _, [], upd_same, Nat.zero_le _, fun s k => ⟨fun _ => rfl, fun x z => by cases z⟩⟩ (fun j σ H' _ h => ?_) ?_ ?_⟩
    · obtain ⟨_, _, hB, _⟩ := h
      exact SqL.of (But.same s0 na hB _ _ hln)
    · rintro j x σ H1 hj ⟨v2, rfl, hB, hD⟩
      have s1 : Same H H1 := But.same s0 na hB
      rw [List.getElem?_map] at hj
      obtain ⟨s, hs, rfl⟩ := Option.map_eq_some_iff.mp hj
      have jl : j < 100 := by
        have := (List.getElem?_eq_some_iff.mp hs).1
        have h2 : (sT r m r.n).length ≤ 100 := tl r.n
        omega
      rw [take_foldl hs]
      refine ⟨(by show 3 ≤ sizeLine; decide), fun k1 n1 => ?_⟩
      have s2 := same_upd (o := .tup [.int 0, .int 0, .non]) n1
      refine ⟨_, rfl, _, rfl, _, rfl, t, _, dx, _, _, rfl, s2 _ _ (s1 _ _ t1), cT, nBo, rfl, (by show 2 ≤ sizeLine; decide), fun k2 n2 => ?_⟩
      have s3 := same_upd (o := .tup [intV s, .int (r.n : Int)]) n2
      obtain ⟨H6, d1, d2, d3⟩ := (hD.same to_B (s2.trans s3)).put to_B (v := .ref k1) (y := (0, 0, none)) (t := k2) (s := s) (k := r.n) ⟨k1, rfl, s3 _ _ upd_same⟩ upd_same (by omega)
      exact ⟨a, H6, rfl, d1, _, rfl, (hB.to (s2.trans s3)).trans d3, d2⟩
    · rintro σ H1 ⟨v2, rfl, hB, hD⟩
      rw [List.length_map, List.take_length] at hD
      have s1 : Same H H1 := But.same s0 na hB
      have hD0 : DtAt BTI H1 a (SpM.bestB (sysOf r m) 0) 100 := hD.le (tl r.n)
      refine ⟨_, rfl, t, _, dx, _, _, rfl, s1 _ _ t1, cT, nBo, rfl, _, _, rfl, rfl, _, rfl, _, _, _, _, rfl, RgC.neg (by omega) (by omega) (by omega) (by omega), ?_⟩
      have hc : ((r.n : Int) - 1 - 0).toNat = r.n - 1 := by omega
      rw [hc]
      refine for_rangeC (lo := (r.n : Int) - 1) (c := -1) (n := r.n - 1) (fun i σ H' => ∃ v2 v3 v4 : Option V, σ = [some (.ref t), some (.ref a), v2, v3, v4] ∧ But a (upd H a (.dT [])) H' ∧ DtAt BTI H' a (SpM.bestB (sysOf r m) i) (200 * (i + 1))) ⟨v2, none, none, rfl, hB, hD0.le (by omega)⟩ ?_ ?_
      · rintro i σ H2 hi ⟨v2, v3, v4, rfl, hB2, hD2⟩
        have s2 : Same H H2 := But.same s0 na hB2
        have ez : (r.n : Int) - 1 + (i : Nat) * -1 = ((r.n - 1 - i : Nat) : Int) := by omega
        obtain ⟨mid, em⟩ : ∃ mid, mid = r.n - 1 - i := ⟨_, rfl⟩
        obtain ⟨bk, hbk⟩ : ∃ d, bs[mid]? = some d := ⟨_, List.getElem?_eq_getElem (by omega)⟩
        have hlk := b3 mid bk hbk
        have hgo : SpM.bestB (sysOf r m) (i + 1) = SpM.bgo (sysOf r m) mid ((sysOf r m).T mid) none (SpM.bestB (sysOf r m) i) := by
          rw [em]
          rfl
        rw [hgo]
        rw [ez, ← em]
        refine ⟨_, rfl, t, _, dx, _, _, rfl, s2 _ _ t1, cT, nSt, rfl, _, rfl, at_, _, _, _, rfl, rfl, SqL.of (s2 _ _ b1), at_of rfl (mapref_get hbk), bk, rfl, ⟨_, SqL.of (s2 _ _ hlk)⟩,
          for_list (K := K) (a := bk) (xs := (sT r m mid).map intV) (fun j σ H' => ∃ (v2 : Option V) (v4 : V) (f : Option (List SpM.CT)) (b : SpM.BM), σ = [some (.ref t), some (.ref a), v2, some (.int (mid : Int)), some v4] ∧ But a H2 H' ∧ DtAt BTI H' a b (200 * (i + 1) + j) ∧
            SpM.bgo (sysOf r m) mid ((sT r m mid).drop j) f b = SpM.bgo (sysOf r m) mid ((sysOf r m).T mid) none (SpM.bestB (sysOf r m) i) ∧ ((f = none ∧ v4 = .non) ∨ ∃ l fl, f = some l ∧ v4 = .ref fl ∧ fl ≠ a ∧ LsAt H' fl CTI l))
            ⟨v2, .non, none, _, rfl, But.refl _ _, hD2, rfl, .inl ⟨rfl, rfl⟩⟩ (fun j σ H' _ h => ?_) ?_ ?_⟩
        · obtain ⟨_, _, _, _, _, hB, _⟩ := h
          exact SqL.of (But.same s2 na hB _ _ hlk)
        · rintro j x σ H3 hj ⟨v2, v4, f, b, rfl, hB3, hD3, hb, hf⟩
          have s3 : Same H H3 := But.same s2 na hB3
          rw [List.getElem?_map] at hj
          obtain ⟨s, hs, rfl⟩ := Option.map_eq_some_iff.mp hj
          have smem : s ∈ (sysOf r m).T mid := List.mem_of_getElem? hs
          rw [drop_at hs] at hb
          have hb : SpM.bgo (sysOf r m) mid ((sT r m mid).drop (j + 1)) (some (SpM.bnext (sysOf r m) mid f b s)) (SpM.bset b s mid (SpM.bnext (sysOf r m) mid f b s)) = _ := hb
          have jl : j < 100 := by
            have := (List.getElem?_eq_some_iff.mp hs).1
            have h2 : (sT r m mid).length ≤ 100 := tl mid
            omega
          refine join_seq (fun σ' H' => ∃ fl : Addr, σ' = [some (.ref t), some (.ref a), some (intV s), some (.int (mid : Int)), some (.ref fl)] ∧ Same H3 H' ∧ fl ≠ a ∧ LsAt H' fl CTI (SpM.bnext (sysOf r m) mid f b s)) (fun D' hD => ?_) ?_
          · have new : SpM.bnext (sysOf r m) mid f b s = SpM.cts (sysOf r m) b (some s) mid → tCall (spCn K) [] E0 (tCons (tVar 0) (tCons (tVar 1) (tCons (tVar 2) (tCons (tVar 3) tNil)))) [some (.ref t), some (.ref a), some (intV s), some (.int (mid : Int)), some v4] H3 (fun v H' => gName 4 v [some (.ref t), some (.ref a), some (intV s), some (.int (mid : Int)), some v4] H' D'.nx) := by
              intro e
              refine ⟨_, rfl, _, rfl, _, rfl, _, rfl, t, a, r, m, some s, _, mid, _, b, rfl, rfl, hT.same s3, ok, mok, by omega, hD3, fun s' hs' => ?_, fun H4 x s4 n4 hL => ?_⟩
              · cases hs'
                exact ((sys_ok mok).t _ _).mp smem
              · refine hD _ _ ⟨x, rfl, s4, fun z => ?_, ?_⟩
                · obtain ⟨kvs, k1, _⟩ := hD3
                  rw [z, k1] at n4
                  cases n4
                · rw [e]
                  exact hL
            refine ⟨_, rfl, rfl, _, rfl, ?_⟩
            rcases hf with ⟨rfl, rfl⟩ | ⟨l, fl, rfl, rfl, nfl, hL⟩
            · exact iteT (iteT (new rfl))
            · refine iteF ⟨_, rfl, t, _, dx, _, _, rfl, s3 _ _ t1, cT, nRi, rfl, rivB m, rfl, ?_⟩
              cases e : rivB m with
              | true =>
                refine iteT (new ?_)
                show (if rivB m = true then _ else _) = _
                rw [if_pos e]
              | false =>
                refine iteF (hD _ _ ⟨fl, rfl, Same.refl _, nfl, ?_⟩)
                have : SpM.bnext (sysOf r m) mid (some l) b s = l := by
                  show (if rivB m = true then _ else _) = _
                  rw [if_neg (by rw [e]; exact Bool.false_ne_true)]
                rw [this]
                exact hL
          · rintro σ' H4 ⟨fl, rfl, s4, nfl, hL⟩
            obtain ⟨fs, f1, f2⟩ := id hL
            have fl2 := f2.length
            have hD4 := hD3.same to_B s4
            refine ⟨_, rfl, fl, _, rfl, .inl (SqL.of f1), _, _, rfl, rfl, _, rfl, ?_⟩
            cases e5 : SpM.minOf SpM.ltC (SpM.bnext (sysOf r m) mid f b s) with
            | none =>
              rw [SpM.minOf_none.mp e5] at fl2
              rw [decide_eq_false (show ¬ (0 : Int) < (fs.length : Int) by rw [fl2]; decide)]
              rw [bset_none e5] at hb
              exact iteF ⟨_, _, _, b, rfl, hB3.to s4, hD4.le (by omega), hb, .inr ⟨_, fl, rfl, rfl, nfl, hL⟩⟩
            | some mm =>
              have ne : 0 < fs.length := by
                rw [fl2]
                exact List.length_pos_of_mem (minOf_mem e5)
              rw [decide_eq_true (show (0 : Int) < (fs.length : Int) by omega)]
              rw [bset_some e5] at hb
              obtain ⟨a', xs', ds', d', ea, m1, m2, m3, m4, m5, m6⟩ := min_C (K := K) (Q := fun v _ => CTI H4 v mm) e5 hL (fun _ h => h)
              cases ea
              refine iteT ⟨_, rfl, fl, xs', ds', d', rfl, m1, m2, m3, m4, m5, fun k v hk hd => ⟨_, rfl, _, rfl, _, rfl, (by show 2 ≤ sizeLine; decide), fun t2 n2' => ?_⟩⟩
              obtain ⟨a2, rfl, hv⟩ := m6 k v hk hd
              have s5 := same_upd (o := .tup [intV s, .int (mid : Int)]) n2'
              obtain ⟨H6, d1, d2, d3⟩ := (hD4.same to_B s5).put to_B (v := .ref a2) (y := (mm.1, mm.2.1, some mm.2.2)) (t := t2) (s := s) (k := mid) ⟨a2, rfl, s5 _ _ hv⟩ upd_same (by omega)
              obtain ⟨kvs, k1, _⟩ := hD4.same to_B s5
              exact ⟨a, H6, rfl, d1, _, _, _, _, rfl, (hB3.to (s4.trans s5)).trans d3, d2, hb, .inr ⟨_, fl, rfl, rfl, nfl, (hL.sameZ to_C s5).butZ to_C d3 k1 (by intro _ z; cases z) nfl⟩⟩
        · rintro σ H3 ⟨v2, v4, f, b, rfl, hB3, hD3, hb, hf⟩
          rw [List.length_map, List.drop_length] at hb
          have hb : b = _ := hb
          rw [← hb]
          rw [List.length_map] at hD3
          have h2 : (sT r m mid).length ≤ 100 := tl mid
          exact ⟨_, _, _, rfl, hB2.trans hB3, hD3.le (by omega)⟩
      · rintro σ H2 ⟨v2, v3, v4, rfl, hB2, hD2⟩
        exact ⟨_, rfl, q H2 a (But.same s0 na hB2) na (hD2.le (by omega))⟩
end
end Sp
set_option maxRecDepth 100000
set_option maxHeartbeats 2000000
/-! farthest_ends. -/
namespace Sp
open PySem PySem.Spec PyProof.Rows L2
theorem or_test {b : Bool} {R : Bool → Hp → Prop} {t2 : TT} {σ : L2.St} {H : Hp} (c : Bool) (h2 : ∀ R' : Bool → Hp → Prop, R' c H → t2 σ H R') (ht : (b = true ∨ c = true) → R true H) (hf : b = false → c = false → R false H) : if b = true then R true H else t2 σ H R := by
  cases b with
  | true => exact iteT (ht (.inl rfl))
  | false =>
    refine iteF (h2 R ?_)
    cases c with
    | true => exact ht (.inr rfl)
    | false => exact hf rfl rfl
def ZI (_ : Hp) (v : V) (n : Nat) : Prop := v = intV n
theorem to_I : TupOnly ZI := fun _ _ _ _ _ h => h
def ainS (S : SpM.Sys) (f : SpM.AM) (s mid : Nat) (best : Nat) (ep : Nat × Int) : Nat := if best < (f mid ep.1).getD 0 ∧ (S.prO (some s) mid ep.1).isSome = true then (f mid ep.1).getD 0 else best
theorem ainner_eq (S : SpM.Sys) (f : SpM.AM) (s mid : Nat) : SpM.ainner S f s mid = (S.E mid).foldl (ainS S f s mid) mid := rfl
section
variable {P : Program} {w : World} {K : PySem.W.Frag} {mg : Str → Option Value} {base : Heap}
def spFe (K : PySem.W.Frag) : L2.Sp := fun vs H Q _ => ∃ (t : Addr) (r : Rw) (m : Ms), vs = [.ref t] ∧ TbAt K H t r m ∧ r.Ok ∧ m.Ok ∧
  ∀ (H' : Hp) (x : Addr), Same H H' → H x = none → DtAt ZI H' x (SpM.farA (sysOf r m) r.n) 30000 → Q (.ref x) H'
theorem d_fe (T : Tx K mg) : Df P w K mg base CX0 4 "farthest_ends" (He.ga K "farthest_ends") ["table"] (spFe K) := by
  obtain ⟨fd, F⟩ := F_farthest_ends T.told
  refine ⟨⟨fd, ?_, F.binds fun _ _ _ _ _ _ us hl => match us, hl with | [_], _ => rfl⟩, F.kp, g_farthest_ends T⟩
  have nBo := n_LineTable_boxes T.told
  have nRi := n_LineTable_rivers T.told
  have nEn := n_LineTable_ends_from T.told
  have nSt := n_LineTable_starts_to T.told
  have cT : Cls K (aTb K) := c_LineTable T.told
  have nd := sc_farthest_ends.nd
  refine F.ok sc_farthest_ends (fun vs H Q E h => ?_) (fun cdv A outer st0 H vs Q E hr h => ?_)
  · obtain ⟨t, r, m, rfl, _⟩ := h
    rfl
  · obtain ⟨t, r, m, rfl, hT, ok, mok, q⟩ := h
    have hr3 : Room 3 _ := hr.mono (by decide)
    have hu := hu_of hr
    have hn : r.n ≤ 100 := ok.n
    refine ⟨_, pss_cons (ps_set (i := 1) nd rfl (.inl rfl) pe_dnewT)
      (pss_cons (ps_for PassesOwn.never rfl (pi_range3 (by rfl) (z_range T) (pa_cons (pe_fld (pv 0) rfl) (pa_cons pe_int (pa_cons (pe_un un_neg pe_int) pa_nil)))) (pg_name (i := 2) nd rfl (.inl rfl))
        (pss_cons (ps_set (i := 3) nd rfl (.inl rfl) pe_non)
        (pss_one (ps_for PassesOwn.never rfl (pi_list (pe_ix ix_list (pe_fld (pv 0) rfl) (pv 2) (fun _ _ => rfl))) (pg_name (i := 4) nd rfl (.inl rfl))
          (pss_cons (ps_if (PW.pt (pw_or (pt_cmpR op_isN (pv 3) pe_non (nomark _)) (pw_or1 (pt_val (pe_fld (pv 0) rfl)))))
            (pss_cons (ps_set (i := 3) nd rfl (.inl rfl) (pv 2))
            (pss_one (ps_for PassesOwn.never rfl (pi_list (pe_ix ix_list (pe_fld (pv 0) rfl) (pv 2) (fun _ _ => rfl))) (pg_tup rfl (pgs_cons (pg_name (i := 5) nd rfl (.inl rfl)) (pgs_cons (pg_name (i := 6) nd rfl (.inl rfl)) pgs_nil)))
              (pss_one (ps_if (PW.pt (pw_and (pt_cmpR op_gt (pe_dget hu (pv 1) (pe_tup (pa_cons (pv 2) (pa_cons (pv 5) pa_nil))) (fun _ _ => rfl)) (pv 3) (nomark _))
                  (pw_and1 (pt_cmpR op_notN (pe_pair T hr3 (pv 0) (pa_cons (pv 4) (pa_cons (pv 2) (pa_cons (pv 5) pa_nil)))) pe_non (nomark _)))))
                (pss_one (ps_set (i := 3) nd rfl (.inl rfl) (pe_dget hu (pv 1) (pe_tup (pa_cons (pv 2) (pa_cons (pv 5) pa_nil))) (fun _ _ => rfl)))) pss_nil))))) pss_nil)
          (pss_one (ps_dput hu (pv 1) (pe_tup (pa_cons (pv 4) (pa_cons (pv 2) pa_nil))) (pv 3) rfl)))))))
      (pss_one (ps_ret (pv 1)))), ?_⟩
    obtain ⟨dx, p, c, ae, at_, g, t1, t2, t3, ⟨es, e1, e2, e3⟩, ⟨bs, b1, b2, b3⟩, t6⟩ := id hT
    intro a na
    have s0 := same_upd (o := .dT []) na
    have tl : ∀ k, ((sysOf r m).T k).length ≤ 100 := fun k => Nat.le_trans (sTp_len r m r.n k) hn
    refine ⟨_, rfl, t, _, dx, _, _, rfl, s0 _ _ t1, cT, nBo, rfl, _, rfl, _, _, _, _, rfl, RgC.neg (by omega) (by omega) (by omega) (by omega), ?_⟩
    have hc : ((r.n : Int) - 0).toNat = r.n := by omega
    rw [hc]
    refine for_rangeC (lo := (r.n : Int)) (c := -1) (n := r.n) (fun i σ H' => ∃ v2 v3 v4 v5 v6 : Option V, σ = [some (.ref t), some (.ref a), v2, v3, v4, v5, v6] ∧ But a (upd H a (.dT [])) H' ∧ DtAt ZI H' a (SpM.farA (sysOf r m) i) (200 * i))
      ⟨none, none, none, none, none, rfl, But.refl _ _, [], upd_same, Nat.zero_le _, fun s k => ⟨fun _ => rfl, fun x z => by cases z⟩⟩ ?_ ?_
    · rintro i σ H2 hi ⟨v2, v3, v4, v5, v6, rfl, hB2, hD2⟩
      have s2 : Same H H2 := But.same s0 na hB2
      have ez : (r.n : Int) + (i : Nat) * -1 = ((r.n - i : Nat) : Int) := by omega
      obtain ⟨mid, em⟩ : ∃ mid, mid = r.n - i := ⟨_, rfl⟩
      obtain ⟨bk, hbk⟩ : ∃ d, bs[mid]? = some d := ⟨_, List.getElem?_eq_getElem (by omega)⟩
      have hlk := b3 mid bk hbk
      obtain ⟨ek, hek⟩ : ∃ d, es[mid]? = some d := ⟨_, List.getElem?_eq_getElem (by omega)⟩
      obtain ⟨xs, hx1, hx2⟩ := e3 mid ek hek
      have hgo : SpM.farA (sysOf r m) (i + 1) = SpM.ago (sysOf r m) mid ((sysOf r m).T mid) none (SpM.farA (sysOf r m) i) := by
        rw [em]
        rfl
      rw [hgo, ez, ← em]
      have good : ∀ e p, (e, p) ∈ sE r m mid → ∃ v, SpM.farA (sysOf r m) i mid e = some v := fun e p h => by
        obtain ⟨l1, l2, _⟩ := sys_e mok h
        obtain ⟨v, hv, _⟩ := SpM.farA_good (sys_ok mok) i (Nat.le_of_lt hi) mid e (by show r.n < e + i; omega) (((sys_ok mok).t _ _).mpr ⟨p, h⟩)
        exact ⟨v, hv⟩
      refine ⟨_, rfl, t, _, dx, _, _, rfl, s2 _ _ t1, cT, nSt, rfl, _, rfl, at_, _, _, _, rfl, rfl, SqL.of (s2 _ _ b1), at_of rfl (mapref_get hbk), bk, rfl, ⟨_, SqL.of (s2 _ _ hlk)⟩,
        for_list (K := K) (a := bk) (xs := (sT r m mid).map intV) (fun j σ H' => ∃ (v3 : V) (v4 v5 v6 : Option V) (b : Option Nat) (f : SpM.AM), σ = [some (.ref t), some (.ref a), some (.int (mid : Int)), some v3, v4, v5, v6] ∧ But a H2 H' ∧ DtAt ZI H' a f (200 * i + j) ∧
          (∀ e p, (e, p) ∈ sE r m mid → ∃ v, f mid e = some v) ∧ SpM.ago (sysOf r m) mid ((sT r m mid).drop j) b f = SpM.ago (sysOf r m) mid ((sysOf r m).T mid) none (SpM.farA (sysOf r m) i) ∧ ((b = none ∧ v3 = .non) ∨ ∃ n, b = some n ∧ v3 = intV n))
          ⟨.non, v4, v5, v6, none, _, rfl, But.refl _ _, hD2, good, rfl, .inl ⟨rfl, rfl⟩⟩ (fun j σ H' _ h => ?_) ?_ ?_⟩
      · obtain ⟨_, _, _, _, _, _, _, hB, _⟩ := h
        exact SqL.of (But.same s2 na hB _ _ hlk)
      · rintro j x σ H3 hj ⟨v3, v4, v5, v6, b, f, rfl, hB3, hD3, gd, hb, hf⟩
        have s3 : Same H H3 := But.same s2 na hB3
        rw [List.getElem?_map] at hj
        obtain ⟨s, hs, rfl⟩ := Option.map_eq_some_iff.mp hj
        have smem : s ∈ (sysOf r m).T mid := List.mem_of_getElem? hs
        obtain ⟨ps, hps⟩ := ((sys_ok mok).t _ _).mp smem
        obtain ⟨q1, q2, _⟩ := sys_e mok hps
        rw [drop_at hs] at hb
        have hb : SpM.ago (sysOf r m) mid ((sT r m mid).drop (j + 1)) (some (SpM.anext (sysOf r m) mid b f s)) (SpM.setM f s mid (SpM.anext (sysOf r m) mid b f s)) = _ := hb
        have jl : j < 100 := by
          have := (List.getElem?_eq_some_iff.mp hs).1
          have h2 : (sT r m mid).length ≤ 100 := tl mid
          omega
        refine join_seq (fun σ' H' => ∃ v5 v6 : Option V, σ' = [some (.ref t), some (.ref a), some (.int (mid : Int)), some (intV (SpM.anext (sysOf r m) mid b f s)), some (intV s), v5, v6] ∧ Same H3 H') (fun D' hD => ?_) ?_
        · refine ⟨_, rfl, rfl, _, rfl, ?_⟩
          refine or_test (rivB m) (fun R' hR' => ⟨_, rfl, t, _, dx, _, _, rfl, s3 _ _ t1, cT, nRi, rfl, rivB m, rfl, hR'⟩) (fun hc => ?_) (fun h1 h2 => ?_)
          · have han : SpM.anext (sysOf r m) mid b f s = (sE r m mid).foldl (ainS (sysOf r m) f s mid) mid := by
              rcases hf with ⟨rfl, rfl⟩ | ⟨n, rfl, rfl⟩
              · rfl
              · rcases hc with hc | hc
                · cases of_decide_eq_true hc
                · show (if rivB m = true then _ else _) = _
                  rw [if_pos hc]
                  rfl
            refine iteT ?_
            refine ⟨_, rfl, ?_⟩
            refine ⟨_, rfl, t, _, dx, _, _, rfl, s3 _ _ t1, cT, nEn, rfl, _, rfl, ae, _, _, _, rfl, rfl, SqL.of (s3 _ _ e1), at_of rfl (mapref_get hek), ek, rfl, ⟨_, SqL.of (s3 _ _ hx1)⟩,
              for_list (K := K) (a := ek) (xs := xs) (fun l σ H' => ∃ v5 v6 : Option V, σ = [some (.ref t), some (.ref a), some (.int (mid : Int)), some (intV (((sE r m mid).take l).foldl (ainS (sysOf r m) f s mid) mid)), some (intV s), v5, v6] ∧ Same H3 H') ⟨v5, v6, rfl, Same.refl _⟩ (fun l σ H' _ h => ?_) ?_ ?_⟩
            · obtain ⟨_, _, _, h⟩ := h
              exact SqL.of (h _ _ (s3 _ _ hx1))
            · rintro l x σ H4 hl ⟨v5, v6, rfl, s4⟩
              obtain ⟨⟨e, pr⟩, hep, tt, rfl, ht⟩ := hx2.get hl
              have hmem := List.mem_of_getElem? hep
              obtain ⟨l1, l2, _⟩ := sys_e mok hmem
              obtain ⟨v, hv⟩ := gd e pr hmem
              rw [take_foldl hep]
              generalize hbest : ((sE r m mid).take l).foldl (ainS (sysOf r m) f s mid) mid = best at *
              refine ⟨tt, _, rfl, SqT.of (s4 _ _ (s3 _ _ ht)), rfl, _, _, rfl, _, _, rfl, rfl, ?_⟩
              refine ⟨_, rfl, _, rfl, _, rfl, (by show 2 ≤ sizeLine; decide), fun k1 n1 => ?_⟩
              have s5 := same_upd (o := .tup [.int (mid : Int), .int (e : Int)]) n1
              obtain ⟨u, g1, g2⟩ := (hD3.same to_I (s4.trans s5)).get (t := k1) (i := mid) (k := e) upd_same hv
              cases g2
              refine ⟨a, _, rfl, g1, _, rfl, _, _, rfl, rfl, _, rfl, ?_⟩
              have st : ainS (sysOf r m) f s mid best (e, pr) = if best < v ∧ ((sysOf r m).prO (some s) mid e).isSome = true then v else best := by
                show (if best < (f mid e).getD 0 ∧ ((sysOf r m).prO (some s) mid e).isSome = true then (f mid e).getD 0 else best) = _
                rw [hv]
                rfl
              by_cases c1 : best < v
              · rw [decide_eq_true (show (best : Int) < (v : Int) by omega)]
                refine iteT ⟨_, rfl, t, dx, _, rfl, s5 _ _ (s4 _ _ (s3 _ _ t1)), rfl, _, rfl, _, rfl, _, rfl, t, r, m, some s, _, _, mid, e, rfl, rfl, rfl, hT.same (s3.trans (s4.trans s5)), ok, mok, ⟨pr, hmem⟩, fun s' hs' => ?_, fun H6 s6 => ?_⟩
                · cases hs'
                  exact ⟨ps, hps⟩
                · refine ⟨rfl, _, rfl, ?_⟩
                  cases e7 : (sysOf r m).prO (some s) mid e with
                  | none =>
                    rw [e7, if_neg (by rintro ⟨_, z⟩; cases z)] at st
                    rw [st]
                    exact iteF ⟨_, _, rfl, (s4.trans s5).trans s6⟩
                  | some w1 =>
                    rw [e7, if_pos ⟨c1, rfl⟩] at st
                    rw [st]
                    refine iteT ⟨_, rfl, _, rfl, _, rfl, (by show 2 ≤ sizeLine; decide), fun k2 n2 => ?_⟩
                    have s7 := same_upd (o := .tup [.int (mid : Int), .int (e : Int)]) n2
                    have s47 := ((s4.trans s5).trans s6).trans s7
                    obtain ⟨u, g1, g2⟩ := (hD3.same to_I s47).get (t := k2) (i := mid) (k := e) upd_same hv
                    cases g2
                    exact ⟨a, _, rfl, g1, _, _, rfl, s47⟩
              · rw [decide_eq_false (show ¬ (best : Int) < (v : Int) by omega)]
                rw [if_neg (fun z => c1 z.1)] at st
                rw [st]
                exact iteF (iteF ⟨_, _, rfl, s4.trans s5⟩)
            · rintro σ H4 ⟨v5, v6, rfl, s4⟩
              rw [hx2.length, List.take_length, ← han]
              exact hD _ _ ⟨v5, v6, rfl, s4⟩
          · rcases hf with ⟨rfl, rfl⟩ | ⟨n, rfl, rfl⟩
            · cases h1
            · have han : SpM.anext (sysOf r m) mid (some n) f s = n := by
                show (if rivB m = true then _ else _) = _
                rw [if_neg (by rw [h2]; exact Bool.false_ne_true)]
              refine iteF (hD _ _ ⟨v5, v6, ?_, Same.refl _⟩)
              rw [han]
              rfl
        · rintro σ' H4 ⟨v5, v6, rfl, s4⟩
          refine ⟨_, rfl, _, rfl, _, rfl, _, rfl, (by show 2 ≤ sizeLine; decide), fun k1 n1 => ?_⟩
          have s5 := same_upd (o := .tup [intV s, .int (mid : Int)]) n1
          obtain ⟨H6, d1, d2, d3⟩ := (hD3.same to_I (s4.trans s5)).put to_I (v := intV (SpM.anext (sysOf r m) mid b f s)) (y := SpM.anext (sysOf r m) mid b f s) (t := k1) (s := s) (k := mid) rfl upd_same (by omega)
          refine ⟨a, H6, rfl, d1, _, _, _, _, _, _, rfl, (hB3.to (s4.trans s5)).trans d3, d2, fun e p he => ?_, hb, .inr ⟨_, rfl, rfl⟩⟩
          obtain ⟨v, hv⟩ := gd e p he
          refine ⟨v, ?_⟩
          unfold SpM.setM
          rw [if_neg (fun z => by omega)]
          exact hv
      · rintro σ H3 ⟨v3, v4, v5, v6, b, f, rfl, hB3, hD3, gd, hb, hf⟩
        rw [List.length_map, List.drop_length] at hb
        have hb : f = _ := hb
        rw [← hb]
        rw [List.length_map] at hD3
        have h2 : (sT r m mid).length ≤ 100 := tl mid
        exact ⟨_, _, _, _, _, rfl, hB2.trans hB3, hD3.le (by omega)⟩
    · rintro σ H2 ⟨v2, v3, v4, v5, v6, rfl, hB2, hD2⟩
      exact ⟨_, rfl, q H2 a (But.same s0 na hB2) na (hD2.le (by omega))⟩
end
end Sp
set_option maxRecDepth 100000
set_option maxHeartbeats 2000000
/-! stretch_of. -/
namespace Sp
open PySem PySem.Spec PyProof.Rows L2
theorem max_eq {l : List Nat} {z : Int} (hne : l ≠ []) (h1 : z ∈ l.map (fun i : Nat => (i : Int))) (h2 : ∀ y ∈ l.map (fun i : Nat => (i : Int)), y ≤ z) : z = (SpM.maxL l : Nat) := by
  obtain ⟨a, ha, rfl⟩ := List.mem_map.mp h1
  have h3 := SpM.maxL_ge ha
  have h4 := h2 _ (List.mem_map.mpr ⟨_, SpM.maxL_mem hne, rfl⟩)
  omega
def SvAt (H : Hp) (v : V) : Option (Nat × Nat) → Prop
  | none => v = .non
  | some p => ∃ a, v = .ref a ∧ H a = some (.tup [intV p.1, intV p.2])
theorem SvAt.same {H H' : Hp} {v : V} {o : Option (Nat × Nat)} (h : SvAt H v o) (s : Same H H') : SvAt H' v o := by
  cases o with
  | none => exact h
  | some p => exact h.imp fun _ e => ⟨e.1, s _ _ e.2⟩
theorem sc_SO : FnScope ["table", "farthest", "covered", "shortest", "start", "length", "end", "price"] ["table"] (defScope s_stretch_of) := ⟨rfl, rfl, rfl, by decide +kernel, rfl, by decide +kernel, by decide +kernel⟩
section
variable {P : Program} {w : World} {K : PySem.W.Frag} {mg : Str → Option Value} {base : Heap}
def spSo (K : PySem.W.Frag) : L2.Sp := fun vs H Q _ => ∃ (t : Addr) (r : Rw) (m : Ms), vs = [.ref t] ∧ TbAt K H t r m ∧ r.Ok ∧ m.Ok ∧ ∀ (H' : Hp) (v : V), Same H H' → SvAt H' v (SpM.resS (sysOf r m)) → Q v H'
theorem d_so (T : Tx K mg) : Df P w K mg base CX0 5 "stretch_of" (He.ga K "stretch_of") ["table"] (spSo K) := by
  obtain ⟨fd, F⟩ := F_stretch_of T.told
  refine ⟨⟨fd, ?_, F.binds fun _ _ _ _ _ _ us hl => match us, hl with | [_], _ => rfl⟩, F.kp, g_stretch_of T⟩
  have nBo := n_LineTable_boxes T.told
  have nEn := n_LineTable_ends_from T.told
  have cT : Cls K (aTb K) := c_LineTable T.told
  have DE : Df P w K mg base CX0 4 "farthest_ends" (He.ga K "farthest_ends") ["table"] (spFe K) := d_fe T
  have nd := sc_SO.nd
  refine F.ok sc_SO (fun vs H Q E h => ?_) (fun cdv A outer st0 H vs Q E hr h => ?_)
  · obtain ⟨t, r, m, rfl, _⟩ := h
    rfl
  · obtain ⟨t, r, m, rfl, hT, ok, mok, q⟩ := h
    have hr4 : Room 4 _ := hr.mono (by decide)
    have hu := hu_of hr
    have hn : r.n ≤ 100 := ok.n
    refine ⟨_, pss_cons (ps_set (i := 1) nd rfl (.inr rfl) (pe_d DE hr4 (by rfl) (pa_cons (pv 0) pa_nil)))
      (pss_cons (ps_set (i := 2) nd rfl (.inl rfl) pe_int)
      (pss_cons (ps_set (i := 3) nd rfl (.inl rfl) pe_non)
      (pss_cons (ps_for PassesOwn.never rfl (pi_range1 (by rfl) (z_range T) (pa_cons (pe_fld (pv 0) rfl) pa_nil)) (pg_name (i := 4) nd rfl (.inr rfl))
        (pss_cons (ps_set (i := 2) nd rfl (.inl rfl) (pe_callB (cr_max rfl) (by rfl) (z_max T) (by decide +kernel) (pa_cons (pe_op op_cat (pe_lst (pa_cons (pv 2) (pa_cons (pv 4) pa_nil)))
            (pe_lc (own := [("end", 6), ("price", 7)]) (g := gTup K 2 (gCons (gName 6) (gCons (gName 7) gNil))) (tt := tYes) rfl nd (pi_list (pe_ix ix_list (pe_fld (pv 0) rfl) (pv 4) (fun _ _ => rfl))) (blkOk_by (N := ["table", "farthest", "covered", "shortest", "start", "length", "end", "price"]) (sc := defScope s_stretch_of) (by decide +kernel))
              (fun _ _ _ _ _ => pg_tup rfl (pgs_cons (pg_name (i := 6) nd rfl (.inl rfl)) (pgs_cons (pg_name (i := 7) nd rfl (.inl rfl)) pgs_nil))) (fun _ _ _ _ _ => pts_nil) (fun _ _ _ _ _ => pe_dget hu (pv 1) (pe_tup (pa_cons (pv 4) (pa_cons (pv 6) pa_nil))) (fun _ _ => rfl)))) pa_nil)))
        (pss_cons (ps_set (i := 5) nd rfl (.inl rfl) (pe_op op_sub (pe_op op_add (pv 2) pe_int) (pv 4)))
        (pss_one (ps_if (PW.pt (pw_and (pt_cmpR op_lt (pv 2) (pe_fld (pv 0) rfl) (nomark _)) (pw_and1 (PW.pt (pw_or (pt_cmpR op_isN (pv 3) pe_non (nomark _)) (pw_or1 (pt_cmpR op_lt (pv 5) (pe_op op_sub (pe_ix ix_tup (pv 3) pe_int (fun _ _ => rfl)) (pe_ix ix_tup (pv 3) pe_int (fun _ _ => rfl))) (nomark _))))))))
          (pss_one (ps_set (i := 3) nd rfl (.inl rfl) (pe_tup (pa_cons (pv 4) (pa_cons (pe_op op_add (pv 2) pe_int) pa_nil))))) pss_nil)))))
      (pss_one (ps_ret (pv 3)))))), ?_⟩
    obtain ⟨dx, p, c, ae, at_, g, t1, t2, t3, ⟨es, e1, e2, e3⟩, t5, t6⟩ := id hT
    refine ⟨_, rfl, t, r, m, rfl, hT, ok, mok, fun H1 a s1 n1 hD => ?_⟩
    refine ⟨_, rfl, t, _, dx, _, _, rfl, s1 _ _ t1, cT, nBo, rfl, _, rfl, by omega, by omega, for_range (fun i σ H' => ∃ (v3 : V) (v4 v5 : Option V), σ = [some (.ref t), some (.ref a), some (intV (SpM.sgo (sysOf r m) (SpM.farA (sysOf r m) r.n) i).1), some v3, v4, v5, none, none] ∧ Same H1 H' ∧ SvAt H' v3 (SpM.sgo (sysOf r m) (SpM.farA (sysOf r m) r.n) i).2)
      ⟨.non, none, none, rfl, Same.refl _, rfl⟩ ?_ ?_⟩
    · rintro i σ H2 hi ⟨v3, v4, v5, rfl, s2, hS⟩
      have hi' : i < r.n := by omega
      have s02 := s1.trans s2
      obtain ⟨ek, hek⟩ : ∃ d, es[i]? = some d := ⟨_, List.getElem?_eq_getElem (by omega)⟩
      obtain ⟨xs, hx1, hx2⟩ := e3 i ek hek
      have hD2 := hD.same to_I s2
      have ll : (sE r m i).length ≤ 100 := by
        rw [sE_lt hi']
        have := lf_len (r := r) (m := m) (s := i)
        omega
      have hgo : SpM.sgo (sysOf r m) (SpM.farA (sysOf r m) r.n) (i + 1) = SpM.sstep (sysOf r m) (SpM.farA (sysOf r m) r.n) i (SpM.sgo (sysOf r m) (SpM.farA (sysOf r m) r.n) i) := rfl
      rw [hgo]
      generalize SpM.sgo (sysOf r m) (SpM.farA (sysOf r m) r.n) i = st at *
      obtain ⟨c0, o⟩ := st
      refine ⟨_, rfl, _, rfl, (by show 2 ≤ sizeLine; decide), fun l nl => ?_⟩
      have s3 := same_upd (o := .lst [intV c0, .int (0 + i)]) nl
      refine ⟨_, rfl, t, _, dx, _, _, rfl, s3 _ _ (s02 _ _ t1), cT, nEn, rfl, _, rfl, ae, _, _, _, rfl, rfl, SqL.of (s3 _ _ (s02 _ _ e1)), at_of (by omega) (mapref_get hek), ek, rfl, ⟨_, SqL.of (s3 _ _ (s02 _ _ hx1))⟩, fun D nD => ?_⟩
      have s4 := same_upd (o := .lst []) nD
      refine lc_list (K := K) (a := ek) (xs := xs) (fun j H' => But D (upd (upd H2 l (.lst [intV c0, .int (0 + i)])) D (.lst [])) H' ∧ H' D = some (.lst (((sE r m i).take j).map fun ep => intV ((SpM.farA (sysOf r m) r.n i ep.1).getD 0)))) ⟨But.refl _ _, upd_same⟩ (fun j H' _ h => ?_) ?_ ?_
      · exact SqL.of (But.same s4 nD h.1 _ _ (s3 _ _ (s02 _ _ hx1)))
      · rintro j x H3 hj ⟨hB, hL⟩
        have s5 := But.same s4 nD hB
        obtain ⟨⟨e, pr⟩, hep, tt, rfl, ht⟩ := hx2.get hj
        have hmem := List.mem_of_getElem? hep
        obtain ⟨l1, l2, _⟩ := sys_e mok hmem
        obtain ⟨v, hv, _⟩ := SpM.farA_good (sys_ok mok) r.n (Nat.le_refl _) i e (by show r.n < e + r.n; omega) (((sys_ok mok).t _ _).mpr ⟨pr, hmem⟩)
        refine ⟨tt, _, rfl, SqT.of (s5 _ _ (s3 _ _ (s02 _ _ ht))), rfl, _, _, rfl, _, _, rfl, rfl, rfl, _, rfl, _, rfl, _, rfl, (by show 2 ≤ sizeLine; decide), fun k1 n1 => ?_⟩
        have s6 := same_upd (o := .tup [.int (0 + i), .int (e : Int)]) n1
        obtain ⟨u, g1, g2⟩ := (((hD2.same to_I s3).same to_I s5).same to_I s6).get (t := k1) (i := i) (k := e) (upd_same.trans (by rw [Int.zero_add]; rfl)) hv
        cases g2
        refine ⟨a, _, rfl, g1, _, s6 _ _ hL, ?_, (hB.to s6).put, ?_⟩
        · rw [List.length_map, List.length_take]
          exact Nat.lt_of_lt_of_le (show _ < 101 from Nat.lt_of_le_of_lt (Nat.min_le_right _ _) (by omega)) (by decide)
        · rw [upd_same, List.take_add_one, hep, List.map_append]
          show _ = some (HO.lst (_ ++ [intV ((SpM.farA (sysOf r m) r.n i e).getD 0)]))
          rw [hv]
          rfl
      · rintro H3 ⟨hB, hL⟩
        rw [hx2.length, List.take_length] at hL
        have s5 := But.same s4 nD hB
        refine ⟨l, D, _, _, rfl, rfl, s5 _ _ upd_same, hL, ?_, fun pr npr => ?_⟩
        · rw [List.length_map]
          exact Nat.le_trans (show 2 + _ ≤ 102 by omega) (by decide)
        have s6 := same_upd (o := .lst ([intV c0, .int (0 + i)] ++ ((sE r m i).map fun ep => intV ((SpM.farA (sysOf r m) r.n i ep.1).getD 0)))) npr
        have s26 := (s3.trans s5).trans s6
        refine ⟨pr, (c0 :: i :: (sE r m i).map fun ep => (SpM.farA (sysOf r m) r.n i ep.1).getD 0).map (fun i : Nat => (i : Int)), rfl, SqL.of (upd_same.trans ?_), ?_, fun z h1 h2 => ?_⟩
        · rw [Int.zero_add, List.map_map, List.map_cons, List.map_cons, List.map_map]
          rfl
        · rw [List.length_map, List.length_cons]
          omega
        have hz := max_eq (by simp) h1 h2
        subst hz
        obtain ⟨cc, hcc⟩ : ∃ cc, cc = SpM.maxL (c0 :: i :: (sE r m i).map fun ep => (SpM.farA (sysOf r m) r.n i ep.1).getD 0) := ⟨_, rfl⟩
        have hst : SpM.sstep (sysOf r m) (SpM.farA (sysOf r m) r.n) i (c0, o) = (cc, if cc < r.n ∧ (∀ p, o = some p → (cc : Int) + 1 - i < (p.2 : Int) - p.1) then some (i, cc + 1) else o) := by
          rw [hcc]
          rfl
        rw [hst, ← hcc]
        have hS := hS.same s26
        refine ⟨_, rfl, _, _, rfl, rfl, _, rfl, _, _, rfl, rfl, ?_⟩
        refine ⟨_, rfl, _, rfl, t, _, dx, _, _, rfl, s26 _ _ (s02 _ _ t1), cT, nBo, rfl, _, _, rfl, rfl, _, rfl, ?_⟩
        have s2' := s2.trans s26
        by_cases c1 : cc < r.n
        · rw [decide_eq_true (show (cc : Int) < (r.n : Int) by omega)]
          refine iteT ⟨_, rfl, rfl, _, rfl, ?_⟩
          cases o with
          | none =>
            cases hS
            rw [if_pos (show cc < r.n ∧ ∀ p : Nat × Nat, (none : Option (Nat × Nat)) = some p → (cc : Int) + 1 - i < (p.2 : Int) - p.1 from ⟨c1, fun p z => (by cases z)⟩)]
            refine iteT (iteT ⟨_, rfl, _, rfl, _, _, rfl, rfl, (by show 2 ≤ sizeLine; decide), fun k nk => ⟨_, _, _, rfl, s2'.trans (same_upd nk), k, rfl, upd_same.trans ?_⟩⟩)
            rw [Int.zero_add]
            rfl
          | some p =>
            obtain ⟨a3, rfl, h3⟩ := id hS
            refine iteF ⟨_, rfl, _, rfl, a3, _, _, _, rfl, rfl, SqT.of h3, rfl, _, rfl, a3, _, _, _, rfl, rfl, SqT.of h3, rfl, _, _, rfl, rfl, _, _, rfl, rfl, _, rfl, ?_⟩
            by_cases c2 : (cc : Int) + 1 - i < (p.2 : Int) - p.1
            · rw [if_pos ⟨c1, fun p' z => by cases z; exact c2⟩]
              rw [decide_eq_true (show (cc : Int) + 1 - (0 + (i : Int)) < (p.2 : Int) - p.1 by omega)]
              refine iteT ⟨_, rfl, _, rfl, _, _, rfl, rfl, (by show 2 ≤ sizeLine; decide), fun k nk => ⟨_, _, _, rfl, s2'.trans (same_upd nk), k, rfl, upd_same.trans ?_⟩⟩
              rw [Int.zero_add]
              rfl
            · rw [if_neg fun z => c2 (z.2 p rfl)]
              rw [decide_eq_false (show ¬ (cc : Int) + 1 - (0 + (i : Int)) < (p.2 : Int) - p.1 by omega)]
              exact iteF ⟨_, _, _, rfl, s2', hS⟩
        · rw [decide_eq_false (show ¬ (cc : Int) < (r.n : Int) by omega)]
          rw [if_neg fun z => c1 z.1]
          exact iteF (iteF ⟨_, _, _, rfl, s2', hS⟩)
    · rintro σ H2 ⟨v3, v4, v5, rfl, s2, hS⟩
      have hnn : ((r.n : Int)).toNat = r.n := by omega
      rw [hnn] at hS
      exact ⟨_, rfl, q H2 v3 (s1.trans s2) hS⟩
end
end Sp
set_option maxRecDepth 100000
set_option maxHeartbeats 2000000
/-! Blocked(start, end): an own error whose __init__ says super().__init__(..), then keeps two fields. -/
namespace PySem
namespace BlX
open PySem.W PySem.Calls PyProof.Rows PySem.HandSPX
/-- what the written part says of the class at C and of its __init__ at fI -/
structure BkTxt (K : Frag) (C fI : Addr) : Prop where
  cls : ∃ nm q N bs bm sn sub ab col dd k0 k1 k2 k3 k5, K.lookup C = some (excClassObj nm q C N bs bm true sn sub ab col dd k0 k1 k2 k3 k5 "ValueError.__new__") ∧ refsVE bm = true
  sa : findIn K (.ref C) "__setattr__" = some (some (.builtin "object.__setattr__"))
  ga : findIn K (.ref C) "__getattribute__" = some (some (.builtin "BaseException.__getattribute__"))
  gg : findIn K (.ref C) "__getattr__" = some none
  nS : findIn K (.ref C) "start" = some none
  nE : findIn K (.ref C) "end" = some none
  iC : findIn K (.ref C) "__init__" = some (some (.ref fI))
  tC : typeIn K (.ref fI) = some (.type "function")
  kC : keepIn K (.ref C) = true
  exC : subIn K (.ref C) (.type "BaseException") = some true
  tyC : typeIn K (.ref C) = some (.type "type")
  hdC : hasDictIn K C = true
  te : exmOne K (.ref C) (.ref C) = some true
  sup : ks_superIn K C C "__init__" = some (some (.builtin "ValueError.__init__"))
  subV : subIn K (.ref C) (.type "ValueError") = some true
  mro : mroIn K C (.ref C) = some true
  st : nsIn K cStatics "thirdparty.any" = some none
  fn : ∃ (oc : Value) (od : Option Addr) (osl : Array (Option Value)) (kV doc pm : Value) (an : Option Addr) (cda cc : Addr) (ct : Value), K.lookup fI = some ⟨oc, od, .func (fnX "__init__" "Blocked.__init__" (L2.defArgs Sp.s_Blocked_init) (L2.defBody Sp.s_Blocked_init) (L2.defScope Sp.s_Blocked_init) [("__class__", cc)] .none kV doc pm an (.ref cda) ct), osl⟩ ∧
    codeIn K (.ref cda) "Blocked.__init__" = true ∧ (∃ ccl cdd vs ccs tf, K.lookup cda = some ⟨ccl, cdd, .fields vs, ccs⟩ ∧ vs[2]? = some (.str "/claim/cut.py" tf)) ∧ ∃ cl cld csl, K.lookup cc = some ⟨cl, cld, .cell (some (.ref C)), csl⟩
end BlX
end PySem
namespace Sp
open PySem PySem.Spec PyProof.Rows L2
open PySem.W PySem.HandSPX
theorem bk_cls {K : PySem.W.Frag} (T : Told K) : ∃ nm q N bs bm sn sub ab col dd k0 k1 k2 k3 k5, K.lookup (aBk K) = some (excClassObj nm q (aBk K) N bs bm true sn sub ab col dd k0 k1 k2 k3 k5 "ValueError.__new__") ∧ refsVE bm = true := by
  have b := f_blkB T
  unfold blkB at b
  split at b
  · rename_i od cd sl ho
    split at b
    · rename_i d bm k0 k1 k2 k3 n k5 hm hs
      simp only [Bool.and_eq_true, decide_eq_true_eq, Bool.not_eq_true'] at b
      obtain ⟨hd, hn, hdel, hr, hhd⟩ := b
      subst hn
      obtain ⟨nm, bs, mro, ns, qn, hasd, sn, sb, ab, col, del⟩ := cd
      simp only at hm hdel hhd
      subst hm hdel hhd
      subst hd
      obtain ⟨sl⟩ := sl
      simp only at hs
      subst hs
      exact ⟨nm, qn, ns, bs, bm, sn, sb, ab, col, od, k0, k1, k2, k3, k5, ho, hr⟩
    · cases b
  · cases b
theorem bk_fn {K : PySem.W.Frag} (T : Told K) : ∃ (oc : Value) (od : Option Addr) (osl : Array (Option Value)) (kV doc pm : Value) (an : Option Addr) (cda cc : Addr) (ct : Value), K.lookup (He.ma K (aBk K) "__init__") = some ⟨oc, od, .func (fnX "__init__" "Blocked.__init__" (L2.defArgs Sp.s_Blocked_init) (L2.defBody Sp.s_Blocked_init) (L2.defScope Sp.s_Blocked_init) [("__class__", cc)] .none kV doc pm an (.ref cda) ct), osl⟩ ∧
    codeIn K (.ref cda) "Blocked.__init__" = true ∧ (∃ ccl cdd vs ccs tf, K.lookup cda = some ⟨ccl, cdd, .fields vs, ccs⟩ ∧ vs[2]? = some (.str "/claim/cut.py" tf)) ∧ ∃ cl cld csl, K.lookup cc = some ⟨cl, cld, .cell (some (.ref (aBk K))), csl⟩ := by
  have y0 := f_blkS T
  unfold blkS at y0
  have y1 := (Bool.and_eq_true_iff.mp y0).2
  have y2 := (Bool.and_eq_true_iff.mp y1).2
  have y3 := (Bool.and_eq_true_iff.mp y2).2
  have b := (Bool.and_eq_true_iff.mp y3).2
  clear y0 y1 y2 y3
  have v : blkF K = blkV := congrArg (fun x => x.2.2) T
  unfold blkF blkV at v
  split at b
  · rename_i oc od fd osl ho
    rw [ho] at v
    simp only at v
    have w0 := Option.some.inj v
    clear v
    obtain ⟨name, qual, params, body, scope, globals, closure, defaults, kwd, doc, pm, an, code, ct, blt⟩ := fd
    simp only at w0 b ho
    obtain ⟨v1, w1⟩ := Prod.mk.inj w0
    obtain ⟨v2, w2⟩ := Prod.mk.inj w1
    obtain ⟨v3, w3⟩ := Prod.mk.inj w2
    obtain ⟨v4, w4⟩ := Prod.mk.inj w3
    obtain ⟨v5, w5⟩ := Prod.mk.inj w4
    obtain ⟨v6, w6⟩ := Prod.mk.inj w5
    obtain ⟨v7, v8⟩ := Prod.mk.inj w6
    clear w0 w1 w2 w3 w4 w5 w6
    subst v1 v2 v3 v4 v5 v6 v8
    obtain ⟨b1, x1⟩ := Bool.and_eq_true_iff.mp b
    obtain ⟨b2, x2⟩ := Bool.and_eq_true_iff.mp x1
    obtain ⟨b3, b4⟩ := Bool.and_eq_true_iff.mp x2
    clear b x1 x2
    have hd : defaults = .none := by
      cases defaults with
      | none => rfl
      | _ => cases b2
    subst hd
    split at b3
    · rename_i c
      split at b3
      · rename_i c1 c2 vs c3 hc
        split at b3
        · rename_i z t hv
          have z' := of_decide_eq_true b3
          subst z'
          split at b4
          · rename_i x cc
            split at b4
            · rename_i e1 e2 d e3 hcc
              have d' := of_decide_eq_true b4
              subst d'
              have v9 : x = "__class__" := (List.cons.inj v7).1
              subst v9
              exact ⟨oc, od, osl, _, _, _, _, _, _, _, ho, b1, ⟨_, _, _, _, _, hc, hv⟩, _, _, _, hcc⟩
            · cases b4
          · cases b4
        · cases b3
      · cases b3
    · cases b3
  · cases b
theorem bk_txt {K : PySem.W.Frag} (T : Told K) : PySem.BlX.BkTxt K (aBk K) (He.ma K (aBk K) "__init__") := by
  have b := f_blkI T
  unfold blkI at b
  obtain ⟨i1, b⟩ := Bool.and_eq_true_iff.mp b
  obtain ⟨i2, b⟩ := Bool.and_eq_true_iff.mp b
  obtain ⟨i3, b⟩ := Bool.and_eq_true_iff.mp b
  obtain ⟨i4, b⟩ := Bool.and_eq_true_iff.mp b
  obtain ⟨i5, b⟩ := Bool.and_eq_true_iff.mp b
  obtain ⟨i6, b⟩ := Bool.and_eq_true_iff.mp b
  obtain ⟨i7, b⟩ := Bool.and_eq_true_iff.mp b
  obtain ⟨i8, b⟩ := Bool.and_eq_true_iff.mp b
  obtain ⟨i9, b⟩ := Bool.and_eq_true_iff.mp b
  have c := f_blkS T
  unfold blkS at c
  obtain ⟨s1, c⟩ := Bool.and_eq_true_iff.mp c
  obtain ⟨s2, c⟩ := Bool.and_eq_true_iff.mp c
  obtain ⟨s3, c⟩ := Bool.and_eq_true_iff.mp c
  obtain ⟨s4, _⟩ := Bool.and_eq_true_iff.mp c
  exact ⟨bk_cls T, He.eqO_ok i1, He.eqO_ok i2, He.eqO_ok i3, (n_Blocked_start T), (n_Blocked_end T), He.eqO_ok i4, of_decide_eq_true i5, i6, of_decide_eq_true i7, of_decide_eq_true i8, i9, of_decide_eq_true b,
    He.eqO_ok s1, of_decide_eq_true s2, of_decide_eq_true s3, He.eqO_ok s4, bk_fn T⟩
end Sp
set_option maxRecDepth 100000
set_option maxHeartbeats 2000000
/-! Blocked(start, end): the walk of __init__, the making, raise, the fields. -/
namespace PySem
namespace BlX
open PySem.W PySem.Calls PyProof.Rows PySem.HandSPX
theorem bk_body : ∃ (p0 p1 p2 p3 p4 p5 q1 q2 q3 q4 q5 q6 q7 q8 : Pos) (k : Nat) (z : Str), L2.defBody Sp.s_Blocked_init = [.Expr (.Call (.Attribute (.Call (.Name "super" p0) [] [] p1) "__init__" p2) [.Constant (.str z) k p3] [] p4) p5,
    .Assign [.Attribute (.Name "self" q1) "start" q2] (.Name "start" q3) q4, .Assign [.Attribute (.Name "self" q5) "end" q6] (.Name "end" q7) q8] := ⟨_, _, _, _, _, _, _, _, _, _, _, _, _, _, _, _, rfl⟩
theorem args_size (a b : Value) : [a, b].length ≤ sizeLine := by
  rw [sizeLine_eq]
  exact (by decide : 2 ≤ 16777216)
theorem ldX {M : Model} {s : Shared} {env : Env} {m : Str → Option Value} {x : Str} {pos : Pos} {v : Value} {Q : Value → Shared → Prop} {A : Around} {E : Value → Shared → Prop} (hn : s.heap.Ns env.locals m) (hv : m x = some v) (h : Q v s)
    (hk : env.scope.kind = .function := by rfl) (hl : env.kindOf x = some .local := by rfl) (hd : (x == ("__debug__" : Str)) = false := by decide) :
    wpAny M A (eval (.Name x pos) env) Q E s := wpAny_Name (wpAny_loadName_local hk hl hn hv h) hd
theorem refs_tail : ∀ bm : List Value, refsVE bm = true → excTail [.type "ValueError", .type "Exception", .type "BaseException", .type "object"] bm = true
  | [], h => by cases h
  | .ref _ :: r, h => by
    unfold refsVE at h
    unfold excTail
    exact refs_tail r h
  | .none :: r, h => by exact h
  | .bool _ :: r, h => by exact h
  | .int _ _ :: r, h => by exact h
  | .float _ _ :: r, h => by exact h
  | .str _ _ :: r, h => by exact h
  | .bytes _ _ :: r, h => by exact h
  | .type _ :: r, h => by exact h
  | .builtin _ :: r, h => by exact h
  | l, h => by
    rcases refsVE_cases l h with ⟨c, r, rfl, hr⟩ | rfl
    · unfold excTail
      exact refs_tail r hr
    · decide
def bkB (x : Addr) (v1 v2 : Value) : List (Str × Value) := [("self", .ref x), ("start", v1), ("end", v2)]
theorem bk_excIn {K : Frag} {C fI : Addr} (T : BkTxt K C fI) : excInitIn K C [.type "ValueError", .type "Exception", .type "BaseException", .type "object"] "ValueError.__new__" = true := by
  obtain ⟨nm, q, N, bs, bm, sn, sub, ab, col, dd, k0, k1, k2, k3, k5, hC, hbm⟩ := T.cls
  unfold excInitIn
  rw [hC]
  simp only [excClassObj, Bool.and_eq_true, beq_self_eq_true, refs_tail bm hbm, and_true, Bool.not_false]
/-- what the making leaves: e the exception, d its dict -/
structure Made (h h' : Heap) (e C d : Addr) (v1 v2 : Value) : Prop where
  keep : ∀ b o, h.get? b = some o → h'.get? b = some o
  new : h.objs.size ≤ e
  obj : ∃ t1 : Addr, h'.get? e = some { cls := .ref C, dict := some d, data := .fields #[.ref t1, .none, .none, .none, .bool false, .none] }
  dbig : h.objs.size ≤ d
  dne : d ≠ e
  ns : h'.Ns1 d (fun y => if y = "end" then some v2 else if y = "start" then some v1 else none)
section
variable {prog : Program} {w : World} {A : Around} {E : Value → Shared → Prop} {R : Result → Shared → Prop} {s : Shared} {K : Frag} {C fI : Addr} {h₀ : Heap} {mg mb : Str → Option Value}
/-- what a frame sees of the module and the built-ins -/
structure Env0 (prog : Program) (K : Frag) (h₀ : Heap) : Prop where
  kin : K.In h₀
  lim : h₀.NoLimit
  glo : ∃ mg, h₀.Ns mainGlobals mg ∧ mg "super" = none
  blt : ∃ mb, h₀.Ns builtinsNs mb ∧ mb "super" = some (.type "super")
  file : ((prog.main.file : Str) == "/claim/cut.py") = true
  top : (prog.main.scope.names.lookup ("super" : Str)).isSome = false
theorem bk_init (T : BkTxt K C fI) (G : Env0 prog K h₀) {x t0 : Addr} {v1 v2 : Value} (keep : ∀ b o, h₀.get? b = some o → s.heap.get? b = some o) (hsz : h₀.objs.size ≤ s.heap.objs.size) (hx : s.heap.get? x = some (excO C t0)) (hnx : h₀.get? x = none) (hxs : h₀.objs.size ≤ x)
    (hroom : A.depth < recursionLimit) (hq : ∀ h' tk d, Made h₀ h' x C d v1 v2 → R (.ok (.ret .none)) { s with heap := h', toks := tk }) :
    codeAny (model prog w) A (.call (.ref fI) ⟨[.ref x, v1, v2], []⟩) R s := by
  obtain ⟨oc, od, osl, kV, doc, pm, an, cda, cc, ct, ho, hcd, ⟨ccl, cdd, vs, ccs, tf, hcode, hvs⟩, cl, cld, csl, hcell⟩ := T.fn
  obtain ⟨nm, q, N, bs, bm, sn, sub, ab, col, dd, k0, k1, k2, k3, k5, hC, hbm⟩ := T.cls
  have hcl : clsIn K C = some { name := nm, bases := bs, mro := .ref C :: bm, ns := N, qualname := q, hasDict := true, slotNames := sn, subclasses := sub, abstract := ab, collection := col, hasDel := false } := by unfold clsIn; rw [hC] <;> rfl
  obtain ⟨mg, hg, hgs⟩ := G.glo
  obtain ⟨mb, hb, hbs⟩ := G.blt
  have Xs : K.In s.heap := G.kin.keeps keep
  refine ks_codeAny_call_defAt (fd := fnX "__init__" "Blocked.__init__" (L2.defArgs Sp.s_Blocked_init) (L2.defBody Sp.s_Blocked_init) (L2.defScope Sp.s_Blocked_init) [("__class__", cc)] .none kV doc pm an (.ref cda) ct) (body := L2.defBody Sp.s_Blocked_init)
    (binds := bkB x v1 v2) hroom (Xs _ _ ho) rfl (G.lim.keeps keep) (codeRec_of Xs hcd) rfl (BindsTo.of_eq (by first | rfl | with_unfolding_all rfl)) (show ∀ y ∈ (L2.defScope Sp.s_Blocked_init).names, y.2 ≠ .cell by decide +kernel) ?_ (fun h₁ hns hk => ?_) rfl rfl rfl
  · intro y hy
    simp only [bkB, List.mem_cons, List.not_mem_nil, or_false] at hy
    rcases hy with rfl | rfl | rfl <;> rfl
  have F : Fr h₀ s.heap.objs.size h₁ (fun y => (bkB x v1 v2).reverse.lookup y) := ⟨hns, fun b o e => hk b o (keep b o e), hsz⟩
  have NN : News h₀ s.heap.objs.size h₁ [(x, excObj C t0 none .none)] := fun p hp => by
    rw [List.mem_singleton.mp hp]
    exact ⟨hk _ _ hx, Nat.ne_of_lt (Heap.lt_size hx), hnx⟩
  have hL : s.heap.objs.size ≠ x := fun z => absurd (Heap.lt_size hx) (by rw [z]; exact Nat.lt_irrefl _)
  have I1 : InstAt h₁ x (excObj C t0 none .none) C none := ⟨hk _ _ hx, rfl, rfl, trivial⟩
  have X1 : K.In h₁ := Xs.keeps hk
  obtain ⟨oD, hD1, hD2⟩ : ∃ oD, h₁.get? C = some oD ∧ oD.data = .cls { name := nm, bases := bs, mro := .ref C :: bm, ns := N, qualname := q, hasDict := true, slotNames := sn, subclasses := sub, abstract := ab, collection := col, hasDel := false } := ⟨_, X1 _ _ hC, rfl⟩
  have hv : (fun y => (bkB x v1 v2).reverse.lookup y) "self" = some (.ref x) := by first | rfl | decide
  have hv1 : (fun y => (bkB x v1 v2).reverse.lookup y) "start" = some v1 := by first | rfl | decide
  have hv2 : (fun y => (bkB x v1 v2).reverse.lookup y) "end" = some v2 := by first | rfl | decide
  generalize (fun y => (bkB x v1 v2).reverse.lookup y) = m at F hv hv1 hv2
  refine ks_wpAt_execs_cons (ks_wpAt_Expr_any (ks_wpAt_MethodCall ?_) rfl rfl)
  refine ks_wpAt_super_base (ar := { arg := "self", annotation := none, pos := _ }) rfl rfl rfl rfl (X1 _ _ ho) rfl rfl rfl (X1 _ _ hcode) rfl hvs G.file G.top ?_
  refine ks_loadName_global rfl rfl (loadGlobal_builtin (hg.keeps F.keep) hgs (hb.keeps F.keep) hbs ⟨rfl, ?_⟩)
  refine wpAny_loadName_free rfl rfl rfl ⟨_, X1 _ _ hcell, rfl⟩ ?_
  refine wpAny_loadName_local rfl rfl F.ns hv ?_
  refine ks_wpAny_isType_cls hD1 hD2 ⟨rfl, ?_⟩
  obtain ⟨hh, g, d, t, os⟩ := s
  refine ks_wpAny_call_super (h := h₁) hD1 hD2 I1.at_ I1.cls (fun c e => by cases e) (looks_mroIn X1 T.mro) (fun h2 e2 k2 => ?_)
  obtain ⟨F2, N2, l2⟩ := ks_newsPush (s := ⟨h₁, g, d, t, os⟩) (o := ks_superObj C x C) F NN rfl e2 k2
  have I2 : InstAt h2 x (excObj C t0 none .none) C none := ⟨k2 _ _ I1.at_, rfl, rfl, trivial⟩
  refine kxs_method kxs_ValueError (s := ⟨h2, g, d, _, os⟩) F2 G.kin N2 List.mem_cons_self I2 T.st T.sup T.subV (by decide) (fun u h3 F3 N3 l3 => ?_)
  refine kxs_callWith1 N3 List.mem_cons_self (args_cons (Constant_str (args_nil ?_)))
  refine ⟨kxs_at N3 List.mem_cons_self, ?_⟩
  refine kxs_call F3 G.kin N3 PySem.F.excBase_ValueError (bk_excIn T) List.mem_cons_self (.tail (Nat.ne_of_gt (l3 _ (List.mem_cons_of_mem _ List.mem_cons_self))) (.tail (Nat.ne_of_gt (l2 _ List.mem_cons_self)) (.head (fun _ h => nomatch h)))) (by rw [sizeLine_eq]; exact (by decide : 1 ≤ 16777216)) (fun t' h4 F4 N4 l4 => ?_)
  have hx4 := (N4 (x, excObj C t' none .none) (.tail _ (.tail _ (.tail _ List.mem_cons_self)))).1
  have hm : refsVE (.ref C :: bm) = true := hbm
  have X4 : K.In h4 := G.kin.keeps F4.keep
  -- self.start = start
  refine wpAt_of_wpAny (wpAny_execs_cons (plainObj_wpAny_Assign_Attribute ?_))
  refine ldX (v := v1) F4.ns hv1 (ldX (v := .ref x) F4.ns hv ?_)
  refine set_plain X4 (ox := excO C t') (od := none) ⟨hx4, rfl, rfl, trivial⟩ T.sa ?_
  refine exc_osa X4 hx4 hcl hm rfl T.nS (fun h5 tk5 dx k5' dn dne hx5 hn5 => ?_)
  have hxL : hh.objs.size ≠ x := hL
  have ns5 : h5.Ns hh.objs.size m := by
    obtain ⟨oL, es, ep, hL', r⟩ := F4.ns
    exact ⟨oL, es, ep, k5' _ _ hxL hL', r⟩
  have keep5 : ∀ b o, h₀.get? b = some o → h5.get? b = some o := fun b o e => k5' b o (fun y => by rw [y, hnx] at e; cases e) (F4.keep b o e)
  have X5 : K.In h5 := G.kin.keeps keep5
  have dsz : h₀.objs.size ≤ dx := by
    obtain ⟨oL, es, ep, hL', r⟩ := F4.ns
    have := Heap.lt_size hL'
    have hsz' : h₀.objs.size ≤ hh.objs.size := hsz
    exact Nat.le_trans (Nat.le_trans hsz' (Nat.le_of_lt this)) dn
  -- self.end = end
  refine wpAny_execs_cons (plainObj_wpAny_Assign_Attribute ?_)
  refine ldX (v := v2) ns5 hv2 (ldX (v := .ref x) ns5 hv ?_)
  have hw : Within (fun y : Str => if y = "start" then some v1 else none) ["start"] := fun y hy => by
    by_cases c : y = "start"
    · rw [c]
      exact List.mem_cons_self
    · exact absurd (if_neg c) hy
  obtain ⟨oD5, esD, epD, hoD, hdD, _⟩ := hn5.count hw
  refine set_plain X5 (ox := { cls := .ref C, dict := some dx, data := .fields #[.ref t', .none, .none, .none, .bool false, .none] }) (od := some oD5) ⟨hx5, rfl, rfl, hoD⟩ T.sa ?_
  refine PySem.OEX.osa_old X5 hx5 hn5 hw (by decide) hcl hm rfl T.nE (fun h6 tk6 k6 hn6 => ?_)
  refine wpAny_execs_nil (hq h6 tk6 dx ⟨fun b o e => k6 b o (fun y => ?_) (keep5 b o e), hxs, ⟨t', k6 _ _ (Ne.symm dne) hx5⟩, dsz, dne, hn6⟩)
  subst y
  exact absurd (Heap.lt_size e) (Nat.not_lt.mpr dsz)
theorem bk_made (T : BkTxt K C fI) {v1 v2 : Value} (G : Env0 prog K s.heap) (hroom : A.depth + 1 < recursionLimit)
    (hq : ∀ h' tk e d, Made s.heap h' e C d v1 v2 → R (.ok (.ret (.ref e))) { s with heap := h', toks := tk }) :
    codeAny (model prog w) A (.call (.ref C) ⟨[v1, v2], []⟩) R s := by
  obtain ⟨nm, q, N, bs, bm, sn, sub, ab, col, dd, k0, k1, k2, k3, k5, hC, hbm⟩ := T.cls
  obtain ⟨hp, g, dr, tk, os⟩ := s
  have X : K.In hp := G.kin
  have k : ∀ b o, hp.get? b = some o → ((hp.push (kdv_tup [v1, v2])).push (excO C hp.objs.size)).get? b = some o := fun b o e => Heap.get?_push_of_some _ (Heap.get?_push_of_some _ e)
  have hget : ((hp.push (kdv_tup [v1, v2])).push (excO C hp.objs.size)).get? (hp.objs.size + 1) = some (excO C hp.objs.size) := by heap_get
  have hnx : hp.get? (hp.objs.size + 1) = none := by
    cases e : hp.get? (hp.objs.size + 1) with
    | none => rfl
    | some o => exact absurd (Nat.lt_of_succ_lt (Heap.lt_size e)) (Nat.lt_irrefl _)
  refine call_own PySem.F.excBase_ValueError (fun X => refsVE_contains X bm hbm) (X _ _ hC) (looks_findIn X T.iC) (fun self => bind_fn X self T.tC) (args_size v1 v2) ?_
  refine bk_init (h₀ := hp) (s := ⟨(hp.push (kdv_tup [v1, v2])).push (excO C hp.objs.size), g, dr, tk, os⟩) T G k ?_ hget hnx (Nat.le_succ _) ?_ fun h' tk' dx M => ?_
  · show hp.objs.size ≤ ((hp.push (kdv_tup [v1, v2])).push (excO C hp.objs.size)).objs.size
    rw [Heap.size_push, Heap.size_push]
    omega
  · show A.depth + 1 < recursionLimit
    exact hroom
  · exact ⟨rfl, hq h' tk' (hp.objs.size + 1) dx M⟩
end
end BlX
end PySem
set_option maxRecDepth 100000
set_option maxHeartbeats 2000000
/-! raise Blocked(start, end). -/
namespace Sp
open PySem PySem.Spec PyProof.Rows L2
/-- where the program stands: its file's name, no name super of its own -/
structure Place (P : Program) : Prop where
  file : ((P.main.file : Str) == "/claim/cut.py") = true
  top : (P.main.scope.names.lookup ("super" : Str)).isSome = false
theorem relO_bk {a b : V} {a' b' : Value} (ra : RelV a a') (rb : RelV b b') (f : Str) : RelO (List.lookup f [(("end" : Str), b), (("start" : Str), a)]) (if f = "end" then some b' else if f = "start" then some a' else none) :=
  relO_put (f := "end") (mA := fun y => if y = "start" then some a' else none) rb (fun g => relO_put (f := "start") (mA := fun _ => none) ra (fun _ => by trivial) g) f
section
variable {X : Cx}
def tMkBk (C : Addr) (ta : TA) : L2.St → Hp → XK → Prop := fun σ H Q => ta σ H fun vs H1 => ∃ a b, vs = [a, b] ∧ ∀ d, H1 d = none → Q (.ref C) (some d) (upd H1 d (.xd [("end", b), ("start", a)]))
theorem pmk_bk {e : Expr} {es : List Expr} {ta : TA} {p pos : Pos} {k : Nat} (T : Tx X.K X.mg) (Pl : Place X.prog) (hr : Room k X.A) (ha : PA X (e :: es) ta) (hg : Gl X "Blocked" := by rfl)
    (he : starEach (e :: es) X.env = (false, eval e X.env) :: starEach es X.env := by rfl) (hpl : (backTo pos (starEach es X.env)).any (·.1) = false := by rfl) :
    PMk X (.Call (.Name "Blocked" p) (e :: es) [] pos) (tMkBk (aBk X.K) ta) := by
  intro pins s σ H Q I h
  have B := bk_txt T.told
  refine wpAny_Call_Name_kw (ld_glob I hg (g_Blocked T) ?_)
  refine PySem.W.callWith_K (h₀ := X.base) I.ok.mod.kin B.kC (thn (ha.run pos pins s σ H _ I h) fun us s1 hh => ?_) he hpl
  obtain ⟨vs, H1, I1, r1, a, b, ev, q1⟩ := hh
  subst ev
  refine ⟨I1.kIn, ?_⟩
  cases r1 with
  | cons ra rr =>
    rename_i a' _
    cases rr with
    | cons rb rn =>
      rename_i b' _
      cases rn
      show wpAny _ _ (call (.ref (aBk X.K)) [a', b']) _ _ _
      have hlim := I1.nolimit
      have G : PySem.BlX.Env0 X.prog X.K s1.heap := by
        obtain ⟨mb, h1, h2⟩ := I1.mod.blt
        exact ⟨I1.kIn, hlim, ⟨_, I1.mod.glob.keeps I1.bk, z_super T⟩, ⟨mb, h1.keeps I1.bk, (h2 "super" (by decide)).trans (by decide +kernel)⟩, Pl.file, Pl.top⟩
      obtain ⟨hp, g, dr, tk, os⟩ := s1
      refine wpAny_call (PySem.BlX.bk_made B G (by have := hr.dp; omega) fun h' tk' e d M => ?_)
      show MkP X pins σ Q (.ref e) ⟨h', g, dr, tk', os⟩
      obtain ⟨t1, hoe⟩ := M.obj
      have hns := M.ns
      obtain ⟨G', g1, g2⟩ := restrict h' fun b => decide (b ≠ e)
      have gk : ∀ b, b ≠ e → G'.get? b = h'.get? b := fun b hb => g1 b (decide_eq_true hb)
      have ge : G'.get? e = none := g2 e (by simp)
      have old : ∀ b o, hp.get? b = some o → G'.get? b = some o := fun b o q => (gk b (Nat.ne_of_lt (Nat.lt_of_lt_of_le (Heap.lt_size q) M.new))).trans (M.keep b o q)
      have ob : ObjOk X.prog X.w (upd H1 d (.xd [("end", b), ("start", a)])) G' d (.xd [("end", b), ("start", a)]) :=
        ⟨_, hns.at (fun o q => (gk d M.dne).trans q), fun f => relO_bk ra rb f⟩
      have J : Inv X pins σ (upd H1 d (.xd [("end", b), ("start", a)])) ⟨G', g, dr, tk', os⟩ := I1.laid (t' := tk') old M.dbig ob
      refine ⟨e, _, _, ⟨G', g, dr, tk', os⟩, _, .ref (aBk X.K), some d, rfl, J, fun b o q => ?_, ge, hoe, ⟨rfl, rfl⟩, rfl, rfl, ?_, rfl, I1.bare, raises_own B.exC B.tyC, q1 d (I1.hok.fresh M.dbig)⟩
      · by_cases hb : b = e
        · have q' : G'.get? b = some o := q
          rw [hb, ge] at q'
          cases q'
        · exact (gk b hb).symm.trans q
      · rw [upd_ne (Ne.symm M.dne)]
        exact I1.hok.fresh M.new
end
end Sp
set_option maxRecDepth 100000
set_option maxHeartbeats 2000000
/-! break_forward, break_lines. -/
namespace Sp
open PySem PySem.Spec PyProof.Rows L2
/-- (price, ends) at x -/
def ResAt (H : Hp) (x : Addr) (r : Int × List Nat) : Prop := ∃ u, H x = some (.tup [.int r.1, .ref u]) ∧ H u = some (.tup (r.2.map intV))
theorem ResAt.same {H H' : Hp} {x : Addr} {r : Int × List Nat} (h : ResAt H x r) (s : Same H H') : ResAt H' x r := h.imp fun _ e => ⟨s _ _ e.1, s _ _ e.2⟩
section
variable {P : Program} {w : World} {K : PySem.W.Frag} {mg : Str → Option Value} {base : Heap}
theorem ps_raiseBk {X : Cx} {e : Expr} {es : List Expr} {ta : TA} {W : WX} {p pos pos2 : Pos} {k : Nat} (hc : X.calm = true) (T : Tx X.K X.mg) (Pl : Place X.prog) (hr : Room k X.A) (tk : Takes X W) (ha : PA X (e :: es) ta) (hg : Gl X "Blocked" := by rfl)
    (he : starEach (e :: es) X.env = (false, eval e X.env) :: starEach es X.env := by rfl) (hpl : (backTo pos (starEach es X.env)).any (·.1) = false := by rfl) :
    PS X (.Raise (some (.Call (.Name "Blocked" p) (e :: es) [] pos)) none pos2) (fun _ σ H => tMkBk (aBk X.K) ta σ H fun cls d H' => W cls d σ H') := ps_raise hc tk (pmk_bk T Pl hr ha hg he hpl)
/-- breaking: res the answer, or else an error with the stretch -/
def spBr (K : PySem.W.Frag) (res : SpM.Sys → Option (Int × List Nat)) : L2.Sp := fun vs H Q E => ∃ (p c : Addr) (r : Rw) (m : Ms), vs = [.ref p, .ref c] ∧ RowAt H p r ∧ r.Ok ∧ MsAt K H c m ∧ m.Ok ∧
  (res (sysOf r m) = none → ∀ pq, SpM.resS (sysOf r m) = some pq → ∀ (H1 : Hp) (d : Addr), Same H H1 → H1 d = none → E (.ref (aBk K)) (some d) (upd H1 d (.xd [("end", intV pq.2), ("start", intV pq.1)]))) ∧
  (∀ rr, res (sysOf r m) = some rr → ∀ (H' : Hp) (x : Addr), Same H H' → ResAt H' x rr → Q (.ref x) H')
theorem d_bf (T : Tx K mg) (Pl : Place P) : Df P w K mg base (L2.CX P w) 10 "break_forward" (He.ga K "break_forward") ["row", "measure"] (spBr K SpM.resF) := by
  obtain ⟨fd, F⟩ := F_break_forward T.told
  refine ⟨⟨fd, ?_, F.binds fun _ _ _ _ _ _ us hl => match us, hl with | [_, _], _ => rfl⟩, F.kp, g_break_forward T⟩
  have nBo := n_LineTable_boxes T.told
  have cT : Cls K (aTb K) := c_LineTable T.told
  have DB : Df P w K mg base CX0 4 "best_prefixes" (He.ga K "best_prefixes") ["table"] (spBp K) := d_bp T
  have DP : Df P w K mg base CX0 1 "prefixes_to" (He.ga K "prefixes_to") ["table", "best", "place"] (spPt K) := d_pt T
  have DS : Df P w K mg base CX0 5 "stretch_of" (He.ga K "stretch_of") ["table"] (spSo K) := d_so T
  have nd := sc_break_forward.nd
  refine F.okX sc_break_forward (fun vs H Q E h => ?_) (fun cdv A outer st H vs Q E hr h => ?_)
  · obtain ⟨p, c, r, m, rfl, _⟩ := h
    rfl
  · obtain ⟨p, c, r, m, rfl, hrow, ok, hm, mok, qe, q⟩ := h
    have hr1 : Room 1 _ := hr.mono (by decide)
    have hr4 : Room 4 _ := hr.mono (by decide)
    have hr5 : Room 5 _ := hr.mono (by decide)
    refine ⟨_, pss_cons (ps_set (i := 2) nd rfl (.inl rfl) (pe_tb T hr (by rfl) (pa_cons (pv 0) (pa_cons (pv 1) pa_nil))))
      (pss_cons (ps_set (i := 3) nd rfl (.inl rfl) (pe_d DP hr1 (by rfl) (pa_cons (pv 2) (pa_cons (pe_d DB hr4 (by rfl) (pa_cons (pv 2) pa_nil)) (pa_cons (pe_fld (pv 2) rfl) pa_nil)))))
      (pss_cons (ps_if (pt_cmpR op_eq (pe_callB call_len_seq (by rfl) (z_len T) PySem.boot_len (pa_cons (pv 3) pa_nil)) pe_int (nomark _))
        (pss_cons (ps_asg (pe_d DS hr5 (by rfl) (pa_cons (pv 2) pa_nil)) (pg_tup rfl (pgs_cons (pg_name (i := 4) nd rfl (.inl rfl)) (pgs_cons (pg_name (i := 5) nd rfl (.inl rfl)) pgs_nil))))
        (pss_one (ps_raiseBk rfl T Pl hr (takes_of rfl rfl rfl rfl) (pa_cons (pv 4) (pa_cons (pv 5) pa_nil))))) pss_nil)
      (pss_cons (ps_asg (pe_callB (cr_minD rfl hr.units) (by rfl) (z_min T) (by decide +kernel) (pa_cons (pv 3) pa_nil)) (pg_tup rfl (pgs_cons (pg_name (i := 6) nd rfl (.inl rfl)) (pgs_cons (pg_name (i := 7) nd rfl (.inl rfl)) (pgs_cons (pg_name (i := 8) nd rfl (.inl rfl)) (pgs_cons (pg_name (i := 4) nd rfl (.inl rfl)) pgs_nil))))))
      (pss_one (ps_ret (pe_tup (pa_cons (pv 6) (pa_cons (pv 8) pa_nil)))))))), ?_⟩
    refine ⟨_, rfl, _, rfl, p, c, r, m, rfl, hrow, ok, hm, mok, fun H1 t s1 n1 hT => ?_⟩
    obtain ⟨dx, p', c', ae, at_, g, t1, t2, t3, t4, t5, t6⟩ := id hT
    refine ⟨_, rfl, _, rfl, t, r, m, rfl, hT, ok, mok, fun H2 a s2 n2 hD => ?_⟩
    refine ⟨_, rfl, t, _, dx, _, _, rfl, s2 _ _ t1, cT, nBo, rfl, t, a, r, m, _, r.n, _, _, rfl, rfl, hT.same s2, ok, Nat.le_refl _, hD, fun H3 fl s3 n3 hL => ?_⟩
    have s13 := (s1.trans s2).trans s3
    obtain ⟨fs, f1, f2⟩ := id hL
    have fl2 := f2.length
    refine ⟨_, rfl, fl, _, rfl, .inl (SqL.of f1), rfl, _, rfl, ?_⟩
    cases e5 : SpM.minOf SpM.ltP (SpM.pfx (sysOf r m) (SpM.bestF (sysOf r m) r.n) r.n) with
    | none =>
      have hres : SpM.resF (sysOf r m) = none := by
        show Option.map _ (SpM.minOf SpM.ltP (SpM.pfx (sysOf r m) (SpM.bestF (sysOf r m) r.n) r.n)) = none
        rw [e5]
        rfl
      obtain ⟨pq, hpq⟩ := (SpM.stretch_ok (sys_ok mok)).2 hres
      rw [SpM.minOf_none.mp e5] at fl2
      rw [decide_eq_true (show V.int (fs.length : Int) = V.int 0 by rw [fl2]; rfl)]
      refine iteT ⟨_, rfl, t, r, m, rfl, hT.same (s2.trans s3), ok, mok, fun H4 v s4 hv => ?_⟩
      rw [hpq] at hv
      obtain ⟨a4, rfl, h4⟩ := hv
      refine ⟨a4, _, rfl, SqT.of h4, rfl, _, _, rfl, _, _, rfl, rfl, ?_⟩
      exact ⟨_, rfl, _, rfl, _, _, rfl, fun d hd => qe hres pq hpq H4 d (s13.trans s4) hd⟩
    | some mm =>
      have hres : SpM.resF (sysOf r m) = some (mm.1, mm.2.2.1) := by
        show Option.map _ (SpM.minOf SpM.ltP (SpM.pfx (sysOf r m) (SpM.bestF (sysOf r m) r.n) r.n)) = _
        rw [e5]
        rfl
      have ne : 0 < fs.length := by
        rw [fl2]
        exact List.length_pos_of_mem (minOf_mem e5)
      rw [decide_eq_false (show ¬ V.int (fs.length : Int) = V.int 0 from fun z => by have := V.int.inj z; omega)]
      obtain ⟨a', xs', ds', d', ea, m1, m2, m3, m4, m5, m6⟩ := min_P (K := K) (Q := fun v _ => PTI H3 v mm) e5 (pfx_some _ _ _) hL (fun _ h => h)
      cases ea
      refine iteF ⟨_, rfl, fl, xs', ds', d', rfl, m1, m2, m3, m4, m5, fun k v hk hd => ?_⟩
      obtain ⟨a1, u1, rfl, z1, z2⟩ := m6 k v hk hd
      refine ⟨a1, _, rfl, SqT.of z1, rfl, _, _, rfl, _, _, rfl, _, _, rfl, _, _, rfl, rfl, ?_⟩
      refine ⟨_, rfl, _, rfl, (by show 2 ≤ sizeLine; decide), fun x nx => ?_⟩
      have s5 := same_upd (o := .tup [.int mm.1, .ref u1]) nx
      exact q _ hres _ x (s13.trans s5) ⟨u1, upd_same, s5 _ _ z2⟩
end
end Sp
set_option maxRecDepth 100000
set_option maxHeartbeats 2000000
/-! break_lines. -/
namespace Sp
open PySem PySem.Spec PyProof.Rows L2
section
variable {P : Program} {w : World} {K : PySem.W.Frag} {mg : Str → Option Value} {base : Heap}
theorem fol_end {best : SpM.BM} {n s e : Nat} {acc : List Nat} (h : ¬ e < n) : ∀ k, SpM.fol best n k s e acc = acc
  | 0 => rfl
  | k + 1 => by
    unfold SpM.fol
    rw [if_neg h]
theorem fol_step {best : SpM.BM} {n s e k nx : Nat} {acc : List Nat} {x : SpM.BT} (h : e < n) (hx : best s e = some x) (hn : x.2.2 = some nx) : SpM.fol best n (k + 1) s e acc = SpM.fol best n k e nx (acc ++ [nx]) := by
  obtain ⟨a, b, c⟩ := x
  cases hn
  show (if e < n then (match best s e with
      | some (_, _, some nx) => SpM.fol best n k e nx (acc ++ [nx])
      | _ => acc)
    else acc) = _
  rw [if_pos h, hx]
theorem d_bl (T : Tx K mg) (Pl : Place P) : Df P w K mg base (L2.CX P w) 10 "break_lines" (He.ga K "break_lines") ["row", "measure"] (spBr K SpM.resB) := by
  obtain ⟨fd, F⟩ := F_break_lines T.told
  refine ⟨⟨fd, ?_, F.binds fun _ _ _ _ _ _ us hl => match us, hl with | [_, _], _ => rfl⟩, F.kp, g_break_lines T⟩
  have nBo := n_LineTable_boxes T.told
  have cT : Cls K (aTb K) := c_LineTable T.told
  have DB : Df P w K mg base CX0 5 "best_continuations" (He.ga K "best_continuations") ["table"] (spBc K) := d_bc T
  have DC : Df P w K mg base CX0 4 "continuations" (He.ga K "continuations") ["table", "best", "start", "middle"] (spCn K) := d_cn T
  have DS : Df P w K mg base CX0 5 "stretch_of" (He.ga K "stretch_of") ["table"] (spSo K) := d_so T
  have nd := sc_break_lines.nd
  refine F.okX sc_break_lines (fun vs H Q E h => ?_) (fun cdv A outer st H vs Q E hr h => ?_)
  · obtain ⟨p, c, r, m, rfl, _⟩ := h
    rfl
  · obtain ⟨p, c, r, m, rfl, hrow, ok, hm, mok, qe, q⟩ := h
    have hr4 : Room 4 _ := hr.mono (by decide)
    have hr5 : Room 5 _ := hr.mono (by decide)
    have hu := hu_of hr
    have hn : r.n ≤ 100 := ok.n
    refine ⟨_, pss_cons (ps_set (i := 2) nd rfl (.inl rfl) (pe_tb T hr (by rfl) (pa_cons (pv 0) (pa_cons (pv 1) pa_nil))))
      (pss_cons (ps_if (pt_cmpR op_eq (pe_fld (pv 2) rfl) pe_int (nomark _)) (pss_one (ps_ret (pe_tup (pa_cons pe_int (pa_cons (pe_tup pa_nil) pa_nil))))) pss_nil)
      (pss_cons (ps_set (i := 3) nd rfl (.inl rfl) (pe_d DB hr5 (by rfl) (pa_cons (pv 2) pa_nil)))
      (pss_cons (ps_set (i := 4) nd rfl (.inl rfl) (pe_d DC hr4 (by rfl) (pa_cons (pv 2) (pa_cons (pv 3) (pa_cons pe_non (pa_cons pe_int pa_nil))))))
      (pss_cons (ps_if (pt_cmpR op_eq (pe_callB call_len_seq (by rfl) (z_len T) PySem.boot_len (pa_cons (pv 4) pa_nil)) pe_int (nomark _))
        (pss_cons (ps_asg (pe_d DS hr5 (by rfl) (pa_cons (pv 2) pa_nil)) (pg_tup rfl (pgs_cons (pg_name (i := 5) nd rfl (.inl rfl)) (pgs_cons (pg_name (i := 6) nd rfl (.inl rfl)) pgs_nil))))
        (pss_one (ps_raiseBk rfl T Pl hr (takes_of rfl rfl rfl rfl) (pa_cons (pv 5) (pa_cons (pv 6) pa_nil))))) pss_nil)
      (pss_cons (ps_asg (pe_callB (cr_minD rfl hr.units) (by rfl) (z_min T) (by decide +kernel) (pa_cons (pv 4) pa_nil)) (pg_tup rfl (pgs_cons (pg_name (i := 7) nd rfl (.inl rfl)) (pgs_cons (pg_name (i := 8) nd rfl (.inl rfl)) (pgs_cons (pg_name (i := 6) nd rfl (.inl rfl)) pgs_nil)))))
      (pss_cons (ps_set (i := 5) nd rfl (.inl rfl) pe_int)
      (pss_cons (ps_set (i := 9) nd rfl (.inl rfl) (pe_lst (pa_cons (pv 6) pa_nil)))
      (pss_cons (ps_while (passes_of rfl) (pt_cmpR op_lt (pv 6) (pe_fld (pv 2) rfl) (nomark _))
        (pss_cons (ps_par (i := 5) (j := 6) rfl nd rfl rfl (by decide) rfl rfl (pa_cons (pv 6) (pa_cons (pe_ix ix_tup (pe_dget hu (pv 3) (pe_tup (pa_cons (pv 5) (pa_cons (pv 6) pa_nil))) (fun _ _ => rfl)) pe_int (fun _ _ => rfl)) pa_nil)) (by rfl))
        (pss_one (ps_expr (pe_bm PySem.F.plainAttrs_list PySem.F.slot_list_append PySem.F.type_list_append mt_append (pv 9) (pa_cons (pv 6) pa_nil))))))
      (pss_one (ps_ret (pe_tup (pa_cons (pv 7) (pa_cons (pe_tupleOf (by rfl) (z_tuple T) (pv 9)) pa_nil)))))))))))))
      , ?_⟩
    refine ⟨_, rfl, _, rfl, p, c, r, m, rfl, hrow, ok, hm, mok, fun H1 t s1 n1 hT => ?_⟩
    obtain ⟨dx, p', c', ae, at_, g, t1, t2, t3, t4, t5, t6⟩ := id hT
    refine ⟨_, rfl, t, _, dx, _, _, rfl, t1, cT, nBo, rfl, rfl, _, rfl, ?_⟩
    by_cases c0 : r.n = 0
    · have hres : SpM.resB (sysOf r m) = some (0, []) := by
        unfold SpM.resB
        rw [if_pos (show (sysOf r m).n = 0 from c0)]
      rw [decide_eq_true (show V.int (r.n : Int) = V.int 0 by rw [c0]; rfl)]
      refine iteT ⟨Nat.zero_le _, fun u nu => ⟨(by show 2 ≤ sizeLine; decide), fun x nx => ?_⟩⟩
      have s2 := same_upd (o := .tup []) nu
      have s3 := same_upd (o := .tup [.int 0, .ref u]) nx
      exact q _ hres _ x ((s1.trans s2).trans s3) ⟨u, upd_same, s3 _ _ upd_same⟩
    rw [decide_eq_false (show ¬ V.int (r.n : Int) = V.int 0 from fun z => by have := V.int.inj z; omega)]
    have h1n : 1 ≤ r.n := by omega
    refine iteF ⟨_, rfl, t, r, m, rfl, hT, ok, mok, h1n, fun H2 a s2 n2 hD => ?_⟩
    refine ⟨_, rfl, _, rfl, t, a, r, m, none, _, 0, _, _, rfl, rfl, hT.same s2, ok, mok, Nat.zero_le _, hD, (fun s z => by cases z), fun H3 fl s3 n3 hL => ?_⟩
    have s13 := (s1.trans s2).trans s3
    have hD3 := hD.same to_B s3
    obtain ⟨fs, f1, f2⟩ := id hL
    have fl2 := f2.length
    refine ⟨_, rfl, fl, _, rfl, .inl (SqL.of f1), rfl, _, rfl, ?_⟩
    have hrb : SpM.resB (sysOf r m) = (SpM.minOf SpM.ltC (SpM.cts (sysOf r m) (SpM.bestB (sysOf r m) (r.n - 1)) none 0)).map fun t => (t.1, SpM.fol (SpM.bestB (sysOf r m) (r.n - 1)) r.n (r.n - t.2.2) 0 t.2.2 [t.2.2]) := by
      unfold SpM.resB
      rw [if_neg (show ¬ (sysOf r m).n = 0 from c0)]
      rfl
    cases e5 : SpM.minOf SpM.ltC (SpM.cts (sysOf r m) (SpM.bestB (sysOf r m) (r.n - 1)) none 0) with
    | none =>
      have hres : SpM.resB (sysOf r m) = none := by
        rw [hrb, e5]
        rfl
      obtain ⟨pq, hpq⟩ := (SpM.stretch_ok (sys_ok mok)).2 ((SpM.agree (sys_ok mok) (sys_nd r m)).trans hres)
      rw [SpM.minOf_none.mp e5] at fl2
      rw [decide_eq_true (show V.int (fs.length : Int) = V.int 0 by rw [fl2]; rfl)]
      refine iteT ⟨_, rfl, t, r, m, rfl, hT.same (s2.trans s3), ok, mok, fun H4 v s4 hv => ?_⟩
      rw [hpq] at hv
      obtain ⟨a4, rfl, h4⟩ := hv
      refine ⟨a4, _, rfl, SqT.of h4, rfl, _, _, rfl, _, _, rfl, rfl, ?_⟩
      exact ⟨_, rfl, _, rfl, _, _, rfl, fun d hd => qe hres pq hpq H4 d (s13.trans s4) hd⟩
    | some mm =>
      have hres := hrb
      rw [e5] at hres
      have hres : SpM.resB (sysOf r m) = some (mm.1, SpM.fol (SpM.bestB (sysOf r m) (r.n - 1)) r.n (r.n - mm.2.2) 0 mm.2.2 [mm.2.2]) := hres
      obtain ⟨c1, c2, c3, y0, c4⟩ := SpM.cts0_next (sys_ok mok) e5
      have ne : 0 < fs.length := by
        rw [fl2]
        exact List.length_pos_of_mem (minOf_mem e5)
      rw [decide_eq_false (show ¬ V.int (fs.length : Int) = V.int 0 from fun z => by have := V.int.inj z; omega)]
      obtain ⟨a', xs', ds', d', ea, m1, m2, m3, m4, m5, m6⟩ := min_C (K := K) (Q := fun v _ => CTI H3 v mm) e5 hL (fun _ h => h)
      cases ea
      refine iteF ⟨_, rfl, fl, xs', ds', d', rfl, m1, m2, m3, m4, m5, fun k v hk hd => ?_⟩
      obtain ⟨a1, rfl, z1⟩ := m6 k v hk hd
      refine ⟨a1, _, rfl, SqT.of z1, rfl, _, _, rfl, _, _, rfl, _, _, rfl, rfl, ?_⟩
      refine ⟨_, rfl, (by show 1 ≤ sizeLine; decide), fun el nel => ?_⟩
      have s4 := same_upd (o := .lst [intV mm.2.2]) nel
      have s14 := s13.trans s4
      dsimp only
      refine join_seq (fun σ' H' => ∃ v5 v6 : V, σ' = [some (.ref p), some (.ref c), some (.ref t), some (.ref a), some (.ref fl), some v5, some v6, some (.int mm.1), some (.int mm.2.1), some (.ref el)] ∧ But el (upd H3 el (.lst [intV mm.2.2])) H' ∧
        H' el = some (.lst ((SpM.fol (SpM.bestB (sysOf r m) (r.n - 1)) r.n (r.n - mm.2.2) 0 mm.2.2 [mm.2.2]).map intV))) (fun D' hD' => ?_) ?_
      · refine ⟨fun w σ H' => ∃ (s e : Nat) (acc : List Nat), σ = [some (.ref p), some (.ref c), some (.ref t), some (.ref a), some (.ref fl), some (intV s), some (intV e), some (.int mm.1), some (.int mm.2.1), some (.ref el)] ∧ But el (upd H3 el (.lst [intV mm.2.2])) H' ∧ H' el = some (.lst (acc.map intV)) ∧ w = r.n - e ∧ 0 < e ∧ e ≤ r.n ∧ acc.length ≤ e ∧
            s ∈ (sysOf r m).T e ∧ (∃ y, SpM.bestB (sysOf r m) (r.n - 1) s e = some y) ∧ SpM.fol (SpM.bestB (sysOf r m) (r.n - 1)) r.n (r.n - e) s e acc = SpM.fol (SpM.bestB (sysOf r m) (r.n - 1)) r.n (r.n - mm.2.2) 0 mm.2.2 [mm.2.2],
          ⟨_, 0, mm.2.2, [mm.2.2], rfl, But.refl _ _, upd_same, rfl, c1, c2, c1, c3, ⟨y0, c4⟩, rfl⟩, ?_⟩
        rintro w σ H4 ⟨s, e, acc, rfl, hB, hE, rfl, e1, e2, e3, e4, ⟨y, hy⟩, hf⟩
        have s5 : Same H3 H4 := But.same s4 nel hB
        refine ⟨_, rfl, _, rfl, t, _, dx, _, _, rfl, (s2.trans (s3.trans s5)) _ _ t1, cT, nBo, rfl, _, _, rfl, rfl, _, rfl, ?_⟩
        by_cases c5 : e < r.n
        · rw [decide_eq_true (show (e : Int) < (r.n : Int) by omega)]
          obtain ⟨nx, g1, g2, g3, g4, y2, g5⟩ := SpM.bestB_next (sys_ok mok) (sys_nd r m) (show 0 < (sysOf r m).n by show 0 < r.n; omega) e1 e4 hy c5
          obtain ⟨f, hf1⟩ : ∃ f, r.n - e = f + 1 := ⟨r.n - e - 1, by omega⟩
          rw [hf1, fol_step c5 hy g1] at hf
          refine iteT ⟨fun σ' H' => ∃ acc' : List Nat, σ' = [some (.ref p), some (.ref c), some (.ref t), some (.ref a), some (.ref fl), some (intV e), some (intV nx), some (.int mm.1), some (.int mm.2.1), some (.ref el)] ∧ But el (upd H3 el (.lst [intV mm.2.2])) H' ∧ H' el = some (.lst (acc'.map intV)) ∧ acc' = acc ++ [nx], ?_, ?_⟩
          · rintro σ' H5 ⟨acc', rfl, hB5, hE5, rfl⟩
            refine ⟨r.n - nx, by omega, e, nx, _, rfl, hB5, hE5, rfl, by omega, g3, ?_, g4, ⟨y2, g5⟩, ?_⟩
            · rw [List.length_append, List.length_singleton]
              omega
            · rw [← hf]
              have key : ∀ k1 k2 (s e : Nat) (acc : List Nat) , r.n - e ≤ k1 → r.n - e ≤ k2 → s ∈ (sysOf r m).T e → 0 < e → (∃ y, SpM.bestB (sysOf r m) (r.n - 1) s e = some y) → SpM.fol (SpM.bestB (sysOf r m) (r.n - 1)) r.n k1 s e acc = SpM.fol (SpM.bestB (sysOf r m) (r.n - 1)) r.n k2 s e acc := by
                intro k1
                induction k1 with
                | zero =>
                  intro k2 s e acc h1 h2 _ _ _
                  rw [fol_end (by omega), fol_end (by omega)]
                | succ k1 ih =>
                  intro k2 s e acc h1 h2 h3 h5 h6
                  by_cases c : e < r.n
                  · obtain ⟨y, hy⟩ := h6
                    obtain ⟨nx, g1, g2, g3, g4, y2, g5⟩ := SpM.bestB_next (sys_ok mok) (sys_nd r m) (show 0 < (sysOf r m).n by show 0 < r.n; omega) h5 h3 hy c
                    obtain ⟨k3, rfl⟩ : ∃ k3, k2 = k3 + 1 := ⟨k2 - 1, by omega⟩
                    rw [fol_step c hy g1, fol_step c hy g1]
                    exact ih k3 e nx _ (by omega) (by omega) g4 (by omega) ⟨y2, g5⟩
                  · rw [fol_end c, fol_end c]
              exact key _ _ e nx _ (Nat.le_refl _) (by omega) g4 (by omega) ⟨y2, g5⟩
          · refine ⟨_, rfl, _, rfl, _, rfl, _, rfl, (by show 2 ≤ sizeLine; decide), fun k1 nk1 => ?_⟩
            have s6 := same_upd (o := .tup [intV s, intV e]) nk1
            obtain ⟨v, gv, a6, rfl, z6⟩ := ((hD3.same to_B s5).same to_B s6).get (t := k1) (i := s) (k := e) upd_same hy
            rw [g1] at z6
            have hE6 := s6 _ _ hE
            refine ⟨a, _, rfl, gv, a6, _, _, intV nx, rfl, rfl, SqT.of z6, rfl, _, _, rfl, ?_⟩
            refine ⟨_, rfl, .inl ⟨rfl, _, SqL.of hE6⟩, _, rfl, el, _, _, rfl, rfl, hE6, ?_, acc ++ [nx], rfl, (hB.to s6).put, ?_, rfl⟩
            · rw [List.length_map]
              exact Nat.lt_of_lt_of_le (show _ < 101 by omega) (by decide)
            · rw [upd_same, List.map_append]
              rfl
        · rw [decide_eq_false (show ¬ (e : Int) < (r.n : Int) by omega)]
          rw [fol_end c5] at hf
          exact iteF (hD' _ _ ⟨_, _, rfl, hB, by rw [← hf]; exact hE⟩)
      · rintro σ' H4 ⟨v5, v6, rfl, hB, hE⟩
        have s5 : Same H3 H4 := But.same s4 nel hB
        refine ⟨_, rfl, _, rfl, .inl ⟨el, _, rfl, SqL.of hE, fun u nu => ⟨(by show 2 ≤ sizeLine; decide), fun x nx => ?_⟩⟩⟩
        have s6 := same_upd (o := .tup ((SpM.fol (SpM.bestB (sysOf r m) (r.n - 1)) r.n (r.n - mm.2.2) 0 mm.2.2 [mm.2.2]).map intV)) nu
        have s7 := same_upd (o := .tup [.int mm.1, .ref u]) nx
        exact q _ hres _ x (s13.trans ((s5.trans s6).trans s7)) ⟨u, upd_same, s7 _ _ upd_same⟩
end
end Sp
set_option maxRecDepth 100000
set_option maxHeartbeats 2000000
/-! Measure(..), Measure.of(..). -/
namespace Sp
open PySem PySem.Spec PyProof.Rows L2
section
variable {P : Program} {w : World} {K : PySem.W.Frag} {mg : Str → Option Value} {base : Heap}
def mV (m : Ms) : List V := [.int m.width, .int m.indent, .str (alS m.both), .int m.hyphen, .int m.twin, .int m.river, .int m.loose]
def spMi (K : PySem.W.Frag) : L2.Sp := fun vs H Q _ => ∃ (p dx : Addr) (m : Ms), vs = .ref p :: mV m ∧ H p = some (.ins (aMe K) dx []) ∧ ∀ H' : Hp, H' p = some (.ins (aMe K) dx (mF m)) → But p H H' → Q .non H'
theorem mF_new (m : Ms) : putF "loose" (.int m.loose) (putF "river" (.int m.river) (putF "twin" (.int m.twin) (putF "hyphen" (.int m.hyphen) (putF "align" (.str (alS m.both)) (putF "indent" (.int m.indent) (putF "width" (.int m.width) [])))))) = mF m := rfl
def mPs : List Str := ["self", "width", "indent", "align", "hyphen", "twin", "river", "loose"]
def mKs : List Str := ["indent", "align", "hyphen", "twin", "river", "loose"]
theorem ok_mi (T : Tx K mg) : ∃ fd, FnOk P w K mg base CX0 1 (He.fAd K ("Measure", some "__init__")) fd mPs (spMi K) ∧ ∃ mv : List Value, KBn K fd mPs 2 mKs (fun us ws => us ++ ws) (fun vs zs => vs ++ zs) := by
  obtain ⟨fd, F⟩ := F_Measure_init T.told
  refine ⟨fd, ?_, ?_⟩
  · have cM := c_Measure T.told
    refine F.ok sc_Measure_init (fun vs H Q E h => ?_) (fun cdv A outer s H vs Q E hr h => ?_)
    · obtain ⟨p, dx, m, rfl, _⟩ := h
      rfl
    · obtain ⟨p, dx, m, rfl, hp, q⟩ := h
      refine ⟨_, pss_cons (ps_fld (pv 0) (pv 1) rfl) (pss_cons (ps_fld (pv 0) (pv 2) rfl) (pss_cons (ps_fld (pv 0) (pv 3) rfl) (pss_cons (ps_fld (pv 0) (pv 4) rfl) (pss_cons (ps_fld (pv 0) (pv 5) rfl) (pss_cons (ps_fld (pv 0) (pv 6) rfl) (pss_one (ps_fld (pv 0) (pv 7) rfl))))))), ?_⟩
      refine ⟨_, rfl, _, rfl, p, _, dx, [], rfl, hp, cM, n_Measure_width T.told, (by show 0 < 1000; decide), ?_⟩
      refine ⟨_, rfl, _, rfl, p, _, dx, _, rfl, upd_same, cM, n_Measure_indent T.told, (by show 1 < 1000; decide), ?_⟩
      refine ⟨_, rfl, _, rfl, p, _, dx, _, rfl, upd_same, cM, n_Measure_align T.told, (by show 2 < 1000; decide), ?_⟩
      refine ⟨_, rfl, _, rfl, p, _, dx, _, rfl, upd_same, cM, n_Measure_hyphen T.told, (by show 3 < 1000; decide), ?_⟩
      refine ⟨_, rfl, _, rfl, p, _, dx, _, rfl, upd_same, cM, n_Measure_twin T.told, (by show 4 < 1000; decide), ?_⟩
      refine ⟨_, rfl, _, rfl, p, _, dx, _, rfl, upd_same, cM, n_Measure_river T.told, (by show 5 < 1000; decide), ?_⟩
      refine ⟨_, rfl, _, rfl, p, _, dx, _, rfl, upd_same, cM, n_Measure_loose T.told, (by show 6 < 1000; decide), ?_⟩
      exact q _ (upd_same.trans (congrArg (fun l => some (HO.ins (aMe K) dx l)) (mF_new m))) (But.put (But.put (But.put (But.put (But.put (But.put (But.put (But.refl p H))))))))
  · refine F.kbinds0 2 mKs [] (fun vs _ zs => vs ++ zs) (by decide) (fun _ h => nomatch h) (fun r1 _ r3 => ?_) (fun D doc pm an cdv ct us mv ws h1 h2 h3 => ?_)
    · exact r1.append r3
    · match us, ws, h1, h3 with
      | [_, _], [_, _, _, _, _, _], _, _ =>
        match mv, h2 with
        | [], _ => rfl
theorem me_made {H1 : Hp} {m : Ms} {Z : Addr → Hp → Prop} (q : ∀ (H' : Hp) (x : Addr), Same H1 H' → H1 x = none → MsAt K H' x m → Z x H') :
    ∀ x dx, H1 x = none → H1 dx = none → dx ≠ x → spMi K (.ref x :: mV m) (upd (upd H1 dx (.own x)) x (.ins (aMe K) dx [])) (fun v H2 => v = .non ∧ Z x H2) E0 := by
  intro x dx nx nd ne
  refine ⟨x, dx, m, rfl, upd_same, fun H' e kp => ⟨rfl, ?_⟩⟩
  exact q H' x (Same.made nx nd kp) nx ⟨dx, e⟩
def spOf (K : PySem.W.Frag) : L2.Sp := fun vs H Q _ => ∃ (a : Addr) (m : Ms), vs = [.ref a] ∧ H a = some (.tup (mV m)) ∧ ∀ (H' : Hp) (x : Addr), Same H H' → H x = none → MsAt K H' x m → Q (.ref x) H'
theorem ok_of (T : Tx K mg) : ∃ fd, FnOk P w K mg base CX0 3 (He5.wf K (He.ga K "Measure") "staticmethod" "of") fd ["key"] (spOf K) ∧ Binds K fd ["key"] [] := by
  obtain ⟨fd, F⟩ := F_Measure_of T.told
  refine ⟨fd, ?_, F.binds fun _ _ _ _ _ _ us hl => match us, hl with | [_], _ => rfl⟩
  obtain ⟨fdi, Fi, mv, hb⟩ := ok_mi (P := P) (w := w) (base := base) T
  have nd := sc_Measure_of.nd
  refine F.ok sc_Measure_of (fun vs H Q E h => ?_) (fun cdv A outer s H vs Q E hr h => ?_)
  · obtain ⟨a, m, rfl, _⟩ := h
    rfl
  · obtain ⟨a, m, rfl, ha, q⟩ := h
    refine ⟨_, pss_cons (ps_asg (pv 0) (pg_tup rfl (pgs_cons (pg_name (i := 1) nd rfl (.inl rfl)) (pgs_cons (pg_name (i := 2) nd rfl (.inl rfl)) (pgs_cons (pg_name (i := 3) nd rfl (.inl rfl)) (pgs_cons (pg_name (i := 4) nd rfl (.inl rfl)) (pgs_cons (pg_name (i := 5) nd rfl (.inl rfl)) (pgs_cons (pg_name (i := 6) nd rfl (.inl rfl)) (pgs_cons (pg_name (i := 7) nd rfl (.inl rfl)) pgs_nil)))))))))
      (pss_one (ps_ret (pe_makeK (n := 1) (m_Measure T.told) Fi hr (by rfl) (g_Measure T) hb pass0 (pa_cons (pv 1) pa_nil) (pk_cons (pv 2) (pk_cons (pv 3) (pk_cons (pv 4) (pk_cons (pv 5) (pk_cons (pv 6) (pk_cons (pv 7) pk_nil))))))))), ?_⟩
    refine ⟨_, rfl, a, _, rfl, SqT.of ha, rfl, _, _, rfl, _, _, rfl, _, _, rfl, _, _, rfl, _, _, rfl, _, _, rfl, _, _, rfl, rfl, ?_⟩
    refine ⟨_, rfl, _, rfl, _, rfl, _, rfl, _, rfl, _, rfl, _, rfl, rfl, rfl, ?_⟩
    exact me_made (Z := fun x H' => Q (.ref x) H') q
theorem me_stat (T : Tx K mg) : SMet K (aMe K) "of" (He.ma K (aMe K) "of") (He5.wf K (He.ga K "Measure") "staticmethod" "of") ∧ ClX.CRead K (aMe K) (.type "type") := by
  have b := f_measB T.told
  unfold measB at b
  obtain ⟨b1, b⟩ := Bool.and_eq_true_iff.mp b
  obtain ⟨b2, b3⟩ := Bool.and_eq_true_iff.mp b
  obtain ⟨h1, h2⟩ := He5.wrapB_ok b1
  obtain ⟨fd, F⟩ := F_Measure_of T.told
  exact ⟨⟨h1, h2, F.kp⟩, ⟨b2, He.eqO_ok b3⟩⟩
end
end Sp
set_option maxRecDepth 100000
set_option maxHeartbeats 2000000
/-! The law's pool of draws. -/
namespace Sp
open PySem PySem.Spec PyProof.Rows L2
def PoolAt (H : Hp) (a : Addr) (N : Nat) : Prop := ∃ (cell big st : Int) (c : Nat), H a = some (.lst [.int cell, .int (c : Int), .int big, .int st, .int 3]) ∧ c ≤ N ∧ 0 ≤ st ∧ st < 2147483647
theorem PoolAt.same {H H' : Hp} {a : Addr} {N : Nat} (h : PoolAt H a N) (s : Same H H') : PoolAt H' a N := by
  obtain ⟨c1, c2, c3, c4, h1, h2⟩ := h
  exact ⟨c1, c2, c3, c4, s _ _ h1, h2⟩
theorem PoolAt.le {H : Hp} {a : Addr} {N M : Nat} (h : PoolAt H a N) (l : N ≤ M) : PoolAt H a M := by
  obtain ⟨c1, c2, c3, c4, h1, h2, h3⟩ := h
  exact ⟨c1, c2, c3, c4, h1, by omega, h3⟩
theorem PoolAt.lst {H : Hp} {a : Addr} {N : Nat} (h : PoolAt H a N) : ∃ xs, H a = some (.lst xs) := by
  obtain ⟨c1, c2, c3, c4, h1, h2⟩ := h
  exact ⟨_, h1⟩
section
variable {P : Program} {w : World} {K : PySem.W.Frag} {mg : Str → Option Value} {base : Heap}
def spPl (K : PySem.W.Frag) : L2.Sp := fun vs H Q _ => ∃ (a : Addr) (ns : List Int) (y : Int) (i : Nat), vs = [.ref a, .int y] ∧ y = (i : Int) ∧ i ≤ 1 ∧ SqL K H a (ns.map V.int) ∧ ∀ (H' : Hp) (x : Addr), Same H H' → H x = none → PoolAt H' x 0 → Q (.ref x) H'
theorem d_pl (T : Tx K mg) : Df P w K mg base CX0 1 "_law_pool" (He.ga K "_law_pool") ["_law_script", "_law_at"] (spPl K) := by
  obtain ⟨fd, F⟩ := F_law_pool T.told
  refine ⟨⟨fd, ?_, F.binds fun _ _ _ _ _ _ us hl => match us, hl with | [_, _], _ => rfl⟩, F.kp, g_law_pool T⟩
  have nd := sc_law_pool.nd
  refine F.ok sc_law_pool (fun vs H Q E h => ?_) (fun cdv A outer s H vs Q E hr h => ?_)
  · obtain ⟨a, ns, y, i, rfl, _⟩ := h
    rfl
  · obtain ⟨a, ns, y, i, rfl, ey, hi, ha, q⟩ := h
    refine ⟨_, pss_cons (ps_set (i := 2) nd rfl (.inl rfl) pe_int)
      (pss_cons (ps_if (pt_cmpR op_lt (pv 1) (pe_callB call_len_seq (by rfl) (z_len T) PySem.boot_len (pa_cons (pv 0) pa_nil)) (nomark _)) (pss_one (ps_set (i := 2) nd rfl (.inl rfl) (pe_callB call_abs (by rfl) (z_abs T) (by decide +kernel) (pa_cons (pe_callTy call_int1 (by rfl) (z_int T) (by decide +kernel) (pa_cons (pe_ix ix_list (pv 0) (pv 1) (fun _ _ => rfl)) pa_nil)) pa_nil)))) pss_nil)
      (pss_one (ps_ret (pe_lst (pa_cons (pv 2) (pa_cons pe_int (pa_cons (pe_callTy call_int1 (by rfl) (z_int T) (by decide +kernel) (pa_cons (pe_cmpR op_ge (pv 2) (pe_op op_pow pe_int pe_int) (nomark _)) pa_nil))
        (pa_cons (pe_op op_mod (pe_callTy call_int1 (by rfl) (z_int T) (by decide +kernel) (pa_cons (pe_op op_add (pv 2) (pe_op op_mul (pv 1) pe_int)) pa_nil)) pe_int) (pa_cons pe_int pa_nil))))))))), ?_⟩
    refine join_seq (fun σ' H' => σ' = [some (.ref a), some (.int y), some (.int 0)] ∧ H' = H) (fun D' hD => hD _ _ ⟨rfl, rfl⟩) ?_
    rintro σ H0 ⟨rfl, rfl⟩
    refine join_seq (fun σ' H' => ∃ cell : Int, σ' = [some (.ref a), some (.int y), some (.int cell)] ∧ H' = H0) (fun D' hD => ?_) ?_
    · refine ⟨_, rfl, _, rfl, a, _, rfl, .inl ha, _, _, rfl, rfl, _, rfl, ?_⟩
      rw [List.length_map]
      by_cases c : i < ns.length
      · rw [decide_eq_true (show y < (ns.length : Int) by omega)]
        refine iteT ⟨_, rfl, _, rfl, a, _, _, .int (ns.getD i 0), rfl, rfl, ha, at_of ey ?_, .inl ⟨_, rfl, _, rfl, hD _ _ ⟨_, rfl, rfl⟩⟩⟩
        rw [List.getElem?_map, List.getD_eq_getElem?_getD, List.getElem?_eq_getElem c]
        rfl
      · rw [decide_eq_false (show ¬ y < (ns.length : Int) by omega)]
        exact iteF (hD _ _ ⟨0, rfl, rfl⟩)
    · rintro σ' H' ⟨cell, rfl, rfl⟩
      refine ⟨_, rfl, _, rfl, _, _, rfl, rfl, ⟨by decide, by decide, by decide⟩, _, _, rfl, rfl, .inr ⟨_, rfl, _, rfl, _, rfl, _, _, rfl, rfl, mul_in (by omega), _, _, rfl, rfl, .inl ⟨_, rfl, _, _, rfl, rfl, (by show (0 : Int) < 2147483647; decide), (by show 5 ≤ sizeLine; decide), fun x nx => ?_⟩⟩⟩
      exact q _ x (same_upd nx) nx ⟨cell, _, _, 0, upd_same, Nat.le_refl _, Int.emod_nonneg _ (by decide), Int.emod_lt_of_pos _ (by decide)⟩
def spTk (K : PySem.W.Frag) : L2.Sp := fun vs H Q _ => ∃ (a : Addr) (m : Int) (N : Nat), vs = [.ref a, .int m] ∧ 1 ≤ m ∧ m ≤ 1000000 ∧ PoolAt H a N ∧ N ≤ 1000000 ∧ ∀ (H' : Hp) (z : Int), But a H H' → PoolAt H' a (N + 1) → 0 ≤ z → z < m → Q (.int z) H'
theorem d_tk (T : Tx K mg) : Df P w K mg base CX0 1 "_law_take" (He.ga K "_law_take") ["_law_pool_here", "_law_many"] (spTk K) := by
  obtain ⟨fd, F⟩ := F_law_take T.told
  refine ⟨⟨fd, ?_, F.binds fun _ _ _ _ _ _ us hl => match us, hl with | [_, _], _ => rfl⟩, F.kp, g_law_take T⟩
  have nd := sc_law_take.nd
  refine F.ok sc_law_take (fun vs H Q E h => ?_) (fun cdv A outer s H vs Q E hr h => ?_)
  · obtain ⟨a, m, N, rfl, _⟩ := h
    rfl
  · obtain ⟨a, m, N, rfl, hm1, hm2, hp, hN, q⟩ := h
    refine ⟨_, pss_cons (ps_asg (pe_op op_add (pe_ix ix_list (pv 0) pe_int (fun _ _ => rfl)) pe_int) (pg_sub (pv 0) pe_int set_list))
      (pss_cons (ps_if (pt_cmpR op_eq (pe_ix ix_list (pv 0) pe_int (fun _ _ => rfl)) pe_int (nomark _))
        (pss_cons (ps_set (i := 2) nd rfl (.inl rfl) (pe_op op_mod (pe_callTy call_int1 (by rfl) (z_int T) (by decide +kernel) (pa_cons (pe_ix ix_list (pv 0) pe_int (fun _ _ => rfl)) pa_nil)) (pv 1)))
        (pss_cons (ps_asg (pe_op op_fdivW (pe_ix ix_list (pv 0) pe_int (fun _ _ => rfl)) (pv 1)) (pg_sub (pv 0) pe_int set_list))
        (pss_one (ps_ret (pv 2))))) pss_nil)
      (pss_cons (ps_set (i := 3) nd rfl (.inl rfl) (pe_op op_mod (pe_callTy call_int1 (by rfl) (z_int T) (by decide +kernel) (pa_cons (pe_op op_add (pe_op op_add (pe_op op_mul (pe_ix ix_list (pv 0) pe_int (fun _ _ => rfl)) pe_int) (pe_op op_mul (pe_ix ix_list (pv 0) pe_int (fun _ _ => rfl)) pe_int)) pe_int) pa_nil)) pe_int))
      (pss_cons (ps_set (i := 4) nd rfl (.inl rfl) (pe_op op_mod (pe_callTy call_int1 (by rfl) (z_int T) (by decide +kernel) (pa_cons (pe_op op_add (pe_op op_add (pe_op op_mul (pv 3) pe_int) (pe_op op_fdivW (pv 3) pe_int)) (pe_op op_mul (pe_op op_mul (pe_ix ix_list (pv 0) pe_int (fun _ _ => rfl)) (pe_ix ix_list (pv 0) pe_int (fun _ _ => rfl))) pe_int)) pa_nil)) pe_int))
      (pss_one (ps_ret (pe_op op_mod (pe_callTy call_int1 (by rfl) (z_int T) (by decide +kernel) (pa_cons (pe_op op_fdivW (pv 4) (pe_op op_add (pe_ix ix_list (pv 0) pe_int (fun _ _ => rfl)) pe_int)) pa_nil)) (pv 1))))))), ?_⟩
    obtain ⟨cell, big, st, c, ha, hc, h1, h2⟩ := hp
    refine join_seq (fun σ' H' => σ' = [some (.ref a), some (.int m), none, none, none] ∧ But a H H' ∧ H' a = some (.lst [.int cell, .int ((c + 1 : Nat) : Int), .int big, .int st, .int 3])) (fun D' hD => ?_) ?_
    · exact ⟨_, rfl, a, _, _, .int (c : Int), rfl, rfl, SqL.of ha, rfl, _, _, rfl, rfl, _, rfl, a, _, _, 1, rfl, rfl, ha, rfl, hD _ _ ⟨rfl, but_upd, upd_same⟩⟩
    rintro σ H1 ⟨rfl, hB, h⟩
    refine ⟨_, rfl, a, _, _, .int big, rfl, rfl, SqL.of h, rfl, rfl, _, rfl, ?_⟩
    cases decide (V.int big = V.int 1) with
    | true =>
      refine iteT ⟨_, rfl, a, _, _, .int cell, rfl, rfl, SqL.of h, rfl, .inl ⟨_, rfl, _, rfl, _, _, rfl, rfl, by omega, ?_⟩⟩
      refine ⟨_, rfl, a, _, _, .int cell, rfl, rfl, SqL.of h, rfl, _, rfl, _, _, rfl, rfl, wide_div (b := 40) (by omega) (by omega) (by decide) (by decide), _, rfl, a, _, _, 0, rfl, rfl, h, rfl, _, rfl, ?_⟩
      exact q _ _ hB.put ⟨cell / m, big, st, c + 1, upd_same, by omega, h1, h2⟩ (Int.emod_nonneg _ (by omega)) (Int.emod_lt_of_pos _ (by omega))
    | false =>
      refine iteF ⟨_, rfl, a, _, _, .int st, rfl, rfl, SqL.of h, rfl, _, _, rfl, rfl, mul_in (by omega), _, rfl, a, _, _, .int ((c + 1 : Nat) : Int), rfl, rfl, SqL.of h, rfl, _, _, rfl, rfl, mul_in (by omega), _, _, rfl, rfl, _, _, rfl, rfl, .inl ⟨_, rfl, _, _, rfl, rfl, (by show (0 : Int) < 2147483647; decide), ?_⟩⟩
      generalize hone : (st * 48271 + ((c + 1 : Nat) : Int) * 69621 + 11) % 2147483647 = one
      have o1 : 0 ≤ one := by
        rw [← hone]
        exact Int.emod_nonneg _ (by decide)
      have o2 : one < 2147483647 := by
        rw [← hone]
        exact Int.emod_lt_of_pos _ (by decide)
      refine ⟨_, rfl, _, _, rfl, rfl, mul_in (by omega), _, rfl, _, _, rfl, rfl, wide_div (b := 40) (by decide) (by decide) (by decide) (by decide), _, _, rfl, rfl, _, rfl, a, _, _, .int ((c + 1 : Nat) : Int), rfl, rfl, SqL.of h, rfl, _, rfl, a, _, _, .int ((c + 1 : Nat) : Int), rfl, rfl, SqL.of h, rfl, _, _, rfl, rfl, mul_in (by omega), _, _, rfl, rfl, .inr (by decide), _, _, rfl, rfl, .inl ⟨_, rfl, _, _, rfl, rfl, (by show (0 : Int) < 2147483399; decide), ?_⟩⟩
      refine ⟨_, rfl, _, rfl, a, _, _, .int ((c + 1 : Nat) : Int), rfl, rfl, SqL.of h, rfl, _, _, rfl, rfl, _, _, rfl, rfl, wide_div (b := 40) (by omega) (by omega) (by decide) (by decide), .inl ⟨_, rfl, _, rfl, _, _, rfl, rfl, by omega, ?_⟩⟩
      exact q _ _ hB ⟨cell, big, st, c + 1, h, by omega, h1, h2⟩ (Int.emod_nonneg _ (by omega)) (Int.emod_lt_of_pos _ (by omega))
end
end Sp
set_option maxRecDepth 100000
set_option maxHeartbeats 2000000
/-! The law's rows. -/
namespace Sp
open PySem PySem.Spec PyProof.Rows L2
theorem But.free {a x : Addr} {H H' : Hp} {o : HO} (h : But a H H') (n : H' x = none) (ha : H' a = some o) : H x = none := by
  cases e : H x with
  | none => rfl
  | some u =>
    have nx : x ≠ a := fun z => by rw [z, ha] at n; cases n
    rw [h _ _ e nx] at n
    cases n
theorem two_at {b : Int} (hb : b = 0 ∨ b = 1) (x y : Int) : ∃ m, atI [V.int x, V.int y] b = some (.int m) ∧ (m = x ∨ m = y) := by
  rcases hb with rfl | rfl
  · exact ⟨x, rfl, .inl rfl⟩
  · exact ⟨y, rfl, .inr rfl⟩
theorem PoolAt.ne {H : Hp} {a b : Addr} {N : Nat} (h : PoolAt H a N) (n : H b = none) : b ≠ a := fun z => by
  obtain ⟨xs, e⟩ := h.lst
  rw [z, e] at n
  cases n
section
variable {P : Program} {w : World} {K : PySem.W.Frag} {mg : Str → Option Value} {base : Heap}
def spJt (K : PySem.W.Frag) : L2.Sp := fun vs H Q _ => ∃ (a : Addr) (below b : Int) (N : Nat), vs = [.ref a, .int below, .int b] ∧ (b = 0 ∨ b = 1) ∧ 1 ≤ below ∧ below ≤ 5000 ∧ PoolAt H a N ∧ N ≤ 900000 ∧
  ∀ (H' : Hp) (x : Addr) (j : J), But a H H' → H x = none → PoolAt H' a (N + 4) → H' x = some (.tup (JV j)) → JOk j below below → Q (.ref x) H'
theorem d_jt (T : Tx K mg) : Df P w K mg base CX0 2 "_law_joint" (He.ga K "_law_joint") ["_law_pool_here", "_law_below", "_law_broad"] (spJt K) := by
  obtain ⟨fd, F⟩ := F_law_joint T.told
  refine ⟨⟨fd, ?_, F.binds fun _ _ _ _ _ _ us hl => match us, hl with | [_, _, _], _ => rfl⟩, F.kp, g_law_joint T⟩
  have DT : Df P w K mg base CX0 1 "_law_take" (He.ga K "_law_take") ["_law_pool_here", "_law_many"] (spTk K) := d_tk T
  have nd := sc_law_joint.nd
  refine F.ok sc_law_joint (fun vs H Q E h => ?_) (fun cdv A outer s H vs Q E hr h => ?_)
  · obtain ⟨a, below, b, N, rfl, _⟩ := h
    rfl
  · obtain ⟨a, below, b, N, rfl, hb, l1, l2, hp, hN, q⟩ := h
    refine ⟨_, pss_cons (ps_if (pt_cmpR op_eq (pe_d DT hr (by rfl) (pa_cons (pv 0) (pa_cons pe_int pa_nil))) pe_int (nomark _))
        (pss_cons (ps_set (i := 3) nd rfl (.inl rfl) (pe_op op_add pe_int (pe_d DT hr (by rfl) (pa_cons (pv 0) (pa_cons (pe_ix ix_list (pe_lst (pa_cons pe_int (pa_cons pe_int pa_nil))) (pv 2) (fun _ _ => rfl)) pa_nil)))))
        (pss_one (ps_ret (pe_tup (pa_cons pe_str (pa_cons (pv 3) (pa_cons (pe_d DT hr (by rfl) (pa_cons (pv 0) (pa_cons (pv 1) pa_nil))) pa_nil))))))) pss_nil)
      (pss_cons (ps_set (i := 4) nd rfl (.inl rfl) (pe_op op_add pe_int (pe_d DT hr (by rfl) (pa_cons (pv 0) (pa_cons (pe_ix ix_list (pe_lst (pa_cons pe_int (pa_cons pe_int pa_nil))) (pv 2) (fun _ _ => rfl)) pa_nil)))))
      (pss_cons (ps_set (i := 3) nd rfl (.inl rfl) (pe_d DT hr (by rfl) (pa_cons (pv 0) (pa_cons (pe_ix ix_list (pe_lst (pa_cons pe_int (pa_cons pe_int pa_nil))) (pv 2) (fun _ _ => rfl)) pa_nil))))
      (pss_one (ps_ret (pe_tup (pa_cons pe_str (pa_cons (pv 4) (pa_cons (pv 3) (pa_cons (pe_d DT hr (by rfl) (pa_cons (pv 0) (pa_cons (pv 4) pa_nil))) pa_nil))))))))), ?_⟩
    refine ⟨_, rfl, a, 3, N, rfl, by decide, by decide, hp, by omega, fun H1 z1 B1 p1 _ _ => ?_⟩
    refine ⟨rfl, _, rfl, ?_⟩
    cases decide (V.int z1 = V.int 0) with
    | true =>
      obtain ⟨m, hm, hmm⟩ := two_at hb 9 500
      refine iteT ⟨_, rfl, (by show 2 ≤ sizeLine; decide), fun l nl => ⟨_, rfl, l, _, _, .int m, rfl, rfl, SqL.of upd_same, hm, a, m, N + 1, rfl, by omega, by omega, p1.same (same_upd nl), by omega, fun H2 z2 B2 p2 z20 z21 => ?_⟩⟩
      refine ⟨_, _, rfl, rfl, _, rfl, _, rfl, _, rfl, a, below, N + 2, rfl, l1, by omega, p2, by omega, fun H3 z3 B3 p3 z30 z31 => ⟨(by show 3 ≤ sizeLine; decide), fun x nx => ?_⟩⟩
      have s4 := same_upd (o := .tup [.str "hyphen", .int (1 + z2), .int z3]) nx
      have B : But a H H3 := ((B1.to (same_upd nl)).trans B2).trans B3
      obtain ⟨xs, e3⟩ := p3.lst
      exact q _ x (.hy (1 + z2) z3) (B.to s4) (B.free nx e3) ((p3.same s4).le (by omega)) upd_same ⟨by omega, by omega, z30, z31, z31⟩
    | false =>
      obtain ⟨m, hm, hmm⟩ := two_at hb 12 500
      refine iteF ⟨_, rfl, (by show 2 ≤ sizeLine; decide), fun l nl => ⟨_, rfl, l, _, _, .int m, rfl, rfl, SqL.of upd_same, hm, a, m, N + 1, rfl, by omega, by omega, p1.same (same_upd nl), by omega, fun H2 z2 B2 p2 z20 z21 => ?_⟩⟩
      obtain ⟨m', hm', hmm'⟩ := two_at hb 12 501
      refine ⟨_, _, rfl, rfl, _, rfl, (by show 2 ≤ sizeLine; decide), fun l' nl' => ⟨_, rfl, l', _, _, .int m', rfl, rfl, SqL.of upd_same, hm', a, m', N + 2, rfl, by omega, by omega, p2.same (same_upd nl'), by omega, fun H3 z3 B3 p3 z30 z31 => ?_⟩⟩
      refine ⟨_, rfl, _, rfl, _, rfl, _, rfl, a, 1 + z2, N + 3, rfl, by omega, by omega, p3, by omega, fun H4 z4 B4 p4 z40 z41 => ⟨(by show 4 ≤ sizeLine; decide), fun x nx => ?_⟩⟩
      have s4 := same_upd (o := .tup [.str "gap", .int (1 + z2), .int z3, .int z4]) nx
      have B : But a H H4 := (((B1.to (same_upd nl)).trans B2).to (same_upd nl')).trans (B3.trans B4)
      obtain ⟨xs, e3⟩ := p4.lst
      exact q _ x (.gp (1 + z2) z3 z4) (B.to s4) (B.free nx e3) (p4.same s4) upd_same ⟨by omega, by omega, z30, by omega, z40, z41⟩
end
end Sp
set_option maxRecDepth 100000
set_option maxHeartbeats 2000000
/-! _law_bare. -/
namespace Sp
open PySem PySem.Spec PyProof.Rows L2
theorem getD_lt {α : Type} {l : List α} {i : Nat} (d : α) (h : i < l.length) : l.getD i d = l[i] := by
  rw [List.getD_eq_getElem?_getD, List.getElem?_eq_getElem h]
  rfl
theorem getD_app {α : Type} {l m : List α} {i : Nat} (d : α) (h : i < l.length) : (l ++ m).getD i d = l.getD i d := by
  rw [List.getD_eq_getElem?_getD, List.getD_eq_getElem?_getD, List.getElem?_append_left h]
theorem getD_end {α : Type} {l : List α} {x : α} (d : α) : (l ++ [x]).getD l.length d = x := by
  rw [List.getD_eq_getElem?_getD, List.getElem?_append_right (Nat.le_refl _), Nat.sub_self]
  rfl
theorem int_at {ws : List Int} {k : Nat} {z : Int} (h : k < ws.length) (e : z = (k : Int)) : atI (ws.map V.int) z = some (.int (ws.getD k 1)) := by
  refine at_of e ?_
  rw [List.getElem?_map, getD_lt 1 h, List.getElem?_eq_getElem h]
  rfl
theorem JOk.to {j : J} {a b c d : Int} (h : JOk j a b) (h1 : a ≤ c) (h2 : b ≤ d) : JOk j c d := by
  cases j with
  | hy x y =>
    obtain ⟨q1, q2, q3, q4, q5⟩ := h
    exact ⟨q1, q2, q3, by omega, by omega⟩
  | gp x y z => exact h
section
variable {P : Program} {w : World} {K : PySem.W.Frag} {mg : Str → Option Value} {base : Heap}
def spBa (K : PySem.W.Frag) : L2.Sp := fun vs H Q _ => ∃ (a : Addr), vs = [.ref a, .int 0, .int 8] ∧ PoolAt H a 0 ∧ ∀ (H' : Hp) (x : Addr) (r : Rw), But a H H' → H x = none → RowAt H' x r → r.Ok → Q (.ref x) H'
def WOk (p : Nat) (ws : List Int) : Prop := (∀ x ∈ ws, 1 ≤ x ∧ x ≤ 5000) ∧ ∀ k, 0 < p → p ≤ k → k < ws.length → ws.getD k 1 = ws.getD (k - p) 1
theorem WOk.push {p : Nat} {ws : List Int} {x : Int} (h : WOk p ws) (hx : 1 ≤ x ∧ x ≤ 5000) (hp : 0 < p → p ≤ ws.length → x = ws.getD (ws.length - p) 1) : WOk p (ws ++ [x]) := by
  refine ⟨fun y hy => ?_, fun k h0 h1 h2 => ?_⟩
  · rcases List.mem_append.mp hy with hy | hy
    · exact h.1 y hy
    · rw [List.mem_singleton.mp hy]
      exact hx
  · rw [List.length_append, List.length_singleton] at h2
    by_cases c : k = ws.length
    · subst c
      rw [getD_end, getD_app 1 (by omega)]
      exact hp h0 h1
    · rw [getD_app 1 (by omega), getD_app 1 (by omega)]
      exact h.2 k h0 h1 (by omega)
theorem d_ba (T : Tx K mg) : Df P w K mg base CX0 3 "_law_bare" (He.ga K "_law_bare") ["_law_pool_here", "_law_least", "_law_often"] (spBa K) := by
  obtain ⟨fd, F⟩ := F_law_bare T.told
  refine ⟨⟨fd, ?_, F.binds fun _ _ _ _ _ _ us hl => match us, hl with | [_, _, _], _ => rfl⟩, F.kp, g_law_bare T⟩
  have DT : Df P w K mg base CX0 1 "_law_take" (He.ga K "_law_take") ["_law_pool_here", "_law_many"] (spTk K) := d_tk T
  have DJ : Df P w K mg base CX0 2 "_law_joint" (He.ga K "_law_joint") ["_law_pool_here", "_law_below", "_law_broad"] (spJt K) := d_jt T
  have nd := sc_law_bare.nd
  refine F.ok sc_law_bare (fun vs H Q E h => ?_) (fun cdv A outer s H vs Q E hr h => ?_)
  · obtain ⟨a, rfl, _⟩ := h
    rfl
  · obtain ⟨a, rfl, hp, q⟩ := h
    have hr1 : Room 1 _ := hr.mono (by decide)
    refine ⟨_, pss_cons (ps_set (i := 3) nd rfl (.inl rfl) (pe_callB (call_max2 rfl) (by rfl) (z_max T) (by decide +kernel) (pa_cons (pe_callTy call_int1 (by rfl) (z_int T) (by decide +kernel) (pa_cons (pv 1) pa_nil)) (pa_cons (pe_d DT hr1 (by rfl) (pa_cons (pv 0) (pa_cons pe_int pa_nil))) pa_nil))))
      (pss_cons (ps_if (pt_cmpR op_eq (pe_d DT hr1 (by rfl) (pa_cons (pv 0) (pa_cons (pv 2) pa_nil))) (pe_op op_sub (pv 2) pe_int) (nomark _))
        (pss_one (ps_set (i := 3) nd rfl (.inl rfl) (pe_callB (call_max2 rfl) (by rfl) (z_max T) (by decide +kernel) (pa_cons (pe_callTy call_int1 (by rfl) (z_int T) (by decide +kernel) (pa_cons (pv 1) pa_nil)) (pa_cons (pe_d DT hr1 (by rfl) (pa_cons (pv 0)
            (pa_cons (pe_ix ix_list (pe_lst (pa_cons pe_int (pa_cons pe_int pa_nil))) (pe_d DT hr1 (by rfl) (pa_cons (pv 0) (pa_cons pe_int pa_nil))) (fun _ _ => rfl)) pa_nil))) pa_nil))))) pss_nil)
      (pss_cons (ps_set (i := 4) nd rfl (.inl rfl) (pe_callTy call_int1 (by rfl) (z_int T) (by decide +kernel) (pa_cons (pe_cmpR op_eq (pe_d DT hr1 (by rfl) (pa_cons (pv 0) (pa_cons pe_int pa_nil))) pe_int (nomark _)) pa_nil)))
      (pss_cons (ps_set (i := 5) nd rfl (.inl rfl) (pe_ix ix_list (pe_lst (pa_cons pe_int (pa_cons pe_int (pa_cons pe_int (pa_cons pe_int pa_nil))))) (pe_d DT hr1 (by rfl) (pa_cons (pv 0) (pa_cons pe_int pa_nil))) (fun _ _ => rfl)))
      (pss_cons (ps_set (i := 6) nd rfl (.inl rfl) (pe_lst pa_nil))
      (pss_cons (ps_for PassesOwn.never rfl (pi_range1 (by rfl) (z_range T) (pa_cons (pv 3) pa_nil)) (pg_name (i := 7) nd rfl (.inl rfl))
        (pss_one (ps_if (pt_chain op_lt op_le pe_int (pv 5) (pv 7))
          (pss_one (ps_expr (pe_bm PySem.F.plainAttrs_list PySem.F.slot_list_append PySem.F.type_list_append mt_append (pv 6) (pa_cons (pe_ix ix_list (pv 6) (pe_op op_sub (pv 7) (pv 5)) (fun _ _ => rfl)) pa_nil))))
          (pss_one (ps_expr (pe_bm PySem.F.plainAttrs_list PySem.F.slot_list_append PySem.F.type_list_append mt_append (pv 6) (pa_cons (pe_op op_add pe_int (pe_d DT hr1 (by rfl) (pa_cons (pv 0) (pa_cons (pe_ix ix_list (pe_lst (pa_cons pe_int (pa_cons pe_int pa_nil))) (pv 4) (fun _ _ => rfl)) pa_nil)))) pa_nil)))))))
      (pss_cons (ps_set (i := 8) nd rfl (.inl rfl) (pe_lst pa_nil))
      (pss_cons (ps_for PassesOwn.never rfl (pi_range1 (by rfl) (z_range T) (pa_cons (pe_op op_sub (pv 3) pe_int) pa_nil)) (pg_name (i := 7) nd rfl (.inl rfl))
        (pss_one (ps_if (pt_chain op_lt op_le pe_int (pv 5) (pv 7))
          (pss_one (ps_expr (pe_bm PySem.F.plainAttrs_list PySem.F.slot_list_append PySem.F.type_list_append mt_append (pv 8) (pa_cons (pe_ix ix_list (pv 8) (pe_op op_sub (pv 7) (pv 5)) (fun _ _ => rfl)) pa_nil))))
          (pss_cons (ps_set (i := 9) nd rfl (.inl rfl) (pe_callB (call_min2 rfl) (by rfl) (z_min T) (by decide +kernel) (pa_cons (pe_callTy call_int1 (by rfl) (z_int T) (by decide +kernel) (pa_cons (pe_ix ix_list (pv 6) (pv 7) (fun _ _ => rfl)) pa_nil))
              (pa_cons (pe_callTy call_int1 (by rfl) (z_int T) (by decide +kernel) (pa_cons (pe_ix ix_list (pv 6) (pe_op op_add (pv 7) pe_int) (fun _ _ => rfl)) pa_nil)) pa_nil))))
          (pss_one (ps_expr (pe_bm PySem.F.plainAttrs_list PySem.F.slot_list_append PySem.F.type_list_append mt_append (pv 8) (pa_cons (pe_d DJ hr (by rfl) (pa_cons (pv 0) (pa_cons (pv 9) (pa_cons (pv 4) pa_nil)))) pa_nil))))))))
      (pss_one (ps_ret (pe_tup (pa_cons (pe_tupleOf (by rfl) (z_tuple T) (pv 6)) (pa_cons (pe_tupleOf (by rfl) (z_tuple T) (pv 8)) pa_nil)))))))))))), ?_⟩
    -- many
    refine join_seq (fun σ' H' => ∃ many : Int, σ' = [some (.ref a), some (.int 0), some (.int 8), some (.int many), none, none, none, none, none, none] ∧ 0 ≤ many ∧ many ≤ 100 ∧ But a H H' ∧ PoolAt H' a 1) (fun D' hD => ?_) ?_
    · refine ⟨_, rfl, .inl ⟨0, rfl, _, rfl, a, 9, 0, rfl, by decide, by decide, hp, by decide, fun H1 z B1 p1 z0 z1 => ⟨0, z, rfl, hD _ _ ⟨_, rfl, ?_, ?_, B1, p1⟩⟩⟩⟩
      · split <;> omega
      · split <;> omega
    rintro σ H1 ⟨many, rfl, m0, m1, B1, p1⟩
    refine join_seq (fun σ' H' => ∃ many : Int, σ' = [some (.ref a), some (.int 0), some (.int 8), some (.int many), none, none, none, none, none, none] ∧ 0 ≤ many ∧ many ≤ 100 ∧ But a H H' ∧ PoolAt H' a 4) (fun D' hD => ?_) ?_
    · refine ⟨_, rfl, _, rfl, a, 8, 1, rfl, by decide, by decide, p1, by decide, fun H2 z B2 p2 z0 z1 => ⟨_, rfl, _, _, rfl, rfl, rfl, _, rfl, ?_⟩⟩
      cases decide (V.int z = V.int (8 - 1)) with
      | false => exact iteF (hD _ _ ⟨_, rfl, m0, m1, B1.trans B2, p2.le (by decide)⟩)
      | true =>
        refine iteT ⟨_, rfl, .inl ⟨0, rfl, _, rfl, (by show 2 ≤ sizeLine; decide), fun l nl => ⟨_, rfl, a, 2, 2, rfl, by decide, by decide, p2.same (same_upd nl), by decide, fun H3 z3 B3 p3 z30 z31 => ?_⟩⟩⟩
        obtain ⟨m, hm, hmm⟩ := two_at (b := z3) (by omega) 41 101
        have nla : l ≠ a := p2.ne nl
        refine ⟨l, _, _, .int m, rfl, rfl, SqL.of (B3 _ _ upd_same nla), hm, a, m, 3, rfl, by omega, by omega, p3, by decide, fun H4 z4 B4 p4 z40 z41 => ⟨0, z4, rfl, hD _ _ ⟨_, rfl, ?_, ?_, ((B1.trans B2).to (same_upd nl)).trans (B3.trans B4), p4⟩⟩⟩
        · split <;> omega
        · split <;> omega
    rintro σ H2 ⟨many, rfl, m0, m1, B2, p2⟩
    refine join_seq (fun σ' H' => ∃ br : Int, σ' = [some (.ref a), some (.int 0), some (.int 8), some (.int many), some (.int br), none, none, none, none, none] ∧ (br = 0 ∨ br = 1) ∧ But a H H' ∧ PoolAt H' a 5) (fun D' hD => ?_) ?_
    · refine ⟨_, rfl, a, 8, 4, rfl, by decide, by decide, p2, by decide, fun H3 z B3 p3 z0 z1 => ⟨rfl, .inr ⟨_, rfl, hD _ _ ⟨_, rfl, ?_, B2.trans B3, p3⟩⟩⟩⟩
      split
      · exact .inr rfl
      · exact .inl rfl
    rintro σ H3 ⟨br, rfl, hbr, B3, p3⟩
    refine join_seq (fun σ' H' => ∃ pd : Nat, σ' = [some (.ref a), some (.int 0), some (.int 8), some (.int many), some (.int br), some (.int (pd : Int)), none, none, none, none] ∧ pd ≤ 2 ∧ But a H H' ∧ PoolAt H' a 6) (fun D' hD => ?_) ?_
    · refine ⟨(by show 4 ≤ sizeLine; decide), fun l nl => ⟨_, rfl, a, 4, 5, rfl, by decide, by decide, p3.same (same_upd nl), by decide, fun H4 z B4 p4 z0 z1 => ?_⟩⟩
      have nla : l ≠ a := p3.ne nl
      have hl := B4 _ _ upd_same nla
      have Bn := (B3.to (same_upd nl)).trans B4
      have cz : z = 0 ∨ z = 1 ∨ z = 2 ∨ z = 3 := by omega
      rcases cz with rfl | rfl | rfl | rfl
      · exact ⟨l, _, _, .int 0, rfl, rfl, SqL.of hl, rfl, hD _ _ ⟨0, rfl, by decide, Bn, p4⟩⟩
      · exact ⟨l, _, _, .int 0, rfl, rfl, SqL.of hl, rfl, hD _ _ ⟨0, rfl, by decide, Bn, p4⟩⟩
      · exact ⟨l, _, _, .int 1, rfl, rfl, SqL.of hl, rfl, hD _ _ ⟨1, rfl, by decide, Bn, p4⟩⟩
      · exact ⟨l, _, _, .int 2, rfl, rfl, SqL.of hl, rfl, hD _ _ ⟨2, rfl, by decide, Bn, p4⟩⟩
    rintro σ H4 ⟨pd, rfl, hpd, B4, p4⟩
    obtain ⟨n, rfl⟩ : ∃ n : Nat, many = (n : Int) := ⟨many.toNat, by omega⟩
    have hnn : ((n : Int)).toNat = n := by omega
    -- widths
    refine ⟨Nat.zero_le _, fun wl nwl => ?_⟩
    obtain ⟨ap, e4⟩ := p4.lst
    have nwa : wl ≠ a := p4.ne nwl
    have nw0 : H wl = none := B4.free nwl e4
    dsimp only
    refine join_seq (fun σ' H' => ∃ (v7 : Option V) (ws : List Int) (N : Nat), σ' = [some (.ref a), some (.int 0), some (.int 8), some (.int (n : Int)), some (.int br), some (.int (pd : Int)), some (.ref wl), v7, none, none] ∧ But a H H' ∧ PoolAt H' a N ∧ N ≤ 1000 ∧ H' wl = some (.lst (ws.map V.int)) ∧ ws.length = n ∧ WOk pd ws) (fun D' hD => ?_) ?_
    · refine ⟨_, rfl, _, rfl, by omega, by omega, ?_⟩
      rw [hnn]
      refine for_range (fun i σ H' => ∃ (v7 : Option V) (ws : List Int) (N : Nat), σ = [some (.ref a), some (.int 0), some (.int 8), some (.int (n : Int)), some (.int br), some (.int (pd : Int)), some (.ref wl), v7, none, none] ∧ But a H H' ∧ PoolAt H' a N ∧ N ≤ 6 + i ∧ H' wl = some (.lst (ws.map V.int)) ∧ ws.length = i ∧ WOk pd ws)
        ⟨none, [], 6, rfl, B4.to (same_upd nwl), p4.same (same_upd nwl), Nat.le_refl _, upd_same, rfl, ⟨fun x hx => (by cases hx), fun k _ _ hk => absurd hk (Nat.not_lt_zero _)⟩⟩ ?_ ?_
      · rintro i σ H5 hi ⟨v7, ws, N, rfl, B5, p5, hN, hw, hl, hW⟩
        have sz : (ws.map V.int).length < sizeLine := by
          rw [List.length_map, hl]
          exact Nat.lt_of_lt_of_le (show i < 101 by omega) (by decide)
        have push : ∀ (H6 : Hp) (x : Int), But a H H6 → (∃ M, PoolAt H6 a M ∧ M ≤ 6 + (i + 1)) → H6 wl = some (.lst (ws.map V.int)) → WOk pd (ws ++ [x]) → ∃ (v7 : Option V) (ws' : List Int) (N : Nat), [some (V.ref a), some (.int 0), some (.int 8), some (.int (n : Int)), some (.int br), some (.int (pd : Int)), some (.ref wl), some (.int (0 + (i : Int))), none, none] = [some (.ref a), some (.int 0), some (.int 8), some (.int (n : Int)), some (.int br), some (.int (pd : Int)), some (.ref wl), v7, none, none] ∧
            But a H (upd H6 wl (.lst (ws.map V.int ++ [.int x]))) ∧ PoolAt (upd H6 wl (.lst (ws.map V.int ++ [.int x]))) a N ∧ N ≤ 6 + (i + 1) ∧ upd H6 wl (.lst (ws.map V.int ++ [.int x])) wl = some (.lst (ws'.map V.int)) ∧ ws'.length = i + 1 ∧ WOk pd ws' := by
          rintro H6 x B6 ⟨M, ⟨c1, c2, c3, c4, h1, h2⟩, hM⟩ hw6 hW6
          refine ⟨_, ws ++ [x], M, rfl, B6.fresh nw0, ⟨c1, c2, c3, c4, by rw [upd_ne (Ne.symm nwa)]; exact h1, h2⟩, hM, ?_, by rw [List.length_append, hl]; rfl, hW6⟩
          rw [upd_same, List.map_append]
          rfl
        refine ⟨_, rfl, _, _, rfl, rfl, _, rfl, ?_⟩
        by_cases c1 : 0 < pd
        · rw [decide_eq_true (show (0 : Int) < (pd : Int) by omega)]
          refine iteT ⟨_, rfl, _, _, rfl, rfl, _, rfl, ?_⟩
          by_cases c2 : pd ≤ i
          · rw [decide_eq_true (show (pd : Int) ≤ 0 + (i : Int) by omega)]
            refine iteT ⟨_, rfl, .inl ⟨rfl, _, SqL.of hw⟩, _, rfl, _, rfl, _, rfl, _, _, rfl, rfl, wl, _, _, _, rfl, rfl, SqL.of hw, int_at (k := i - pd) (by omega) (by omega), wl, _, _, rfl, rfl, hw, sz, ?_⟩
            refine push H5 _ B5 ⟨N, p5, by omega⟩ hw (hW.push ?_ fun _ _ => by rw [hl])
            rw [getD_lt 1 (show i - pd < ws.length by omega)]
            exact hW.1 _ (List.getElem_mem _)
          · rw [decide_eq_false (show ¬ (pd : Int) ≤ 0 + (i : Int) by omega)]
            obtain ⟨m, hm, hmm⟩ := two_at hbr 40 5000
            refine iteF ⟨_, rfl, .inl ⟨rfl, _, SqL.of hw⟩, _, rfl, (by show 2 ≤ sizeLine; decide), fun l nl => ⟨_, rfl, l, _, _, .int m, rfl, rfl, SqL.of upd_same, hm, a, m, N, rfl, by omega, by omega, p5.same (same_upd nl), by omega, fun H6 z6 B6 p6 z60 z61 => ?_⟩⟩
            have hw6 := B6 _ _ ((same_upd nl) _ _ hw) nwa
            refine ⟨_, _, rfl, rfl, wl, _, _, rfl, rfl, hw6, sz, push H6 _ ((B5.to (same_upd nl)).trans B6) ⟨N + 1, p6, by omega⟩ hw6 (hW.push ⟨by omega, by omega⟩ fun _ z => by omega)⟩
        · rw [decide_eq_false (show ¬ (0 : Int) < (pd : Int) by omega)]
          obtain ⟨m, hm, hmm⟩ := two_at hbr 40 5000
          refine iteF ⟨_, rfl, iteF ⟨_, rfl, .inl ⟨rfl, _, SqL.of hw⟩, _, rfl, (by show 2 ≤ sizeLine; decide), fun l nl => ⟨_, rfl, l, _, _, .int m, rfl, rfl, SqL.of upd_same, hm, a, m, N, rfl, by omega, by omega, p5.same (same_upd nl), by omega, fun H6 z6 B6 p6 z60 z61 => ?_⟩⟩⟩
          have hw6 := B6 _ _ ((same_upd nl) _ _ hw) nwa
          exact ⟨_, _, rfl, rfl, wl, _, _, rfl, rfl, hw6, sz, push H6 _ ((B5.to (same_upd nl)).trans B6) ⟨N + 1, p6, by omega⟩ hw6 (hW.push ⟨by omega, by omega⟩ fun z _ => by omega)⟩
      · rintro σ H5 ⟨v7, ws, N, rfl, B5, p5, hN, hw, hl, hW⟩
        exact hD _ _ ⟨v7, ws, N, rfl, B5, p5, by omega, hw, hl, hW⟩
    rintro σ H5 ⟨v7, ws, N, rfl, B5, p5, hN, hw, hl, hW⟩
    refine ⟨Nat.zero_le _, fun jl njl => ?_⟩
    obtain ⟨ap5, e5⟩ := p5.lst
    have nja : jl ≠ a := p5.ne njl
    have nj0 : H jl = none := B5.free njl e5
    have njw : jl ≠ wl := fun z => by rw [z, hw] at njl; cases njl
    dsimp only
    refine join_seq (fun σ' H' => ∃ (v7 v9 : Option V) (as : List Addr) (js : List J), σ' = [some (.ref a), some (.int 0), some (.int 8), some (.int (n : Int)), some (.int br), some (.int (pd : Int)), some (.ref wl), v7, some (.ref jl), v9] ∧ But a H H' ∧ (∃ xs, H' a = some (.lst xs)) ∧ H' wl = some (.lst (ws.map V.int)) ∧ H' jl = some (.lst (as.map V.ref)) ∧ as.length = n - 1 ∧ js.length = n - 1 ∧
      (∀ (i : Nat) (b : Addr), as[i]? = some b → H' b = some (.tup (JV (js.getD i (.gp 1 0 0))))) ∧ ∀ i, i < n - 1 → JOk (js.getD i (.gp 1 0 0)) (ws.getD i 1) (ws.getD (i + 1) 1)) (fun D' hD => ?_) ?_
    · refine ⟨_, rfl, _, _, rfl, rfl, _, rfl, by omega, by omega, ?_⟩
      have hnn1 : ((n : Int) - 1).toNat = n - 1 := by omega
      rw [hnn1]
      refine for_range (fun i σ H' => ∃ (v7 v9 : Option V) (as : List Addr) (js : List J) (N : Nat), σ = [some (.ref a), some (.int 0), some (.int 8), some (.int (n : Int)), some (.int br), some (.int (pd : Int)), some (.ref wl), v7, some (.ref jl), v9] ∧ But a H H' ∧ PoolAt H' a N ∧ N ≤ 1000 + 4 * i ∧ H' wl = some (.lst (ws.map V.int)) ∧ H' jl = some (.lst (as.map V.ref)) ∧ as.length = i ∧ js.length = i ∧
        (∀ (k : Nat) (b : Addr), as[k]? = some b → H' b = some (.tup (JV (js.getD k (.gp 1 0 0))))) ∧ ∀ k, k < i → JOk (js.getD k (.gp 1 0 0)) (ws.getD k 1) (ws.getD (k + 1) 1))
        ⟨v7, none, [], [], N, rfl, B5.to (same_upd njl), p5.same (same_upd njl), by omega, (same_upd njl) _ _ hw, upd_same, rfl, rfl, (fun k b e => by simp at e), fun k hk => absurd hk (Nat.not_lt_zero _)⟩ ?_ ?_
      · rintro i σ H6 hi ⟨v7, v9, as, js, M, rfl, B6, p6, hM, hw6, hj6, la, lj, ha, hJ⟩
        have sz : (as.map V.ref).length < sizeLine := by
          rw [List.length_map, la]
          exact Nat.lt_of_lt_of_le (show i < 101 by omega) (by decide)
        have push : ∀ (v9 : Option V) (H7 : Hp) (x : Addr) (j : J), But a H H7 → (∃ M, PoolAt H7 a M ∧ M ≤ 1000 + 4 * (i + 1)) → H7 wl = some (.lst (ws.map V.int)) → H7 jl = some (.lst (as.map V.ref)) → (∀ (k : Nat) (b : Addr), as[k]? = some b → H7 b = some (.tup (JV (js.getD k (.gp 1 0 0))))) → H7 x = some (.tup (JV j)) → JOk j (ws.getD i 1) (ws.getD (i + 1) 1) →
            ∃ (v7 v9' : Option V) (as' : List Addr) (js' : List J) (N : Nat), [some (V.ref a), some (.int 0), some (.int 8), some (.int (n : Int)), some (.int br), some (.int (pd : Int)), some (.ref wl), some (.int (0 + (i : Int))), some (.ref jl), v9] = [some (.ref a), some (.int 0), some (.int 8), some (.int (n : Int)), some (.int br), some (.int (pd : Int)), some (.ref wl), v7, some (.ref jl), v9'] ∧
              But a H (upd H7 jl (.lst (as.map V.ref ++ [.ref x]))) ∧ PoolAt (upd H7 jl (.lst (as.map V.ref ++ [.ref x]))) a N ∧ N ≤ 1000 + 4 * (i + 1) ∧ upd H7 jl (.lst (as.map V.ref ++ [.ref x])) wl = some (.lst (ws.map V.int)) ∧ upd H7 jl (.lst (as.map V.ref ++ [.ref x])) jl = some (.lst (as'.map V.ref)) ∧ as'.length = i + 1 ∧ js'.length = i + 1 ∧
              (∀ (k : Nat) (b : Addr), as'[k]? = some b → upd H7 jl (.lst (as.map V.ref ++ [.ref x])) b = some (.tup (JV (js'.getD k (.gp 1 0 0))))) ∧ ∀ k, k < i + 1 → JOk (js'.getD k (.gp 1 0 0)) (ws.getD k 1) (ws.getD (k + 1) 1) := by
          rintro v9 H7 x j B7 ⟨M, ⟨c1, c2, c3, c4, h1, h2⟩, hM⟩ hw7 hj7 ha7 hx hj
          have tk : ∀ b ys, H7 b = some (.tup ys) → upd H7 jl (.lst (as.map V.ref ++ [.ref x])) b = some (.tup ys) := fun b ys e => by
            rw [upd_ne (ne_of e hj7 (by intro z; cases z))]
            exact e
          refine ⟨_, v9, as ++ [x], js ++ [j], M, rfl, B7.fresh nj0, ⟨c1, c2, c3, c4, by rw [upd_ne (Ne.symm nja)]; exact h1, h2⟩, hM, by rw [upd_ne (Ne.symm njw)]; exact hw7, ?_, by rw [List.length_append, la]; rfl, by rw [List.length_append, lj]; rfl, fun k b e => ?_, fun k hk => ?_⟩
          · rw [upd_same, List.map_append]
            rfl
          · rcases snoc_get e with e | ⟨e1, e2⟩
            · have hk := (List.getElem?_eq_some_iff.mp e).1
              rw [getD_app _ (by omega)]
              exact tk _ _ (ha7 k b e)
            · subst e2
              have : k = js.length := by omega
              rw [this, getD_end]
              exact tk _ _ hx
          · by_cases c : k = i
            · subst c
              have : k = js.length := by omega
              rw [this, getD_end, ← this]
              exact hj
            · rw [getD_app _ (by omega)]
              exact hJ k (by omega)
        refine ⟨_, rfl, _, _, rfl, rfl, _, rfl, ?_⟩
        have wb : ∀ k, k < n → 1 ≤ ws.getD k 1 ∧ ws.getD k 1 ≤ 5000 := fun k hk => by
          rw [getD_lt 1 (by omega)]
          exact hW.1 _ (List.getElem_mem _)
        by_cases c1 : 0 < pd
        · rw [decide_eq_true (show (0 : Int) < (pd : Int) by omega)]
          refine iteT ⟨_, rfl, _, _, rfl, rfl, _, rfl, ?_⟩
          by_cases c2 : pd ≤ i
          · rw [decide_eq_true (show (pd : Int) ≤ 0 + (i : Int) by omega)]
            obtain ⟨b, hb⟩ : ∃ b, as[i - pd]? = some b := ⟨_, List.getElem?_eq_getElem (by omega)⟩
            refine iteT ⟨_, rfl, .inl ⟨rfl, _, SqL.of hj6⟩, _, rfl, _, rfl, _, rfl, _, _, rfl, rfl, jl, _, _, .ref b, rfl, rfl, SqL.of hj6, at_of (show (0 + (i : Int)) - (pd : Int) = ((i - pd : Nat) : Int) by omega) (mapref_get hb), jl, _, _, rfl, rfl, hj6, sz, ?_⟩
            refine push _ H6 b (js.getD (i - pd) (.gp 1 0 0)) B6 ⟨M, p6, by omega⟩ hw6 hj6 ha (ha _ _ hb) ?_
            have h1 := hJ (i - pd) (by omega)
            rw [hW.2 i c1 c2 (by omega), hW.2 (i + 1) c1 (by omega) (by omega), show i + 1 - pd = i - pd + 1 by omega]
            exact h1
          · rw [decide_eq_false (show ¬ (pd : Int) ≤ 0 + (i : Int) by omega)]
            refine iteF ⟨_, rfl, _, rfl, wl, _, _, _, rfl, rfl, SqL.of hw6, int_at (k := i) (by omega) (by omega), .inl ⟨_, rfl, _, rfl, _, rfl, _, _, rfl, rfl, wl, _, _, _, rfl, rfl, SqL.of hw6, int_at (k := i + 1) (by omega) (by omega), .inl ⟨_, rfl, _, _, rfl, ?_⟩⟩⟩
            have b1 := wb i (by omega)
            have b2 := wb (i + 1) (by omega)
            generalize hbe : (if ws.getD (i + 1) 1 < ws.getD i 1 then ws.getD (i + 1) 1 else ws.getD i 1) = be
            have be1 : 1 ≤ be ∧ be ≤ ws.getD i 1 ∧ be ≤ ws.getD (i + 1) 1 := by
              rw [← hbe]
              split <;> omega
            refine ⟨_, rfl, .inl ⟨rfl, _, SqL.of hj6⟩, _, rfl, _, rfl, _, rfl, a, be, br, M, rfl, hbr, be1.1, by omega, p6, by omega, fun H7 x j B7 n7 p7 hx hj => ?_⟩
            refine ⟨jl, _, _, rfl, rfl, B7 _ _ hj6 nja, sz, push _ H7 x j (B6.trans B7) ⟨_, p7, by omega⟩ (B7 _ _ hw6 nwa) (B7 _ _ hj6 nja) (fun k b e => B7 _ _ (ha k b e) ?_) hx (hj.to be1.2.1 be1.2.2)⟩
            obtain ⟨c1, c2, c3, c4, h1, _⟩ := p6
            exact ne_of (ha k b e) h1 (by intro z; cases z)
        · rw [decide_eq_false (show ¬ (0 : Int) < (pd : Int) by omega)]
          refine iteF ⟨_, rfl, iteF ⟨_, rfl, _, rfl, wl, _, _, _, rfl, rfl, SqL.of hw6, int_at (k := i) (by omega) (by omega), .inl ⟨_, rfl, _, rfl, _, rfl, _, _, rfl, rfl, wl, _, _, _, rfl, rfl, SqL.of hw6, int_at (k := i + 1) (by omega) (by omega), .inl ⟨_, rfl, _, _, rfl, ?_⟩⟩⟩⟩
          have b1 := wb i (by omega)
          have b2 := wb (i + 1) (by omega)
          generalize hbe : (if ws.getD (i + 1) 1 < ws.getD i 1 then ws.getD (i + 1) 1 else ws.getD i 1) = be
          have be1 : 1 ≤ be ∧ be ≤ ws.getD i 1 ∧ be ≤ ws.getD (i + 1) 1 := by
            rw [← hbe]
            split <;> omega
          refine ⟨_, rfl, .inl ⟨rfl, _, SqL.of hj6⟩, _, rfl, _, rfl, _, rfl, a, be, br, M, rfl, hbr, be1.1, by omega, p6, by omega, fun H7 x j B7 n7 p7 hx hj => ?_⟩
          refine ⟨jl, _, _, rfl, rfl, B7 _ _ hj6 nja, sz, push _ H7 x j (B6.trans B7) ⟨_, p7, by omega⟩ (B7 _ _ hw6 nwa) (B7 _ _ hj6 nja) (fun k b e => B7 _ _ (ha k b e) ?_) hx (hj.to be1.2.1 be1.2.2)⟩
          obtain ⟨c1, c2, c3, c4, h1, _⟩ := p6
          exact ne_of (ha k b e) h1 (by intro z; cases z)
      · rintro σ H6 ⟨v7, v9, as, js, M, rfl, B6, ⟨c1, c2, c3, c4, h1, h2⟩, hM, hw6, hj6, la, lj, ha, hJ⟩
        exact hD _ _ ⟨v7, v9, as, js, rfl, B6, ⟨_, h1⟩, hw6, hj6, la, lj, ha, hJ⟩
    rintro σ H6 ⟨v7, v9, as, js, rfl, B6, ⟨xs6, h6⟩, hw6, hj6, la, lj, ha, hJ⟩
    refine ⟨_, rfl, .inl ⟨wl, _, rfl, SqL.of hw6, fun u nu => ?_⟩⟩
    have s7 := same_upd (o := .tup (ws.map V.int)) nu
    refine ⟨_, rfl, .inl ⟨jl, _, rfl, SqL.of (s7 _ _ hj6), fun v nv => ⟨(by show 2 ≤ sizeLine; decide), fun x nx => ?_⟩⟩⟩
    have s8 := same_upd (o := .tup (as.map V.ref)) nv
    have s9 := same_upd (o := .tup [.ref u, .ref v]) nx
    have s79 := (s7.trans s8).trans s9
    refine q _ x ⟨ws, js⟩ (B6.to s79) (B6.free ((s7.trans s8).free nx) h6) ⟨u, v, as, upd_same, s9 _ _ (s8 _ _ upd_same), s9 _ _ upd_same, by rw [la, lj], fun i b e => s79 _ _ (ha i b e)⟩ ⟨?_, ?_, hW.1, fun i hi => ?_⟩
    · show js.length = ws.length - 1
      omega
    · show ws.length ≤ 100
      omega
    · exact hJ i (by have : i + 1 < ws.length := hi; omega)
end
end Sp
set_option maxRecDepth 100000
set_option maxHeartbeats 2000000
/-! _law_glue, _law_mirror. -/
namespace Sp
open PySem PySem.Spec PyProof.Rows L2
section
variable {X : Cx}
/-- sum(t) of a tuple of ints: some int -/
def rSumT (K : PySem.W.Frag) : List V → Hp → VK → Prop := fun vs H Q => ∃ (a : Addr) (ns : List Int), vs = [V.ref a] ∧ SqT K H a (ns.map V.int) ∧ ∀ z : Int, Q (.int z) H
theorem cr_sumT (hc : X.calm = true) : CallR X (.builtin "sum") (rSumT X.K) := by
  intro pins s σ H vs us Q I r h
  obtain ⟨a, ns, rfl, hs, q⟩ := h
  obtain ⟨its, rv, hl, _⟩ := I.tuple hs
  rw [Vals.ref1 r]
  obtain ⟨xs, e⟩ := rv.ints.allInts.items
  have hl' : s.heap.IsTuple a its.toArray := hl
  rw [e] at hl'
  exact PySem.W.ktm_sumG (I.ok.hd hc) hl' fun h' tk t' hk => ⟨.int _, H, I.kept hk, ⟨_, rfl⟩, q _⟩
end
section
variable {P : Program} {w : World} {K : PySem.W.Frag} {mg : Str → Option Value} {base : Heap}
def spGu (K : PySem.W.Frag) : L2.Sp := fun vs H Q _ => ∃ (p : Addr) (r : Rw) (y z : Int) (s e : Nat), vs = [.ref p, .int y, .int z] ∧ y = (s : Int) ∧ z = (e : Int) ∧ RowAt H p r ∧ r.Ok ∧ s < e ∧ e ≤ r.n ∧
  ∀ (H' : Hp) (x : Addr) (a b c : Int), Same H H' → H' x = some (.lst [.int a, .int b, .int c]) → Q (.ref x) H'
theorem d_gu (T : Tx K mg) : Df P w K mg base CX0 1 "_law_glue" (He.ga K "_law_glue") ["_law_row", "_law_start", "_law_end"] (spGu K) := by
  obtain ⟨fd, F⟩ := F_law_glue T.told
  refine ⟨⟨fd, ?_, F.binds fun _ _ _ _ _ _ us hl => match us, hl with | [_, _, _], _ => rfl⟩, F.kp, g_law_glue T⟩
  have nd := sc_law_glue.nd
  refine F.ok sc_law_glue (fun vs H Q E h => ?_) (fun cdv A outer st H vs Q E hr h => ?_)
  · obtain ⟨p, r, y, z, s, e, rfl, _⟩ := h
    rfl
  · obtain ⟨p, r, y, z, s, e, rfl, ey, ez, hrow, ok, hse, hen, q⟩ := h
    obtain ⟨aw, aj, as, h1, h2, h3, h4, h5⟩ := id hrow
    have hn : r.n ≤ 100 := ok.n
    have hnl : r.ws.length = r.n := rfl
    refine ⟨_, pss_cons (ps_set (i := 3) nd rfl (.inl rfl) (pe_callB (cr_sumT rfl) (by rfl) (z_sum T) (by decide +kernel) (pa_cons (pe_slice sl_tupA (pe_ix ix_tup (pv 0) pe_int (fun _ _ => rfl)) (po_some (pv 1)) (po_some (pv 2))) pa_nil)))
      (pss_cons (ps_set (i := 4) nd rfl (.inl rfl) pe_int) (pss_cons (ps_set (i := 5) nd rfl (.inl rfl) pe_int)
      (pss_cons (ps_for PassesOwn.never rfl (pi_range2 (by rfl) (z_range T) (pa_cons (pv 1) (pa_cons (pe_op op_sub (pv 2) pe_int) pa_nil))) (pg_name (i := 6) nd rfl (.inl rfl))
        (pss_cons (ps_set (i := 7) nd rfl (.inl rfl) (pe_ix ix_tup (pe_ix ix_tup (pv 0) pe_int (fun _ _ => rfl)) (pv 6) (fun _ _ => rfl)))
        (pss_one (ps_if (pt_cmpR op_eq (pe_ix ix_tup (pv 7) pe_int (fun _ _ => rfl)) pe_str (nomark _))
          (pss_cons (ps_set (i := 3) nd rfl (.inl rfl) (pe_op op_add (pv 3) (pe_ix ix_tup (pv 7) pe_int (fun _ _ => rfl))))
          (pss_cons (ps_set (i := 4) nd rfl (.inl rfl) (pe_op op_add (pv 4) (pe_ix ix_tup (pv 7) pe_int (fun _ _ => rfl))))
          (pss_one (ps_set (i := 5) nd rfl (.inl rfl) (pe_op op_add (pv 5) (pe_ix ix_tup (pv 7) pe_int (fun _ _ => rfl)))))))
          (pss_one (ps_set (i := 3) nd rfl (.inl rfl) (pe_op op_sub (pv 3) (pe_ix ix_tup (pv 7) pe_int (fun _ _ => rfl)))))))))
      (pss_cons (ps_if (PW.pt (pw_and (pt_cmpR op_lt (pv 2) (pe_callB call_len_seq (by rfl) (z_len T) PySem.boot_len (pa_cons (pe_ix ix_tup (pv 0) pe_int (fun _ _ => rfl)) pa_nil)) (nomark _))
          (pw_and1 (pt_cmpR op_eq (pe_ix ix_tup (pe_ix ix_tup (pe_ix ix_tup (pv 0) pe_int (fun _ _ => rfl)) (pe_op op_sub (pv 2) pe_int) (fun _ _ => rfl)) pe_int (fun _ _ => rfl)) pe_str (nomark _)))))
        (pss_one (ps_set (i := 3) nd rfl (.inl rfl) (pe_op op_add (pv 3) (pe_ix ix_tup (pe_ix ix_tup (pe_ix ix_tup (pv 0) pe_int (fun _ _ => rfl)) (pe_op op_sub (pv 2) pe_int) (fun _ _ => rfl)) pe_int (fun _ _ => rfl))))) pss_nil)
      (pss_one (ps_ret (pe_lst (pa_cons (pv 3) (pa_cons (pv 4) (pa_cons (pv 5) pa_nil)))))))))), ?_⟩
    have jat : ∀ (H' : Hp) (k : Nat) (zz : Int), Same H H' → k < r.js.length → zz = (k : Int) → ∃ b, atI (as.map V.ref) zz = some (.ref b) ∧ H' b = some (.tup (JV (r.j k))) := fun H' k zz s hk e => by
      obtain ⟨b, b1, b2⟩ := row_j (r := r) (i := k) (z := zz) h4 hk e
      exact ⟨b, b2, s _ _ (h5 _ _ b1)⟩
    have hjl := ok.len
    refine join_seq (fun σ' H' => ∃ wd : Int, σ' = [some (.ref p), some (.int y), some (.int z), some (.int wd), none, none, none, none] ∧ Same H H') (fun D' hD => ?_) ?_
    · refine ⟨_, rfl, p, _, _, .ref aw, rfl, rfl, SqT.of h1, rfl, _, rfl, _, rfl, _, rfl, _, rfl, aw, _, rfl, SqT.of h2, (fun _ => ⟨aw, r.ws, rfl, SqT.of h2, fun zz => hD _ _ ⟨zz, rfl, Same.refl _⟩⟩), fun _ x nx => ?_⟩
      refine ⟨x, (r.ws.drop (HT.sIx (r.ws.map V.int).length 0 (some y))).take (HT.sIx (r.ws.map V.int).length (r.ws.map V.int).length (some z) - HT.sIx (r.ws.map V.int).length 0 (some y)), rfl, SqT.of (upd_same.trans ?_), fun zz => hD _ _ ⟨zz, rfl, same_upd nx⟩⟩
      unfold cutV
      rw [← List.map_drop, ← List.map_take]
    rintro σ H1 ⟨wd, rfl, s1⟩
    refine join_seq (fun σ' H' => σ' = [some (.ref p), some (.int y), some (.int z), some (.int wd), some (.int 0), none, none, none] ∧ H' = H1) (fun D' hD => hD _ _ ⟨rfl, rfl⟩) ?_
    rintro σ H2 ⟨rfl, rfl⟩
    refine join_seq (fun σ' H' => σ' = [some (.ref p), some (.int y), some (.int z), some (.int wd), some (.int 0), some (.int 0), none, none] ∧ H' = H2) (fun D' hD => hD _ _ ⟨rfl, rfl⟩) ?_
    rintro σ H3 ⟨rfl, rfl⟩
    refine join_seq (fun σ' H' => ∃ (a b c : Int) (v6 v7 : Option V), σ' = [some (.ref p), some (.int y), some (.int z), some (.int a), some (.int b), some (.int c), v6, v7] ∧ Same H H') (fun D' hD => ?_) ?_
    · refine ⟨_, rfl, _, rfl, _, _, rfl, rfl, _, _, rfl, ⟨by omega, by omega, by omega, by omega⟩, ?_⟩
      have hcount : (z - 1 - y).toNat = e - 1 - s := by omega
      rw [hcount]
      refine for_range (lo := y) (n := e - 1 - s) (fun i σ H' => ∃ (a b c : Int) (v6 v7 : Option V), σ = [some (.ref p), some (.int y), some (.int z), some (.int a), some (.int b), some (.int c), v6, v7] ∧ Same H H') ⟨wd, 0, 0, none, none, rfl, s1⟩ ?_ ?_
      · rintro i σ H4 hi ⟨a, b, c, v6, v7, rfl, s4⟩
        obtain ⟨d, d1, d2⟩ := jat H4 (s + i) (y + (i : Int)) s4 (by omega) (by omega)
        refine ⟨_, rfl, p, _, _, .ref aj, rfl, rfl, SqT.of (s4 _ _ h1), rfl, _, rfl, aj, _, _, .ref d, rfl, rfl, SqT.of (s4 _ _ h3), d1, ?_⟩
        refine ⟨_, rfl, d, _, _, _, rfl, rfl, SqT.of d2, jv0 _ rfl, rfl, _, rfl, ?_⟩
        cases ej : r.j (s + i) with
        | hy x j =>
          rw [ej] at d2
          exact iteF ⟨_, rfl, _, rfl, d, _, _, .int j, rfl, rfl, SqT.of d2, rfl, _, _, rfl, rfl, _, _, _, _, _, rfl, s4⟩
        | gp x j k =>
          rw [ej] at d2
          exact iteT ⟨_, rfl, _, rfl, d, _, _, .int x, rfl, rfl, SqT.of d2, rfl, _, _, rfl, rfl, _, rfl, _, rfl, d, _, _, .int j, rfl, rfl, SqT.of d2, rfl, _, _, rfl, rfl, _, rfl, _, rfl, d, _, _, .int k, rfl, rfl, SqT.of d2, rfl, _, _, rfl, rfl, _, _, _, _, _, rfl, s4⟩
      · rintro σ H4 ⟨a, b, c, v6, v7, rfl, s4⟩
        exact hD _ _ ⟨a, b, c, v6, v7, rfl, s4⟩
    rintro σ H4 ⟨a, b, c, v6, v7, rfl, s4⟩
    refine join_seq (fun σ' H' => ∃ (a b c : Int) (v6 v7 : Option V), σ' = [some (.ref p), some (.int y), some (.int z), some (.int a), some (.int b), some (.int c), v6, v7] ∧ Same H H') (fun D' hD => ?_) ?_
    · refine ⟨_, rfl, _, rfl, p, _, _, .ref aw, rfl, rfl, SqT.of (s4 _ _ h1), rfl, aw, _, rfl, .inr (SqT.of (s4 _ _ h2)), _, _, rfl, rfl, _, rfl, ?_⟩
      rw [List.length_map, hnl]
      by_cases c1 : e < r.n
      · rw [decide_eq_true (show z < (r.n : Int) by omega)]
        obtain ⟨d, d1, d2⟩ := jat H4 (e - 1) (z - 1) s4 (by omega) (by omega)
        refine iteT ⟨_, rfl, p, _, _, .ref aj, rfl, rfl, SqT.of (s4 _ _ h1), rfl, _, rfl, _, _, rfl, rfl, aj, _, _, .ref d, rfl, rfl, SqT.of (s4 _ _ h3), d1, d, _, _, _, rfl, rfl, SqT.of d2, jv0 _ rfl, rfl, _, rfl, ?_⟩
        cases ej : r.j (e - 1) with
        | hy x j =>
          rw [ej] at d2
          exact iteT ⟨_, rfl, _, rfl, p, _, _, .ref aj, rfl, rfl, SqT.of (s4 _ _ h1), rfl, _, rfl, _, _, rfl, rfl, aj, _, _, .ref d, rfl, rfl, SqT.of (s4 _ _ h3), d1, d, _, _, .int x, rfl, rfl, SqT.of d2, rfl, _, _, rfl, rfl, hD _ _ ⟨_, _, _, _, _, rfl, s4⟩⟩
        | gp x j k => exact iteF (hD _ _ ⟨_, _, _, _, _, rfl, s4⟩)
      · rw [decide_eq_false (show ¬ z < (r.n : Int) by omega)]
        exact iteF (iteF (hD _ _ ⟨_, _, _, _, _, rfl, s4⟩))
    rintro σ H5 ⟨a, b, c, v6, v7, rfl, s5⟩
    exact ⟨_, rfl, _, rfl, _, rfl, (by show 3 ≤ sizeLine; decide), fun x nx => q _ x a b c (s5.trans (same_upd nx)) upd_same⟩

/-! ### the mirrored row -/
def mirR (r : Rw) : Rw := ⟨r.ws.reverse, r.js.reverse⟩
theorem mir_ok {r : Rw} (ok : r.Ok) : (mirR r).Ok := by
  have hl := ok.len
  have hn := ok.n
  refine ⟨?_, ?_, fun x hx => ok.w x (List.mem_reverse.mp hx), fun i hi => ?_⟩
  · show r.js.reverse.length = r.ws.reverse.length - 1
    rw [List.length_reverse, List.length_reverse]
    exact hl
  · show r.ws.reverse.length ≤ 100
    rw [List.length_reverse]
    exact hn
  · have hi' : i + 1 < r.ws.length := by
      have : i + 1 < r.ws.reverse.length := hi
      rw [List.length_reverse] at this
      exact this
    have ej : (mirR r).j i = r.j (r.ws.length - 2 - i) := by
      show r.js.reverse.getD i _ = r.js.getD _ _
      rw [getD_lt _ (by rw [List.length_reverse]; omega), getD_lt _ (show r.ws.length - 2 - i < r.js.length by omega), List.getElem_reverse]
      congr 1
      omega
    have ew : ∀ k, k < r.ws.length → (mirR r).wd k = r.wd (r.ws.length - 1 - k) := fun k hk => by
      show r.ws.reverse.getD k _ = r.ws.getD _ _
      rw [getD_lt _ (by rw [List.length_reverse]; omega), getD_lt _ (show r.ws.length - 1 - k < r.ws.length by omega), List.getElem_reverse]
    rw [ej, ew i (by omega), ew (i + 1) hi']
    have h := ok.j (r.ws.length - 2 - i) (by show _ < r.ws.length; omega)
    rw [show r.ws.length - 2 - i + 1 = r.ws.length - 1 - i by omega] at h
    rw [show r.ws.length - 1 - (i + 1) = r.ws.length - 2 - i by omega]
    cases e : r.j (r.ws.length - 2 - i) with
    | hy x j =>
      rw [e] at h
      obtain ⟨q1, q2, q3, q4, q5⟩ := h
      exact ⟨q1, q2, q3, q5, q4⟩
    | gp x j k =>
      rw [e] at h
      exact h
def spMr (K : PySem.W.Frag) : L2.Sp := fun vs H Q _ => ∃ (p : Addr) (r : Rw), vs = [.ref p] ∧ RowAt H p r ∧ ∀ (H' : Hp) (x : Addr), Same H H' → RowAt H' x (mirR r) → Q (.ref x) H'
theorem d_mr (T : Tx K mg) : Df P w K mg base CX0 1 "_law_mirror" (He.ga K "_law_mirror") ["_law_row"] (spMr K) := by
  obtain ⟨fd, F⟩ := F_law_mirror T.told
  refine ⟨⟨fd, ?_, F.binds fun _ _ _ _ _ _ us hl => match us, hl with | [_], _ => rfl⟩, F.kp, g_law_mirror T⟩
  have nd := sc_law_mirror.nd
  refine F.ok sc_law_mirror (fun vs H Q E h => ?_) (fun cdv A outer st H vs Q E hr h => ?_)
  · obtain ⟨p, r, rfl, _⟩ := h
    rfl
  · obtain ⟨p, r, rfl, ⟨aw, aj, as, h1, h2, h3, h4, h5⟩, q⟩ := h
    refine ⟨_, pss_one (ps_ret (pe_tup (pa_cons (pe_back (pe_ix ix_tup (pv 0) pe_int (fun _ _ => rfl))) (pa_cons (pe_back (pe_ix ix_tup (pv 0) pe_int (fun _ _ => rfl))) pa_nil)))), ?_⟩
    refine ⟨_, rfl, p, _, _, .ref aw, rfl, rfl, SqT.of h1, rfl, aw, _, rfl, SqT.of h2, fun u nu => ?_⟩
    have s1 := same_upd (o := .tup (r.ws.map V.int).reverse) nu
    refine ⟨_, rfl, p, _, _, .ref aj, rfl, rfl, SqT.of (s1 _ _ h1), rfl, aj, _, rfl, SqT.of (s1 _ _ h3), fun v nv => ⟨(by show 2 ≤ sizeLine; decide), fun x nx => ?_⟩⟩
    have s2 := same_upd (o := .tup (as.map V.ref).reverse) nv
    have s3 := same_upd (o := .tup [.ref u, .ref v]) nx
    refine q _ x ((s1.trans s2).trans s3) ⟨u, v, as.reverse, upd_same, (s3 _ _ (s2 _ _ upd_same)).trans ?_, (s3 _ _ upd_same).trans ?_, ?_, fun i b e => ?_⟩
    · rw [← List.map_reverse]
      rfl
    · rw [← List.map_reverse]
    · rw [List.length_reverse, h4]
      exact List.length_reverse.symm
    · obtain ⟨hi, he⟩ := List.getElem?_eq_some_iff.mp e
      rw [List.length_reverse] at hi
      rw [List.getElem_reverse] at he
      have h6 := h5 (as.length - 1 - i) b (by rw [← he]; exact List.getElem?_eq_getElem (by omega))
      have ej : (mirR r).j i = r.j (as.length - 1 - i) := by
        show r.js.reverse.getD i _ = r.js.getD _ _
        rw [getD_lt _ (by rw [List.length_reverse]; omega), getD_lt _ (show as.length - 1 - i < r.js.length by omega), List.getElem_reverse]
        congr 1
        omega
      rw [ej]
      exact ((s1.trans s2).trans s3) _ _ h6
end
end Sp
set_option maxRecDepth 100000
set_option maxHeartbeats 2000000
/-! _law_line_key; printed by gen_key.py. -/
namespace Sp
open PySem PySem.Spec PyProof.Rows L2
def kN : List Str := ["_law_pool_here", "_law_row", "_law_gaps", "_law_whole", "_law_sort", "_law_wide", "_law_start", "_law_end", "_law_reach", "_law_begin", "_law_side", "_law_one", "_law_two", "_law_stream", "_law_slack", "_law_joint_here"]
theorem sc_LK : FnScope kN ["_law_pool_here", "_law_row"] (defScope s_law_line_key) := ⟨rfl, rfl, rfl, by decide +kernel, rfl, by decide +kernel, by decide +kernel⟩
section
variable {P : Program} {w : World} {K : PySem.W.Frag} {mg : Str → Option Value} {base : Heap}
def spLk (K : PySem.W.Frag) : L2.Sp := fun vs H Q _ => ∃ (a p : Addr) (r : Rw), vs = [.ref a, .ref p] ∧ PoolAt H a 0 ∧ RowAt H p r ∧ r.Ok ∧ ∀ (H' : Hp) (x : Addr) (m : Ms), But a H H' → H' x = some (.tup (mV m)) → m.Ok → Q (.ref x) H'
theorem d_lk (T : Tx K mg) : Df P w K mg base CX0 2 "_law_line_key" (He.ga K "_law_line_key") ["_law_pool_here", "_law_row"] (spLk K) := by
  obtain ⟨fd, F⟩ := F_law_line_key T.told
  refine ⟨⟨fd, ?_, F.binds fun _ _ _ _ _ _ us hl => match us, hl with | [_, _], _ => rfl⟩, F.kp, g_law_line_key T⟩
  have DT : Df P w K mg base CX0 1 "_law_take" (He.ga K "_law_take") ["_law_pool_here", "_law_many"] (spTk K) := d_tk T
  have DU : Df P w K mg base CX0 1 "_law_glue" (He.ga K "_law_glue") ["_law_row", "_law_start", "_law_end"] (spGu K) := d_gu T
  have nd := sc_LK.nd
  refine F.ok sc_LK (fun vs H Q E h => ?_) (fun cdv A outer st H vs Q E hr h => ?_)
  · obtain ⟨a, p, r, rfl, _⟩ := h
    rfl
  · obtain ⟨a, p, r, rfl, hp, hrow, ok, q⟩ := h
    obtain ⟨aw, aj, as, h1, h2, h3, h4, h5⟩ := id hrow
    have hr1 : Room 1 _ := hr
    have hn : r.n ≤ 100 := ok.n
    have hnl : r.ws.length = r.n := rfl
    obtain ⟨pxs, hpx⟩ := hp.lst
    have tk : ∀ {H' : Hp}, But a H H' → ∀ (b : Addr) (ys : List V), H b = some (.tup ys) → H' b = some (.tup ys) := fun h b ys e => h _ _ e (ne_of e hpx (by intro z; cases z))
    have rowk : ∀ {H' : Hp}, But a H H' → RowAt H' p r := fun h => hrow.but h hpx (by intro _ z; cases z)
    refine ⟨_, pss_cons (ps_setLc (i := 2) (own := [("_law_joint_here", 15)]) (g := gName 15) (tt := tTest (tOp rEq (tOp (rIxT K) (tVar 15) (tC (.int 0))) (tC (.str "gap")))) (te := tOp (rIxT K) (tVar 15) (tC (.int 1))) rfl nd rfl rfl (by rfl) (pi_tup (pe_ix ix_tup (pv 1) pe_int (fun _ _ => rfl))) (blkOk_by (N := kN) (sc := defScope s_law_line_key) (by decide +kernel)) (fun _ _ _ _ _ => pg_name (i := 15) nd rfl (.inl rfl)) (fun _ _ _ _ _ => pts_one (pt_cmpR op_eq (pe_ix ix_tup (pv 15) pe_int (fun _ _ => rfl)) pe_str (nomark _))) (fun _ _ _ _ _ => pe_ix ix_tup (pv 15) pe_int (fun _ _ => rfl)))
      (pss_cons (ps_set (i := 3) nd rfl (.inl rfl) (pe_op op_add (pe_callB (cr_sumT rfl) (by rfl) (z_sum T) (by decide +kernel) (pa_cons (pe_ix ix_tup (pv 1) pe_int (fun _ _ => rfl)) pa_nil)) (pe_callB (cr_sum rfl) (by rfl) (z_sum T) (by decide +kernel) (pa_cons (pv 2) pa_nil))))
      (pss_cons (ps_set (i := 4) nd rfl (.inl rfl) (pe_d DT hr1 (by rfl) (pa_cons (pv 0) (pa_cons pe_int pa_nil))))
      (pss_cons (ps_set (i := 5) nd rfl (.inl rfl) (pe_op op_add pe_int (pe_d DT hr1 (by rfl) (pa_cons (pv 0) (pa_cons pe_int pa_nil)))))
      (pss_cons (ps_if (pt_cmpR op_in_seq (pv 4) (pe_lst (pa_cons pe_int (pa_cons pe_int (pa_cons pe_int (pa_cons pe_int pa_nil))))) rfl) (pss_one (ps_set (i := 5) nd rfl (.inl rfl) (pe_op op_add (pe_op op_fdivW (pv 3) (pv 4)) (pe_d DT hr1 (by rfl) (pa_cons (pv 0) (pa_cons pe_int pa_nil)))))) pss_nil)
      (pss_cons (ps_if (PW.pt (pw_and (pt_cmpR op_in_seq (pv 4) (pe_lst (pa_cons pe_int (pa_cons pe_int pa_nil))) rfl) (pw_and1 (pt_cmpR op_gt (pe_callB call_len_seq (by rfl) (z_len T) PySem.boot_len (pa_cons (pe_ix ix_tup (pv 1) pe_int (fun _ _ => rfl)) pa_nil)) pe_int (nomark _))))) (pss_cons (ps_set (i := 6) nd rfl (.inl rfl) (pe_d DT hr1 (by rfl) (pa_cons (pv 0) (pa_cons (pe_callB call_len_seq (by rfl) (z_len T) PySem.boot_len (pa_cons (pe_ix ix_tup (pv 1) pe_int (fun _ _ => rfl)) pa_nil)) pa_nil)))) (pss_cons (ps_set (i := 7) nd rfl (.inl rfl) (pe_op op_add (pe_op op_add (pv 6) pe_int) (pe_d DT hr1 (by rfl) (pa_cons (pv 0) (pa_cons (pe_op op_sub (pe_callB call_len_seq (by rfl) (z_len T) PySem.boot_len (pa_cons (pe_ix ix_tup (pv 1) pe_int (fun _ _ => rfl)) pa_nil)) (pv 6)) pa_nil))))) (pss_one (ps_set (i := 5) nd rfl (.inl rfl) (pe_ix ix_list (pe_d DU hr1 (by rfl) (pa_cons (pv 1) (pa_cons (pv 6) (pa_cons (pv 7) pa_nil)))) pe_int (fun _ _ => rfl)))))) pss_nil)
      (pss_cons (ps_if (pt_cmpR op_eq (pv 4) pe_int (nomark _)) (pss_one (ps_set (i := 5) nd rfl (.inl rfl) (pe_op op_add pe_int (pe_d DT hr1 (by rfl) (pa_cons (pv 0) (pa_cons pe_int pa_nil)))))) pss_nil)
      (pss_cons (ps_set (i := 8) nd rfl (.inl rfl) (pe_ix ix_list (pe_lst (pa_cons pe_int (pa_cons pe_int (pa_cons pe_int (pa_cons pe_int pa_nil))))) (pe_d DT hr1 (by rfl) (pa_cons (pv 0) (pa_cons pe_int pa_nil))) (fun _ _ => rfl)))
      (pss_cons (ps_set (i := 9) nd rfl (.inl rfl) (pe_d DT hr1 (by rfl) (pa_cons (pv 0) (pa_cons (pv 8) pa_nil))))
      (pss_cons (ps_set (i := 10) nd rfl (.inl rfl) (pe_ix ix_list (pe_lst (pa_cons pe_str (pa_cons pe_str (pa_cons pe_str pa_nil)))) (pe_d DT hr1 (by rfl) (pa_cons (pv 0) (pa_cons pe_int pa_nil))) (fun _ _ => rfl)))
      (pss_cons (ps_set (i := 11) nd rfl (.inl rfl) (pe_op op_mul pe_int (pe_d DT hr1 (by rfl) (pa_cons (pv 0) (pa_cons pe_int pa_nil)))))
      (pss_cons (ps_set (i := 12) nd rfl (.inl rfl) (pe_op op_mul pe_int (pe_d DT hr1 (by rfl) (pa_cons (pv 0) (pa_cons pe_int pa_nil)))))
      (pss_cons (ps_if (pt_cmpR op_eq (pe_d DT hr1 (by rfl) (pa_cons (pv 0) (pa_cons pe_int pa_nil))) pe_int (nomark _)) (pss_cons (ps_set (i := 11) nd rfl (.inl rfl) (pe_d DT hr1 (by rfl) (pa_cons (pv 0) (pa_cons pe_int pa_nil)))) (pss_one (ps_set (i := 12) nd rfl (.inl rfl) (pe_d DT hr1 (by rfl) (pa_cons (pv 0) (pa_cons pe_int pa_nil)))))) pss_nil)
      (pss_cons (ps_set (i := 13) nd rfl (.inl rfl) (pe_d DT hr1 (by rfl) (pa_cons (pv 0) (pa_cons pe_int pa_nil))))
      (pss_cons (ps_set (i := 14) nd rfl (.inl rfl) (pe_d DT hr1 (by rfl) (pa_cons (pv 0) (pa_cons pe_int pa_nil))))
      (pss_cons (ps_if (pt_cmpR op_eq (pe_d DT hr1 (by rfl) (pa_cons (pv 0) (pa_cons pe_int pa_nil))) pe_int (nomark _)) (pss_cons (ps_set (i := 13) nd rfl (.inl rfl) (pe_d DT hr1 (by rfl) (pa_cons (pv 0) (pa_cons pe_int pa_nil)))) (pss_one (ps_set (i := 14) nd rfl (.inl rfl) (pe_d DT hr1 (by rfl) (pa_cons (pv 0) (pa_cons pe_int pa_nil)))))) pss_nil)
      (pss_cons (ps_if (PW.pt (pw_and (pt_cmpR op_gt (pe_callB call_len_seq (by rfl) (z_len T) PySem.boot_len (pa_cons (pe_ix ix_tup (pv 1) pe_int (fun _ _ => rfl)) pa_nil)) pe_int (nomark _)) (pw_and1 (pt_cmpR op_gt (pe_d DT hr1 (by rfl) (pa_cons (pv 0) (pa_cons pe_int pa_nil))) pe_int (nomark _))))) (pss_one (ps_set (i := 13) nd rfl (.inl rfl) pe_int)) pss_nil)
      (pss_cons (ps_if (pt_cmpR op_gt (pe_callB call_len_seq (by rfl) (z_len T) PySem.boot_len (pa_cons (pe_ix ix_tup (pv 1) pe_int (fun _ _ => rfl)) pa_nil)) pe_int (nomark _)) (pss_one (ps_set (i := 13) nd rfl (.inl rfl) pe_int)) pss_nil)
      (pss_one (ps_ret (pe_tup (pa_cons (pe_callB (call_min2 rfl) (by rfl) (z_min T) (by decide +kernel) (pa_cons pe_int (pa_cons (pe_callB (call_max2 rfl) (by rfl) (z_max T) (by decide +kernel) (pa_cons pe_int (pa_cons (pv 5) pa_nil))) pa_nil))) (pa_cons (pv 9) (pa_cons (pv 10) (pa_cons (pv 11) (pa_cons (pv 12) (pa_cons (pv 13) (pa_cons (pv 14) pa_nil))))))))))))))))))))))))))), ?_⟩
    refine join_seq (fun σ' H' => ∃ (D : Addr) (ns : List Int), σ' = [some (.ref a), some (.ref p), some (.ref D), none, none, none, none, none, none, none, none, none, none, none, none, none] ∧ Same H H' ∧ H' D = some (.lst (ns.map V.int))) (fun D' hD => ?_) ?_
    · refine ⟨_, rfl, p, _, _, .ref aj, rfl, rfl, SqT.of h1, rfl, aj, rfl, ⟨_, SqT.of h3⟩, fun D nD => ?_⟩
      have s0 := same_upd (o := .lst []) nD
      refine lc_tup (K := K) (a := aj) (xs := as.map V.ref) (fun i H' => But D (upd H D (.lst [])) H' ∧ ∃ ns : List Int, H' D = some (.lst (ns.map V.int)) ∧ ns.length ≤ i) ⟨But.refl _ _, [], upd_same, Nat.le_refl _⟩ (fun i H' _ h => SqT.of (But.same s0 nD h.1 _ _ h3)) ?_ ?_
      · rintro i x H1 hi ⟨hB, ns, hl, hn'⟩
        have s1 := But.same s0 nD hB
        rw [List.getElem?_map] at hi
        obtain ⟨b, hb, rfl⟩ := Option.map_eq_some_iff.mp hi
        have hj := s1 _ _ (h5 i b hb)
        have hi' := (List.getElem?_eq_some_iff.mp hb).1
        refine ⟨rfl, _, rfl, b, _, _, _, rfl, rfl, SqT.of hj, jv0 _ rfl, rfl, _, rfl, ?_⟩
        cases ej : r.j i with
        | hy x j => exact iteF ⟨hB, ns, hl, by omega⟩
        | gp x j k =>
          rw [ej] at hj
          refine iteT ⟨_, rfl, b, _, _, .int x, rfl, rfl, SqT.of hj, rfl, ns.map V.int, hl, ?_, hB.put, ns ++ [x], ?_, ?_⟩
          · rw [List.length_map]
            have := ok.len
            exact Nat.lt_of_lt_of_le (show ns.length < 101 by have : r.ws.length ≤ 100 := ok.n; omega) (by decide)
          · rw [upd_same, List.map_append]
            rfl
          · rw [List.length_append, List.length_singleton]
            omega
      · rintro H1 ⟨hB, ns, hl, _⟩
        exact hD _ _ ⟨D, ns, rfl, But.same s0 nD hB, hl⟩
    rintro σ H0 ⟨D, ns, rfl, s0, hD0⟩
    refine join_seq (fun σ' H' => ∃ (v2 v4 v5 v6 v7 v8 v9 v10 v11 v12 v13 v14 : Option V) (wh : Int) , σ' = [some (.ref a), some (.ref p), v2, some (.int wh), v4, v5, v6, v7, v8, v9, v10, v11, v12, v13, v14, none] ∧ But a H H' ∧ PoolAt H' a 0) (fun D' hD => ?_) ?_
    · exact ⟨_, rfl, p, _, _, .ref aw, rfl, rfl, SqT.of (s0 _ _ h1), rfl, aw, r.ws, rfl, SqT.of (s0 _ _ h2), fun z1 => ⟨_, rfl, D, ns, rfl, SqL.of hD0, _, _, rfl, rfl, hD _ _ ⟨_, _, _, _, _, _, _, _, _, _, _, _, _, rfl, But.of s0, hp.same s0⟩⟩⟩
    rintro σ H1 ⟨v2, v4, v5, v6, v7, v8, v9, v10, v11, v12, v13, v14, wh, rfl, B, pl⟩
    refine join_seq (fun σ' H' => ∃ (v2 v5 v6 v7 v8 v9 v10 v11 v12 v13 v14 : Option V) (wh : Int) (so : Int) , σ' = [some (.ref a), some (.ref p), v2, some (.int wh), some (.int so), v5, v6, v7, v8, v9, v10, v11, v12, v13, v14, none] ∧ But a H H' ∧ PoolAt H' a 1 ∧ 0 ≤ so ∧ so < 8) (fun D' hD => ?_) ?_
    · exact ⟨_, rfl, a, 8, 0, rfl, by omega, by omega, pl, by decide, fun H2 z B2 pl2 z0 z1 => hD _ _ ⟨_, _, _, _, _, _, _, _, _, _, _, _, z, rfl, (B.trans B2), pl2, z0, z1⟩⟩
    rintro σ H1 ⟨v2, v5, v6, v7, v8, v9, v10, v11, v12, v13, v14, wh, so, rfl, B, pl, c0, c1⟩
    refine join_seq (fun σ' H' => ∃ (v2 v6 v7 v8 v9 v10 v11 v12 v13 v14 : Option V) (wh : Int) (so : Int) (wd : Int) , σ' = [some (.ref a), some (.ref p), v2, some (.int wh), some (.int so), some (.int wd), v6, v7, v8, v9, v10, v11, v12, v13, v14, none] ∧ But a H H' ∧ PoolAt H' a 2 ∧ 0 ≤ so ∧ so < 8) (fun D' hD => ?_) ?_
    · exact ⟨_, rfl, a, 150, 1, rfl, by omega, by omega, pl, by decide, fun H2 z B2 pl2 z0 z1 => ⟨_, _, rfl, rfl, hD _ _ ⟨_, _, _, _, _, _, _, _, _, _, _, _, _, rfl, (B.trans B2), pl2, c0, c1⟩⟩⟩
    rintro σ H1 ⟨v2, v6, v7, v8, v9, v10, v11, v12, v13, v14, wh, so, wd, rfl, B, pl, c0, c1⟩
    refine join_seq (fun σ' H' => ∃ (v2 v6 v7 v8 v9 v10 v11 v12 v13 v14 : Option V) (wh : Int) (so : Int) (wd : Int) , σ' = [some (.ref a), some (.ref p), v2, some (.int wh), some (.int so), some (.int wd), v6, v7, v8, v9, v10, v11, v12, v13, v14, none] ∧ But a H H' ∧ PoolAt H' a 3 ∧ 0 ≤ so ∧ so < 8) (fun D' hD => ?_) ?_
    · refine ⟨_, rfl, (by show 4 ≤ sizeLine; decide), fun l nl => ⟨l, _, rfl, .inl (SqL.of upd_same), rfl, rfl, _, rfl, ?_⟩⟩
      have sl := same_upd (o := .lst [.int 2, .int 4, .int 5, .int 6]) nl
      cases e : inV (.int so) [.int 2, .int 4, .int 5, .int 6] with
      | false => exact iteF (hD _ _ ⟨_, _, _, _, _, _, _, _, _, _, _, _, _, rfl, (B.to sl), ((pl.same sl).le (by decide)), c0, c1⟩)
      | true =>
        have sp : 0 < so := by
          rcases Int.lt_or_le 0 so with h | h
          · exact h
          · have : so = 0 := by omega
            rw [this] at e
            cases e
        exact iteT ⟨_, rfl, _, rfl, _, _, rfl, rfl, wide_div (b := 40) sp (by omega) (by decide) (by decide), _, rfl, a, 24, 2, rfl, by omega, by omega, pl.same sl, by decide, fun H2 z B2 pl2 z0 z1 => ⟨_, _, rfl, rfl, hD _ _ ⟨_, _, _, _, _, _, _, _, _, _, _, _, _, rfl, ((B.to sl).trans B2), pl2, c0, c1⟩⟩⟩
    rintro σ H1 ⟨v2, v6, v7, v8, v9, v10, v11, v12, v13, v14, wh, so, wd, rfl, B, pl, c0, c1⟩
    refine join_seq (fun σ' H' => ∃ (v2 v6 v7 v8 v9 v10 v11 v12 v13 v14 : Option V) (wh : Int) (so : Int) (wd : Int) , σ' = [some (.ref a), some (.ref p), v2, some (.int wh), some (.int so), some (.int wd), v6, v7, v8, v9, v10, v11, v12, v13, v14, none] ∧ But a H H' ∧ PoolAt H' a 5 ∧ 0 ≤ so ∧ so < 8) (fun D' hD => ?_) ?_
    · refine ⟨_, rfl, (by show 2 ≤ sizeLine; decide), fun l nl => ⟨l, _, rfl, .inl (SqL.of upd_same), rfl, rfl, _, rfl, ?_⟩⟩
      have sl := same_upd (o := .lst [.int 1, .int 3]) nl
      have Bl := B.to sl
      have pll := pl.same sl
      cases inV (.int so) [.int 1, .int 3] with
      | false => exact iteF (iteF (hD _ _ ⟨_, _, _, _, _, _, _, _, _, _, _, _, _, rfl, Bl, (pll.le (by decide)), c0, c1⟩))
      | true =>
        refine iteT ⟨_, rfl, p, _, _, .ref aw, rfl, rfl, SqT.of (tk Bl _ _ h1), rfl, aw, _, rfl, .inr (SqT.of (tk Bl _ _ h2)), _, _, rfl, rfl, _, rfl, ?_⟩
        rw [List.length_map, hnl]
        by_cases cn : 0 < r.n
        · rw [decide_eq_true (show (0 : Int) < (r.n : Int) by omega)]
          refine iteT ⟨_, rfl, _, rfl, p, _, _, .ref aw, rfl, rfl, SqT.of (tk Bl _ _ h1), rfl, aw, _, rfl, .inr (SqT.of (tk Bl _ _ h2)), a, _, 3, rfl, ?_, ?_, pll, by decide, fun H2 z B2 pl2 z0 z1 => ?_⟩
          · rw [List.length_map, hnl]; omega
          · rw [List.length_map, hnl]; omega
          rw [List.length_map, hnl] at z1
          have B2' := Bl.trans B2
          refine ⟨_, rfl, _, _, rfl, rfl, _, rfl, _, rfl, p, _, _, .ref aw, rfl, rfl, SqT.of (tk B2' _ _ h1), rfl, aw, _, rfl, .inr (SqT.of (tk B2' _ _ h2)), _, rfl, _, _, rfl, rfl, a, _, 4, rfl, ?_, ?_, pl2, by decide, fun H3 y B3 pl3 y0 y1 => ?_⟩
          · rw [List.length_map, hnl]; omega
          · rw [List.length_map, hnl]; omega
          rw [List.length_map, hnl] at y1
          have B3' := B2'.trans B3
          refine ⟨_, _, rfl, rfl, _, rfl, _, rfl, _, rfl, p, r, z, z + 1 + y, z.toNat, (z + 1 + y).toNat, rfl, by omega, by omega, rowk B3', ok, by omega, by omega, fun H4 x q1 q2 q3 s4 hx => ?_⟩
          exact ⟨x, _, _, .int q1, rfl, rfl, SqL.of hx, rfl, hD _ _ ⟨_, _, _, _, _, _, _, _, _, _, _, _, q1, rfl, (B3'.to s4), (pl3.same s4), c0, c1⟩⟩
        · rw [decide_eq_false (show ¬ (0 : Int) < (r.n : Int) by omega)]
          exact iteF (hD _ _ ⟨_, _, _, _, _, _, _, _, _, _, _, _, _, rfl, Bl, (pll.le (by decide)), c0, c1⟩)
    rintro σ H1 ⟨v2, v6, v7, v8, v9, v10, v11, v12, v13, v14, wh, so, wd, rfl, B, pl, c0, c1⟩
    refine join_seq (fun σ' H' => ∃ (v2 v6 v7 v8 v9 v10 v11 v12 v13 v14 : Option V) (wh : Int) (so : Int) (wd : Int) , σ' = [some (.ref a), some (.ref p), v2, some (.int wh), some (.int so), some (.int wd), v6, v7, v8, v9, v10, v11, v12, v13, v14, none] ∧ But a H H' ∧ PoolAt H' a 6 ∧ 0 ≤ so ∧ so < 8) (fun D' hD => ?_) ?_
    · refine ⟨_, rfl, rfl, _, rfl, ?_⟩
      cases decide (V.int so = V.int 7) with
      | false => exact iteF (hD _ _ ⟨_, _, _, _, _, _, _, _, _, _, _, _, _, rfl, B, (pl.le (by decide)), c0, c1⟩)
      | true => exact iteT ⟨_, rfl, a, 10500, 5, rfl, by omega, by omega, pl, by decide, fun H2 z B2 pl2 z0 z1 => ⟨_, _, rfl, rfl, hD _ _ ⟨_, _, _, _, _, _, _, _, _, _, _, _, _, rfl, (B.trans B2), pl2, c0, c1⟩⟩⟩
    rintro σ H1 ⟨v2, v6, v7, v8, v9, v10, v11, v12, v13, v14, wh, so, wd, rfl, B, pl, c0, c1⟩
    refine join_seq (fun σ' H' => ∃ (v2 v3 v4 v6 v7 v9 v10 v11 v12 v13 v14 : Option V) (wd : Int) (rc : Int) , σ' = [some (.ref a), some (.ref p), v2, v3, v4, some (.int wd), v6, v7, some (.int rc), v9, v10, v11, v12, v13, v14, none] ∧ But a H H' ∧ PoolAt H' a 7 ∧ 1 ≤ rc ∧ rc ≤ 100) (fun D' hD => ?_) ?_
    · refine ⟨(by show 4 ≤ sizeLine; decide), fun l nl => ⟨_, rfl, a, 4, 6, rfl, by decide, by decide, pl.same (same_upd nl), by decide, fun H2 z B2 pl2 z0 z1 => ?_⟩⟩
      have hl := B2 _ _ upd_same (pl.ne nl)
      have Bn := (B.to (same_upd nl)).trans B2
      have cz : z = 0 ∨ z = 1 ∨ z = 2 ∨ z = 3 := by omega
      rcases cz with rfl | rfl | rfl | rfl
      · exact ⟨l, _, _, .int 1, rfl, rfl, SqL.of hl, rfl, hD _ _ ⟨_, _, _, _, _, _, _, _, _, _, _, _, 1, rfl, Bn, pl2, by decide, by decide⟩⟩
      · exact ⟨l, _, _, .int 1, rfl, rfl, SqL.of hl, rfl, hD _ _ ⟨_, _, _, _, _, _, _, _, _, _, _, _, 1, rfl, Bn, pl2, by decide, by decide⟩⟩
      · exact ⟨l, _, _, .int 12, rfl, rfl, SqL.of hl, rfl, hD _ _ ⟨_, _, _, _, _, _, _, _, _, _, _, _, 12, rfl, Bn, pl2, by decide, by decide⟩⟩
      · exact ⟨l, _, _, .int 100, rfl, rfl, SqL.of hl, rfl, hD _ _ ⟨_, _, _, _, _, _, _, _, _, _, _, _, 100, rfl, Bn, pl2, by decide, by decide⟩⟩
    rintro σ H1 ⟨v2, v3, v4, v6, v7, v9, v10, v11, v12, v13, v14, wd, rc, rfl, B, pl, c0, c1⟩
    refine join_seq (fun σ' H' => ∃ (v2 v3 v4 v6 v7 v8 v10 v11 v12 v13 v14 : Option V) (wd : Int) (bg : Int) , σ' = [some (.ref a), some (.ref p), v2, v3, v4, some (.int wd), v6, v7, v8, some (.int bg), v10, v11, v12, v13, v14, none] ∧ But a H H' ∧ PoolAt H' a 8 ∧ 0 ≤ bg ∧ bg ≤ 99) (fun D' hD => ?_) ?_
    · exact ⟨_, rfl, _, rfl, a, rc, 7, rfl, by omega, by omega, pl, by decide, fun H2 z B2 pl2 z0 z1 => hD _ _ ⟨_, _, _, _, _, _, _, _, _, _, _, _, z, rfl, (B.trans B2), pl2, z0, by omega⟩⟩
    rintro σ H1 ⟨v2, v3, v4, v6, v7, v8, v10, v11, v12, v13, v14, wd, bg, rfl, B, pl, c0, c1⟩
    refine join_seq (fun σ' H' => ∃ (v2 v3 v4 v6 v7 v8 v11 v12 v13 v14 : Option V) (wd : Int) (bg : Int) (bo : Bool) , σ' = [some (.ref a), some (.ref p), v2, v3, v4, some (.int wd), v6, v7, v8, some (.int bg), some (.str (alS bo)), v11, v12, v13, v14, none] ∧ But a H H' ∧ PoolAt H' a 9 ∧ 0 ≤ bg ∧ bg ≤ 99) (fun D' hD => ?_) ?_
    · refine ⟨(by show 3 ≤ sizeLine; decide), fun l nl => ⟨_, rfl, a, 3, 8, rfl, by decide, by decide, pl.same (same_upd nl), by decide, fun H2 z B2 pl2 z0 z1 => ?_⟩⟩
      have hl := B2 _ _ upd_same (pl.ne nl)
      have Bn := (B.to (same_upd nl)).trans B2
      have cz : z = 0 ∨ z = 1 ∨ z = 2 := by omega
      rcases cz with rfl | rfl | rfl
      · exact ⟨l, _, _, .str (alS true), rfl, rfl, SqL.of hl, rfl, hD _ _ ⟨_, _, _, _, _, _, _, _, _, _, _, _, true, rfl, Bn, pl2, c0, c1⟩⟩
      · exact ⟨l, _, _, .str (alS true), rfl, rfl, SqL.of hl, rfl, hD _ _ ⟨_, _, _, _, _, _, _, _, _, _, _, _, true, rfl, Bn, pl2, c0, c1⟩⟩
      · exact ⟨l, _, _, .str (alS false), rfl, rfl, SqL.of hl, rfl, hD _ _ ⟨_, _, _, _, _, _, _, _, _, _, _, _, false, rfl, Bn, pl2, c0, c1⟩⟩
    rintro σ H1 ⟨v2, v3, v4, v6, v7, v8, v11, v12, v13, v14, wd, bg, bo, rfl, B, pl, c0, c1⟩
    refine join_seq (fun σ' H' => ∃ (v2 v3 v4 v6 v7 v8 v12 v13 v14 : Option V) (wd : Int) (bg : Int) (bo : Bool) (on : Int) , σ' = [some (.ref a), some (.ref p), v2, v3, v4, some (.int wd), v6, v7, v8, some (.int bg), some (.str (alS bo)), some (.int on), v12, v13, v14, none] ∧ But a H H' ∧ PoolAt H' a 10 ∧ 0 ≤ bg ∧ bg ≤ 99 ∧ 0 ≤ on ∧ on ≤ 9999) (fun D' hD => ?_) ?_
    · exact ⟨_, rfl, a, 4, 9, rfl, by omega, by omega, pl, by decide, fun H2 z B2 pl2 z0 z1 => ⟨_, _, rfl, rfl, mul_in (by decide), hD _ _ ⟨_, _, _, _, _, _, _, _, _, _, _, _, _, rfl, (B.trans B2), pl2, c0, c1, by omega, by omega⟩⟩⟩
    rintro σ H1 ⟨v2, v3, v4, v6, v7, v8, v12, v13, v14, wd, bg, bo, on, rfl, B, pl, c0, c1, c2, c3⟩
    refine join_seq (fun σ' H' => ∃ (v2 v3 v4 v6 v7 v8 v13 v14 : Option V) (wd : Int) (bg : Int) (bo : Bool) (on : Int) (tw : Int) , σ' = [some (.ref a), some (.ref p), v2, v3, v4, some (.int wd), v6, v7, v8, some (.int bg), some (.str (alS bo)), some (.int on), some (.int tw), v13, v14, none] ∧ But a H H' ∧ PoolAt H' a 11 ∧ 0 ≤ bg ∧ bg ≤ 99 ∧ 0 ≤ on ∧ on ≤ 9999 ∧ 0 ≤ tw ∧ tw ≤ 9999) (fun D' hD => ?_) ?_
    · exact ⟨_, rfl, a, 4, 10, rfl, by omega, by omega, pl, by decide, fun H2 z B2 pl2 z0 z1 => ⟨_, _, rfl, rfl, mul_in (by decide), hD _ _ ⟨_, _, _, _, _, _, _, _, _, _, _, _, _, rfl, (B.trans B2), pl2, c0, c1, c2, c3, by omega, by omega⟩⟩⟩
    rintro σ H1 ⟨v2, v3, v4, v6, v7, v8, v13, v14, wd, bg, bo, on, tw, rfl, B, pl, c0, c1, c2, c3, c4, c5⟩
    refine join_seq (fun σ' H' => ∃ (v2 v3 v4 v6 v7 v8 v13 v14 : Option V) (wd : Int) (bg : Int) (bo : Bool) (on : Int) (tw : Int) , σ' = [some (.ref a), some (.ref p), v2, v3, v4, some (.int wd), v6, v7, v8, some (.int bg), some (.str (alS bo)), some (.int on), some (.int tw), v13, v14, none] ∧ But a H H' ∧ PoolAt H' a 14 ∧ 0 ≤ bg ∧ bg ≤ 99 ∧ 0 ≤ on ∧ on ≤ 9999 ∧ 0 ≤ tw ∧ tw ≤ 9999) (fun D' hD => ?_) ?_
    · refine ⟨_, rfl, a, 8, 11, rfl, by decide, by decide, pl, by decide, fun H2 z B2 pl2 z0 z1 => ⟨rfl, _, rfl, ?_⟩⟩
      cases decide (V.int z = V.int 7) with
      | false => exact iteF (hD _ _ ⟨_, _, _, _, _, _, _, _, _, _, _, _, _, rfl, (B.trans B2), (pl2.le (by decide)), c0, c1, c2, c3, c4, c5⟩)
      | true => exact iteT ⟨_, rfl, a, 10000, 12, rfl, by decide, by decide, pl2, by decide, fun H3 y B3 pl3 y0 y1 => ⟨_, rfl, a, 10000, 13, rfl, by decide, by decide, pl3, by decide, fun H4 x B4 pl4 x0 x1 => hD _ _ ⟨_, _, _, _, _, _, _, _, _, _, _, y, x, rfl, ((B.trans B2).trans (B3.trans B4)), pl4, c0, c1, y0, by omega, x0, by omega⟩⟩⟩
    rintro σ H1 ⟨v2, v3, v4, v6, v7, v8, v13, v14, wd, bg, bo, on, tw, rfl, B, pl, c0, c1, c2, c3, c4, c5⟩
    refine join_seq (fun σ' H' => ∃ (v2 v3 v4 v6 v7 v8 v14 : Option V) (wd : Int) (bg : Int) (bo : Bool) (on : Int) (tw : Int) (sr : Int) , σ' = [some (.ref a), some (.ref p), v2, v3, v4, some (.int wd), v6, v7, v8, some (.int bg), some (.str (alS bo)), some (.int on), some (.int tw), some (.int sr), v14, none] ∧ But a H H' ∧ PoolAt H' a 15 ∧ 0 ≤ bg ∧ bg ≤ 99 ∧ 0 ≤ on ∧ on ≤ 9999 ∧ 0 ≤ tw ∧ tw ≤ 9999 ∧ 0 ≤ sr ∧ sr ≤ 9) (fun D' hD => ?_) ?_
    · exact ⟨_, rfl, a, 4, 14, rfl, by omega, by omega, pl, by decide, fun H2 z B2 pl2 z0 z1 => hD _ _ ⟨_, _, _, _, _, _, _, _, _, _, _, _, z, rfl, (B.trans B2), pl2, c0, c1, c2, c3, c4, c5, z0, by omega⟩⟩
    rintro σ H1 ⟨v2, v3, v4, v6, v7, v8, v14, wd, bg, bo, on, tw, sr, rfl, B, pl, c0, c1, c2, c3, c4, c5, c6, c7⟩
    refine join_seq (fun σ' H' => ∃ (v2 v3 v4 v6 v7 v8 : Option V) (wd : Int) (bg : Int) (bo : Bool) (on : Int) (tw : Int) (sr : Int) (sk : Int) , σ' = [some (.ref a), some (.ref p), v2, v3, v4, some (.int wd), v6, v7, v8, some (.int bg), some (.str (alS bo)), some (.int on), some (.int tw), some (.int sr), some (.int sk), none] ∧ But a H H' ∧ PoolAt H' a 16 ∧ 0 ≤ bg ∧ bg ≤ 99 ∧ 0 ≤ on ∧ on ≤ 9999 ∧ 0 ≤ tw ∧ tw ≤ 9999 ∧ 0 ≤ sr ∧ sr ≤ 9 ∧ 0 ≤ sk ∧ sk ≤ 9) (fun D' hD => ?_) ?_
    · exact ⟨_, rfl, a, 4, 15, rfl, by omega, by omega, pl, by decide, fun H2 z B2 pl2 z0 z1 => hD _ _ ⟨_, _, _, _, _, _, _, _, _, _, _, _, z, rfl, (B.trans B2), pl2, c0, c1, c2, c3, c4, c5, c6, c7, z0, by omega⟩⟩
    rintro σ H1 ⟨v2, v3, v4, v6, v7, v8, wd, bg, bo, on, tw, sr, sk, rfl, B, pl, c0, c1, c2, c3, c4, c5, c6, c7, c8, c9⟩
    refine join_seq (fun σ' H' => ∃ (v2 v3 v4 v6 v7 v8 : Option V) (wd : Int) (bg : Int) (bo : Bool) (on : Int) (tw : Int) (sr : Int) (sk : Int) , σ' = [some (.ref a), some (.ref p), v2, v3, v4, some (.int wd), v6, v7, v8, some (.int bg), some (.str (alS bo)), some (.int on), some (.int tw), some (.int sr), some (.int sk), none] ∧ But a H H' ∧ PoolAt H' a 19 ∧ 0 ≤ bg ∧ bg ≤ 99 ∧ 0 ≤ on ∧ on ≤ 9999 ∧ 0 ≤ tw ∧ tw ≤ 9999 ∧ 0 ≤ sr ∧ sr ≤ 9 ∧ 0 ≤ sk ∧ sk ≤ 9) (fun D' hD => ?_) ?_
    · refine ⟨_, rfl, a, 8, 16, rfl, by decide, by decide, pl, by decide, fun H2 z B2 pl2 z0 z1 => ⟨rfl, _, rfl, ?_⟩⟩
      cases decide (V.int z = V.int 7) with
      | false => exact iteF (hD _ _ ⟨_, _, _, _, _, _, _, _, _, _, _, _, _, rfl, (B.trans B2), (pl2.le (by decide)), c0, c1, c2, c3, c4, c5, c6, c7, c8, c9⟩)
      | true => exact iteT ⟨_, rfl, a, 10, 17, rfl, by decide, by decide, pl2, by decide, fun H3 y B3 pl3 y0 y1 => ⟨_, rfl, a, 10, 18, rfl, by decide, by decide, pl3, by decide, fun H4 x B4 pl4 x0 x1 => hD _ _ ⟨_, _, _, _, _, _, _, _, _, _, _, y, x, rfl, ((B.trans B2).trans (B3.trans B4)), pl4, c0, c1, c2, c3, c4, c5, y0, by omega, x0, by omega⟩⟩⟩
    rintro σ H1 ⟨v2, v3, v4, v6, v7, v8, wd, bg, bo, on, tw, sr, sk, rfl, B, pl, c0, c1, c2, c3, c4, c5, c6, c7, c8, c9⟩
    refine join_seq (fun σ' H' => ∃ (v2 v3 v4 v6 v7 v8 : Option V) (wd : Int) (bg : Int) (bo : Bool) (on : Int) (tw : Int) (sr : Int) (sk : Int) , σ' = [some (.ref a), some (.ref p), v2, v3, v4, some (.int wd), v6, v7, v8, some (.int bg), some (.str (alS bo)), some (.int on), some (.int tw), some (.int sr), some (.int sk), none] ∧ But a H H' ∧ PoolAt H' a 20 ∧ 0 ≤ bg ∧ bg ≤ 99 ∧ 0 ≤ on ∧ on ≤ 9999 ∧ 0 ≤ tw ∧ tw ≤ 9999 ∧ 0 ≤ sr ∧ sr ≤ 9 ∧ 0 ≤ sk ∧ sk ≤ 9) (fun D' hD => ?_) ?_
    · refine ⟨_, rfl, p, _, _, .ref aw, rfl, rfl, SqT.of (tk B _ _ h1), rfl, aw, _, rfl, .inr (SqT.of (tk B _ _ h2)), _, _, rfl, rfl, _, rfl, ?_⟩
      rw [List.length_map, hnl]
      cases decide ((12 : Int) < (r.n : Int)) with
      | false => exact iteF (iteF (hD _ _ ⟨_, _, _, _, _, _, _, _, _, _, _, _, _, rfl, B, (pl.le (by decide)), c0, c1, c2, c3, c4, c5, c6, c7, c8, c9⟩))
      | true =>
        refine iteT ⟨_, rfl, a, 8, 19, rfl, by decide, by decide, pl, by decide, fun H2 z B2 pl2 z0 z1 => ⟨_, _, rfl, rfl, _, rfl, ?_⟩⟩
        cases decide ((0 : Int) < z) with
        | false => exact iteF (hD _ _ ⟨_, _, _, _, _, _, _, _, _, _, _, _, _, rfl, (B.trans B2), pl2, c0, c1, c2, c3, c4, c5, c6, c7, c8, c9⟩)
        | true => exact iteT (hD _ _ ⟨_, _, _, _, _, _, _, _, _, _, _, 0, _, rfl, (B.trans B2), pl2, c0, c1, c2, c3, c4, c5, by decide, by decide, c8, c9⟩)
    rintro σ H1 ⟨v2, v3, v4, v6, v7, v8, wd, bg, bo, on, tw, sr, sk, rfl, B, pl, c0, c1, c2, c3, c4, c5, c6, c7, c8, c9⟩
    refine join_seq (fun σ' H' => ∃ (v2 v3 v4 v6 v7 v8 : Option V) (wd : Int) (bg : Int) (bo : Bool) (on : Int) (tw : Int) (sr : Int) (sk : Int) , σ' = [some (.ref a), some (.ref p), v2, v3, v4, some (.int wd), v6, v7, v8, some (.int bg), some (.str (alS bo)), some (.int on), some (.int tw), some (.int sr), some (.int sk), none] ∧ But a H H' ∧ PoolAt H' a 20 ∧ 0 ≤ bg ∧ bg ≤ 99 ∧ 0 ≤ on ∧ on ≤ 9999 ∧ 0 ≤ tw ∧ tw ≤ 9999 ∧ 0 ≤ sr ∧ sr ≤ 9 ∧ 0 ≤ sk ∧ sk ≤ 9) (fun D' hD => ?_) ?_
    · refine ⟨_, rfl, p, _, _, .ref aw, rfl, rfl, SqT.of (tk B _ _ h1), rfl, aw, _, rfl, .inr (SqT.of (tk B _ _ h2)), _, _, rfl, rfl, _, rfl, ?_⟩
      rw [List.length_map, hnl]
      cases decide ((40 : Int) < (r.n : Int)) with
      | false => exact iteF (hD _ _ ⟨_, _, _, _, _, _, _, _, _, _, _, _, _, rfl, B, pl, c0, c1, c2, c3, c4, c5, c6, c7, c8, c9⟩)
      | true => exact iteT (hD _ _ ⟨_, _, _, _, _, _, _, _, _, _, _, 0, _, rfl, B, pl, c0, c1, c2, c3, c4, c5, by decide, by decide, c8, c9⟩)
    rintro σ H1 ⟨v2, v3, v4, v6, v7, v8, wd, bg, bo, on, tw, sr, sk, rfl, B, pl, c0, c1, c2, c3, c4, c5, c6, c7, c8, c9⟩
    refine ⟨_, rfl, 1, wd, rfl, 10500, _, rfl, _, rfl, _, rfl, _, rfl, _, rfl, _, rfl, _, rfl, (by show 7 ≤ sizeLine; decide), fun x nx => ?_⟩
    refine q _ x ⟨(if (if wd > 1 then wd else 1) < 10500 then (if wd > 1 then wd else 1) else 10500), bg, bo, on, tw, sr, sk⟩ (B.to (same_upd nx)) upd_same ⟨?_, ⟨c0, c1⟩, ⟨c2, c3⟩, ⟨c4, c5⟩, ⟨c6, c7⟩, ⟨c8, c9⟩⟩
    show 1 ≤ (if (if wd > 1 then wd else 1) < 10500 then (if wd > 1 then wd else 1) else 10500) ∧ (if (if wd > 1 then wd else 1) < 10500 then (if wd > 1 then wd else 1) else 10500) ≤ 10500
    split <;> split <;> omega
end
end Sp
set_option maxRecDepth 100000
set_option maxHeartbeats 2000000
/-! _law_backward, _law_onward. -/
namespace Sp
open PySem PySem.Spec PyProof.Rows L2
/-- [told, stop] at x -/
def AnsAt (H : Hp) (x : Addr) (res : Option (Int × List Nat)) (st : Option (Nat × Nat)) : Prop :=
  (∃ rr u, res = some rr ∧ H x = some (.lst [.ref u, .non]) ∧ ResAt H u rr) ∨ (res = none ∧ ∃ pq u, st = some pq ∧ H x = some (.lst [.non, .ref u]) ∧ H u = some (.lst [intV pq.1, intV pq.2]))
theorem AnsAt.same {H H' : Hp} {x : Addr} {res : Option (Int × List Nat)} {st : Option (Nat × Nat)} (h : AnsAt H x res st) (s : Same H H') : AnsAt H' x res st := by
  rcases h with ⟨rr, u, e, h1, h2⟩ | ⟨e, pq, u, e2, h1, h2⟩
  · exact .inl ⟨rr, u, e, s _ _ h1, h2.same s⟩
  · exact .inr ⟨e, pq, u, e2, s _ _ h1, s _ _ h2⟩
section
variable {P : Program} {w : World} {K : PySem.W.Frag} {mg : Str → Option Value} {base : Heap}
def t_suite (C : Addr) : Addr → Value → Option Addr → TS := fun a cls d => tAsg (tLst (tCons (tXf a cls d C "start" (tVar 4)) (tCons (tXf a cls d C "end" (tVar 4)) tNil))) (gName 3)
theorem bk_xf (T : Told K) : XfC K (aBk K) := ⟨(bk_txt T).ga, (bk_txt T).gg, (bk_txt T).exC, (bk_txt T).hdC⟩
def spWy (K : PySem.W.Frag) (res : SpM.Sys → Option (Int × List Nat)) : L2.Sp := fun vs H Q _ => ∃ (p c : Addr) (r : Rw) (m : Ms), vs = [.ref p, .ref c] ∧ RowAt H p r ∧ r.Ok ∧ MsAt K H c m ∧ m.Ok ∧ (res (sysOf r m) = none → ∃ pq, SpM.resS (sysOf r m) = some pq) ∧
  ∀ (H' : Hp) (x : Addr), Same H H' → H x = none → (∀ u, H' x = some (.lst [.non, .ref u]) → H u = none) → AnsAt H' x (res (sysOf r m)) (SpM.resS (sysOf r m)) → Q (.ref x) H'
theorem d_bw (T : Tx K mg) (Pl : Place P) : Df P w K mg base CX0 11 "_law_backward" (He.ga K "_law_backward") ["_law_row", "_law_measure"] (spWy K SpM.resB) := by
  obtain ⟨fd, F⟩ := F_law_backward T.told
  refine ⟨⟨fd, ?_, F.binds fun _ _ _ _ _ _ us hl => match us, hl with | [_, _], _ => rfl⟩, F.kp, g_law_backward T⟩
  have XT : XfC K (aBk K) := bk_xf T.told
  have B := bk_txt T.told
  have nd := sc_law_backward.nd
  refine F.ok sc_law_backward (fun vs H Q E h => ?_) (fun cdv A outer st H vs Q E hr h => ?_)
  · obtain ⟨p, c, r, m, rfl, _⟩ := h
    rfl
  · obtain ⟨⟨fdb, GT, bT⟩, kT, gT⟩ := d_bl (P := P) (w := w) (base := base) T Pl
    refine ⟨_, pss_cons (ps_set (i := 2) nd rfl (.inl rfl) pe_non) (pss_cons (ps_set (i := 3) nd rfl (.inl rfl) pe_non)
      (pss_cons (ps_try_as (i := 4) (tb := fun W => tAsg (tCallS (spBr K SpM.resB) (WE W) (tCons (tVar 0) (tCons (tVar 1) tNil))) (gName 2)) (ts := t_suite (aBk K)) (Wout := fun _ _ _ _ => False) rfl rfl nd rfl rfl ⟨rfl, by decide, Or.inl (g_Blocked T)⟩ takes0
          (fun W pn xe tk _ => pss_one (ps_set (i := 2) nd rfl (.inl rfl) (by exact (pe_callS GT hr rfl gT kT bT (fun σ => passAt tk σ) (by exact (pa_cons (pv 0) (pa_cons (pv 1) pa_nil)))))))
          (fun a oe cls d pn hz hf => pss_one (ps_set (i := 3) nd rfl (.inl rfl) (by exact (pe_lst (pa_cons (pe_xf XT B.nS hz hf (pv 4)) (pa_cons (pe_xf XT B.nE hz hf (pv 4)) pa_nil)))))))
      (pss_one (ps_ret (pe_lst (pa_cons (pv 2) (pa_cons (pv 3) pa_nil))))))), ?_⟩
    obtain ⟨p, c, r, m, rfl, hrow, ok, hm, mok, hst, q⟩ := h
    refine ⟨_, rfl, _, rfl, p, c, r, m, rfl, hrow, ok, hm, mok, fun hres pq hpq H1 d s1 nd1 => ?_, fun rr hrr H1 x s1 hx => ?_⟩
    · refine ⟨true, B.te, fun _ a0 _ => ?_, fun q => Bool.noConfusion q⟩
      refine ⟨_, rfl, rfl, rfl, d, _, intV pq.1, rfl, upd_same, rfl, _, rfl, rfl, rfl, d, _, intV pq.2, rfl, upd_same, rfl, (by show 2 ≤ sizeLine; decide), fun u nu => ?_⟩
      have s2 := same_upd (o := .xd [("end", intV pq.2), ("start", intV pq.1)]) nd1
      have s3 := same_upd (o := .lst [intV pq.1, intV pq.2]) nu
      refine ⟨_, rfl, _, rfl, (by show 2 ≤ sizeLine; decide), fun x nx => ?_⟩
      have s4 := same_upd (o := .lst [.non, .ref u]) nx
      exact q _ x (((s1.trans s2).trans s3).trans s4) (((s1.trans s2).trans s3).free nx) (fun u' e => by rw [upd_same] at e; cases e; exact (s1.trans s2).free nu) (.inr ⟨hres, pq, u, hpq, upd_same, s4 _ _ upd_same⟩)
    · refine ⟨_, rfl, _, rfl, (by show 2 ≤ sizeLine; decide), fun y ny => ?_⟩
      have s4 := same_upd (o := .lst [.ref x, .non]) ny
      exact q _ y (s1.trans s4) (s1.free ny) (fun u' e => by rw [upd_same] at e; cases e) (.inl ⟨rr, x, hrr, upd_same, hx.same s4⟩)
theorem d_on (T : Tx K mg) (Pl : Place P) : Df P w K mg base CX0 11 "_law_onward" (He.ga K "_law_onward") ["_law_row", "_law_measure"] (spWy K SpM.resF) := by
  obtain ⟨fd, F⟩ := F_law_onward T.told
  refine ⟨⟨fd, ?_, F.binds fun _ _ _ _ _ _ us hl => match us, hl with | [_, _], _ => rfl⟩, F.kp, g_law_onward T⟩
  have XT : XfC K (aBk K) := bk_xf T.told
  have B := bk_txt T.told
  have nd := sc_law_onward.nd
  refine F.ok sc_law_onward (fun vs H Q E h => ?_) (fun cdv A outer st H vs Q E hr h => ?_)
  · obtain ⟨p, c, r, m, rfl, _⟩ := h
    rfl
  · obtain ⟨⟨fdb, GT, bT⟩, kT, gT⟩ := d_bf (P := P) (w := w) (base := base) T Pl
    refine ⟨_, pss_cons (ps_set (i := 2) nd rfl (.inl rfl) pe_non) (pss_cons (ps_set (i := 3) nd rfl (.inl rfl) pe_non)
      (pss_cons (ps_try_as (i := 4) (tb := fun W => tAsg (tCallS (spBr K SpM.resF) (WE W) (tCons (tVar 0) (tCons (tVar 1) tNil))) (gName 2)) (ts := t_suite (aBk K)) (Wout := fun _ _ _ _ => False) rfl rfl nd rfl rfl ⟨rfl, by decide, Or.inl (g_Blocked T)⟩ takes0
          (fun W pn xe tk _ => pss_one (ps_set (i := 2) nd rfl (.inl rfl) (by exact (pe_callS GT hr rfl gT kT bT (fun σ => passAt tk σ) (by exact (pa_cons (pv 0) (pa_cons (pv 1) pa_nil)))))))
          (fun a oe cls d pn hz hf => pss_one (ps_set (i := 3) nd rfl (.inl rfl) (by exact (pe_lst (pa_cons (pe_xf XT B.nS hz hf (pv 4)) (pa_cons (pe_xf XT B.nE hz hf (pv 4)) pa_nil)))))))
      (pss_one (ps_ret (pe_lst (pa_cons (pv 2) (pa_cons (pv 3) pa_nil))))))), ?_⟩
    obtain ⟨p, c, r, m, rfl, hrow, ok, hm, mok, hst, q⟩ := h
    refine ⟨_, rfl, _, rfl, p, c, r, m, rfl, hrow, ok, hm, mok, fun hres pq hpq H1 d s1 nd1 => ?_, fun rr hrr H1 x s1 hx => ?_⟩
    · refine ⟨true, B.te, fun _ a0 _ => ?_, fun q => Bool.noConfusion q⟩
      refine ⟨_, rfl, rfl, rfl, d, _, intV pq.1, rfl, upd_same, rfl, _, rfl, rfl, rfl, d, _, intV pq.2, rfl, upd_same, rfl, (by show 2 ≤ sizeLine; decide), fun u nu => ?_⟩
      have s2 := same_upd (o := .xd [("end", intV pq.2), ("start", intV pq.1)]) nd1
      have s3 := same_upd (o := .lst [intV pq.1, intV pq.2]) nu
      refine ⟨_, rfl, _, rfl, (by show 2 ≤ sizeLine; decide), fun x nx => ?_⟩
      have s4 := same_upd (o := .lst [.non, .ref u]) nx
      exact q _ x (((s1.trans s2).trans s3).trans s4) (((s1.trans s2).trans s3).free nx) (fun u' e => by rw [upd_same] at e; cases e; exact (s1.trans s2).free nu) (.inr ⟨hres, pq, u, hpq, upd_same, s4 _ _ upd_same⟩)
    · refine ⟨_, rfl, _, rfl, (by show 2 ≤ sizeLine; decide), fun y ny => ?_⟩
      have s4 := same_upd (o := .lst [.ref x, .non]) ny
      exact q _ y (s1.trans s4) (s1.free ny) (fun u' e => by rw [upd_same] at e; cases e) (.inl ⟨rr, x, hrr, upd_same, hx.same s4⟩)
end
end Sp
set_option maxRecDepth 100000
set_option maxHeartbeats 2000000
/-! _law_same on answers alike: True. -/
namespace Sp
open PySem PySem.Spec PyProof.Rows L2
def DS (H : Hp) : Nat → V → V → Prop
  | 0 => fun _ _ => False
  | d + 1 => fun x y => (x = y ∧ (x = .non ∨ ∃ i, x = .int i)) ∨ ∃ (a b : Addr) (xs ys : List V), x = .ref a ∧ y = .ref b ∧ ((H a = some (.lst xs) ∧ H b = some (.lst ys)) ∨ (H a = some (.tup xs) ∧ H b = some (.tup ys))) ∧ xs.length = ys.length ∧ xs.length ≤ 1000 ∧
      ∀ (i : Nat) (u v : V), xs[i]? = some u → ys[i]? = some v → DS H d u v
section
variable {P : Program} {w : World} {K : PySem.W.Frag} {mg : Str → Option Value} {base : Heap}
def spSm (d : Nat) : L2.Sp := fun vs H Q _ => ∃ x y, vs = [x, y] ∧ DS H d x y ∧ Q (.bl true) H
theorem d_sm (T : Tx K mg) : ∀ d : Nat, Df P w K mg base CX0 d "_law_same" (He.ga K "_law_same") ["_law_one", "_law_two"] (spSm d)
  | 0 => by
    obtain ⟨fd, F⟩ := F_law_same T.told
    exact ⟨⟨fd, ⟨fun vs H Q E h => by obtain ⟨x, y, _, h, _⟩ := h; exact h.elim, fun A outer s H args us vs Q E _ _ _ _ h => by obtain ⟨x, y, _, h, _⟩ := h; exact h.elim⟩, F.binds fun _ _ _ _ _ _ us hl => match us, hl with | [_, _], _ => rfl⟩, F.kp, g_law_same T⟩
  | d + 1 => by
    have D : Df P w K mg base CX0 d "_law_same" (He.ga K "_law_same") ["_law_one", "_law_two"] (spSm d) := d_sm T d
    obtain ⟨fd, F⟩ := F_law_same T.told
    refine ⟨⟨fd, ?_, F.binds fun _ _ _ _ _ _ us hl => match us, hl with | [_, _], _ => rfl⟩, F.kp, g_law_same T⟩
    have nd := sc_law_same.nd
    refine F.ok sc_law_same (fun vs H Q E h => ?_) (fun cdv A outer st H vs Q E hr h => ?_)
    · obtain ⟨x, y, rfl, _⟩ := h
      rfl
    · obtain ⟨x, y, rfl, h, q⟩ := h
      refine ⟨_, pss_cons (ps_if (PW.pt (pw_or (pt_val (pe_callB call_isi (by rfl) (z_isinstance T) (by decide +kernel) (pa_cons (pv 0) (pa_cons (pe_bltn (v := .ty "bool") (u := .type "bool") (by rfl) (z_bool T) (by decide +kernel) rfl) pa_nil)))) (pw_or1 (pt_val (pe_callB call_isi (by rfl) (z_isinstance T) (by decide +kernel) (pa_cons (pv 1) (pa_cons (pe_bltn (v := .ty "bool") (u := .type "bool") (by rfl) (z_bool T) (by decide +kernel) rfl) pa_nil))))))) pss_never pss_nil)
        (pss_cons (ps_if (PW.pt (pw_and (pt_val (pe_callB call_isi (by rfl) (z_isinstance T) (by decide +kernel) (pa_cons (pv 0) (pa_cons (pe_bltn (v := .ty "int") (u := .type "int") (by rfl) (z_int T) (by decide +kernel) rfl) pa_nil)))) (pw_and1 (pt_val (pe_callB call_isi (by rfl) (z_isinstance T) (by decide +kernel) (pa_cons (pv 1) (pa_cons (pe_bltn (v := .ty "int") (u := .type "int") (by rfl) (z_int T) (by decide +kernel) rfl) pa_nil))))))) (pss_one (ps_ret (pe_cmpR op_eq (pv 0) (pv 1) (nomark _)))) pss_nil)
        (pss_cons (ps_if (PW.pt (pw_and (pt_val (pe_callB call_isi (by rfl) (z_isinstance T) (by decide +kernel) (pa_cons (pv 0) (pa_cons (pe_bltn (v := .ty "str") (u := .type "str") (by rfl) (z_str T) (by decide +kernel) rfl) pa_nil)))) (pw_and1 (pt_val (pe_callB call_isi (by rfl) (z_isinstance T) (by decide +kernel) (pa_cons (pv 1) (pa_cons (pe_bltn (v := .ty "str") (u := .type "str") (by rfl) (z_str T) (by decide +kernel) rfl) pa_nil))))))) pss_never pss_nil)
        (pss_cons (ps_set (i := 2) nd rfl (.inl rfl) (pe_and (pe_callB call_isi (by rfl) (z_isinstance T) (by decide +kernel) (pa_cons (pv 0) (pa_cons (pe_bltn (v := .ty "tuple") (u := .type "tuple") (by rfl) (z_tuple T) (by decide +kernel) rfl) pa_nil))) (pe_one (pe_callB call_isi (by rfl) (z_isinstance T) (by decide +kernel) (pa_cons (pv 1) (pa_cons (pe_bltn (v := .ty "tuple") (u := .type "tuple") (by rfl) (z_tuple T) (by decide +kernel) rfl) pa_nil))))))
        (pss_cons (ps_if (PW.pt (pw_or (pt_val (pv 2)) (pw_or1 (PW.pt (pw_and (pt_val (pe_callB call_isi (by rfl) (z_isinstance T) (by decide +kernel) (pa_cons (pv 0) (pa_cons (pe_bltn (v := .ty "list") (u := .type "list") (by rfl) (z_list T) (by decide +kernel) rfl) pa_nil)))) (pw_and1 (pt_val (pe_callB call_isi (by rfl) (z_isinstance T) (by decide +kernel) (pa_cons (pv 1) (pa_cons (pe_bltn (v := .ty "list") (u := .type "list") (by rfl) (z_list T) (by decide +kernel) rfl) pa_nil))))))))))
          (pss_cons (ps_if (pt_cmpR op_ne (pe_callB call_len_seq (by rfl) (z_len T) PySem.boot_len (pa_cons (pv 0) pa_nil)) (pe_callB call_len_seq (by rfl) (z_len T) PySem.boot_len (pa_cons (pv 1) pa_nil)) (nomark _)) pss_never pss_nil)
          (pss_cons (ps_for PassesOwn.never rfl (pi_range1 (by rfl) (z_range T) (pa_cons (pe_callB call_len_seq (by rfl) (z_len T) PySem.boot_len (pa_cons (pv 0) pa_nil)) pa_nil)) (pg_name (i := 3) nd rfl (.inl rfl))
            (pss_one (ps_if (pt_not (pt_val (pe_d D hr (by rfl) (pa_cons (pe_ix ix_seq (pv 0) (pv 3) (fun _ _ => rfl)) (pa_cons (pe_ix ix_seq (pv 1) (pv 3) (fun _ _ => rfl)) pa_nil))))) pss_never pss_nil)))
          (pss_one (ps_ret pe_bl)))) pss_nil)
        (pss_one (ps_ret (pe_and (pe_cmpR op_isN (pv 0) pe_non (nomark _)) (pe_one (pe_cmpR op_isN (pv 1) pe_non (nomark _)))))))))), ?_⟩
      rcases h with ⟨rfl, rfl | ⟨i, rfl⟩⟩ | ⟨a, b, xs, ys, rfl, rfl, hab, hlen, hle, hds⟩
      · have ty1 : TyX K H .non (.type "NoneType") := .base .non
        refine ⟨_, rfl, _, .ty "bool", .type "NoneType", .type "bool", false, rfl, .ty _, ty1, kit_ty (by decide +kernel), _, rfl, iteF ⟨_, rfl, _, .ty "bool", .type "NoneType", .type "bool", false, rfl, .ty _, ty1, kit_ty (by decide +kernel), _, rfl, iteF ?_⟩⟩
        refine ⟨_, rfl, _, .ty "int", .type "NoneType", .type "int", false, rfl, .ty _, ty1, kit_ty (by decide +kernel), _, rfl, iteF (iteF ?_)⟩
        refine ⟨_, rfl, _, .ty "str", .type "NoneType", .type "str", false, rfl, .ty _, ty1, kit_ty (by decide +kernel), _, rfl, iteF (iteF ?_)⟩
        refine ⟨_, rfl, _, .ty "tuple", .type "NoneType", .type "tuple", false, rfl, .ty _, ty1, kit_ty (by decide +kernel), _, rfl, iteF ?_⟩
        refine ⟨_, rfl, _, rfl, iteF ⟨_, rfl, _, .ty "list", .type "NoneType", .type "list", false, rfl, .ty _, ty1, kit_ty (by decide +kernel), _, rfl, iteF (iteF ?_)⟩⟩
        exact ⟨_, rfl, rfl, _, rfl, iteT ⟨_, rfl, rfl, q⟩⟩
      · have ty1 : TyX K H (.int i) (.type "int") := .base (.int i)
        refine ⟨_, rfl, _, .ty "bool", .type "int", .type "bool", false, rfl, .ty _, ty1, kit_ty (by decide +kernel), _, rfl, iteF ⟨_, rfl, _, .ty "bool", .type "int", .type "bool", false, rfl, .ty _, ty1, kit_ty (by decide +kernel), _, rfl, iteF ?_⟩⟩
        refine ⟨_, rfl, _, .ty "int", .type "int", .type "int", true, rfl, .ty _, ty1, kit_ty (by decide +kernel), _, rfl, iteT ⟨_, rfl, _, .ty "int", .type "int", .type "int", true, rfl, .ty _, ty1, kit_ty (by decide +kernel), _, rfl, iteT ⟨_, rfl, _, rfl, rfl, ?_⟩⟩⟩
        rw [decide_eq_true rfl]
        exact q
      · rcases hab with ⟨ha, hb⟩ | ⟨ha, hb⟩
        · have ty1 : TyX K H (.ref a) (.type "list") := .base (.lst ha)
          have ty2 : TyX K H (.ref b) (.type "list") := .base (.lst hb)
          refine ⟨_, rfl, _, .ty "bool", .type "list", .type "bool", false, rfl, .ty _, ty1, kit_ty (by decide +kernel), _, rfl, iteF ⟨_, rfl, _, .ty "bool", .type "list", .type "bool", false, rfl, .ty _, ty2, kit_ty (by decide +kernel), _, rfl, iteF ?_⟩⟩
          refine ⟨_, rfl, _, .ty "int", .type "list", .type "int", false, rfl, .ty _, ty1, kit_ty (by decide +kernel), _, rfl, iteF (iteF ?_)⟩
          refine ⟨_, rfl, _, .ty "str", .type "list", .type "str", false, rfl, .ty _, ty1, kit_ty (by decide +kernel), _, rfl, iteF (iteF ?_)⟩
          refine ⟨_, rfl, _, .ty "tuple", .type "list", .type "tuple", false, rfl, .ty _, ty1, kit_ty (by decide +kernel), _, rfl, iteF ?_⟩
          refine ⟨_, rfl, _, rfl, iteF ⟨_, rfl, _, .ty "list", .type "list", .type "list", true, rfl, .ty _, ty1, kit_ty (by decide +kernel), _, rfl, iteT ⟨_, rfl, _, .ty "list", .type "list", .type "list", true, rfl, .ty _, ty2, kit_ty (by decide +kernel), _, rfl, iteT ?_⟩⟩⟩
          refine ⟨_, rfl, a, _, rfl, .inl (SqL.of ha), _, rfl, b, _, rfl, .inl (SqL.of hb), rfl, _, rfl, ?_⟩
          rw [hlen, decide_eq_true rfl]
          refine iteF ?_
          refine ⟨_, rfl, a, _, rfl, .inl (SqL.of ha), _, rfl, by omega, by omega, ?_⟩
          have hnn : ((xs.length : Nat) : Int).toNat = xs.length := by omega
          rw [hnn]
          refine for_range (fun i σ H' => ∃ v3 : Option V, σ = [some (.ref a), some (.ref b), some (.bl false), v3] ∧ H' = H) ⟨none, rfl, rfl⟩ ?_ ?_
          · rintro i σ H' hi ⟨v3, rfl, rfl⟩
            have gu := List.getElem?_eq_getElem hi
            have gv := List.getElem?_eq_getElem (show i < ys.length by omega)
            exact ⟨_, rfl, _, rfl, (.inl ⟨a, _, _, _, rfl, rfl, SqL.of ha, at_of (by omega) gu, _, rfl, _, rfl, (.inl ⟨b, _, _, _, rfl, rfl, SqL.of hb, at_of (by omega) gv, _, _, rfl, hds i _ _ gu gv, _, rfl, iteF ⟨_, rfl, rfl⟩⟩)⟩)⟩
          · rintro σ H' ⟨v3, rfl, rfl⟩
            exact q
        · have ty1 : TyX K H (.ref a) (.type "tuple") := .base (.tup ha)
          have ty2 : TyX K H (.ref b) (.type "tuple") := .base (.tup hb)
          refine ⟨_, rfl, _, .ty "bool", .type "tuple", .type "bool", false, rfl, .ty _, ty1, kit_ty (by decide +kernel), _, rfl, iteF ⟨_, rfl, _, .ty "bool", .type "tuple", .type "bool", false, rfl, .ty _, ty2, kit_ty (by decide +kernel), _, rfl, iteF ?_⟩⟩
          refine ⟨_, rfl, _, .ty "int", .type "tuple", .type "int", false, rfl, .ty _, ty1, kit_ty (by decide +kernel), _, rfl, iteF (iteF ?_)⟩
          refine ⟨_, rfl, _, .ty "str", .type "tuple", .type "str", false, rfl, .ty _, ty1, kit_ty (by decide +kernel), _, rfl, iteF (iteF ?_)⟩
          refine ⟨_, rfl, _, .ty "tuple", .type "tuple", .type "tuple", true, rfl, .ty _, ty1, kit_ty (by decide +kernel), _, rfl, iteT ⟨_, rfl, _, .ty "tuple", .type "tuple", .type "tuple", true, rfl, .ty _, ty2, kit_ty (by decide +kernel), ?_⟩⟩
          refine ⟨_, rfl, _, rfl, iteT (iteT ?_)⟩
          refine ⟨_, rfl, a, _, rfl, .inr (SqT.of ha), _, rfl, b, _, rfl, .inr (SqT.of hb), rfl, _, rfl, ?_⟩
          rw [hlen, decide_eq_true rfl]
          refine iteF ?_
          refine ⟨_, rfl, a, _, rfl, .inr (SqT.of ha), _, rfl, by omega, by omega, ?_⟩
          have hnn : ((xs.length : Nat) : Int).toNat = xs.length := by omega
          rw [hnn]
          refine for_range (fun i σ H' => ∃ v3 : Option V, σ = [some (.ref a), some (.ref b), some (.bl true), v3] ∧ H' = H) ⟨none, rfl, rfl⟩ ?_ ?_
          · rintro i σ H' hi ⟨v3, rfl, rfl⟩
            have gu := List.getElem?_eq_getElem hi
            have gv := List.getElem?_eq_getElem (show i < ys.length by omega)
            exact ⟨_, rfl, _, rfl, (.inr (.inl ⟨a, _, _, _, rfl, rfl, SqT.of ha, at_of (by omega) gu, _, rfl, _, rfl, (.inr (.inl ⟨b, _, _, _, rfl, rfl, SqT.of hb, at_of (by omega) gv, _, _, rfl, hds i _ _ gu gv, _, rfl, iteF ⟨_, rfl, rfl⟩⟩))⟩))⟩
          · rintro σ H' ⟨v3, rfl, rfl⟩
            exact q
end
end Sp
set_option maxRecDepth 100000
set_option maxHeartbeats 2000000
/-! _law_is_integer, _law_sound. -/
namespace Sp
open PySem PySem.Spec PyProof.Rows L2
section
variable {P : Program} {w : World} {K : PySem.W.Frag} {mg : Str → Option Value} {base : Heap}
def spIi : L2.Sp := fun vs H Q _ => ∃ z : Int, vs = [.int z] ∧ Q (.bl true) H
theorem ift {c : Bool} {A B : Prop} (hc : c = true) (h : A) : if c = true then A else B := by
  rw [if_pos hc]
  exact h
theorem d_ii (T : Tx K mg) : Df P w K mg base CX0 1 "_law_is_integer" (He.ga K "_law_is_integer") ["_law_actual"] spIi := by
  obtain ⟨fd, F⟩ := F_law_is_integer T.told
  refine ⟨⟨fd, ?_, F.binds fun _ _ _ _ _ _ us hl => match us, hl with | [_], _ => rfl⟩, F.kp, g_law_is_integer T⟩
  refine F.ok sc_law_is_integer (fun vs H Q E h => ?_) (fun cdv A outer st H vs Q E hr h => ?_)
  · obtain ⟨z, rfl, _⟩ := h
    rfl
  · obtain ⟨z, rfl, q⟩ := h
    refine ⟨_, pss_one (ps_ret (pe_and (pe_callB call_isi (by rfl) (z_isinstance T) (by decide +kernel) (pa_cons (pv 0) (pa_cons (pe_bltn (v := .ty "int") (u := .type "int") (by rfl) (z_int T) (by decide +kernel) rfl) pa_nil)))
      (pe_one (pe_not (pe_callB call_isi (by rfl) (z_isinstance T) (by decide +kernel) (pa_cons (pv 0) (pa_cons (pe_bltn (v := .ty "bool") (u := .type "bool") (by rfl) (z_bool T) (by decide +kernel) rfl) pa_nil))))))), ?_⟩
    have ty1 : TyX K H (.int z) (.type "int") := .base (.int z)
    exact ⟨_, rfl, _, .ty "int", .type "int", .type "int", true, rfl, .ty _, ty1, kit_ty (by decide +kernel), _, rfl, iteT ⟨_, rfl, _, .ty "bool", .type "int", .type "bool", false, rfl, .ty _, ty1, kit_ty (by decide +kernel), _, rfl, q⟩⟩
def Good (n : Nat) (res : Option (Int × List Nat)) (st : Option (Nat × Nat)) : Prop :=
  (∀ rr, res = some rr → 0 ≤ rr.1 ∧ (0 :: rr.2).Pairwise (· < ·) ∧ (0 :: rr.2).getLast? = some n) ∧ ∀ pq, st = some pq → pq.1 < pq.2 ∧ pq.2 ≤ n
def spSd : L2.Sp := fun vs H Q _ => ∃ (x : Addr) (y : Int) (n : Nat) (res : Option (Int × List Nat)) (st : Option (Nat × Nat)), vs = [.ref x, .int y] ∧ y = (n : Int) ∧ AnsAt H x res st ∧ Good n res st ∧ Q (.bl true) H
theorem d_sd (T : Tx K mg) : Df P w K mg base CX0 2 "_law_sound" (He.ga K "_law_sound") ["_law_answer", "_law_many"] spSd := by
  obtain ⟨fd, F⟩ := F_law_sound T.told
  refine ⟨⟨fd, ?_, F.binds fun _ _ _ _ _ _ us hl => match us, hl with | [_, _], _ => rfl⟩, F.kp, g_law_sound T⟩
  have DI : Df P w K mg base CX0 1 "_law_is_integer" (He.ga K "_law_is_integer") ["_law_actual"] spIi := d_ii T
  have nd := sc_law_sound.nd
  refine F.ok sc_law_sound (fun vs H Q E h => ?_) (fun cdv A outer s0 H vs Q E hr h => ?_)
  · obtain ⟨x, y, n, res, st, rfl, _⟩ := h
    rfl
  · obtain ⟨x, y, n, res, st, rfl, ey, hA, hG, q⟩ := h
    refine ⟨_, pss_cons (ps_set (i := 2) nd rfl (.inl rfl) (pe_ix ix_list (pv 0) pe_int (fun _ _ => rfl)))
      (pss_cons (ps_set (i := 3) nd rfl (.inl rfl) (pe_ix ix_list (pv 0) pe_int (fun _ _ => rfl)))
      (pss_cons (ps_if (pt_cmpR op_notN (pv 3) pe_non (nomark _))
        (pss_cons (ps_if (PW.pt (pw_or (pt_not (pt_val (pe_d DI hr (by rfl) (pa_cons (pe_ix ix_list (pv 3) pe_int (fun _ _ => rfl)) pa_nil)))) (pw_or1 (pt_not (pt_val (pe_d DI hr (by rfl) (pa_cons (pe_ix ix_list (pv 3) pe_int (fun _ _ => rfl)) pa_nil))))))) pss_never pss_nil)
        (pss_one (ps_ret (pe_chain3 op_le op_lt op_le pe_int (pe_ix ix_list (pv 3) pe_int (fun _ _ => rfl)) (pe_ix ix_list (pv 3) pe_int (fun _ _ => rfl)) (pv 1))))) pss_nil)
      (pss_cons (ps_if (PW.pt (pw_or (pt_not (pt_val (pe_callB call_isi (by rfl) (z_isinstance T) (by decide +kernel) (pa_cons (pv 2) (pa_cons (pe_bltn (v := .ty "tuple") (u := .type "tuple") (by rfl) (z_tuple T) (by decide +kernel) rfl) pa_nil)))))
          (pw_or1 (pt_cmpR op_ne (pe_callB call_len_seq (by rfl) (z_len T) PySem.boot_len (pa_cons (pv 2) pa_nil)) pe_int (nomark _))))) pss_never pss_nil)
      (pss_cons (ps_if (PW.pt (pw_or (pt_not (pt_val (pe_d DI hr (by rfl) (pa_cons (pe_ix ix_tup (pv 2) pe_int (fun _ _ => rfl)) pa_nil))))
          (pw_or1 (pt_not (pt_val (pe_callB call_isi (by rfl) (z_isinstance T) (by decide +kernel) (pa_cons (pe_ix ix_tup (pv 2) pe_int (fun _ _ => rfl)) (pa_cons (pe_bltn (v := .ty "tuple") (u := .type "tuple") (by rfl) (z_tuple T) (by decide +kernel) rfl) pa_nil)))))))) pss_never pss_nil)
      (pss_cons (ps_set (i := 4) nd rfl (.inl rfl) pe_int)
      (pss_cons (ps_for PassesOwn.never rfl (pi_tup (pe_ix ix_tup (pv 2) pe_int (fun _ _ => rfl))) (pg_name (i := 5) nd rfl (.inl rfl))
        (pss_cons (ps_if (PW.pt (pw_or (pt_not (pt_val (pe_d DI hr (by rfl) (pa_cons (pv 5) pa_nil)))) (pw_or1 (pt_cmpR op_le (pv 5) (pv 4) (nomark _))))) pss_never pss_nil)
        (pss_one (ps_set (i := 4) nd rfl (.inl rfl) (pv 5)))))
      (pss_one (ps_ret (pe_and (pe_cmpR op_eq (pv 4) (pv 1) (nomark _)) (pe_one (pe_cmpR op_ge (pe_ix ix_tup (pv 2) pe_int (fun _ _ => rfl)) pe_int (nomark _)))))))))))), ?_⟩
    rcases hA with ⟨rr, u, rfl, h1, v, h2, h3⟩ | ⟨rfl, pq, u, rfl, h1, h2⟩
    · obtain ⟨g1, g2, g3⟩ := hG.1 rr rfl
      refine ⟨_, rfl, x, _, _, .ref u, rfl, rfl, SqL.of h1, rfl, _, rfl, x, _, _, .non, rfl, rfl, SqL.of h1, rfl, ?_⟩
      refine ⟨_, rfl, rfl, _, rfl, iteF ?_⟩
      have ty1 : TyX K H (.ref u) (.type "tuple") := .base (.tup h2)
      have ty2 : TyX K H (.ref v) (.type "tuple") := .base (.tup h3)
      refine ⟨_, rfl, _, .ty "tuple", .type "tuple", .type "tuple", true, rfl, .ty _, ty1, kit_ty (by decide +kernel), _, rfl, iteF ⟨_, rfl, u, _, rfl, .inr (SqT.of h2), rfl, _, rfl, iteF ?_⟩⟩
      refine ⟨_, rfl, u, _, _, .int rr.1, rfl, rfl, SqT.of h2, rfl, rr.1, rfl, _, rfl, iteF ⟨_, rfl, u, _, _, .ref v, rfl, rfl, SqT.of h2, rfl, _, .ty "tuple", .type "tuple", .type "tuple", true, rfl, .ty _, ty2, kit_ty (by decide +kernel), _, rfl, iteF ?_⟩⟩
      refine ⟨_, rfl, u, _, _, .ref v, rfl, rfl, SqT.of h2, rfl, v, rfl, ⟨_, SqT.of h3⟩, for_tup (K := K) (a := v) (xs := rr.2.map intV) (fun i σ H' => ∃ v5 : Option V, σ = [some (.ref x), some (.int y), some (.ref u), some .non, some (intV ((0 :: rr.2).getD i 0)), v5] ∧ H' = H) ⟨none, rfl, rfl⟩ (fun i σ H' _ h => ?_) ?_ ?_⟩
      · obtain ⟨_, _, rfl⟩ := h
        exact SqT.of h3
      · rintro i z σ H' hi ⟨v5, rfl, rfl⟩
        rw [List.getElem?_map] at hi
        obtain ⟨e, he, rfl⟩ := Option.map_eq_some_iff.mp hi
        obtain ⟨hl, rfl⟩ := List.getElem?_eq_some_iff.mp he
        have hlt : (0 :: rr.2).getD i 0 < rr.2[i] := by
          have := List.pairwise_iff_getElem.mp g2 i (i + 1) (by simp; omega) (by simp; omega) (by omega)
          rw [getD_lt 0 (by simp; omega)]
          simpa using this
        have hnx : (0 :: rr.2).getD (i + 1) 0 = rr.2[i] := by
          rw [getD_lt 0 (by simp; omega)]
          simp
        rw [hnx]
        refine ⟨_, rfl, _, rfl, _, rfl, iteF ⟨_, rfl, _, rfl, _, _, rfl, rfl, _, rfl, ?_⟩⟩
        rw [decide_eq_false (show ¬ ((rr.2[i] : Nat) : Int) ≤ (((0 :: rr.2).getD i 0 : Nat) : Int) by omega)]
        exact iteF ⟨_, rfl, _, rfl, rfl⟩
      · rintro σ H' ⟨v5, rfl, rfl⟩
        rw [List.length_map]
        have hlast : (0 :: rr.2).getD rr.2.length 0 = n := by
          rw [List.getLast?_eq_getElem?] at g3
          rw [List.getD_eq_getElem?_getD]
          have : (0 :: rr.2).length - 1 = rr.2.length := by simp
          rw [this] at g3
          rw [g3]
          rfl
        rw [hlast]
        refine ⟨_, rfl, _, rfl, rfl, _, rfl, ?_⟩
        rw [decide_eq_true (show intV n = V.int y by rw [ey]; rfl)]
        refine iteT ⟨_, rfl, u, _, _, .int rr.1, rfl, rfl, SqT.of h2, rfl, _, _, rfl, rfl, ?_⟩
        show Q (.bl (decide ((0 : Int) ≤ rr.1))) H'
        rw [decide_eq_true g1]
        exact q
    · obtain ⟨g1, g2⟩ := hG.2 pq rfl
      refine ⟨_, rfl, x, _, _, .non, rfl, rfl, SqL.of h1, rfl, _, rfl, x, _, _, .ref u, rfl, rfl, SqL.of h1, rfl, ?_⟩
      refine ⟨_, rfl, rfl, _, rfl, iteT ?_⟩
      refine ⟨_, rfl, u, _, _, intV pq.1, rfl, rfl, SqL.of h2, rfl, _, rfl, _, rfl, iteF ⟨_, rfl, u, _, _, intV pq.2, rfl, rfl, SqL.of h2, rfl, _, rfl, _, rfl, iteF ?_⟩⟩
      refine ⟨_, rfl, u, _, _, intV pq.1, rfl, rfl, SqL.of h2, rfl, _, _, rfl, rfl, _, rfl, ?_⟩
      refine ift (decide_eq_true (show (0 : Int) ≤ (pq.1 : Int) by omega)) ⟨_, rfl, u, _, _, intV pq.2, rfl, rfl, SqL.of h2, rfl, _, _, rfl, rfl, _, rfl, ?_⟩
      refine ift (decide_eq_true (show (pq.1 : Int) < (pq.2 : Int) by omega)) ⟨_, rfl, _, _, rfl, rfl, ?_⟩
      show Q (.bl (decide ((pq.2 : Int) ≤ y))) H
      rw [decide_eq_true (show (pq.2 : Int) ≤ y by omega)]
      exact q
end
end Sp
set_option maxRecDepth 100000
set_option maxHeartbeats 2000000
/-! _law_agree, law. -/
namespace Sp
open PySem PySem.Spec PyProof.Rows L2
/-- an answer that has nothing to do with the list at l -/
def AnsOff (l : Addr) (H : Hp) (x : Addr) (res : Option (Int × List Nat)) (st : Option (Nat × Nat)) : Prop :=
  AnsAt H x res st ∧ x ≠ l ∧ ∀ u, H x = some (.lst [.non, .ref u]) → u ≠ l
theorem AnsOff.but {l x : Addr} {H H' : Hp} {res : Option (Int × List Nat)} {st : Option (Nat × Nat)} {ys : List V} (h : AnsOff l H x res st) (hB : But l H H') (hl : H l = some (.lst ys)) : AnsOff l H' x res st := by
  obtain ⟨hA, h1, h2⟩ := h
  have tk : ∀ b zs, H b = some (.tup zs) → H' b = some (.tup zs) := fun b zs e => hB _ _ e (ne_of e hl (by intro z; cases z))
  rcases hA with ⟨rr, u, e, a1, v, a2, a3⟩ | ⟨e, pq, u, e2, a1, a2⟩
  · refine ⟨.inl ⟨rr, u, e, hB _ _ a1 h1, v, tk _ _ a2, tk _ _ a3⟩, h1, fun u' e' => ?_⟩
    rw [hB _ _ a1 h1] at e'
    cases e'
  · refine ⟨.inr ⟨e, pq, u, e2, hB _ _ a1 h1, hB _ _ a2 (h2 u a1)⟩, h1, fun u' e' => ?_⟩
    rw [hB _ _ a1 h1] at e'
    cases e'
    exact h2 u a1
theorem AnsOff.same {l x : Addr} {H H' : Hp} {res : Option (Int × List Nat)} {st : Option (Nat × Nat)} (h : AnsOff l H x res st) (s : Same H H') : AnsOff l H' x res st := by
  obtain ⟨hA, h1, h2⟩ := h
  refine ⟨hA.same s, h1, fun u' e' => ?_⟩
  rcases hA with ⟨rr, u, e, a1, _⟩ | ⟨e, pq, u, e2, a1, a2⟩
  · rw [s _ _ a1] at e'
    cases e'
  · rw [s _ _ a1] at e'
    cases e'
    exact h2 _ a1
theorem ds_int (H : Hp) (d : Nat) (i : Int) : DS H (d + 1) (.int i) (.int i) := .inl ⟨rfl, .inr ⟨i, rfl⟩⟩
theorem ds_non (H : Hp) (d : Nat) : DS H (d + 1) .non .non := .inl ⟨rfl, .inl rfl⟩
theorem ds_two {H : Hp} {d : Nat} {x1 x2 y1 y2 : V} (h1 : DS H d x1 y1) (h2 : DS H d x2 y2) : ∀ (i : Nat) (u v : V), [x1, x2][i]? = some u → [y1, y2][i]? = some v → DS H d u v
  | 0, u, v, e1, e2 => by
    cases e1
    cases e2
    exact h1
  | 1, u, v, e1, e2 => by
    cases e1
    cases e2
    exact h2
  | i + 2, u, v, e1, e2 => by cases e1
theorem ans_ds {H : Hp} {x y : Addr} {res : Option (Int × List Nat)} {st : Option (Nat × Nat)} (hx : AnsAt H x res st) (hy : AnsAt H y res st) (hn : ∀ rr, res = some rr → rr.2.length ≤ 1000) : DS H 4 (.ref x) (.ref y) := by
  rcases hx with ⟨rr, u, e, a1, v, a2, a3⟩ | ⟨e, pq, u, e2, a1, a2⟩
  · rcases hy with ⟨rr', u', e', b1, v', b2, b3⟩ | ⟨e', _⟩
    · have : rr = rr' := Option.some.inj (e.symm.trans e')
      subst this
      refine .inr ⟨x, y, _, _, rfl, rfl, .inl ⟨a1, b1⟩, rfl, (by show 2 ≤ 1000; decide), ds_two ?_ (ds_non _ _)⟩
      refine .inr ⟨u, u', _, _, rfl, rfl, .inr ⟨a2, b2⟩, rfl, (by show 2 ≤ 1000; decide), ds_two (ds_int _ _ _) ?_⟩
      refine .inr ⟨v, v', _, _, rfl, rfl, .inr ⟨a3, b3⟩, rfl, by rw [List.length_map]; exact hn rr e, fun i p q h1 h2 => ?_⟩
      rw [h1] at h2
      cases h2
      rw [List.getElem?_map] at h1
      obtain ⟨k, _, rfl⟩ := Option.map_eq_some_iff.mp h1
      exact ds_int _ _ _
    · rw [e] at e'
      cases e'
  · rcases hy with ⟨rr', u', e', _⟩ | ⟨_, pq', u', e2', b1, b2⟩
    · rw [e] at e'
      cases e'
    · have : pq = pq' := Option.some.inj (e2.symm.trans e2')
      subst this
      refine .inr ⟨x, y, _, _, rfl, rfl, .inl ⟨a1, b1⟩, rfl, (by show 2 ≤ 1000; decide), ds_two (ds_non _ _) ?_⟩
      exact .inr ⟨u, u', _, _, rfl, rfl, .inl ⟨a2, b2⟩, rfl, (by show 2 ≤ 1000; decide), ds_two (ds_int _ _ _) (ds_int _ _ _)⟩
theorem asc_len {n : Nat} : ∀ {l : List Nat} {b : Nat}, (b :: l).Pairwise (· < ·) → (b :: l).getLast? = some n → l.length + b ≤ n
  | [], b, _, h => by
    cases h
    exact Nat.le_of_eq (Nat.zero_add _)
  | c :: l, b, hp, hl => by
    have h1 := asc_len (l := l) (b := c) (List.Pairwise.of_cons hp) (by rw [List.getLast?_cons_cons] at hl; exact hl)
    have h2 := List.rel_of_pairwise_cons hp (List.mem_cons_self (a := c) (l := l))
    rw [List.length_cons]
    omega
theorem good_sys {r : Rw} {m : Ms} (mok : m.Ok) : Good r.n (SpM.resF (sysOf r m)) (SpM.resS (sysOf r m)) := ⟨fun rr h => SpM.sound (sys_ok mok) h, fun pq h => (SpM.stretch_ok (sys_ok mok)).1 pq h⟩
section
variable {P : Program} {w : World} {K : PySem.W.Frag} {mg : Str → Option Value} {base : Heap}
def spAg (K : PySem.W.Frag) : L2.Sp := fun vs H Q _ => ∃ (p c l : Addr) (r : Rw) (m : Ms) (ys : List V), vs = [.ref p, .ref c, .ref l] ∧ RowAt H p r ∧ r.Ok ∧ MsAt K H c m ∧ m.Ok ∧ H l = some (.lst ys) ∧ ys.length ≤ 100 ∧
  ∀ (H' : Hp) (x : Addr), But l H H' → AnsOff l H' x (SpM.resF (sysOf r m)) (SpM.resS (sysOf r m)) → H' l = some (.lst (ys ++ [.ref x])) → Q (.bl true) H'
theorem d_ag (T : Tx K mg) (Pl : Place P) : Df P w K mg base CX0 12 "_law_agree" (He.ga K "_law_agree") ["_law_row", "_law_measure", "_law_answers"] (spAg K) := by
  obtain ⟨fd, F⟩ := F_law_agree T.told
  refine ⟨⟨fd, ?_, F.binds fun _ _ _ _ _ _ us hl => match us, hl with | [_, _, _], _ => rfl⟩, F.kp, g_law_agree T⟩
  have DO : Df P w K mg base CX0 11 "_law_onward" (He.ga K "_law_onward") ["_law_row", "_law_measure"] (spWy K SpM.resF) := d_on T Pl
  have DB : Df P w K mg base CX0 11 "_law_backward" (He.ga K "_law_backward") ["_law_row", "_law_measure"] (spWy K SpM.resB) := d_bw T Pl
  have DS' : Df P w K mg base CX0 2 "_law_sound" (He.ga K "_law_sound") ["_law_answer", "_law_many"] spSd := d_sd T
  have DM : Df P w K mg base CX0 4 "_law_same" (He.ga K "_law_same") ["_law_one", "_law_two"] (spSm 4) := d_sm T 4
  have nd := sc_law_agree.nd
  refine F.ok sc_law_agree (fun vs H Q E h => ?_) (fun cdv A outer s0 H vs Q E hr h => ?_)
  · obtain ⟨p, c, l, r, m, ys, rfl, _⟩ := h
    rfl
  · obtain ⟨p, c, l, r, m, ys, rfl, hrow, ok, hm, mok, hl, hy, q⟩ := h
    have hr2 : Room 2 _ := hr.mono (by decide)
    have hr4 : Room 4 _ := hr.mono (by decide)
    refine ⟨_, pss_cons (ps_set (i := 3) nd rfl (.inl rfl) (pe_d DO hr (by rfl) (pa_cons (pv 0) (pa_cons (pv 1) pa_nil))))
      (pss_cons (ps_set (i := 4) nd rfl (.inl rfl) (pe_d DB hr (by rfl) (pa_cons (pv 0) (pa_cons (pv 1) pa_nil))))
      (pss_cons (ps_if (PW.pt (pw_or (pt_not (pt_val (pe_d DS' hr2 (by rfl) (pa_cons (pv 3) (pa_cons (pe_callB call_len_seq (by rfl) (z_len T) PySem.boot_len (pa_cons (pe_ix ix_tup (pv 0) pe_int (fun _ _ => rfl)) pa_nil)) pa_nil))))) (pw_or1 (pt_not (pt_val (pe_d DM hr4 (by rfl) (pa_cons (pv 3) (pa_cons (pv 4) pa_nil)))))))) pss_never pss_nil)
      (pss_cons (ps_expr (pe_bm PySem.F.plainAttrs_list PySem.F.slot_list_append PySem.F.type_list_append mt_append (pv 2) (pa_cons (pv 3) pa_nil)))
      (pss_one (ps_ret pe_bl))))), ?_⟩
    obtain ⟨aw, aj, as, h1, h2, h3, h4, h5⟩ := id hrow
    have hagree := SpM.agree (sys_ok mok) (sys_nd r m)
    have hstr := (SpM.stretch_ok (sys_ok (r := r) mok)).2
    refine ⟨_, rfl, _, rfl, p, c, r, m, rfl, hrow, ok, hm, mok, hstr, fun H1 x s1 n1 f1 a1 => ?_⟩
    refine ⟨_, rfl, _, rfl, p, c, r, m, rfl, hrow.same s1, ok, hm.same s1, mok, (fun z => hstr (hagree.trans z)), fun H2 y s2 n2 f2 a2 => ?_⟩
    rw [← hagree] at a2
    have s12 := s1.trans s2
    have gs := good_sys (r := r) mok
    refine ⟨_, rfl, _, rfl, p, _, _, .ref aw, rfl, rfl, SqT.of (s12 _ _ h1), rfl, aw, _, rfl, .inr (SqT.of (s12 _ _ h2)), x, _, r.n, _, _, rfl, ?_, a1.same s2, gs, _, rfl, iteF ?_⟩
    · rw [List.length_map]
      rfl
    refine ⟨_, rfl, _, rfl, .ref x, .ref y, rfl, ans_ds (a1.same s2) a2 ?_, _, rfl, iteF ?_⟩
    · intro rr hrr
      obtain ⟨_, g2, g3⟩ := gs.1 rr hrr
      have := asc_len g2 g3
      have : r.n ≤ 100 := ok.n
      omega
    have off : AnsOff l H2 x (SpM.resF (sysOf r m)) (SpM.resS (sysOf r m)) := by
      refine AnsOff.same ⟨a1, (fun z => by rw [z, hl] at n1; cases n1), fun u e z => ?_⟩ s2
      have := f1 u e
      rw [z, hl] at this
      cases this
    have hl2 := s12 _ _ hl
    refine ⟨_, rfl, .inl ⟨rfl, _, SqL.of hl2⟩, _, rfl, l, _, _, rfl, rfl, hl2, Nat.lt_of_le_of_lt hy (by decide), ?_⟩
    exact q _ x ((But.of s12).put) (off.but but_upd hl2) upd_same
/-! ### law -/
def spLaw (K : PySem.W.Frag) : L2.Sp := fun vs H Q _ => ∃ (a : Addr) (ns : List Int), vs = [.ref a] ∧ SqL K H a (ns.map V.int) ∧ ∀ H' : Hp, Q (.bl true) H'
theorem ok_law {fd : FuncData} (F : Fun K "law" "law" s_law (He.fAd K ("law", none)) fd) (T : Tx K mg) (Pl : Place P) : FnOk P w K mg base CX0 13 (He.ga K "law") fd ["_law_script"] (spLaw K) := by
  have DA : Df P w K mg base CX0 12 "_law_agree" (He.ga K "_law_agree") ["_law_row", "_law_measure", "_law_answers"] (spAg K) := d_ag T Pl
  have DP : Df P w K mg base CX0 1 "_law_pool" (He.ga K "_law_pool") ["_law_script", "_law_at"] (spPl K) := d_pl T
  have DB : Df P w K mg base CX0 3 "_law_bare" (He.ga K "_law_bare") ["_law_pool_here", "_law_least", "_law_often"] (spBa K) := d_ba T
  have DK : Df P w K mg base CX0 2 "_law_line_key" (He.ga K "_law_line_key") ["_law_pool_here", "_law_row"] (spLk K) := d_lk T
  have DM : Df P w K mg base CX0 4 "_law_same" (He.ga K "_law_same") ["_law_one", "_law_two"] (spSm 4) := d_sm T 4
  have DR : Df P w K mg base CX0 1 "_law_mirror" (He.ga K "_law_mirror") ["_law_row"] (spMr K) := d_mr T
  obtain ⟨fdo, FO, bO⟩ := ok_of (P := P) (w := w) (base := base) T
  obtain ⟨sm, cr⟩ := me_stat T
  have nd := sc_law.nd
  refine F.ok sc_law (fun vs H Q E h => ?_) (fun cdv A outer s0 H vs Q E hr h => ?_)
  · obtain ⟨a, ns, rfl, _⟩ := h
    rfl
  · obtain ⟨a, ns, rfl, ha, q⟩ := h
    have hr1 : Room 1 _ := hr.mono (by decide)
    have hr2 : Room 2 _ := hr.mono (by decide)
    have hr3 : Room 3 _ := hr.mono (by decide)
    have hr4 : Room 4 _ := hr.mono (by decide)
    refine ⟨_, pss_cons (ps_set (i := 1) nd rfl (.inl rfl) (pe_d DB hr3 (by rfl) (pa_cons (pe_d DP hr1 (by rfl) (pa_cons (pv 0) (pa_cons pe_int pa_nil))) (pa_cons pe_int (pa_cons pe_int pa_nil)))))
      (pss_cons (ps_set (i := 2) nd rfl (.inl rfl) (pe_d DK hr2 (by rfl) (pa_cons (pe_d DP hr1 (by rfl) (pa_cons (pv 0) (pa_cons pe_int pa_nil))) (pa_cons (pv 1) pa_nil))))
      (pss_cons (ps_set (i := 3) nd rfl (.inl rfl) (pe_static (pe_glob (v := .ref (aMe K)) (by rfl) (g_Measure T) rfl) cr sm FO hr3 bO pass0 (pa_cons (pv 2) pa_nil)))
      (pss_cons (ps_set (i := 4) nd rfl (.inl rfl) (pe_lst pa_nil))
      (pss_cons (ps_for PassesOwn.never rfl (pi_list (pe_lst (pa_cons (pv 1) (pa_cons (pe_d DR hr1 (by rfl) (pa_cons (pv 1) pa_nil)) (pa_cons (pv 1) pa_nil))))) (pg_name (i := 5) nd rfl (.inl rfl))
        (pss_one (ps_if (pt_not (pt_val (pe_d DA hr (by rfl) (pa_cons (pv 5) (pa_cons (pv 3) (pa_cons (pv 4) pa_nil)))))) pss_never pss_nil)))
      (pss_one (ps_ret (pe_d DM hr4 (by rfl) (pa_cons (pe_ix ix_list (pv 4) pe_int (fun _ _ => rfl)) (pa_cons (pe_ix ix_list (pv 4) pe_int (fun _ _ => rfl)) pa_nil))))))))), ?_⟩
    refine ⟨_, rfl, a, ns, _, 0, rfl, rfl, by decide, ha, fun H1 pl s1 n1 p1 => ⟨pl, rfl, p1, fun H2 p r B2 n2 hrow ok => ?_⟩⟩
    have s2 : Same H H2 := But.same s1 n1 B2
    refine ⟨_, rfl, a, ns, _, 1, rfl, rfl, by decide, s2.seq ha, fun H3 pl2 s3 n3 p3 => ⟨_, rfl, pl2, p, r, rfl, p3, hrow.same s3, ok, fun H4 k m B4 hk mok => ?_⟩⟩
    have s4 : Same H2 H4 := But.same s3 n3 B4
    refine ⟨rfl, _, rfl, k, m, rfl, hk, fun H5 me s5 n5 hm => ?_⟩
    refine ⟨Nat.zero_le _, fun al nal => ?_⟩
    have s6 := same_upd (o := .lst []) nal
    have hrow6 := hrow.same (s4.trans (s5.trans s6))
    refine ⟨_, rfl, _, rfl, p, r, rfl, hrow6, fun H7 p2 s7 hrow2 => ⟨_, rfl, (by show 3 ≤ sizeLine; decide), fun l nl => ?_⟩⟩
    have s8 := same_upd (o := .lst [.ref p, .ref p2, .ref p]) nl
    have hm8 : MsAt K (upd H7 l (.lst [.ref p, .ref p2, .ref p])) me m := hm.same (s6.trans (s7.trans s8))
    have hal8 := (s7.trans s8) _ _ (upd_same (H := H5) (a := al) (o := .lst []))
    have nal8 : me ≠ al := by
      obtain ⟨d, hd⟩ := hm
      exact ne_of_none hd nal
    have nll : l ≠ al := fun z => by rw [z, s7 _ _ upd_same] at nl; cases nl
    have hrows : ∀ (i : Nat) (x : V), [V.ref p, .ref p2, .ref p][i]? = some x → ∃ px, x = .ref px ∧ RowAt (upd H7 l (.lst [.ref p, .ref p2, .ref p])) px (if i = 1 then mirR r else r) ∧ (if i = 1 then mirR r else r).Ok
      | 0, x, e => by
        cases e
        exact ⟨p, rfl, hrow6.same (s7.trans s8), ok⟩
      | 1, x, e => by
        cases e
        exact ⟨p2, rfl, hrow2.same s8, mir_ok ok⟩
      | 2, x, e => by
        cases e
        exact ⟨p, rfl, hrow6.same (s7.trans s8), ok⟩
      | i + 3, x, e => by cases e
    refine ⟨l, rfl, ⟨_, SqL.of upd_same⟩, for_list (K := K) (a := l) (xs := [.ref p, .ref p2, .ref p]) (fun i σ H' => ∃ (v5 : Option V) (ys : List V), σ = [some (.ref a), some (.ref p), some (.ref k), some (.ref me), some (.ref al), v5] ∧ But al (upd H7 l (.lst [.ref p, .ref p2, .ref p])) H' ∧ H' al = some (.lst ys) ∧ ys.length = i ∧
      ∀ (j : Nat) (v : V), ys[j]? = some v → ∃ x, v = .ref x ∧ AnsOff al H' x (SpM.resF (sysOf (if j = 1 then mirR r else r) m)) (SpM.resS (sysOf (if j = 1 then mirR r else r) m))) ⟨none, [], rfl, But.refl _ _, hal8, rfl, fun j v e => by simp at e⟩ (fun i σ H' _ h => ?_) ?_ ?_⟩
    · obtain ⟨_, _, _, hB, _⟩ := h
      exact SqL.of (hB _ _ upd_same nll)
    · rintro i x σ H8 hi ⟨v5, ys, rfl, hB, hal, hlen, hys⟩
      have hi3 : i < 3 := (List.getElem?_eq_some_iff.mp hi).1
      obtain ⟨px, rfl, hr8, ok8⟩ := hrows i x hi
      refine ⟨_, rfl, _, rfl, _, rfl, px, me, al, _, m, ys, rfl, hr8.but hB hal8 (by intro _ z; cases z), ok8, hm8.but hB nal8, mok, hal, by omega, fun H9 x B9 A9 hl9 => ⟨_, rfl, iteF ?_⟩⟩
      refine ⟨_, ys ++ [.ref x], rfl, hB.trans B9, hl9, by rw [List.length_append, hlen]; rfl, fun j v e => ?_⟩
      rcases snoc_get e with e | ⟨e1, e2⟩
      · obtain ⟨y, rfl, hy⟩ := hys j v e
        exact ⟨y, rfl, hy.but B9 hal⟩
      · subst e2
        refine ⟨x, rfl, ?_⟩
        rw [e1, hlen]
        exact A9
    · rintro σ H8 ⟨v5, ys, rfl, hB, hal, hlen, hys⟩
      have hlen : ys.length = 3 := hlen
      have g0 := List.getElem?_eq_getElem (show 0 < ys.length by omega)
      have g2 := List.getElem?_eq_getElem (show 2 < ys.length by omega)
      obtain ⟨x0, e0, A0⟩ := hys 0 _ g0
      obtain ⟨x2, e2, A2⟩ := hys 2 _ g2
      rw [e0] at g0
      rw [e2] at g2
      refine ⟨_, rfl, al, _, _, .ref x0, rfl, rfl, SqL.of hal, at_of rfl g0, _, rfl, al, _, _, .ref x2, rfl, rfl, SqL.of hal, at_of rfl g2, .ref x0, .ref x2, rfl, ans_ds A0.1 A2.1 ?_, q _⟩
      intro rr hrr
      obtain ⟨_, h2, h3⟩ := (good_sys (r := r) mok).1 rr hrr
      have := asc_len h2 h3
      have : r.n ≤ 100 := ok.n
      omega
end
end Sp
set_option maxRecDepth 100000
set_option maxHeartbeats 8000000
/-! The end. -/
namespace Sp
open PySem PySem.Spec PyProof.Rows L2
theorem facts_law {P : Program} {w : World} {K : PySem.W.Frag} {h : Heap} {mg : Str → Option Value} {f : Addr} (Pl : Place P) (X : K.In h) (G : h.Ns mainGlobals mg) (hfa : mg ("law" : Str) = some (.ref f)) (c : Told K) :
    ∃ fd : FuncData, (∀ (s : Shared) (v : Value), BindsTo s fd ⟨[v], []⟩ [("_law_script", v)]) ∧ ∀ base : Heap, K.In base → base.Ns mainGlobals mg → FnOk P w K mg base CX0 13 f fd ["_law_script"] (spLaw K) := by
  have T : Tx K mg := ⟨c, fun x h => He.glo_ok X G h, fun x h => He.free_ok X G h⟩
  obtain ⟨fd, F⟩ := F_law c
  have e := hfa.symm.trans (g_law T)
  cases e
  have b : Binds K fd ["_law_script"] [] := F.binds fun _ _ _ _ _ _ us hl => match us, hl with | [_], _ => rfl
  refine ⟨fd, fun s v => ?_, fun base _ _ => ok_law F T Pl⟩
  obtain ⟨oc, od, kV, doc, pm, an, cdv, ct, osl, rfl, _, _⟩ := F.ex
  exact .of_eq rfl
theorem place : Place (PySem.Challenge.rw_stylepages_k57_whole_two_ways_of_lines).prog := ⟨by decide +kernel, by decide +kernel⟩
end Sp
open PySem PySem.W PySem.Calls PyProof.Rows
theorem PySem.Challenge.cw_stylepages_k57_whole_two_ways_of_lines_holds : PySem.Challenge.rw_stylepages_k57_whole_two_ways_of_lines.Holds := by
  w_on; o_law
  refine HandSHeadRun.head_any (r := OpenLaw.row PySem.Challenge.rw_stylepages_k57_whole_two_ways_of_lines) (q := view (OpenLaw.row PySem.Challenge.rw_stylepages_k57_whole_two_ways_of_lines).prog [51]) (H := Sp.hk) (ob := Sp.ob) (M := 4000) (loose := Sp.loose) (d := HandSHeadRun.topDef (OpenLaw.row PySem.Challenge.rw_stylepages_k57_whole_two_ways_of_lines).prog 51) (kwd := []) Sp.ob_eq
    (by kernel_rfl) (fun s => by kernel_rfl) Sp.run (by kernel_rfl) (by kernel_rfl) (by kernel_rfl) (by rfl) (by first | assumption | decide +kernel) (by decide +kernel) ⟨rfl, rfl, rfl, rfl, rfl, by decide +kernel⟩ ?hw ?hc
  case hw => w_witness2
  case hc =>
    refine L2.walk_ofE (l := PySem.Challenge.rw_stylepages_k57_whole_two_ways_of_lines) (n := 63) (k := 13) (x := "_law_script") (CX := L2.CX0) rfl (by decide) (by kernel_rfl) ⟨rfl, by decide, by decide⟩ ?F (fun _ _ _ _ z => z)
    intro w mg fa h Y G hmg0
    obtain ⟨K, KX, c⟩ := Y
    have hmg : mg ("law" : PySem.Str) = some (.ref fa) := by
      have e : (HandSHeadRun.topDef (OpenLaw.row PySem.Challenge.rw_stylepages_k57_whole_two_ways_of_lines).prog 51).name = ("law" : PySem.Str) := by kernel_rfl
      rw [← e]
      exact hmg0
    obtain ⟨fd, hb, hF⟩ := Sp.facts_law (P := (PySem.Challenge.rw_stylepages_k57_whole_two_ways_of_lines).prog) (w := w) Sp.place KX G hmg c
    exact ⟨K, fd, Sp.spLaw K, KX, hb, fun H a ns hl _ hS => ⟨a, ns, rfl, hS, fun _ => rfl⟩, hF⟩
