import PyProof.Rows.All
import Wide.All
import OpenK.AllK
import Wide.FinOn
import KE.KStateDown
import KE.DataEq
import Lean
import HandS.ForMost
import HandS.Defaults
import HandS.IsInst
import HandS.TupAny
import KE.DataMinMax
import KE.KeyNested
import HandS.WordsDict
import HandS.Small
import KE.KDictPairs
import HandS.Deep
import HandS.Conv
import HandS.SortInts
import HandS.SortRule
import HandS.SetFor
import HandS.SetKeys
import HandS.HeadHook2
import KE.KDictCopyH
import HandS.TryOnly
import HandS.Exc
import HandS.WordsExc
import HandS.Head0
import HandS.Head1
import HandS.Head2
import HandS.HeadEnd
import HandS.HeadHook1
import PySem.Challenge.RW_stillsealed_k46_whole_every_set_has_an_o
set_option Elab.async false
set_option linter.all false
set_option maxRecDepth 100000
namespace SS
open PySem PySem.Spec L2
section
open He
def tbB (tb : List (Str × List Int)) (K : PySem.W.Frag) : Bool := tb.all fun q => tupB K q.1 (q.2.map Dv.int)
abbrev AlE : Type := AlD × Bool
def obsEG (n : Nat) (fa : List Fa) (fn : List DefD) (tb : List (Str × List Int)) (g : Addr → Option Obj) : AlE := (obsDG n fa fn g, tbB tb (frG g (asD g n)))
def valE (fn : List DefD) : AlE := (valD fn, true)
structure SaysE (fa : List Fa) (fn : List DefD) (tb : List (Str × List Int)) (K : PySem.W.Frag) : Prop where
  d : SaysD fa fn K
  t : tbB tb K = true
def hookE (n : Nat) (fa : List Fa) (fn : List DefD) (tb : List (Str × List Int)) : PySem.W.Hook where
  α := AlE
  obs := fun s => obsEG n fa fn tb s.heap.get?
  val := fun _ => valE fn
  says := fun _ h => ∃ K : PySem.W.Frag, K.In h ∧ SaysE fa fn tb K
  of := fun _ _ e => ⟨_, frG_in, congrArg (fun z : AlE => z.1) e, congrArg (fun z : AlE => z.2) e⟩
  keeps := fun _ _ _ ⟨K, hK, c⟩ k => ⟨K, PySem.W.Frag.In.keeps hK k, c⟩
theorem obsEG_eq {n : Nat} {fa : List Fa} {fn : List DefD} {tb : List (Str × List Int)} {g : Addr → Option Obj} {s : Shared} (h : ∀ a, g a = s.heap.get? a) : obsEG n fa fn tb g = (hookE n fa fn tb).obs s := by
  have e : g = s.heap.get? := funext h
  rw [e] <;> rfl
theorem SaysE.tup {fa : List Fa} {fn : List DefD} {tb : List (Str × List Int)} {K : PySem.W.Frag} (c : SaysE fa fn tb K) (i : Nat) {x : Str} {is : List Int} (h : tb[i]? = some (x, is) := by rfl) (H : Hp) : SqT K H (ga K x) (is.map V.int) := by
  have c1 := List.all_eq_true.mp c.t (x, is) (List.mem_of_getElem? h)
  have := tupB_ok c1 H
  rw [List.map_map] at this
  exact this
end
end SS
set_option Elab.async false
set_option linter.all false
set_option maxRecDepth 100000
set_option maxHeartbeats 0
namespace KK
open PySem PySem.Spec PyProof.Rows L2
def top (i : Nat) : Stmt := PySem.Challenge.pw_stillsealed_k46_whole_every_set_has_an_o.main.body.getD i (.Pass ⟨0, 0, 0, 0⟩)
abbrev s_TooMany___init__ : Stmt := inClass (top 3) 0
abbrev s_BadSpace___init__ : Stmt := inClass (top 4) 0
abbrev s_BadForm___init__ : Stmt := inClass (top 5) 0
abbrev s_BadBook___init__ : Stmt := inClass (top 6) 0
abbrev s_BadFields___init__ : Stmt := inClass (top 7) 0
abbrev s_BadOrder___init__ : Stmt := inClass (top 8) 0
abbrev s_same_due : Stmt := top 10
abbrev s_needs : Stmt := top 11
abbrev s_mask_of : Stmt := top 14
abbrev s_is_row : Stmt := top 15
abbrev s_CaseView___init__ : Stmt := inClass (top 16) 0
abbrev s_CaseView_width : Stmt := inClass (top 16) 1
abbrev s_CaseView_hangs : Stmt := inClass (top 16) 2
abbrev s_some_hangs : Stmt := top 17
abbrev s_greatest_knot : Stmt := top 19
abbrev s_least_row : Stmt := top 20
abbrev s_next_field : Stmt := top 21
abbrev s_knot : Stmt := top 22
abbrev s_order_for : Stmt := top 23
abbrev s_judge_knot : Stmt := top 24
abbrev s_bound_sizes : Stmt := top 29
abbrev s_forms_over : Stmt := top 30
abbrev s_Space___init__ : Stmt := inClass (top 31) 0
abbrev s_Space___eq__ : Stmt := inClass (top 31) 1
abbrev s_Space___len__ : Stmt := inClass (top 31) 2
abbrev s_Space___iter__ : Stmt := inClass (top 31) 3
abbrev s_Space_width : Stmt := inClass (top 31) 4
abbrev s_Space_sizes : Stmt := inClass (top 31) 5
abbrev s_Space_size : Stmt := inClass (top 31) 6
abbrev s_Space_many : Stmt := inClass (top 31) 7
abbrev s_Space_forms : Stmt := inClass (top 31) 8
abbrev s_Space_step_of : Stmt := inClass (top 31) 9
abbrev s_Space_number_of : Stmt := inClass (top 31) 10
abbrev s_Space_need_form : Stmt := inClass (top 31) 17
abbrev s_Space_need_field : Stmt := inClass (top 31) 18
abbrev s_Space_need_fields : Stmt := inClass (top 31) 19
abbrev s_Space_need_order : Stmt := inClass (top 31) 22
abbrev s_bound_dues : Stmt := top 34
abbrev s_Book___init__ : Stmt := inClass (top 35) 0
abbrev s_Book___eq__ : Stmt := inClass (top 35) 1
abbrev s_Book_space : Stmt := inClass (top 35) 2
abbrev s_Book_dues : Stmt := inClass (top 35) 3
abbrev s_Book_due : Stmt := inClass (top 35) 4
abbrev s_opened_row : Stmt := top 37
abbrev s_opened : Stmt := top 38
abbrev s_judge_order : Stmt := top 39
abbrev s__law_begin : Stmt := top 41
abbrev s__law_below : Stmt := top 42
abbrev s__law_shuffled : Stmt := top 43
abbrev s__law_sizes : Stmt := top 44
abbrev s__law_forms : Stmt := top 45
abbrev s__law_steps : Stmt := top 46
abbrev s__law_boxes_laid : Stmt := top 47
abbrev s__law_asked : Stmt := top 48
abbrev s__law_figure : Stmt := top 49
abbrev s__law_dues : Stmt := top 50
abbrev s__law_loud : Stmt := top 51
abbrev s__law_files : Stmt := top 52
abbrev s__law_box : Stmt := top 53
abbrev s__law_file : Stmt := top 54
abbrev s__law_world : Stmt := top 55
abbrev s__law_drawn_world : Stmt := top 56
abbrev s__law_orders : Stmt := top 57
abbrev s__law_subsets : Stmt := top 58
abbrev s__law_opened : Stmt := top 59
abbrev s__law_book : Stmt := top 60
abbrev s__law_case : Stmt := top 61
abbrev s__law_and_case : Stmt := top 62
abbrev s__law_ints : Stmt := top 63
abbrev s__law_pair : Stmt := top 64
abbrev s__law_rows_of : Stmt := top 65
abbrev s__law_parts : Stmt := top 66
abbrev s__law_hang : Stmt := top 67
abbrev s__law_opens : Stmt := top 68
abbrev s__law_is_knot : Stmt := top 69
abbrev s__law_great : Stmt := top 70
abbrev s__law_off_case : Stmt := top 71
abbrev s__law_switch_case : Stmt := top 72
abbrev s__law_taken_away : Stmt := top 73
abbrev s__law_knot_right : Stmt := top 74
abbrev s__law_row_right : Stmt := top 75
abbrev s__law_sets_right : Stmt := top 76
abbrev s__law_rows_right : Stmt := top 77
abbrev s_law : Stmt := top 78
def d_TooMany___init__ : He.DefD := ⟨("TooMany", some "__init__"), "__init__", "TooMany.__init__", defArgs s_TooMany___init__, defBody s_TooMany___init__, defScope s_TooMany___init__, [], []⟩
def d_BadSpace___init__ : He.DefD := ⟨("BadSpace", some "__init__"), "__init__", "BadSpace.__init__", defArgs s_BadSpace___init__, defBody s_BadSpace___init__, defScope s_BadSpace___init__, [], []⟩
def d_BadForm___init__ : He.DefD := ⟨("BadForm", some "__init__"), "__init__", "BadForm.__init__", defArgs s_BadForm___init__, defBody s_BadForm___init__, defScope s_BadForm___init__, [], []⟩
def d_BadBook___init__ : He.DefD := ⟨("BadBook", some "__init__"), "__init__", "BadBook.__init__", defArgs s_BadBook___init__, defBody s_BadBook___init__, defScope s_BadBook___init__, [], []⟩
def d_BadFields___init__ : He.DefD := ⟨("BadFields", some "__init__"), "__init__", "BadFields.__init__", defArgs s_BadFields___init__, defBody s_BadFields___init__, defScope s_BadFields___init__, [], []⟩
def d_BadOrder___init__ : He.DefD := ⟨("BadOrder", some "__init__"), "__init__", "BadOrder.__init__", defArgs s_BadOrder___init__, defBody s_BadOrder___init__, defScope s_BadOrder___init__, [], []⟩
def d_same_due : He.DefD := ⟨("same_due", none), "same_due", "same_due", defArgs s_same_due, defBody s_same_due, defScope s_same_due, [], []⟩
def d_needs : He.DefD := ⟨("needs", none), "needs", "needs", defArgs s_needs, defBody s_needs, defScope s_needs, [], []⟩
def d_mask_of : He.DefD := ⟨("mask_of", none), "mask_of", "mask_of", defArgs s_mask_of, defBody s_mask_of, defScope s_mask_of, [], []⟩
def d_is_row : He.DefD := ⟨("is_row", none), "is_row", "is_row", defArgs s_is_row, defBody s_is_row, defScope s_is_row, [], []⟩
def d_CaseView___init__ : He.DefD := ⟨("CaseView", some "__init__"), "__init__", "CaseView.__init__", defArgs s_CaseView___init__, defBody s_CaseView___init__, defScope s_CaseView___init__, [], []⟩
def d_CaseView_width : He.DefD := ⟨("CaseView", some "width"), "width", "CaseView.width", defArgs s_CaseView_width, defBody s_CaseView_width, defScope s_CaseView_width, [], []⟩
def d_CaseView_hangs : He.DefD := ⟨("CaseView", some "hangs"), "hangs", "CaseView.hangs", defArgs s_CaseView_hangs, defBody s_CaseView_hangs, defScope s_CaseView_hangs, [], []⟩
def d_some_hangs : He.DefD := ⟨("some_hangs", none), "some_hangs", "some_hangs", defArgs s_some_hangs, defBody s_some_hangs, defScope s_some_hangs, [], []⟩
def d_greatest_knot : He.DefD := ⟨("greatest_knot", none), "greatest_knot", "greatest_knot", defArgs s_greatest_knot, defBody s_greatest_knot, defScope s_greatest_knot, [], []⟩
def d_least_row : He.DefD := ⟨("least_row", none), "least_row", "least_row", defArgs s_least_row, defBody s_least_row, defScope s_least_row, [], []⟩
def d_next_field : He.DefD := ⟨("next_field", none), "next_field", "next_field", defArgs s_next_field, defBody s_next_field, defScope s_next_field, [], []⟩
def d_knot : He.DefD := ⟨("knot", none), "knot", "knot", defArgs s_knot, defBody s_knot, defScope s_knot, [], []⟩
def d_order_for : He.DefD := ⟨("order_for", none), "order_for", "order_for", defArgs s_order_for, defBody s_order_for, defScope s_order_for, [], []⟩
def d_judge_knot : He.DefD := ⟨("judge_knot", none), "judge_knot", "judge_knot", defArgs s_judge_knot, defBody s_judge_knot, defScope s_judge_knot, [], []⟩
def d_bound_sizes : He.DefD := ⟨("bound_sizes", none), "bound_sizes", "bound_sizes", defArgs s_bound_sizes, defBody s_bound_sizes, defScope s_bound_sizes, [], []⟩
def d_forms_over : He.DefD := ⟨("forms_over", none), "forms_over", "forms_over", defArgs s_forms_over, defBody s_forms_over, defScope s_forms_over, [], []⟩
def d_Space___init__ : He.DefD := ⟨("Space", some "__init__"), "__init__", "Space.__init__", defArgs s_Space___init__, defBody s_Space___init__, defScope s_Space___init__, [], []⟩
def d_Space___eq__ : He.DefD := ⟨("Space", some "__eq__"), "__eq__", "Space.__eq__", defArgs s_Space___eq__, defBody s_Space___eq__, defScope s_Space___eq__, [], []⟩
def d_Space___len__ : He.DefD := ⟨("Space", some "__len__"), "__len__", "Space.__len__", defArgs s_Space___len__, defBody s_Space___len__, defScope s_Space___len__, [], []⟩
def d_Space___iter__ : He.DefD := ⟨("Space", some "__iter__"), "__iter__", "Space.__iter__", defArgs s_Space___iter__, defBody s_Space___iter__, defScope s_Space___iter__, [], []⟩
def d_Space_width : He.DefD := ⟨("Space", some "width"), "width", "Space.width", defArgs s_Space_width, defBody s_Space_width, defScope s_Space_width, [], []⟩
def d_Space_sizes : He.DefD := ⟨("Space", some "sizes"), "sizes", "Space.sizes", defArgs s_Space_sizes, defBody s_Space_sizes, defScope s_Space_sizes, [], []⟩
def d_Space_size : He.DefD := ⟨("Space", some "size"), "size", "Space.size", defArgs s_Space_size, defBody s_Space_size, defScope s_Space_size, [], []⟩
def d_Space_many : He.DefD := ⟨("Space", some "many"), "many", "Space.many", defArgs s_Space_many, defBody s_Space_many, defScope s_Space_many, [], []⟩
def d_Space_forms : He.DefD := ⟨("Space", some "forms"), "forms", "Space.forms", defArgs s_Space_forms, defBody s_Space_forms, defScope s_Space_forms, [], []⟩
def d_Space_step_of : He.DefD := ⟨("Space", some "step_of"), "step_of", "Space.step_of", defArgs s_Space_step_of, defBody s_Space_step_of, defScope s_Space_step_of, [], []⟩
def d_Space_number_of : He.DefD := ⟨("Space", some "number_of"), "number_of", "Space.number_of", defArgs s_Space_number_of, defBody s_Space_number_of, defScope s_Space_number_of, [], []⟩
def d_Space_need_form : He.DefD := ⟨("Space", some "need_form"), "need_form", "Space.need_form", defArgs s_Space_need_form, defBody s_Space_need_form, defScope s_Space_need_form, [], []⟩
def d_Space_need_field : He.DefD := ⟨("Space", some "need_field"), "need_field", "Space.need_field", defArgs s_Space_need_field, defBody s_Space_need_field, defScope s_Space_need_field, [], []⟩
def d_Space_need_fields : He.DefD := ⟨("Space", some "need_fields"), "need_fields", "Space.need_fields", defArgs s_Space_need_fields, defBody s_Space_need_fields, defScope s_Space_need_fields, [], []⟩
def d_Space_need_order : He.DefD := ⟨("Space", some "need_order"), "need_order", "Space.need_order", defArgs s_Space_need_order, defBody s_Space_need_order, defScope s_Space_need_order, [], []⟩
def d_bound_dues : He.DefD := ⟨("bound_dues", none), "bound_dues", "bound_dues", defArgs s_bound_dues, defBody s_bound_dues, defScope s_bound_dues, [], []⟩
def d_Book___init__ : He.DefD := ⟨("Book", some "__init__"), "__init__", "Book.__init__", defArgs s_Book___init__, defBody s_Book___init__, defScope s_Book___init__, [], []⟩
def d_Book___eq__ : He.DefD := ⟨("Book", some "__eq__"), "__eq__", "Book.__eq__", defArgs s_Book___eq__, defBody s_Book___eq__, defScope s_Book___eq__, [], []⟩
def d_Book_space : He.DefD := ⟨("Book", some "space"), "space", "Book.space", defArgs s_Book_space, defBody s_Book_space, defScope s_Book_space, [], []⟩
def d_Book_dues : He.DefD := ⟨("Book", some "dues"), "dues", "Book.dues", defArgs s_Book_dues, defBody s_Book_dues, defScope s_Book_dues, [], []⟩
def d_Book_due : He.DefD := ⟨("Book", some "due"), "due", "Book.due", defArgs s_Book_due, defBody s_Book_due, defScope s_Book_due, [], []⟩
def d_opened_row : He.DefD := ⟨("opened_row", none), "opened_row", "opened_row", defArgs s_opened_row, defBody s_opened_row, defScope s_opened_row, [], []⟩
def d_opened : He.DefD := ⟨("opened", none), "opened", "opened", defArgs s_opened, defBody s_opened, defScope s_opened, [], []⟩
def d_judge_order : He.DefD := ⟨("judge_order", none), "judge_order", "judge_order", defArgs s_judge_order, defBody s_judge_order, defScope s_judge_order, [], []⟩
def d__law_begin : He.DefD := ⟨("_law_begin", none), "_law_begin", "_law_begin", defArgs s__law_begin, defBody s__law_begin, defScope s__law_begin, [], []⟩
def d__law_below : He.DefD := ⟨("_law_below", none), "_law_below", "_law_below", defArgs s__law_below, defBody s__law_below, defScope s__law_below, [], []⟩
def d__law_shuffled : He.DefD := ⟨("_law_shuffled", none), "_law_shuffled", "_law_shuffled", defArgs s__law_shuffled, defBody s__law_shuffled, defScope s__law_shuffled, [], []⟩
def d__law_sizes : He.DefD := ⟨("_law_sizes", none), "_law_sizes", "_law_sizes", defArgs s__law_sizes, defBody s__law_sizes, defScope s__law_sizes, [], []⟩
def d__law_forms : He.DefD := ⟨("_law_forms", none), "_law_forms", "_law_forms", defArgs s__law_forms, defBody s__law_forms, defScope s__law_forms, [], []⟩
def d__law_steps : He.DefD := ⟨("_law_steps", none), "_law_steps", "_law_steps", defArgs s__law_steps, defBody s__law_steps, defScope s__law_steps, [], []⟩
def d__law_boxes_laid : He.DefD := ⟨("_law_boxes_laid", none), "_law_boxes_laid", "_law_boxes_laid", defArgs s__law_boxes_laid, defBody s__law_boxes_laid, defScope s__law_boxes_laid, [], []⟩
def d__law_asked : He.DefD := ⟨("_law_asked", none), "_law_asked", "_law_asked", defArgs s__law_asked, defBody s__law_asked, defScope s__law_asked, [], []⟩
def d__law_figure : He.DefD := ⟨("_law_figure", none), "_law_figure", "_law_figure", defArgs s__law_figure, defBody s__law_figure, defScope s__law_figure, [], []⟩
def d__law_dues : He.DefD := ⟨("_law_dues", none), "_law_dues", "_law_dues", defArgs s__law_dues, defBody s__law_dues, defScope s__law_dues, [], []⟩
def d__law_loud : He.DefD := ⟨("_law_loud", none), "_law_loud", "_law_loud", defArgs s__law_loud, defBody s__law_loud, defScope s__law_loud, [], []⟩
def d__law_files : He.DefD := ⟨("_law_files", none), "_law_files", "_law_files", defArgs s__law_files, defBody s__law_files, defScope s__law_files, [], []⟩
def d__law_box : He.DefD := ⟨("_law_box", none), "_law_box", "_law_box", defArgs s__law_box, defBody s__law_box, defScope s__law_box, [], []⟩
def d__law_file : He.DefD := ⟨("_law_file", none), "_law_file", "_law_file", defArgs s__law_file, defBody s__law_file, defScope s__law_file, [], []⟩
def d__law_world : He.DefD := ⟨("_law_world", none), "_law_world", "_law_world", defArgs s__law_world, defBody s__law_world, defScope s__law_world, [], []⟩
def d__law_drawn_world : He.DefD := ⟨("_law_drawn_world", none), "_law_drawn_world", "_law_drawn_world", defArgs s__law_drawn_world, defBody s__law_drawn_world, defScope s__law_drawn_world, [], []⟩
def d__law_orders : He.DefD := ⟨("_law_orders", none), "_law_orders", "_law_orders", defArgs s__law_orders, defBody s__law_orders, defScope s__law_orders, [], []⟩
def d__law_subsets : He.DefD := ⟨("_law_subsets", none), "_law_subsets", "_law_subsets", defArgs s__law_subsets, defBody s__law_subsets, defScope s__law_subsets, [], []⟩
def d__law_opened : He.DefD := ⟨("_law_opened", none), "_law_opened", "_law_opened", defArgs s__law_opened, defBody s__law_opened, defScope s__law_opened, [], []⟩
def d__law_book : He.DefD := ⟨("_law_book", none), "_law_book", "_law_book", defArgs s__law_book, defBody s__law_book, defScope s__law_book, [], []⟩
def d__law_case : He.DefD := ⟨("_law_case", none), "_law_case", "_law_case", defArgs s__law_case, defBody s__law_case, defScope s__law_case, [], []⟩
def d__law_and_case : He.DefD := ⟨("_law_and_case", none), "_law_and_case", "_law_and_case", defArgs s__law_and_case, defBody s__law_and_case, defScope s__law_and_case, [], []⟩
def d__law_ints : He.DefD := ⟨("_law_ints", none), "_law_ints", "_law_ints", defArgs s__law_ints, defBody s__law_ints, defScope s__law_ints, [], []⟩
def d__law_pair : He.DefD := ⟨("_law_pair", none), "_law_pair", "_law_pair", defArgs s__law_pair, defBody s__law_pair, defScope s__law_pair, [], []⟩
def d__law_rows_of : He.DefD := ⟨("_law_rows_of", none), "_law_rows_of", "_law_rows_of", defArgs s__law_rows_of, defBody s__law_rows_of, defScope s__law_rows_of, [], []⟩
def d__law_parts : He.DefD := ⟨("_law_parts", none), "_law_parts", "_law_parts", defArgs s__law_parts, defBody s__law_parts, defScope s__law_parts, [], []⟩
def d__law_hang : He.DefD := ⟨("_law_hang", none), "_law_hang", "_law_hang", defArgs s__law_hang, defBody s__law_hang, defScope s__law_hang, [], []⟩
def d__law_opens : He.DefD := ⟨("_law_opens", none), "_law_opens", "_law_opens", defArgs s__law_opens, defBody s__law_opens, defScope s__law_opens, [], []⟩
def d__law_is_knot : He.DefD := ⟨("_law_is_knot", none), "_law_is_knot", "_law_is_knot", defArgs s__law_is_knot, defBody s__law_is_knot, defScope s__law_is_knot, [], []⟩
def d__law_great : He.DefD := ⟨("_law_great", none), "_law_great", "_law_great", defArgs s__law_great, defBody s__law_great, defScope s__law_great, [], []⟩
def d__law_off_case : He.DefD := ⟨("_law_off_case", none), "_law_off_case", "_law_off_case", defArgs s__law_off_case, defBody s__law_off_case, defScope s__law_off_case, [], []⟩
def d__law_switch_case : He.DefD := ⟨("_law_switch_case", none), "_law_switch_case", "_law_switch_case", defArgs s__law_switch_case, defBody s__law_switch_case, defScope s__law_switch_case, [], []⟩
def d__law_taken_away : He.DefD := ⟨("_law_taken_away", none), "_law_taken_away", "_law_taken_away", defArgs s__law_taken_away, defBody s__law_taken_away, defScope s__law_taken_away, [], []⟩
def d__law_knot_right : He.DefD := ⟨("_law_knot_right", none), "_law_knot_right", "_law_knot_right", defArgs s__law_knot_right, defBody s__law_knot_right, defScope s__law_knot_right, [], []⟩
def d__law_row_right : He.DefD := ⟨("_law_row_right", none), "_law_row_right", "_law_row_right", defArgs s__law_row_right, defBody s__law_row_right, defScope s__law_row_right, [], []⟩
def d__law_sets_right : He.DefD := ⟨("_law_sets_right", none), "_law_sets_right", "_law_sets_right", defArgs s__law_sets_right, defBody s__law_sets_right, defScope s__law_sets_right, [], []⟩
def d__law_rows_right : He.DefD := ⟨("_law_rows_right", none), "_law_rows_right", "_law_rows_right", defArgs s__law_rows_right, defBody s__law_rows_right, defScope s__law_rows_right, [], []⟩
def d_law : He.DefD := ⟨("law", none), "law", "law", defArgs s_law, defBody s_law, defScope s_law, [], []⟩
def fn : List He.DefD := [d_TooMany___init__, d_BadSpace___init__, d_BadForm___init__, d_BadBook___init__, d_BadFields___init__, d_BadOrder___init__, d_same_due, d_needs, d_mask_of, d_is_row, d_CaseView___init__, d_CaseView_width, d_CaseView_hangs, d_some_hangs, d_greatest_knot, d_least_row, d_next_field, d_knot, d_order_for, d_judge_knot, d_bound_sizes, d_forms_over, d_Space___init__, d_Space___eq__, d_Space___len__, d_Space___iter__, d_Space_width, d_Space_sizes, d_Space_size, d_Space_many, d_Space_forms, d_Space_step_of, d_Space_number_of, d_Space_need_form, d_Space_need_field, d_Space_need_fields, d_Space_need_order, d_bound_dues, d_Book___init__, d_Book___eq__, d_Book_space, d_Book_dues, d_Book_due, d_opened_row, d_opened, d_judge_order, d__law_begin, d__law_below, d__law_shuffled, d__law_sizes, d__law_forms, d__law_steps, d__law_boxes_laid, d__law_asked, d__law_figure, d__law_dues, d__law_loud, d__law_files, d__law_box, d__law_file, d__law_world, d__law_drawn_world, d__law_orders, d__law_subsets, d__law_opened, d__law_book, d__law_case, d__law_and_case, d__law_ints, d__law_pair, d__law_rows_of, d__law_parts, d__law_hang, d__law_opens, d__law_is_knot, d__law_great, d__law_off_case, d__law_switch_case, d__law_taken_away, d__law_knot_right, d__law_row_right, d__law_sets_right, d__law_rows_right, d_law]
def fa : List He.Fa := [.glo "SealedError", .glo "TooMany", .glo "BadSpace", .glo "BadForm", .glo "BadBook", .glo "BadFields", .glo "BadOrder", .glo "same_due", .glo "needs", .glo "mask_of", .glo "is_row", .glo "CaseView", .glo "some_hangs", .glo "greatest_knot", .glo "least_row", .glo "next_field", .glo "knot", .glo "order_for", .glo "judge_knot", .glo "bound_sizes", .glo "forms_over", .glo "Space", .glo "bound_dues", .glo "Book", .glo "opened_row", .glo "opened", .glo "judge_order", .glo "_law_begin", .glo "_law_below", .glo "_law_shuffled", .glo "_law_sizes", .glo "_law_forms", .glo "_law_steps", .glo "_law_boxes_laid", .glo "_law_asked", .glo "_law_figure", .glo "_law_dues", .glo "_law_loud", .glo "_law_files", .glo "_law_box", .glo "_law_file", .glo "_law_world", .glo "_law_drawn_world", .glo "_law_orders", .glo "_law_subsets", .glo "_law_opened", .glo "_law_book", .glo "_law_case", .glo "_law_and_case", .glo "_law_ints", .glo "_law_pair", .glo "_law_rows_of", .glo "_law_parts", .glo "_law_hang", .glo "_law_opens", .glo "_law_is_knot", .glo "_law_great", .glo "_law_off_case", .glo "_law_switch_case", .glo "_law_taken_away", .glo "_law_knot_right", .glo "_law_row_right", .glo "_law_sets_right", .glo "_law_rows_right", .glo "law", .free "len", .free "max", .free "min", .free "range", .free "isinstance", .free "list", .free "tuple", .free "int", .free "abs", .free "bool", .free "all", .free "any", .free "sorted", .free "dict", .free "sum", .free "iter", .int "MOST_FIELDS" 8, .int "MOST_VALUES" 9, .int "MOST_FORMS" 1296, .int "MOST_DUE" 1000000000, .cls "CaseView", .mkr "CaseView", .noat "CaseView" "kept_width", .noat "CaseView" "kept_meets", .meth "CaseView" "width", .meth "CaseView" "hangs", .cls "Space", .mkr "Space", .noat "Space" "kept_sizes", .noat "Space" "kept_forms", .noat "Space" "kept_steps", .meth "Space" "__eq__", .meth "Space" "__len__", .meth "Space" "__iter__", .meth "Space" "width", .meth "Space" "sizes", .meth "Space" "size", .meth "Space" "many", .meth "Space" "forms", .meth "Space" "step_of", .meth "Space" "number_of", .meth "Space" "need_form", .meth "Space" "need_field", .meth "Space" "need_fields", .meth "Space" "need_order", .cls "Book", .mkr "Book", .noat "Book" "kept_space", .noat "Book" "kept_dues", .meth "Book" "__eq__", .meth "Book" "space", .meth "Book" "dues", .meth "Book" "due", .glo "BITS"]
def loose0 : List PySem.Str := ["_wall", "__name__", "SealedError", "TooMany", "BadSpace", "BadForm", "BadBook", "BadFields", "BadOrder", "same_due", "needs", "BITS", "mask_of", "is_row", "CaseView", "some_hangs", "greatest_knot", "least_row", "next_field", "knot", "order_for", "judge_knot", "MOST_FIELDS", "MOST_VALUES", "MOST_FORMS", "bound_sizes", "forms_over", "Space", "MOST_DUE", "bound_dues"]
def loose1 : List PySem.Str := ["Book", "opened_row", "opened", "judge_order", "_law_begin", "_law_below", "_law_shuffled", "_law_sizes", "_law_forms", "_law_steps", "_law_boxes_laid", "_law_asked", "_law_figure", "_law_dues", "_law_loud", "_law_files", "_law_box", "_law_file", "_law_world", "_law_drawn_world", "_law_orders", "_law_subsets", "_law_opened", "_law_book", "_law_case", "_law_and_case", "_law_ints", "_law_pair", "_law_rows_of", "_law_parts"]
def loose2 : List PySem.Str := ["_law_hang", "_law_opens", "_law_is_knot", "_law_great", "_law_off_case", "_law_switch_case", "_law_taken_away", "_law_knot_right", "_law_row_right", "_law_sets_right", "_law_rows_right"]
def loose : List PySem.Str := loose0 ++ loose1 ++ loose2
def tb : List (PySem.Str × List Int) := [("BITS", [1, 2, 4, 8, 16, 32, 64, 128])]
abbrev R : PySem.W.OpenRow := PySem.W.OpenLaw.row PySem.Challenge.rw_stillsealed_k46_whole_every_set_has_an_o
abbrev hk : PySem.W.Hook := SS.hookE 5 fa fn tb
def ob (s : PySem.W.SharedT) : SS.AlE := SS.obsEG 5 fa fn tb (HandSHeadRun.getT s)
theorem ob_eq (s : PySem.W.SharedT) : ob s = hk.obs s.abs := SS.obsEG_eq (HandSHeadRun.getT_eq s)
theorem run3 {S A B C : Type} {x : Option S} {f : S → A} {g : S → B} {h : S → C} {a : A} {b : B} {c : C} (h1 : x.map f = some a) (h2 : x.map g = some b) (h3 : x.map h = some c) : x.map (fun s => (f s, g s, h s)) = some (a, b, c) := by
  cases x with
  | none => cases h1
  | some s =>
    have e1 : f s = a := Option.some.inj h1
    have e2 : g s = b := Option.some.inj h2
    have e3 : h s = c := Option.some.inj h3
    rw [← e1, ← e2, ← e3]; rfl
open PySem PySem.W PySem.Calls PyProof.Rows HandSHeadRun in
theorem runA (w : World) (os : OsState) : (endF (stepQ (denQ tabQ) R.prog w) 6000 R.prog w os).map (fun s => looksF R.prog (boot_heap w.params) s.abs) = some true := by
  kernel_rfl
open PySem PySem.W PySem.Calls PyProof.Rows HandSHeadRun in
theorem runB (w : World) (os : OsState) : (endF (stepQ (denQ tabQ) R.prog w) 6000 R.prog w os).map (fun s => seenQ (PySem.W.view R.prog [78]) loose (importedModules R.prog.main.body) (fun s => xlAt (PySem.W.view R.prog [78]) [] s && recOk R.toRowW.records s) s.abs) = some (openGood (PySem.W.view R.prog [78]) loose) := by
  kernel_rfl
open PySem PySem.W PySem.Calls PyProof.Rows HandSHeadRun in
theorem runC (w : World) (os : OsState) : (endF (stepQ (denQ tabQ) R.prog w) 6000 R.prog w os).map (fun s => ob s) = some (hk.val w) := by
  kernel_rfl
theorem run (w : World) : HandSHeadRun.RunEq R (PySem.W.view R.prog [78]) hk ob 6000 loose w := fun os => run3 (runA w os) (runB w os) (runC w os)
end KK

set_option Elab.async false
set_option linter.all false
set_option maxRecDepth 100000
/-! SSA: own layer over the hand layer: representations (Rp), frozen ghost heaps (G), environments (En), weakest conditions (W). Own work. -/
namespace SS
open PySem PySem.Spec L2

/-! ### heaps -/
/-- one step: G the frozen part, H the heap; M the addresses that may change -/
structure Step (M : List Addr) (G H G' H' : Hp) : Prop where
  gg : Same G G'
  gh : Same G' H'
  keep : ∀ a o, H a = some o → a ∉ M → H' a = some o
  old : ∀ a o, H a = some o → G a = none → a ∉ M → G' a = none

theorem Step.refl {M : List Addr} {G H : Hp} (h : Same G H) : Step M G H G H :=
  ⟨Same.refl G, h, fun _ _ e _ => e, fun _ _ _ n _ => n⟩
theorem Step.there {M : List Addr} {G H G1 H1 : Hp} (s : Step M G H G1 H1) {a : Addr} {o : HO} (e : H a = some o) (n : a ∉ M) : H1 a = some o := s.keep a o e n
theorem Step.cut {M N : List Addr} {G H G1 H1 G2 H2 : Hp} (s : Step M G H G1 H1) (t : Step N G1 H1 G2 H2) (h : ∀ a ∈ N, a ∈ M ∨ H a = none) : Step M G H G2 H2 where
  gg := s.gg.trans t.gg
  gh := t.gh
  keep := fun a o e n => t.keep a o (s.keep a o e n) fun z => (h a z).elim n fun q => by rw [q] at e; cases e
  old := fun a o e q n => t.old a o (s.keep a o e n) (s.old a o e q n) fun z => (h a z).elim n fun q => by rw [q] at e; cases e
theorem Step.trans {M : List Addr} {G H G1 H1 G2 H2 : Hp} (s : Step M G H G1 H1) (t : Step M G1 H1 G2 H2) : Step M G H G2 H2 := s.cut t fun _ h => .inl h
theorem Step.wide {M N : List Addr} {G H G1 H1 : Hp} (s : Step M G H G1 H1) (h : ∀ a ∈ M, a ∈ N) : Step N G H G1 H1 :=
  ⟨s.gg, s.gh, fun a o e n => s.keep a o e fun z => n (h a z), fun a o e q n => s.old a o e q fun z => n (h a z)⟩
theorem Step.of0 {M : List Addr} {G H G1 H1 : Hp} (s : Step [] G H G1 H1) : Step M G H G1 H1 := s.wide fun _ h => nomatch h
theorem Step.gH {M : List Addr} {G H G1 H1 : Hp} (s : Step M G H G1 H1) : Same G H1 := s.gg.trans s.gh
/-- a new object, frozen at once -/
theorem Step.new {M : List Addr} {G H : Hp} (h : Same G H) {p : Addr} {o : HO} (np : H p = none) : Step M G H (upd G p o) (upd H p o) where
  gg := fun a u e => by rw [upd_ne (ne_of_none e (h.free np))]; exact e
  gh := fun a u e => by
    by_cases q : a = p
    · subst q; rw [upd_same] at e ⊢; exact e
    · rw [upd_ne q] at e ⊢; exact h a u e
  keep := fun a u e _ => by rw [upd_ne (ne_of_none e np)]; exact e
  old := fun a u e n _ => by rw [upd_ne (ne_of_none e np)]; exact n
/-- a new object, not frozen -/
theorem Step.lay {M : List Addr} {G H : Hp} (h : Same G H) {p : Addr} {o : HO} (np : H p = none) : Step M G H G (upd H p o) where
  gg := Same.refl G
  gh := fun a u e => by rw [upd_ne (ne_of_none e (h.free np))]; exact h a u e
  keep := fun a u e _ => by rw [upd_ne (ne_of_none e np)]; exact e
  old := fun _ _ _ n _ => n
/-- a change at an address of M that is not frozen -/
theorem Step.put {M : List Addr} {G H : Hp} (h : Same G H) {p : Addr} {o : HO} (hp : p ∈ M) (np : G p = none) : Step M G H G (upd H p o) where
  gg := Same.refl G
  gh := fun a u e => by rw [upd_ne (ne_of_none e np)]; exact h a u e
  keep := fun a u e n => by rw [upd_ne (fun (z : a = p) => n (by rw [z]; exact hp))]; exact e
  old := fun _ _ _ n _ => n
/-- what stands at p is frozen -/
theorem Step.freeze {M : List Addr} {G H : Hp} (h : Same G H) {p : Addr} {o : HO} (hp : p ∈ M) (np : G p = none) (e : H p = some o) : Step M G H (upd G p o) H where
  gg := fun a u q => by rw [upd_ne (ne_of_none q np)]; exact q
  gh := fun a u q => by
    by_cases z : a = p
    · subst z; rw [upd_same] at q; rw [← q]; exact e
    · rw [upd_ne z] at q; exact h a u q
  keep := fun a u q _ => q
  old := fun a u q n z => by rw [upd_ne (fun (y : a = p) => z (by rw [y]; exact hp))]; exact n

/-! ### representations -/
structure Rp (K : PySem.W.Frag) (α : Type) where
  ok : Hp → V → α → Prop
  mono : ∀ {G G' : Hp} {v : V} {x : α}, Same G G' → ok G v x → ok G' v x
structure Fs (K : PySem.W.Frag) (α : Type) where
  ok : Hp → List V → α → Prop
  mono : ∀ {G G' : Hp} {vs : List V} {x : α}, Same G G' → ok G vs x → ok G' vs x
  n : Nat
  len : ∀ {G : Hp} {vs : List V} {x : α}, ok G vs x → vs.length = n

theorem same_t {K : PySem.W.Frag} {H H' : Hp} {a : Addr} {xs : List V} (e : Same H H') (h : SqT K H a xs) : SqT K H' a xs := by
  rcases h with (h | ⟨o, h⟩) | h
  · exact .inl (.inl (e _ _ h))
  · exact .inl (.inr ⟨o, e _ _ h⟩)
  · exact .inr h
theorem paired_mono {α : Type} {F F' : V → α → Prop} (h : ∀ v x, F v x → F' v x) : ∀ {vs : List V} {xs : List α}, Paired F vs xs → Paired F' vs xs
  | _, _, .nil => .nil
  | _, _, .cons r t => .cons (h _ _ r) (paired_mono h t)
theorem paired_len {α β : Type} {F : α → β → Prop} : ∀ {vs : List α} {xs : List β}, Paired F vs xs → vs.length = xs.length
  | _, _, .nil => rfl
  | _, _, .cons _ t => congrArg (· + 1) (paired_len t)
theorem paired_get {α β : Type} {F : α → β → Prop} : ∀ {vs : List α} {xs : List β}, Paired F vs xs → ∀ {i : Nat} {x : β}, xs[i]? = some x → ∃ v, vs[i]? = some v ∧ F v x
  | _, _, .nil, i, x, h => by simp at h
  | _, _, .cons r t, 0, x, h => by simp at h; subst h; exact ⟨_, rfl, r⟩
  | _, _, .cons r t, i + 1, x, h => by
    obtain ⟨v, e, q⟩ := paired_get t (i := i) (by simpa using h)
    exact ⟨v, by simpa using e, q⟩
theorem paired_get' {α β : Type} {F : α → β → Prop} : ∀ {vs : List α} {xs : List β}, Paired F vs xs → ∀ {i : Nat} {v : α}, vs[i]? = some v → ∃ x, xs[i]? = some x ∧ F v x
  | _, _, .nil, i, x, h => by simp at h
  | _, _, .cons r t, 0, x, h => by simp at h; subst h; exact ⟨_, rfl, r⟩
  | _, _, .cons r t, i + 1, x, h => by
    obtain ⟨v, e, q⟩ := paired_get' t (i := i) (by simpa using h)
    exact ⟨v, by simpa using e, q⟩
theorem paired_app {α β : Type} {F : α → β → Prop} : ∀ {vs ws : List α} {xs ys : List β}, Paired F vs xs → Paired F ws ys → Paired F (vs ++ ws) (xs ++ ys)
  | _, _, _, _, .nil, s => s
  | _, _, _, _, .cons r t, s => .cons r (paired_app t s)
theorem paired_set {α β : Type} {F : α → β → Prop} {v : α} {x : β} (q : F v x) : ∀ {vs : List α} {xs : List β} (i : Nat), Paired F vs xs → Paired F (vs.set i v) (xs.set i x)
  | _, _, _, .nil => .nil
  | _, _, 0, .cons r t => .cons q t
  | _, _, i + 1, .cons r t => .cons r (paired_set q i t)
theorem paired_take {α β : Type} {F : α → β → Prop} : ∀ {vs : List α} {xs : List β} (n : Nat), Paired F vs xs → Paired F (vs.take n) (xs.take n)
  | _, _, 0, _ => .nil
  | _, _, _ + 1, .nil => .nil
  | _, _, n + 1, .cons r t => .cons r (paired_take n t)
theorem paired_drop {α β : Type} {F : α → β → Prop} : ∀ {vs : List α} {xs : List β} (n : Nat), Paired F vs xs → Paired F (vs.drop n) (xs.drop n)
  | _, _, 0, r => r
  | _, _, _ + 1, .nil => .nil
  | _, _, n + 1, .cons _ t => paired_drop n t

section
variable {K : PySem.W.Frag} {α β : Type}
def rI : Rp K Int := ⟨fun _ v x => v = .int x, fun _ h => h⟩
def rB : Rp K Bool := ⟨fun _ v x => v = .bl x, fun _ h => h⟩
def rS : Rp K Str := ⟨fun _ v x => v = .str x, fun _ h => h⟩
def rN : Rp K Unit := ⟨fun _ v _ => v = .non, fun _ h => h⟩
def okO (R : Rp K α) (G : Hp) (v : V) : Option α → Prop
  | none => v = .non
  | some x => R.ok G v x
def rO (R : Rp K α) : Rp K (Option α) := ⟨okO R, fun {G G' v x} e h => by
  cases x with
  | none => exact h
  | some x => exact R.mono e h⟩
def okL (R : Rp K α) (G : Hp) (v : V) (xs : List α) : Prop := ∃ a vs, v = .ref a ∧ SqL K G a vs ∧ Paired (R.ok G) vs xs ∧ vs.length ≤ sizeLine
def rL (R : Rp K α) : Rp K (List α) := ⟨okL R, fun {G G' v x} e ⟨a, vs, h1, h2, h3, h4⟩ => ⟨a, vs, h1, Same.seq e h2, paired_mono (fun _ _ q => R.mono e q) h3, h4⟩⟩
def okU (R : Rp K α) (G : Hp) (v : V) (xs : List α) : Prop := ∃ a vs, v = .ref a ∧ SqT K G a vs ∧ Paired (R.ok G) vs xs ∧ vs.length ≤ sizeLine
/-- a tuple of any length -/
def rU (R : Rp K α) : Rp K (List α) := ⟨okU R, fun {G G' v x} e ⟨a, vs, h1, h2, h3, h4⟩ => ⟨a, vs, h1, same_t e h2, paired_mono (fun _ _ q => R.mono e q) h3, h4⟩⟩
def fsN : Fs K Unit := ⟨fun _ vs _ => vs = [], fun _ h => h, 0, fun h => by rw [h]; rfl⟩
def fs1 (R : Rp K α) : Fs K α := ⟨fun G vs x => ∃ v, vs = [v] ∧ R.ok G v x, fun e ⟨v, h, q⟩ => ⟨v, h, R.mono e q⟩, 1, fun ⟨v, h, _⟩ => by rw [h]; rfl⟩
def fsC (R : Rp K α) (F : Fs K β) : Fs K (α × β) := ⟨fun G vs x => ∃ v r, vs = v :: r ∧ R.ok G v x.1 ∧ F.ok G r x.2, fun e ⟨v, r, h, q, z⟩ => ⟨v, r, h, R.mono e q, F.mono e z⟩, F.n + 1, fun ⟨v, r, h, _, z⟩ => by rw [h, List.length_cons, F.len z]⟩
/-- a tuple of fixed places -/
def rT (F : Fs K α) : Rp K α := ⟨fun G v x => ∃ a vs, v = .ref a ∧ SqT K G a vs ∧ F.ok G vs x, fun e ⟨a, vs, h1, h2, h3⟩ => ⟨a, vs, h1, same_t e h2, F.mono e h3⟩⟩
/-- an instance of the class at C -/
def rObj (C : Addr) (φ : Hp → List (Str × V) → α → Prop) (mono : ∀ {G G' : Hp} {fs : List (Str × V)} {x : α}, Same G G' → φ G fs x → φ G' fs x) : Rp K α :=
  ⟨fun G v x => ∃ a dx fs, v = .ref a ∧ G a = some (.ins C dx fs) ∧ φ G fs x, fun e ⟨a, dx, fs, h1, h2, h3⟩ => ⟨a, dx, fs, h1, e _ _ h2, mono e h3⟩⟩
/-- an exact value -/
def rV (v : V) : Rp K Unit := ⟨fun _ u _ => u = v, fun _ h => h⟩
end

/-! ### a pool of draws -/
def PoolAt (G H : Hp) (p : Addr) (g : Addr × Addr) : Prop := G p = none ∧ G g.1 = none ∧ p ≠ g.1 ∧ ∃ (s : Addr) (c m : Int) (gs ns : List Int), H p = some (.lst [.ref g.1, .ref s, .int c, .int m]) ∧ H g.1 = some (.lst (gs.map V.int)) ∧
  G s = some (.lst (ns.map V.int)) ∧ ns ≠ [] ∧ ns.length ≤ 1000 ∧ gs.length ≤ 1000 ∧ s = g.2
theorem PoolAt.step {M : List Addr} {G H G' H' : Hp} {p : Addr} {g : Addr × Addr} (h : PoolAt G H p g) (s : Step M G H G' H') (n1 : p ∉ M) (n2 : g.1 ∉ M) : PoolAt G' H' p g := by
  obtain ⟨h1, h2, h3, sm, c, m, gs, ns, h4, h5, h6, h7⟩ := h
  exact ⟨s.old _ _ h4 h1 n1, s.old _ _ h5 h2 n2, h3, sm, c, m, gs, ns, s.keep _ _ h4 n1, s.keep _ _ h5 n2, s.gg _ _ h6, h7⟩

/-! ### environments -/
abbrev Mp : Type := { φ : Hp → V → Prop // ∀ G G' v, Same G G' → φ G v → φ G' v }
def Rp.mp {K : PySem.W.Frag} {α : Type} (R : Rp K α) (x : α) : Mp := ⟨fun G v => R.ok G v x, fun _ _ _ e h => R.mono e h⟩
/-- what is true of a region of the heap, and stays so while the region stands -/
structure Rgn (as : List Addr) where
  φ : Hp → Hp → Prop
  st : ∀ {G G' H H' : Hp}, Same G G' → (∀ b o, b ∈ as → H b = some o → H' b = some o) → φ G H → φ G' H'
inductive En (K : PySem.W.Frag) : Type 1
  | off
  | fr {α : Type} (R : Rp K α) (x : α)
  | own {α : Type} (a : Addr) (R : Rp K α) (xs : List α)
  | pool (p : Addr) (g : Addr × Addr)
  | obj (a C : Addr) (fs : List (Str × Mp))
  | rg (a : Addr) (as : List Addr) (r : Rgn (a :: as))
section
variable {K : PySem.W.Frag}
def En.ok : En K → Hp → Hp → Option V → Prop
  | .off, _, _, _ => True
  | .fr R x, G, _, o => ∃ v, o = some v ∧ R.ok G v x
  | .own a R xs, G, H, o => o = some (.ref a) ∧ G a = none ∧ ∃ vs, H a = some (.lst vs) ∧ Paired (R.ok G) vs xs ∧ vs.length ≤ sizeLine
  | .pool p g, G, H, o => o = some (.ref p) ∧ PoolAt G H p g
  | .obj a C fs, G, H, o => o = some (.ref a) ∧ G a = none ∧ ∃ dx vs, H a = some (.ins C dx vs) ∧ Paired (fun (p : Str × V) (q : Str × Mp) => p.1 = q.1 ∧ q.2.1 G p.2) vs fs
  | .rg a as r, G, H, o => o = some (.ref a) ∧ (∀ b ∈ a :: as, G b = none ∧ ∃ u, H b = some u) ∧ r.φ G H
def En.adr : En K → List Addr
  | .own a _ _ => [a]
  | .pool p g => [p, g.1]
  | .obj a _ _ => [a]
  | .rg a as _ => a :: as
  | _ => []
def En.pl : En K → List (Addr × (Addr × Addr))
  | .pool p g => [(p, g)]
  | _ => []
def adrs : List (En K) → List Addr
  | [] => []
  | e :: es => e.adr ++ adrs es
def pls : List (En K) → List (Addr × (Addr × Addr))
  | [] => []
  | e :: es => e.pl ++ pls es
def padr (ρ : List (En K)) : List Addr := (pls ρ).flatMap fun q => [q.1, q.2.1]
def Pools (ρ : List (En K)) (G H : Hp) : Prop := ∀ q ∈ pls ρ, PoolAt G H q.1 q.2
structure EnvOk (ρ : List (En K)) (G H : Hp) (σ : St) : Prop where
  len : σ.length = ρ.length
  ok : ∀ (i : Nat) (e : En K), ρ[i]? = some e → ∃ o, σ[i]? = some o ∧ e.ok G H o
  nd : (adrs ρ).Nodup

theorem paired_mono2 {α β : Type} {F F' : α → β → Prop} (h : ∀ v x, F v x → F' v x) : ∀ {vs : List α} {xs : List β}, Paired F vs xs → Paired F' vs xs
  | _, _, .nil => .nil
  | _, _, .cons r t => .cons (h _ _ r) (paired_mono2 h t)
theorem En.step {M : List Addr} {G H G' H' : Hp} {o : Option V} {e : En K} (h : e.ok G H o) (s : Step M G H G' H') (n : ∀ a ∈ e.adr, a ∉ M) : e.ok G' H' o := by
  cases e with
  | off => trivial
  | fr R x => obtain ⟨v, e, q⟩ := h; exact ⟨v, e, R.mono s.gg q⟩
  | own a R xs =>
    obtain ⟨e, q, vs, h1, h2, h3⟩ := h
    have na : a ∉ M := n a (by simp [En.adr])
    exact ⟨e, s.old _ _ h1 q na, vs, s.keep _ _ h1 na, paired_mono (fun _ _ z => R.mono s.gg z) h2, h3⟩
  | pool p g =>
    obtain ⟨e, q⟩ := h
    exact ⟨e, q.step s (n p (by simp [En.adr])) (n g.1 (by simp [En.adr]))⟩
  | obj a C fs =>
    obtain ⟨e, q, dx, vs, h1, h2⟩ := h
    have na : a ∉ M := n a (by simp [En.adr])
    exact ⟨e, s.old _ _ h1 q na, dx, vs, s.keep _ _ h1 na, paired_mono2 (fun v x ⟨z1, z2⟩ => ⟨z1, x.2.2 _ _ _ s.gg z2⟩) h2⟩
  | rg a as r =>
    obtain ⟨e, q, h1⟩ := h
    refine ⟨e, fun b hb => ?_, r.st s.gg (fun b o hb z => s.keep b o z (n b hb)) h1⟩
    obtain ⟨n1, u, hu⟩ := q b hb
    exact ⟨s.old b u hu n1 (n b hb), u, s.keep b u hu (n b hb)⟩
theorem adrs_mem {ρ : List (En K)} {i : Nat} {e : En K} (h : ρ[i]? = some e) {a : Addr} (ha : a ∈ e.adr) : a ∈ adrs ρ := by
  induction ρ generalizing i with
  | nil => simp at h
  | cons x r ih =>
    cases i with
    | zero => simp at h; subst h; exact List.mem_append_left _ ha
    | succ i => exact List.mem_append_right _ (ih (by simpa using h))
theorem adrs_of {ρ : List (En K)} {a : Addr} (h : a ∈ adrs ρ) : ∃ (i : Nat) (e : En K), ρ[i]? = some e ∧ a ∈ e.adr := by
  induction ρ with
  | nil => cases h
  | cons x r ih =>
    rcases List.mem_append.mp h with h | h
    · exact ⟨0, x, rfl, h⟩
    · obtain ⟨i, e, h1, h2⟩ := ih h
      exact ⟨i + 1, e, by simpa using h1, h2⟩
theorem pls_mem {ρ : List (En K)} {i : Nat} {e : En K} (h : ρ[i]? = some e) {q : Addr × (Addr × Addr)} (ha : q ∈ e.pl) : q ∈ pls ρ := by
  induction ρ generalizing i with
  | nil => simp at h
  | cons x r ih =>
    cases i with
    | zero => simp at h; subst h; exact List.mem_append_left _ ha
    | succ i => exact List.mem_append_right _ (ih (by simpa using h))
theorem pls_of {ρ : List (En K)} {q : Addr × (Addr × Addr)} (h : q ∈ pls ρ) : ∃ i : Nat, ρ[i]? = some (En.pool q.1 q.2) := by
  induction ρ with
  | nil => cases h
  | cons x r ih =>
    rcases List.mem_append.mp h with h | h
    · cases x with
      | pool p g =>
        have e : q = (p, g) := by simpa [En.pl] using h
        subst e
        exact ⟨0, rfl⟩
      | _ => cases h
    · obtain ⟨i, h1⟩ := ih h
      exact ⟨i + 1, by simpa using h1⟩
theorem padr_sub {ρ : List (En K)} {a : Addr} (h : a ∈ padr ρ) : a ∈ adrs ρ := by
  obtain ⟨q, h1, h2⟩ := List.mem_flatMap.mp h
  obtain ⟨i, h3⟩ := pls_of h1
  exact adrs_mem h3 (by simpa [En.adr] using h2)
theorem EnvOk.pools {ρ : List (En K)} {G H : Hp} {σ : St} (h : EnvOk ρ G H σ) : Pools ρ G H := fun q hq => by
  obtain ⟨i, e⟩ := pls_of hq
  obtain ⟨o, _, _, z⟩ := h.ok i _ e
  exact z
theorem EnvOk.step {ρ : List (En K)} {M : List Addr} {G H G' H' : Hp} {σ : St} (h : EnvOk ρ G H σ) (s : Step M G H G' H') (n : ∀ a ∈ adrs ρ, a ∉ M) : EnvOk ρ G' H' σ :=
  ⟨h.len, fun i e hi => let ⟨o, ho, q⟩ := h.ok i e hi; ⟨o, ho, En.step q s fun a ha => n a (adrs_mem hi ha)⟩, h.nd⟩
theorem EnvOk.step0 {ρ : List (En K)} {G H G' H' : Hp} {σ : St} (h : EnvOk ρ G H σ) (s : Step [] G H G' H') : EnvOk ρ G' H' σ := h.step s fun _ _ z => nomatch z
theorem En.there {e : En K} {G H : Hp} {o : Option V} (h : e.ok G H o) {a : Addr} (ha : a ∈ e.adr) : ∃ u, H a = some u ∧ G a = none := by
  cases e with
  | off => cases ha
  | fr R x => cases ha
  | own b R xs =>
    have e : a = b := by simpa [En.adr] using ha
    subst e
    obtain ⟨_, n, vs, h1, _⟩ := h
    exact ⟨_, h1, n⟩
  | pool p g =>
    obtain ⟨_, n1, n2, _, s, c, m, gs, ns, h1, h2, _⟩ := h
    rcases (by simpa [En.adr] using ha : a = p ∨ a = g.1) with e | e
    · subst e; exact ⟨_, h1, n1⟩
    · rw [e]; exact ⟨_, h2, n2⟩
  | obj b C fs =>
    have e : a = b := by simpa [En.adr] using ha
    subst e
    obtain ⟨_, n, dx, vs, h1, _⟩ := h
    exact ⟨_, h1, n⟩
  | rg b as r =>
    obtain ⟨n, u, hu⟩ := h.2.1 a ha
    exact ⟨u, hu, n⟩
theorem EnvOk.there {ρ : List (En K)} {G H : Hp} {σ : St} (h : EnvOk ρ G H σ) {a : Addr} (ha : a ∈ adrs ρ) : ∃ u, H a = some u ∧ G a = none := by
  obtain ⟨i, e, h1, h2⟩ := adrs_of ha
  obtain ⟨o, _, q⟩ := h.ok i e h1
  exact En.there q h2
theorem EnvOk.fresh {ρ : List (En K)} {G H : Hp} {σ : St} (h : EnvOk ρ G H σ) {a : Addr} (n : H a = none) : a ∉ adrs ρ := fun z => by
  obtain ⟨u, e, _⟩ := h.there z
  rw [n] at e; cases e
/-! ### a slot is set -/
theorem adrs_set {ρ : List (En K)} {i : Nat} {e : En K} {a : Addr} (h : a ∈ adrs (ρ.set i e)) : a ∈ adrs ρ ∨ a ∈ e.adr := by
  induction ρ generalizing i with
  | nil => cases h
  | cons x r ih =>
    cases i with
    | zero =>
      rcases List.mem_append.mp h with h | h
      · exact .inr h
      · exact .inl (List.mem_append_right _ h)
    | succ i =>
      rcases List.mem_append.mp h with h | h
      · exact .inl (List.mem_append_left _ h)
      · rcases ih h with q | q
        · exact .inl (List.mem_append_right _ q)
        · exact .inr q
theorem nodup_set {ρ : List (En K)} {i : Nat} {e : En K} (h : (adrs ρ).Nodup) (he : e.adr.Nodup) (d : ∀ a ∈ e.adr, a ∉ adrs ρ) : (adrs (ρ.set i e)).Nodup := by
  induction ρ generalizing i with
  | nil => exact h
  | cons x r ih =>
    have h' : x.adr.Nodup ∧ (adrs r).Nodup ∧ ∀ a ∈ x.adr, ∀ b ∈ adrs r, a ≠ b := List.nodup_append.mp h
    cases i with
    | zero => exact List.nodup_append.mpr ⟨he, h'.2.1, fun a ha b hb q => d a ha (List.mem_append_right _ (q ▸ hb))⟩
    | succ i =>
      refine List.nodup_append.mpr ⟨h'.1, ih h'.2.1 fun a ha q => d a ha (List.mem_append_right _ q), fun a ha b hb q => ?_⟩
      rcases adrs_set hb with z | z
      · exact h'.2.2 a ha b z q
      · exact d b z (List.mem_append_left _ (q ▸ ha))
/-- .. where the addresses stay (or less) -/
theorem nodup_same {ρ : List (En K)} {i : Nat} {e e' : En K} (h : (adrs ρ).Nodup) (hi : ρ[i]? = some e) (he : e'.adr = e.adr ∨ e'.adr = []) : (adrs (ρ.set i e')).Nodup ∧ ∀ a ∈ adrs (ρ.set i e'), a ∈ adrs ρ := by
  induction ρ generalizing i with
  | nil => simp at hi
  | cons x r ih =>
    have h' : x.adr.Nodup ∧ (adrs r).Nodup ∧ ∀ a ∈ x.adr, ∀ b ∈ adrs r, a ≠ b := List.nodup_append.mp h
    cases i with
    | zero =>
      have ex : x = e := by simpa using hi
      subst ex
      show (e'.adr ++ adrs r).Nodup ∧ ∀ a ∈ e'.adr ++ adrs r, a ∈ x.adr ++ adrs r
      rcases he with he | he
      · rw [he]; exact ⟨h, fun a q => q⟩
      · rw [he]; exact ⟨h'.2.1, fun a q => List.mem_append_right _ q⟩
    | succ i =>
      obtain ⟨h1, h2⟩ := ih h'.2.1 (by simpa using hi)
      refine ⟨List.nodup_append.mpr ⟨h'.1, h1, fun a ha b hb => h'.2.2 a ha b (h2 b hb)⟩, fun a q => ?_⟩
      rcases List.mem_append.mp q with q | q
      · exact List.mem_append_left _ q
      · exact List.mem_append_right _ (h2 a q)
theorem pls_set {ρ : List (En K)} {i : Nat} {e : En K} (h : (ρ.getD i .off).pl = []) {q : Addr × (Addr × Addr)} (hq : q ∈ pls ρ) : q ∈ pls (ρ.set i e) := by
  induction ρ generalizing i with
  | nil => exact hq
  | cons x r ih =>
    cases i with
    | zero =>
      have hx : x.pl = [] := h
      have hq' : q ∈ x.pl ++ pls r := hq
      rw [hx] at hq'
      exact List.mem_append_right _ hq'
    | succ i =>
      rcases List.mem_append.mp hq with z | z
      · exact List.mem_append_left _ z
      · exact List.mem_append_right _ (ih h z)
theorem EnvOk.put {ρ : List (En K)} {G H : Hp} {σ : St} {i : Nat} {e : En K} {v : V} (h : EnvOk ρ G H σ) (q : e.ok G H (some v)) (nd : (adrs (ρ.set i e)).Nodup) : EnvOk (ρ.set i e) G H (σ.set i (some v)) := by
  refine ⟨by rw [List.length_set, List.length_set, h.len], fun j e' hj => ?_, nd⟩
  by_cases hij : i = j
  · subst hij
    have hl : i < ρ.length := by
      rcases Nat.lt_or_ge i ρ.length with z | z
      · exact z
      · rw [List.set_eq_of_length_le z] at hj
        rw [List.getElem?_eq_none z] at hj; cases hj
    rw [List.getElem?_set_self hl] at hj
    cases hj
    exact ⟨some v, by rw [List.getElem?_set_self (by rw [h.len]; exact hl)], q⟩
  · rw [List.getElem?_set_ne hij] at hj ⊢
    exact h.ok j e' hj
theorem nodup_fr {ρ : List (En K)} {i : Nat} {e : En K} (h : (adrs ρ).Nodup) (he : e.adr = []) : (adrs (ρ.set i e)).Nodup ∧ ∀ a ∈ adrs (ρ.set i e), a ∈ adrs ρ := by
  refine ⟨nodup_set h (by rw [he]; exact List.nodup_nil) (by rw [he]; intro a z; cases z), fun a z => ?_⟩
  rcases adrs_set z with q | q
  · exact q
  · rw [he] at q; cases q
theorem EnvOk.putFr {ρ : List (En K)} {G H : Hp} {σ : St} {i : Nat} {α : Type} {R : Rp K α} {x : α} {v : V} (h : EnvOk ρ G H σ) (q : R.ok G v x) : EnvOk (ρ.set i (.fr R x)) G H (σ.set i (some v)) :=
  h.put ⟨v, rfl, q⟩ (nodup_fr h.nd rfl).1
/-- the entry alone changes, the slot stays -/
theorem EnvOk.re {ρ : List (En K)} {G H : Hp} {σ : St} {i : Nat} {e : En K} (h : EnvOk ρ G H σ) (q : ∀ o, σ[i]? = some o → e.ok G H o) (nd : (adrs (ρ.set i e)).Nodup) : EnvOk (ρ.set i e) G H σ := by
  refine ⟨by rw [List.length_set, h.len], fun j e' hj => ?_, nd⟩
  by_cases hij : i = j
  · subst hij
    have hl : i < ρ.length := by
      rcases Nat.lt_or_ge i ρ.length with z | z
      · exact z
      · rw [List.set_eq_of_length_le z] at hj
        rw [List.getElem?_eq_none z] at hj; cases hj
    rw [List.getElem?_set_self hl] at hj
    cases hj
    obtain ⟨o, ho, _⟩ := h.ok i _ (List.getElem?_eq_getElem hl)
    exact ⟨o, ho, q o ho⟩
  · rw [List.getElem?_set_ne hij] at hj
    exact h.ok j e' hj
/-- entries forgotten -/
inductive Ent : List (En K) → List (En K) → Prop
  | nil : Ent [] []
  | same {e : En K} {a b : List (En K)} : Ent a b → Ent (e :: a) (e :: b)
  | off {e : En K} {a b : List (En K)} : Ent a b → e.pl = [] → Ent (e :: a) (.off :: b)
theorem Ent.adrs {a b : List (En K)} (h : Ent a b) : (SS.adrs b).Sublist (SS.adrs a) := by
  induction h with
  | nil => exact List.Sublist.refl _
  | same _ ih => exact List.Sublist.append (List.Sublist.refl _) ih
  | off _ _ ih => exact ih.trans (List.sublist_append_right _ _)
theorem Ent.pls {a b : List (En K)} (h : Ent a b) : SS.pls b = SS.pls a := by
  induction h with
  | nil => rfl
  | same _ ih => show _ ++ _ = _ ++ _; rw [ih]
  | @off e a b _ hp ih => show SS.pls b = e.pl ++ SS.pls a; rw [hp, ih]; rfl
theorem Ent.get {a b : List (En K)} (h : Ent a b) : ∀ (i : Nat) (e : En K), b[i]? = some e → e = .off ∧ i < a.length ∨ a[i]? = some e := by
  induction h with
  | nil => intro i e h; simp at h
  | same _ ih =>
    intro i e h
    cases i with
    | zero => exact .inr h
    | succ i =>
      rcases ih i e (by simpa using h) with q | q
      · exact .inl ⟨q.1, by simpa using q.2⟩
      · exact .inr (by simpa using q)
  | off _ _ ih =>
    intro i e h
    cases i with
    | zero => exact .inl ⟨by simpa using h.symm, by simp⟩
    | succ i =>
      rcases ih i e (by simpa using h) with q | q
      · exact .inl ⟨q.1, by simpa using q.2⟩
      · exact .inr (by simpa using q)
theorem Ent.len {a b : List (En K)} (h : Ent a b) : b.length = a.length := by
  induction h with
  | nil => rfl
  | same _ ih => simp [ih]
  | off _ _ ih => simp [ih]
theorem EnvOk.ent {ρ ρ' : List (En K)} {G H : Hp} {σ : St} (h : EnvOk ρ G H σ) (q : Ent ρ ρ') : EnvOk ρ' G H σ := by
  refine ⟨h.len.trans q.len.symm, fun i e hi => ?_, h.nd.sublist q.adrs⟩
  rcases q.get i e hi with ⟨z, hl⟩ | z
  · subst z
    have hl' : i < σ.length := by rw [h.len]; exact hl
    exact ⟨σ[i], List.getElem?_eq_getElem hl', trivial⟩
  · exact h.ok i e z
end
end SS
namespace SS
open PySem PySem.Spec L2
section
variable {K : PySem.W.Frag}
theorem nodup_apart {ρ : List (En K)} (h : (adrs ρ).Nodup) {i j : Nat} {e e' : En K} (hi : ρ[i]? = some e) (hj : ρ[j]? = some e') (ne : i ≠ j) {a : Addr} (h1 : a ∈ e.adr) (h2 : a ∈ e'.adr) : False := by
  induction ρ generalizing i j with
  | nil => simp at hi
  | cons x r ih =>
    have h' : x.adr.Nodup ∧ (adrs r).Nodup ∧ ∀ a ∈ x.adr, ∀ b ∈ adrs r, a ≠ b := List.nodup_append.mp h
    cases i with
    | zero =>
      cases j with
      | zero => exact ne rfl
      | succ j =>
        have ex : x = e := by simpa using hi
        subst ex
        exact h'.2.2 a h1 a (adrs_mem (by simpa using hj) h2) rfl
    | succ i =>
      cases j with
      | zero =>
        have ex : x = e' := by simpa using hj
        subst ex
        exact h'.2.2 a h2 a (adrs_mem (by simpa using hi) h1) rfl
      | succ j => exact ih h'.2.1 (by simpa using hi) (by simpa using hj) (fun z => ne (congrArg (· + 1) z))
theorem own_ne_pool {ρ : List (En K)} (h : (adrs ρ).Nodup) {i j : Nat} {e : En K} {p : Addr} {g : Addr × Addr} (hi : ρ[i]? = some e) (hj : ρ[j]? = some (.pool p g)) {a : Addr} (h1 : a ∈ e.adr) (h2 : a = p ∨ a = g.1) (hn : e.pl = [] := by rfl) : False := by
  refine nodup_apart h hi hj (fun z => ?_) h1 (by simpa [En.adr] using h2)
  subst z
  rw [hi] at hj
  cases hj
  cases hn
end
end SS

set_option Elab.async false
set_option linter.all false
set_option maxRecDepth 100000
/-! SSB: own rules, one a construct: an expression, a statement, a loop, a call, with its representation and its weakest condition. Own work. -/
namespace SS
open PySem PySem.Spec L2

abbrev W (α : Type) : Type := (α → Prop) → Prop

/-- the written part of a context, told apart -/
class HK (X : Cx) (K : PySem.W.Frag) : Prop where
  eq : X.K = K
instance {X : Cx} : HK X X.K := ⟨rfl⟩
/-! ### consequence -/
section
variable {X : Cx} {K : PySem.W.Frag} [HK X K]
theorem pe_imp {e : Expr} {t t' : TE} (h : PE X e t) (k : ∀ σ H Q, t' σ H Q → t σ H Q) : PE X e t' := ⟨fun pins s σ H Q I q => h.run pins s σ H Q I (k σ H Q q)⟩
theorem pt_imp {e : Expr} {t t' : TT} (h : PT X e t) (k : ∀ σ H Q, t' σ H Q → t σ H Q) : PT X e t' := ⟨fun pins s σ H Q I q => h.run pins s σ H Q I (k σ H Q q)⟩
theorem pts_imp {e : List Expr} {t t' : TT} (h : PTs X e t) (k : ∀ σ H Q, t' σ H Q → t σ H Q) : PTs X e t' := ⟨fun pins s σ H Q I q => h.run pins s σ H Q I (k σ H Q q)⟩
theorem pa_imp {e : List Expr} {t t' : TA} (h : PA X e t) (k : ∀ σ H Q, t' σ H Q → t σ H Q) : PA X e t' := ⟨fun pos pins s σ H Q I q => h.run pos pins s σ H Q I (k σ H Q q)⟩
theorem pss_imp {e : List Stmt} {t t' : TS} (h : PSs X e t) (k : ∀ D σ H, t' D σ H → t D σ H) : PSs X e t' := ⟨fun pins s σ H D I q => h.run pins s σ H D I (k D σ H q)⟩
theorem pg_imp {e : Expr} {t t' : TG} (h : PG X e t) (k : ∀ v σ H Q, t' v σ H Q → t v σ H Q) : PG X e t' := ⟨fun pins s σ H v u Q I r q => h.run pins s σ H v u Q I r (k v σ H Q q)⟩
theorem pi_imp {tg e : Expr} {t t' : TI} (h : PI X tg e t) (k : ∀ σ H Q, t' σ H Q → t σ H Q) : PI X tg e t' := ⟨fun pins s σ H Q I q => h.run pins s σ H Q I (k σ H Q q)⟩
/-- families -/
def tef {ι : Type} (t : ι → TE) : TE := fun σ H Q => ∃ i, t i σ H Q
def ttf {ι : Type} (t : ι → TT) : TT := fun σ H Q => ∃ i, t i σ H Q
def tsf {ι : Type} (t : ι → TS) : TS := fun D σ H => ∃ i, t i D σ H
def tgf {ι : Type} (t : ι → TG) : TG := fun v σ H Q => ∃ i, t i v σ H Q
theorem pe_fam {ι : Type} {e : Expr} {t : ι → TE} (h : ∀ i, PE X e (t i)) : PE X e (tef t) := ⟨fun pins s σ H Q I ⟨i, q⟩ => (h i).run pins s σ H Q I q⟩
theorem pi_fam {ι : Type} {tg e : Expr} {t : ι → TI} (h : ∀ i, PI X tg e (t i)) : PI X tg e (fun σ H R => ∃ i, t i σ H R) := ⟨fun pins s σ H R I ⟨i, q⟩ => (h i).run pins s σ H R I q⟩
theorem pts_fam {ι : Type} {e : List Expr} {t : ι → TT} (h : ∀ i, PTs X e (t i)) : PTs X e (ttf t) := ⟨fun pins s σ H Q I ⟨i, q⟩ => (h i).run pins s σ H Q I q⟩
theorem pss_fam {ι : Type} {e : List Stmt} {t : ι → TS} (h : ∀ i, PSs X e (t i)) : PSs X e (tsf t) := ⟨fun pins s σ H D I ⟨i, q⟩ => (h i).run pins s σ H D I q⟩
theorem pg_fam {ι : Type} {e : Expr} {t : ι → TG} (h : ∀ i, PG X e (t i)) : PG X e (tgf t) := ⟨fun pins s σ H v u Q I r ⟨i, q⟩ => (h i).run pins s σ H v u Q I r q⟩
end

/-! ### readings -/
section
variable {K : PySem.W.Frag} {α β γ : Type}
def Ct (ρ : List (En K)) (σ : L2.St) (G H : Hp) (R : Rp K α) (P : α → Prop) (Q : VK) : Prop :=
  ∀ G' H' v a, Step (padr ρ) G H G' H' → EnvOk ρ G' H' σ → P a → R.ok G' v a → Q v H'
def TEx (ρ : List (En K)) (R : Rp K α) (w : W α) : TE := fun σ H Q => ∃ (G : Hp) (P : α → Prop), Same G H ∧ EnvOk ρ G H σ ∧ w P ∧ Ct ρ σ G H R P Q
/-- a new list, not frozen -/
def TEL (ρ : List (En K)) (R : Rp K α) (w : W (List α)) : TE := fun σ H Q => ∃ (G : Hp) (P : List α → Prop), Same G H ∧ EnvOk ρ G H σ ∧ w P ∧
  ∀ G' H' p vs xs, Step (padr ρ) G H G' H' → EnvOk ρ G' H' σ → P xs → H p = none → G' p = none → H' p = some (.lst vs) → Paired (R.ok G') vs xs → vs.length ≤ sizeLine → Q (.ref p) H'
def TTx (ρ : List (En K)) (w : W Bool) : TT := fun σ H Q => ∃ (G : Hp) (P : Bool → Prop), Same G H ∧ EnvOk ρ G H σ ∧ w P ∧ ∀ G' H' b, Step (padr ρ) G H G' H' → EnvOk ρ G' H' σ → P b → Q b H'
def TAx (ρ : List (En K)) (F : Fs K α) (w : W α) : TA := fun σ H Q => ∃ (G : Hp) (P : α → Prop), Same G H ∧ EnvOk ρ G H σ ∧ w P ∧ ∀ G' H' vs a, Step (padr ρ) G H G' H' → EnvOk ρ G' H' σ → P a → F.ok G' vs a → Q vs H'
theorem Ct.step {ρ : List (En K)} {σ : L2.St} {G H G1 H1 : Hp} {R : Rp K α} {P : α → Prop} {Q : VK} (c : Ct ρ σ G H R P Q) (s : Step (padr ρ) G H G1 H1) : Ct ρ σ G1 H1 R P Q :=
  fun G' H' v a s' e p r => c G' H' v a (s.trans s') e p r
theorem Ct.go {ρ : List (En K)} {σ : L2.St} {G H : Hp} {R : Rp K α} {P : α → Prop} {Q : VK} (c : Ct ρ σ G H R P Q) (s : Same G H) (e : EnvOk ρ G H σ) {v : V} {a : α} (p : P a) (r : R.ok G v a) : Q v H :=
  c G H v a (Step.refl s) e p r
theorem Ct.go0 {ρ : List (En K)} {σ : L2.St} {G H G1 H1 : Hp} {R : Rp K α} {P : α → Prop} {Q : VK} (c : Ct ρ σ G H R P Q) (e : EnvOk ρ G H σ) (s : Step [] G H G1 H1) {v : V} {a : α} (p : P a) (r : R.ok G1 v a) : Q v H1 :=
  c G1 H1 v a s.of0 (e.step0 s) p r
/-- operations on values -/
def R2Ok (r : R2) (R1 : Rp K α) (R2' : Rp K β) (R3 : Rp K γ) (f : α → β → W γ) : Prop :=
  ∀ (G H : Hp) (v u : V) (x : α) (y : β) (P : γ → Prop) (Q : VK), Same G H → R1.ok G v x → R2'.ok G u y → f x y P → (∀ G' H' z c, Step [] G H G' H' → P c → R3.ok G' z c → Q z H') → r v u H Q
def R1Ok (r : V → Hp → VK → Prop) (R1 : Rp K α) (R3 : Rp K γ) (f : α → W γ) : Prop :=
  ∀ (G H : Hp) (v : V) (x : α) (P : γ → Prop) (Q : VK), Same G H → R1.ok G v x → f x P → (∀ G' H' z c, Step [] G H G' H' → P c → R3.ok G' z c → Q z H') → r v H Q
def RCOk (r : List V → Hp → VK → Prop) (F : Fs K α) (R3 : Rp K γ) (f : α → W γ) : Prop :=
  ∀ (G H : Hp) (vs : List V) (x : α) (P : γ → Prop) (Q : VK), Same G H → F.ok G vs x → f x P → (∀ G' H' z c, Step [] G H G' H' → P c → R3.ok G' z c → Q z H') → r vs H Q
/-- .. a new list -/
def RCL (r : List V → Hp → VK → Prop) (F : Fs K α) (R3 : Rp K γ) (f : α → W (List γ)) : Prop :=
  ∀ (G H : Hp) (vs : List V) (x : α) (P : List γ → Prop) (Q : VK), Same G H → F.ok G vs x → f x P →
    (∀ H' p us ys, Step [] G H G H' → P ys → H p = none → H' p = some (.lst us) → Paired (R3.ok G) us ys → us.length ≤ sizeLine → Q (.ref p) H') → r vs H Q
end

/-! ### expressions -/
section
variable {X : Cx} {K : PySem.W.Frag} [HK X K] {α β γ δ : Type} {ρ : List (En K)} {R : Rp K α} {R1 : Rp K α} {R2' : Rp K β} {R3 : Rp K γ} {w1 : W α} {w2 : W β} {a b : Expr} {pos : Pos} {r : R2} {f : α → β → W γ}

theorem pr_name {i : Nat} {nm : Str} {x : α} (h : PE X (.Name nm pos) (tVar i)) (e : ρ[i]? = some (.fr R x)) : PE X (.Name nm pos) (TEx ρ R fun P => P x) := by
  refine pe_imp h fun σ H Q ⟨G, P, s, ev, p, c⟩ => ?_
  obtain ⟨o, ho, v, hv, q⟩ := ev.ok i _ e
  subst hv
  exact ⟨v, ho, c.go s ev p q⟩
theorem pr_const {v : V} {x : α} (h : PE X a (tC v)) (q : ∀ G, R.ok G v x) : PE X a (TEx ρ R fun P => P x) :=
  pe_imp h fun σ H Q ⟨G, P, s, ev, p, c⟩ => c.go s ev p (q G)
theorem pr_int {i j} : PE X (.Constant (.int i) j pos) (TEx ρ rI fun P => P i) := pr_const pe_int fun _ => rfl
theorem pr_bl {b j} : PE X (.Constant (.bool b) j pos) (TEx ρ rB fun P => P b) := pr_const pe_bl fun _ => rfl
theorem pr_str {x j} : PE X (.Constant (.str x) j pos) (TEx ρ rS fun P => P x) := pr_const pe_str fun _ => rfl
theorem pr_nonU {j} : PE X (.Constant .none j pos) (TEx ρ rN fun P => P ()) := pr_const pe_non fun _ => rfl
theorem pr_non {j} {R : Rp K α} : PE X (.Constant .none j pos) (TEx ρ (rO R) fun P => P none) := pr_const pe_non fun _ => rfl
theorem pr_gint {x : Str} {i : Int} (hg : Gl X x) (hm : ∃ t, X.mg x = some (.int i t)) (hd : (x == ("__debug__" : Str)) = false := by decide) : PE X (.Name x pos) (TEx ρ rI fun P => P i) :=
  let ⟨t, e⟩ := hm; pr_const (v := .int i) (pe_glob hg e ⟨t, rfl⟩ hd) fun _ => rfl
/-- a weaker representation -/
theorem pr_to {R : Rp K α} {w : W α} {β : Type} {R' : Rp K β} (g : α → β) (h : PE X a (TEx ρ R w)) (k : ∀ G v x, R.ok G v x → R'.ok G v (g x)) : PE X a (TEx ρ R' fun P => w fun x => P (g x)) :=
  pe_imp h fun σ H Q ⟨G, P, s, ev, p, c⟩ => ⟨G, _, s, ev, p, fun G' H' v x st e' px rx => c G' H' v (g x) st e' px (k _ _ _ rx)⟩
theorem pr_some {R : Rp K α} {w : W α} (h : PE X a (TEx ρ R w)) : PE X a (TEx ρ (rO R) fun P => w fun x => P (some x)) := pr_to some h fun _ _ _ q => q
/-- what is known not to be None -/
theorem pr_get {R : Rp K α} {w : W (Option α)} (h : PE X a (TEx ρ (rO R) w)) : PE X a (TEx ρ R fun P => w fun o => ∃ x, o = some x ∧ P x) :=
  pe_imp h fun σ H Q ⟨G, P, s, ev, p, c⟩ => ⟨G, _, s, ev, p, fun G' H' v o st e' ⟨x, ex, px⟩ ro => by subst ex; exact c G' H' v x st e' px ro⟩
/-- a new list is frozen -/
theorem pr_frz {R : Rp K α} {w : W (List α)} (h : PE X a (TEL ρ R w)) : PE X a (TEx ρ (rL R) w) := by
  refine pe_imp h fun σ H Q ⟨G, P, s, ev, p, c⟩ => ⟨G, P, s, ev, p, fun G' H' q vs xs st e' px n1 n2 hq pr hz => ?_⟩
  have hq' : q ∉ adrs ρ := ev.fresh n1
  have s2 : Step [q] G' H' (upd G' q (.lst vs)) H' := Step.freeze st.gh (by simp) n2 hq
  refine c _ _ _ xs (st.cut s2 fun b hb => .inr (by have : b = q := by simpa using hb
                                                    rw [this]; exact n1)) (e'.step s2 fun b hb z => hq' (by have : b = q := by simpa using z
                                                                                                            rw [← this]; exact hb)) px ?_
  exact ⟨q, vs, rfl, SqL.of upd_same, paired_mono (fun _ _ z => R.mono s2.gg z) pr, hz⟩
theorem tx_op (hr : R2Ok r R1 R2' R3 f) (σ : L2.St) (H : Hp) (Q : VK) (h : TEx ρ R3 (fun P => w1 fun x => w2 fun y => f x y P) σ H Q) : tOp r (TEx ρ R1 w1) (TEx ρ R2' w2) σ H Q := by
  obtain ⟨G, P, s, e, h, c⟩ := h
  refine ⟨G, _, s, e, h, fun G1 H1 v1 x st1 e1 p1 r1 => ?_⟩
  refine ⟨G1, _, st1.gh, e1, p1, fun G2 H2 v2 y st2 e2 p2 r2 => ?_⟩
  exact hr G2 H2 v1 v2 x y P Q st2.gh (R1.mono st2.gg r1) r2 p2 fun G3 H3 v z st3 pz rz => c G3 H3 v z ((st1.trans st2).trans st3.of0) (e2.step0 st3) pz rz
theorem pr_op {op : Operator} (ho : OpR X (binaryOp op) r) (hr : R2Ok r R1 R2' R3 f) (ha : PE X a (TEx ρ R1 w1)) (hb : PE X b (TEx ρ R2' w2)) : PE X (.BinOp a op b pos) (TEx ρ R3 fun P => w1 fun x => w2 fun y => f x y P) :=
  pe_imp (pe_op ho ha hb) (tx_op hr)
theorem pr_cmp {op : CmpOp} (ho : OpR X (compareOp op) r) (hr : R2Ok r R1 R2' R3 f) (hm : behindInMarks op b = false) (ha : PE X a (TEx ρ R1 w1)) (hb : PE X b (TEx ρ R2' w2)) : PE X (.Compare a [op] [b] pos) (TEx ρ R3 fun P => w1 fun x => w2 fun y => f x y P) :=
  pe_imp (pe_cmpR ho ha hb hm) (tx_op hr)
theorem pt_cmpX {f : α → β → W Bool} {op : CmpOp} (ho : OpR X (compareOp op) r) (hr : R2Ok r R1 R2' rB f) (hm : behindInMarks op b = false) (ha : PE X a (TEx ρ R1 w1)) (hb : PE X b (TEx ρ R2' w2)) : PT X (.Compare a [op] [b] pos) (TTx ρ fun P => w1 fun x => w2 fun y => f x y P) := by
  refine pt_imp (pt_cmpR ho ha hb hm) fun σ H Q ⟨G, P, s, e, h, c⟩ => ?_
  show tOp r (TEx ρ R1 w1) (TEx ρ R2' w2) σ H _
  exact tx_op hr σ H _ ⟨G, P, s, e, h, fun G' H' v b st e' pb rb => ⟨b, rb, c G' H' b st e' pb⟩⟩
theorem pr_ix (ho : IxR X r) (hr : R2Ok r R1 R2' R3 f) (ha : PE X a (TEx ρ R1 w1)) (hb : PE X b (TEx ρ R2' w2)) (hs : PlainIx b := by exact fun _ _ => rfl) : PE X (.Subscript a b pos) (TEx ρ R3 fun P => w1 fun x => w2 fun y => f x y P) :=
  pe_imp (pe_ix ho ha hb hs) (tx_op hr)
theorem pr_un {op : UnaryOp} {r : V → Hp → VK → Prop} {f : α → W γ} (ho : UnR X (unaryOp op) r) (hr : R1Ok r R1 R3 f) (ha : PE X a (TEx ρ R1 w1)) : PE X (.UnaryOp op a pos) (TEx ρ R3 fun P => w1 fun x => f x P) := by
  refine pe_imp (pe_un ho ha) fun σ H Q ⟨G, P, s, e, h, c⟩ => ⟨G, _, s, e, h, fun G1 H1 v x st1 e1 p1 r1 => ?_⟩
  exact hr G1 H1 v x P Q st1.gh r1 p1 fun G3 H3 v z st3 pz rz => c G3 H3 v z (st1.trans st3.of0) (e1.step0 st3) pz rz
/-- a < b < c -/
theorem tx_chain {r r' : R2} {c : Expr} {w3 : W δ} {Rc : Rp K δ} {f : α → β → W Bool} {f' : β → δ → W Bool} (hr : R2Ok r R1 R2' rB f) (hr' : R2Ok r' R2' Rc rB f') (σ : L2.St) (H : Hp) (Q : VK)
    (h : TEx ρ rB (fun P => w1 fun x => w2 fun y => f x y fun k => if k = true then w3 fun z => f' y z P else P false) σ H Q) : tChain r r' (TEx ρ R1 w1) (TEx ρ R2' w2) (TEx ρ Rc w3) σ H Q := by
  obtain ⟨G, P, s, e, h, ct⟩ := h
  refine ⟨G, _, s, e, h, fun G1 H1 v1 x st1 e1 p1 r1 => ?_⟩
  refine ⟨G1, _, st1.gh, e1, p1, fun G2 H2 v2 y st2 e2 p2 r2 => ?_⟩
  refine hr G2 H2 v1 v2 x y _ _ st2.gh (R1.mono st2.gg r1) r2 p2 fun G3 H3 v k st3 pk rk => ?_
  refine ⟨k, rk, ?_⟩
  have s3 : Step (padr ρ) G H G3 H3 := (st1.trans st2).trans st3.of0
  cases k with
  | false => exact ct G3 H3 _ false s3 (e2.step0 st3) pk rfl
  | true =>
    refine ⟨G3, _, st3.gh, e2.step0 st3, pk, fun G4 H4 v4 z st4 e4 p4 r4 => ?_⟩
    exact hr' G4 H4 v2 v4 y z P Q st4.gh (R2'.mono (st3.gg.trans st4.gg) r2) r4 p4 fun G5 H5 v5 z5 st5 p5 r5 => ct G5 H5 v5 z5 ((s3.trans st4).trans st5.of0) (e4.step0 st5) p5 r5
theorem pr_chain {r r' : R2} {c : Expr} {w3 : W δ} {Rc : Rp K δ} {f : α → β → W Bool} {f' : β → δ → W Bool} {op op' : CmpOp} (ho : OpR X (compareOp op) r) (hr : R2Ok r R1 R2' rB f) (ho' : OpR X (compareOp op') r') (hr' : R2Ok r' R2' Rc rB f')
    (ha : PE X a (TEx ρ R1 w1)) (hb : PE X b (TEx ρ R2' w2)) (hc : PE X c (TEx ρ Rc w3)) (hm : lastMarks [op, op'] [b, c] = false := by with_unfolding_all rfl) :
    PE X (.Compare a [op, op'] [b, c] pos) (TEx ρ rB fun P => w1 fun x => w2 fun y => f x y fun k => if k = true then w3 fun z => f' y z P else P false) :=
  pe_imp (pe_chain ho ho' ha hb hc hm) (tx_chain (c := c) hr hr')
theorem pt_chainX {r r' : R2} {c : Expr} {w3 : W δ} {Rc : Rp K δ} {f : α → β → W Bool} {f' : β → δ → W Bool} {op op' : CmpOp} (ho : OpR X (compareOp op) r) (hr : R2Ok r R1 R2' rB f) (ho' : OpR X (compareOp op') r') (hr' : R2Ok r' R2' Rc rB f')
    (ha : PE X a (TEx ρ R1 w1)) (hb : PE X b (TEx ρ R2' w2)) (hc : PE X c (TEx ρ Rc w3)) (hm : lastMarks [op, op'] [b, c] = false := by with_unfolding_all rfl) :
    PT X (.Compare a [op, op'] [b, c] pos) (TTx ρ fun P => w1 fun x => w2 fun y => f x y fun k => if k = true then w3 fun z => f' y z P else P false) := by
  refine pt_imp (pt_chain ho ho' ha hb hc hm) fun σ H Q ⟨G, P, s, e, h, ct⟩ => ?_
  show tChain r r' (TEx ρ R1 w1) (TEx ρ R2' w2) (TEx ρ Rc w3) σ H _
  exact tx_chain (c := c) hr hr' σ H _ ⟨G, P, s, e, h, fun G' H' v b st e' pb rb => ⟨b, rb, ct G' H' b st e' pb⟩⟩
/-- tests -/
theorem pt_valX {w : W Bool} (h : PE X a (TEx ρ rB w)) (he : ∀ whole, isTrue a X.env whole = (do let v ← whole; standAt a.pos; holding [v] (truthy v)) := by intro _; rfl) : PT X a (TTx ρ w) :=
  pt_imp (pt_val h he) fun σ H Q ⟨G, P, s, e, h, ct⟩ => ⟨G, P, s, e, h, fun G' H' v b st e' pb rb => ⟨b, rb, ct G' H' b st e' pb⟩⟩
variable {u1 u2 : W Bool} {rest : List Expr}
theorem pw_and1X (h : PT X a (TTx ρ u1)) : PW X (.BoolOp .And [a] pos) (TTx ρ u1) := pw_and1 h
theorem pw_or1X (h : PT X a (TTx ρ u1)) : PW X (.BoolOp .Or [a] pos) (TTx ρ u1) := pw_or1 h
theorem pw_imp {e : Expr} {t t' : TT} (h : PW X e t) (k : ∀ σ H Q, t' σ H Q → t σ H Q) : PW X e t' := ⟨fun wh pins s σ H Q I q => h.run wh pins s σ H Q I (k σ H Q q)⟩
theorem pw_andX (h1 : PT X a (TTx ρ u1)) (h2 : PW X (.BoolOp .And (b :: rest) pos) (TTx ρ u2)) : PW X (.BoolOp .And (a :: b :: rest) pos) (TTx ρ fun P => u1 fun k => if k = true then u2 P else P false) := by
  refine pw_imp (pw_and h1 h2) fun σ H Q ⟨G, P, s, e, h, c⟩ => ⟨G, _, s, e, h, fun G1 H1 k st1 e1 p1 => ?_⟩
  cases k with
  | true => exact ⟨G1, P, st1.gh, e1, p1, fun G2 H2 b st2 e2 p2 => c G2 H2 b (st1.trans st2) e2 p2⟩
  | false => exact c G1 H1 false st1 e1 p1
theorem pw_orX (h1 : PT X a (TTx ρ u1)) (h2 : PW X (.BoolOp .Or (b :: rest) pos) (TTx ρ u2)) : PW X (.BoolOp .Or (a :: b :: rest) pos) (TTx ρ fun P => u1 fun k => if k = true then P true else u2 P) := by
  refine pw_imp (pw_or h1 h2) fun σ H Q ⟨G, P, s, e, h, c⟩ => ⟨G, _, s, e, h, fun G1 H1 k st1 e1 p1 => ?_⟩
  cases k with
  | false => exact ⟨G1, P, st1.gh, e1, p1, fun G2 H2 b st2 e2 p2 => c G2 H2 b (st1.trans st2) e2 p2⟩
  | true => exact c G1 H1 true st1 e1 p1
theorem pt_notX (h : PT X a (TTx ρ u1)) : PT X (.UnaryOp .Not a pos) (TTx ρ fun P => u1 fun k => P (!k)) :=
  pt_imp (pt_not h) fun σ H Q ⟨G, P, s, e, h, c⟩ => ⟨G, _, s, e, h, fun G1 H1 k st1 e1 p1 => c G1 H1 (!k) st1 e1 p1⟩
/-- .. as values -/
theorem pr_andV {w1 : W Bool} (h1 : PE X a (TEx ρ rB w1)) {w2 : W Bool} (h2 : PE X (.BoolOp .And (b :: rest) pos) (TEx ρ rB w2)) : PE X (.BoolOp .And (a :: b :: rest) pos) (TEx ρ rB fun P => w1 fun k => if k = true then w2 P else P false) := by
  refine pe_imp (pe_and h1 h2) fun σ H Q ⟨G, P, s, e, h, c⟩ => ⟨G, _, s, e, h, fun G1 H1 v k st1 e1 p1 r1 => ⟨k, r1, ?_⟩⟩
  cases k with
  | true => exact ⟨G1, P, st1.gh, e1, p1, c.step st1⟩
  | false => exact c G1 H1 _ false st1 e1 p1 rfl
theorem pr_orV {w1 : W Bool} (h1 : PE X a (TEx ρ rB w1)) {w2 : W Bool} (h2 : PE X (.BoolOp .Or (b :: rest) pos) (TEx ρ rB w2)) : PE X (.BoolOp .Or (a :: b :: rest) pos) (TEx ρ rB fun P => w1 fun k => if k = true then P true else w2 P) := by
  refine pe_imp (pe_or h1 h2) fun σ H Q ⟨G, P, s, e, h, c⟩ => ⟨G, _, s, e, h, fun G1 H1 v k st1 e1 p1 r1 => ⟨k, r1, ?_⟩⟩
  cases k with
  | false => exact ⟨G1, P, st1.gh, e1, p1, c.step st1⟩
  | true => exact c G1 H1 _ true st1 e1 p1 rfl
theorem pr_oneV {op : BoolOp} {w : W α} (h : PE X a (TEx ρ R w)) : PE X (.BoolOp op [a] pos) (TEx ρ R w) := pe_one h
theorem pr_notV {w : W Bool} (h : PE X a (TEx ρ rB w)) : PE X (.UnaryOp .Not a pos) (TEx ρ rB fun P => w fun k => P (!k)) :=
  pe_imp (pe_not h) fun σ H Q ⟨G, P, s, e, h, c⟩ => ⟨G, _, s, e, h, fun G1 H1 v k st1 e1 p1 r1 => ⟨k, r1, c G1 H1 _ (!k) st1 e1 p1 rfl⟩⟩
theorem pr_if {t : Expr} {w1 w2 : W α} (ht : PT X t (TTx ρ u1)) (ha : PE X a (TEx ρ R w1)) (hb : PE X b (TEx ρ R w2)) : PE X (.IfExp t a b pos) (TEx ρ R fun P => u1 fun k => if k = true then w1 P else w2 P) := by
  refine pe_imp (pe_ifExp ht ha hb) fun σ H Q ⟨G, P, s, e, h, c⟩ => ⟨G, _, s, e, h, fun G1 H1 k st1 e1 p1 => ?_⟩
  cases k with
  | true => exact ⟨G1, P, st1.gh, e1, p1, c.step st1⟩
  | false => exact ⟨G1, P, st1.gh, e1, p1, c.step st1⟩
/-! ### arguments, displays, calls -/
theorem pa_nilX : PA X [] (TAx ρ fsN fun P => P ()) := pa_imp pa_nil fun σ H Q ⟨G, P, s, e, h, c⟩ => c G H [] () (Step.refl s) e h rfl
theorem pa_oneX {e : Expr} (h : PE X e (TEx ρ R w1)) (hs : starEach [e] X.env = (false, eval e X.env) :: starEach [] X.env := by rfl) : PA X [e] (TAx ρ (fs1 R) w1) :=
  pa_imp (pa_cons h pa_nil hs) fun σ H Q ⟨G, P, s, e, h, c⟩ => ⟨G, P, s, e, h, fun G1 H1 v x st1 e1 p1 r1 => c G1 H1 [v] x st1 e1 p1 ⟨v, rfl, r1⟩⟩
theorem pa_consX {e : Expr} {es : List Expr} {F : Fs K β} (h : PE X e (TEx ρ R w1)) (ht : PA X es (TAx ρ F w2)) (hs : starEach (e :: es) X.env = (false, eval e X.env) :: starEach es X.env := by rfl) : PA X (e :: es) (TAx ρ (fsC R F) fun P => w1 fun x => w2 fun y => P (x, y)) := by
  refine pa_imp (pa_cons h ht hs) fun σ H Q ⟨G, P, s, e, h, c⟩ => ⟨G, _, s, e, h, fun G1 H1 v x st1 e1 p1 r1 => ⟨G1, _, st1.gh, e1, p1, fun G2 H2 vs y st2 e2 p2 r2 => ?_⟩⟩
  exact c G2 H2 (v :: vs) (x, y) (st1.trans st2) e2 p2 ⟨v, vs, rfl, R.mono st2.gg r1, r2⟩
theorem pr_tup {es : List Expr} {F : Fs K α} {k} (h : PA X es (TAx ρ F w1)) (hn : F.n ≤ sizeLine := by exact Nat.le_of_ble_eq_true rfl) : PE X (.Tuple es k pos) (TEx ρ (rT F) w1) := by
  refine pe_imp (pe_tup h) fun σ H Q ⟨G, P, s, e, h, c⟩ => ⟨G, P, s, e, h, fun G1 H1 vs x st1 e1 p1 r1 => ⟨by rw [F.len r1]; exact hn, fun p hp => ?_⟩⟩
  have s2 := Step.new (M := []) (o := .tup vs) st1.gh hp
  exact c _ _ _ x (st1.trans s2.of0) (e1.step0 s2) p1 ⟨p, vs, rfl, SqT.of upd_same, F.mono s2.gg r1⟩
/-- a row of one kind -/
def fsR {K : PySem.W.Frag} (R : Rp K α) (n : Nat) : Fs K (List α) := ⟨fun G vs xs => vs.length = n ∧ Paired (R.ok G) vs xs, fun e ⟨h1, h2⟩ => ⟨h1, paired_mono (fun _ _ z => R.mono e z) h2⟩, n, fun h => h.1⟩
theorem fsR_n {K : PySem.W.Frag} (R : Rp K α) (n : Nat) : (fsR R n).n = n := rfl
theorem fsR_pair {K : PySem.W.Frag} {R : Rp K α} {G : Hp} {n : Nat} {vs : List V} {xs : List α} (h : (fsR R n).ok G vs xs) : Paired (R.ok G) vs xs := h.2
theorem pa_nilR : PA X [] (TAx ρ (fsR R 0) fun P => P []) := pa_imp pa_nil fun σ H Q ⟨G, P, s, e, h, c⟩ => c G H [] [] (Step.refl s) e h ⟨rfl, .nil⟩
theorem pa_consR {e : Expr} {es : List Expr} {n : Nat} {w2 : W (List α)} (h : PE X e (TEx ρ R w1)) (ht : PA X es (TAx ρ (fsR R n) w2)) (hs : starEach (e :: es) X.env = (false, eval e X.env) :: starEach es X.env := by rfl) : PA X (e :: es) (TAx ρ (fsR R (n + 1)) fun P => w1 fun x => w2 fun y => P (x :: y)) := by
  refine pa_imp (pa_cons h ht hs) fun σ H Q ⟨G, P, s, e, h, c⟩ => ⟨G, _, s, e, h, fun G1 H1 v x st1 e1 p1 r1 => ⟨G1, _, st1.gh, e1, p1, fun G2 H2 vs y st2 e2 p2 r2 => ?_⟩⟩
  exact c G2 H2 (v :: vs) (x :: y) (st1.trans st2) e2 p2 ⟨congrArg (· + 1) r2.1, .cons (R.mono st2.gg r1) r2.2⟩
theorem pr_lst {es : List Expr} {n : Nat} {w : W (List α)} (h : PA X es (TAx ρ (fsR R n) w)) (hn : n ≤ sizeLine := by decide) : PE X (.List es pos) (TEL ρ R w) := by
  refine pe_imp (pe_lst h) fun σ H Q ⟨G, P, s, e, h, c⟩ => ⟨G, P, s, e, h, fun G1 H1 vs x st1 e1 p1 r1 => ?_⟩
  have hl : vs.length = n := by rw [(fsR R n).len r1, fsR_n]
  refine ⟨by rw [hl]; exact hn, fun p hp => ?_⟩
  have s2 := Step.lay (M := []) (o := .lst vs) st1.gh hp
  have hp0 : H p = none := by
    cases q : H p with
    | none => rfl
    | some o =>
      by_cases z : p ∈ padr ρ
      · obtain ⟨u, e, _⟩ := e1.there (padr_sub z); rw [hp] at e; cases e
      · rw [st1.keep _ _ q z] at hp; cases hp
  exact c _ _ p vs x (st1.trans s2.of0) (e1.step0 s2) p1 hp0 (st1.gh.free hp) upd_same (fsR_pair r1) (by rw [hl]; exact hn)
/-- a tuple of one kind -/
theorem pr_tupU {es : List Expr} {n k : Nat} {w : W (List α)} (h : PA X es (TAx ρ (fsR R n) w)) (hn : n ≤ sizeLine := by decide) : PE X (.Tuple es k pos) (TEx ρ (rU R) w) := by
  refine pe_imp (pe_tup h) fun σ H Q ⟨G, P, s, e, h, c⟩ => ⟨G, P, s, e, h, fun G1 H1 vs x st1 e1 p1 r1 => ?_⟩
  have hl : vs.length = n := by rw [(fsR R n).len r1, fsR_n]
  refine ⟨by rw [hl]; exact hn, fun p hp => ?_⟩
  have s2 := Step.new (M := []) (o := .tup vs) st1.gh hp
  exact c _ _ _ x (st1.trans s2.of0) (e1.step0 s2) p1 ⟨p, vs, rfl, SqT.of upd_same, paired_mono (fun _ _ z => R.mono s2.gg z) (fsR_pair r1), by rw [hl]; exact hn⟩
theorem tx_cb {r : List V → Hp → VK → Prop} {F : Fs K α} {f : α → W γ} (hr : RCOk r F R3 f) (σ : L2.St) (H : Hp) (Q : VK) (h : TEx ρ R3 (fun P => w1 fun x => f x P) σ H Q) : tCB r (TAx ρ F w1) σ H Q := by
  obtain ⟨G, P, s, e, h, c⟩ := h
  exact ⟨G, _, s, e, h, fun G1 H1 vs x st1 e1 p1 r1 => hr G1 H1 vs x P Q st1.gh r1 p1 fun G3 H3 v z st3 pz rz => c G3 H3 v z (st1.trans st3.of0) (e1.step0 st3) pz rz⟩
theorem pr_cb {e : Expr} {es : List Expr} {x : Str} {p : Pos} {id : String} {r : List V → Hp → VK → Prop} {F : Fs K α} {f : α → W γ} (hc : CallR X (.builtin id) r) (hr : RCOk r F R3 f) (hm : X.mg x = none) (hv : bootBuiltins x = some (.builtin id)) (ha : PA X (e :: es) (TAx ρ F w1))
    (hg : Gl X x := by rfl) (hn : x ≠ "__name__" := by decide) (hdb : (x == ("__debug__" : Str)) = false := by decide)
    (he : starEach (e :: es) X.env = (false, eval e X.env) :: starEach es X.env := by rfl) (hpl : (backTo pos (starEach es X.env)).any (·.1) = false := by rfl) : PE X (.Call (.Name x p) (e :: es) [] pos) (TEx ρ R3 fun P => w1 fun x => f x P) :=
  pe_imp (pe_callB hc hg hm hv ha hn hdb he hpl) (tx_cb hr)
theorem pr_cty {e : Expr} {es : List Expr} {x : Str} {p : Pos} {T : String} {r : List V → Hp → VK → Prop} {F : Fs K α} {f : α → W γ} (hc : CallR X (.type T) r) (hr : RCOk r F R3 f) (hm : X.mg x = none) (hv : bootBuiltins x = some (.type T)) (ha : PA X (e :: es) (TAx ρ F w1))
    (hg : Gl X x := by rfl) (hn : x ≠ "__name__" := by decide) (hdb : (x == ("__debug__" : Str)) = false := by decide)
    (he : starEach (e :: es) X.env = (false, eval e X.env) :: starEach es X.env := by rfl) (hpl : (backTo pos (starEach es X.env)).any (·.1) = false := by rfl) : PE X (.Call (.Name x p) (e :: es) [] pos) (TEx ρ R3 fun P => w1 fun x => f x P) :=
  pe_imp (pe_callTy hc hg hm hv ha hn hdb he hpl) (tx_cb hr)
/-- .. that make a new list -/
theorem EnvOk.freshIn {σ : L2.St} {G H G1 H1 : Hp} (st : Step (padr ρ) G H G1 H1) (e1 : EnvOk ρ G1 H1 σ) {p : Addr} (hp : H1 p = none) : H p = none := by
  cases q : H p with
  | none => rfl
  | some o =>
    by_cases z : p ∈ padr ρ
    · obtain ⟨u, e, _⟩ := e1.there (padr_sub z); rw [hp] at e; cases e
    · rw [st.keep _ _ q z] at hp; cases hp
theorem tx_cbL {r : List V → Hp → VK → Prop} {F : Fs K α} {f : α → W (List γ)} (hr : RCL r F R3 f) (σ : L2.St) (H : Hp) (Q : VK) (h : TEL ρ R3 (fun P => w1 fun x => f x P) σ H Q) : tCB r (TAx ρ F w1) σ H Q := by
  obtain ⟨G, P, s, e, h, c⟩ := h
  exact ⟨G, _, s, e, h, fun G1 H1 vs x st1 e1 p1 r1 => hr G1 H1 vs x P Q st1.gh r1 p1 fun H3 p us ys st3 pz np hp rz hz =>
    c G1 H3 p us ys (st1.trans st3.of0) (e1.step0 st3) pz (EnvOk.freshIn st1 e1 np) (st1.gh.free np) hp rz hz⟩
theorem pr_ctyL {e : Expr} {es : List Expr} {x : Str} {p : Pos} {T : String} {r : List V → Hp → VK → Prop} {F : Fs K α} {f : α → W (List γ)} (hc : CallR X (.type T) r) (hr : RCL r F R3 f) (hm : X.mg x = none) (hv : bootBuiltins x = some (.type T)) (ha : PA X (e :: es) (TAx ρ F w1))
    (hg : Gl X x := by rfl) (hn : x ≠ "__name__" := by decide) (hdb : (x == ("__debug__" : Str)) = false := by decide)
    (he : starEach (e :: es) X.env = (false, eval e X.env) :: starEach es X.env := by rfl) (hpl : (backTo pos (starEach es X.env)).any (·.1) = false := by rfl) : PE X (.Call (.Name x p) (e :: es) [] pos) (TEL ρ R3 fun P => w1 fun x => f x P) :=
  pe_imp (pe_callTy hc hg hm hv ha hn hdb he hpl) (tx_cbL hr)
end
end SS

set_option Elab.async false
set_option linter.all false
set_option maxRecDepth 100000
/-! SSC: own rules: what is walked, comprehensions, statements, loops, calls, the def. Own work. -/
namespace SS
open PySem PySem.Spec L2

/-! ### what a loop walks -/
structure Walks {K : PySem.W.Frag} {α : Type} (J : It) (G : Hp) (R : Rp K α) (xs : List α) : Prop where
  len : xs.length ≤ sizeLine
  go : ∀ (i : Nat) (H : Hp), Same G H → i < xs.length → J.go i H
  yld : ∀ (i : Nat) (G0 H : Hp) (v : V) (H' : Hp) (x : α), Same G G0 → Same G0 H → xs[i]? = some x → J.yld i H v H' → ∃ G1, Step [] G0 H G1 H' ∧ R.ok G1 v x
  stop : ∀ (H : Hp), Same G H → J.stop xs.length H
section
variable {K : PySem.W.Frag} {α : Type}
def TIx (ρ : List (En K)) (R : Rp K α) (w : W (List α)) : TI := fun σ H Rr => ∃ (G : Hp) (P : List α → Prop), Same G H ∧ EnvOk ρ G H σ ∧ w P ∧
  ∀ G' H' J xs, Step (padr ρ) G H G' H' → EnvOk ρ G' H' σ → P xs → Walks J G' R xs → Rr J H'
/-- a target: is are its slots -/
def TGx (ρ : List (En K)) (R : Rp K α) (ext : α → List (En K)) (is : List Nat) : TG := fun v σ H Q => ∃ (G : Hp) (a : α), Same G H ∧ EnvOk ρ G H σ ∧ R.ok G v a ∧
  ∀ σ', EnvOk (ext a) G H σ' → σ'.length = σ.length → (∀ j, j ∉ is → σ'[j]? = σ[j]?) → Q σ' H
def rng (lo : Int) (n : Nat) : List Int := (List.range n).map fun (i : Nat) => lo + (i : Int)
theorem szl : (sizeLine : Nat) = 16777216 := by rw [sizeLine_eq]
theorem mem1 {a b : Addr} (h : a ∈ [b]) : a = b := List.mem_singleton.mp h
theorem rng_len (lo : Int) (n : Nat) : (rng lo n).length = n := by unfold rng; simp
theorem rng_get {lo : Int} {n i : Nat} {x : Int} (h : (rng lo n)[i]? = some x) : i < n ∧ x = lo + (i : Int) := by
  unfold rng at h
  rw [List.getElem?_map] at h
  cases q : (List.range n)[i]? with
  | none => rw [q] at h; cases h
  | some j =>
    rw [q] at h
    obtain ⟨h1, h2⟩ := List.getElem?_eq_some_iff.mp q
    simp at h1 h2
    have : lo + (j : Int) = x := by simpa using h
    subst h2
    exact ⟨h1, this.symm⟩
theorem walks_list {G : Hp} {R : Rp K α} {a : Addr} {vs : List V} {xs : List α} (h : SqL K G a vs) (p : Paired (R.ok G) vs xs) (hz : vs.length ≤ sizeLine) : Walks (Itl K a) G R xs where
  len := by rw [← paired_len p]; exact hz
  go := fun i H s hi => by
    have hi' : i < vs.length := by rw [paired_len p]; exact hi
    exact ⟨vs, vs[i], Same.seq s h, List.getElem?_eq_getElem hi'⟩
  yld := fun i G0 H v H' x s0 s hx hy => by
    obtain ⟨e, hy⟩ := hy
    subst e
    obtain ⟨u, hu, ru⟩ := paired_get p hx
    have z := hy vs (Same.seq (s0.trans s) h)
    rw [hu] at z
    have z' : u = v := by simpa using z
    subst z'
    exact ⟨G0, Step.refl s, R.mono s0 ru⟩
  stop := fun H s => ⟨vs, Same.seq s h, by rw [paired_len p]; exact Nat.le_refl _⟩
theorem walks_tup {G : Hp} {R : Rp K α} {a : Addr} {vs : List V} {xs : List α} (h : SqT K G a vs) (p : Paired (R.ok G) vs xs) (hz : vs.length ≤ sizeLine) : Walks (Itt K a) G R xs where
  len := by rw [← paired_len p]; exact hz
  go := fun i H s hi => by
    have hi' : i < vs.length := by rw [paired_len p]; exact hi
    exact ⟨vs, vs[i], same_t s h, List.getElem?_eq_getElem hi'⟩
  yld := fun i G0 H v H' x s0 s hx hy => by
    obtain ⟨e, hy⟩ := hy
    subst e
    obtain ⟨u, hu, ru⟩ := paired_get p hx
    have z := hy vs (same_t (s0.trans s) h)
    rw [hu] at z
    have z' : u = v := by simpa using z
    subst z'
    exact ⟨G0, Step.refl s, R.mono s0 ru⟩
  stop := fun H s => ⟨vs, same_t s h, by rw [paired_len p]; exact Nat.le_refl _⟩
theorem walks_rng {G : Hp} (lo : Int) (n : Nat) (hn : n ≤ sizeLine) : Walks (Itr lo n) G (rI : Rp K Int) (rng lo n) where
  len := by rw [rng_len]; exact hn
  go := fun i H s hi => by rw [rng_len] at hi; exact hi
  yld := fun i G0 H v H' x s0 s hx hy => by
    obtain ⟨e, hy⟩ := hy
    subst e hy
    exact ⟨G0, Step.refl s, by rw [(rng_get hx).2]; rfl⟩
  stop := fun H s => by show n ≤ _; rw [rng_len]; exact Nat.le_refl _
end
section
variable {X : Cx} {K : PySem.W.Frag} [HK X K] {α β γ : Type} {ρ : List (En K)} {R : Rp K α} {tg e : Expr} {pos : Pos}
theorem pi_listX {w : W (List α)} (h : PE X e (TEx ρ (rL R) w)) : PI X tg e (TIx ρ R w) := by
  have hK : X.K = K := HK.eq
  subst hK
  exact pi_imp (pi_list h) fun σ H Q ⟨G, P, s, ev, p, c⟩ => ⟨G, P, s, ev, p, fun G1 H1 v xs st1 e1 p1 ⟨a, vs, h1, h2, h3, h4⟩ => ⟨a, h1, ⟨vs, Same.seq st1.gh h2⟩, c G1 H1 _ xs st1 e1 p1 (walks_list h2 h3 h4)⟩⟩
theorem pi_tupX {w : W (List α)} (h : PE X e (TEx ρ (rU R) w)) : PI X tg e (TIx ρ R w) := by
  have hK : X.K = K := HK.eq
  subst hK
  exact pi_imp (pi_tup h) fun σ H Q ⟨G, P, s, ev, p, c⟩ => ⟨G, P, s, ev, p, fun G1 H1 v xs st1 e1 p1 ⟨a, vs, h1, h2, h3, h4⟩ => ⟨a, h1, ⟨vs, same_t st1.gh h2⟩, c G1 H1 _ xs st1 e1 p1 (walks_tup h2 h3 h4)⟩⟩
theorem pi_rng1X {a : Expr} {p : Pos} {w : W Int} (hm : X.mg "range" = none) (ha : PA X [a] (TAx ρ (fs1 rI) w)) (hg : Gl X "range" := by rfl) (hs : starEach [a] X.env = [(false, eval a X.env)] := by rfl) :
    PI X tg (.Call (.Name "range" p) [a] [] pos) (TIx ρ rI fun P => w fun j => (j < 1000000 ∧ -1000000 < j) ∧ P (rng 0 j.toNat)) :=
  pi_imp (pi_range1 hg hm ha hs) fun σ H Q ⟨G, P, s, ev, p, c⟩ => ⟨G, _, s, ev, p, fun G1 H1 vs j st1 e1 p1 ⟨v, h1, h2⟩ => by
    subst h1
    have h2' : v = V.int j := h2
    subst h2'
    obtain ⟨⟨b1, b2⟩, p1⟩ := p1
    exact ⟨j, rfl, by omega, by omega, c G1 H1 _ _ st1 e1 p1 (walks_rng _ _ (by have := szl; omega))⟩⟩
theorem pi_rng2X {a b : Expr} {p : Pos} {w : W (Int × Int)} (hm : X.mg "range" = none) (ha : PA X [a, b] (TAx ρ (fsC rI (fs1 rI)) w)) (hg : Gl X "range" := by rfl) (hs : starEach [a, b] X.env = [(false, eval a X.env), (false, eval b X.env)] := by rfl) (hs2 : starEach [b] X.env = [(false, eval b X.env)] := by rfl) :
    PI X tg (.Call (.Name "range" p) [a, b] [] pos) (TIx ρ rI fun P => w fun j => (j.1 < 1000000 ∧ -1000000 < j.1 ∧ j.2 < 1000000 ∧ -1000000 < j.2) ∧ P (rng j.1 (j.2 - j.1).toNat)) :=
  pi_imp (pi_range2 hg hm ha hs hs2) fun σ H Q ⟨G, P, s, ev, p, c⟩ => ⟨G, _, s, ev, p, fun G1 H1 vs j st1 e1 p1 ⟨v, r, h1, h2, ⟨u, h3, h4⟩⟩ => by
    obtain ⟨i, j⟩ := j
    subst h3
    subst h1
    have h2' : v = V.int i := h2
    have h4' : u = V.int j := h4
    subst h2' h4'
    obtain ⟨⟨b1, b2, b3, b4⟩, p1⟩ := p1
    dsimp only at b1 b2 b3 b4
    exact ⟨i, j, rfl, ⟨by omega, by omega, by omega, by omega⟩, c G1 H1 _ _ st1 e1 p1 (walks_rng _ _ (by have := szl; omega))⟩⟩
/-- range(i, j, -1) -/
def rngD (i : Int) (n : Nat) : List Int := (List.range n).map fun (k : Nat) => i - (k : Int)
theorem rngD_len (i : Int) (n : Nat) : (rngD i n).length = n := by unfold rngD; simp
theorem rngD_get {lo : Int} {n i : Nat} {x : Int} (h : (rngD lo n)[i]? = some x) : i < n ∧ x = lo - (i : Int) := by
  unfold rngD at h
  rw [List.getElem?_map] at h
  cases q : (List.range n)[i]? with
  | none => rw [q] at h; cases h
  | some j =>
    rw [q] at h
    obtain ⟨h1, h2⟩ := List.getElem?_eq_some_iff.mp q
    simp at h1 h2
    have : lo - (j : Int) = x := by simpa using h
    subst h2
    exact ⟨h1, this.symm⟩
theorem walks_rngD {K : PySem.W.Frag} {G : Hp} (lo : Int) (n : Nat) (hn : n ≤ sizeLine) : Walks (Itc lo (-1) n) G (rI : Rp K Int) (rngD lo n) where
  len := by rw [rngD_len]; exact hn
  go := fun i H s hi => by rw [rngD_len] at hi; exact hi
  yld := fun i G0 H v H' x s0 s hx hy => by
    obtain ⟨e, hy⟩ := hy
    subst e hy
    refine ⟨G0, Step.refl s, ?_⟩
    rw [(rngD_get hx).2]
    show V.int _ = V.int _
    congr 1
    omega
  stop := fun H s => by show n ≤ _; rw [rngD_len]; exact Nat.le_refl _
theorem pi_rngDX {a b c : Expr} {p : Pos} {w : W (Int × Int × Int)} (hm : X.mg "range" = none) (ha : PA X [a, b, c] (TAx ρ (fsC rI (fsC rI (fs1 rI))) w)) (hg : Gl X "range" := by rfl) (hs : starEach [a, b, c] X.env = (false, eval a X.env) :: starEach [b, c] X.env := by rfl) (hpl : (backTo pos (starEach [b, c] X.env)).any (·.1) = false := by rfl) :
    PI X tg (.Call (.Name "range" p) [a, b, c] [] pos) (TIx ρ rI fun P => w fun j => (j.1 < 1000000 ∧ -1000000 < j.1 ∧ j.2.1 < 1000000 ∧ -1000000 < j.2.1 ∧ j.2.2 = -1) ∧ P (rngD j.1 (j.1 - j.2.1).toNat)) :=
  pi_imp (pi_range3 hg hm ha hs hpl) fun σ H Q ⟨G, P, s, ev, p, ct⟩ => ⟨G, _, s, ev, p, fun G1 H1 vs j st1 e1 p1 ⟨v, r, h1, h2, ⟨v2, r2, h3, h4, ⟨u, h5, h6⟩⟩⟩ => by
    obtain ⟨i, j, k⟩ := j
    subst h5
    subst h3
    subst h1
    have h2' : v = V.int i := h2
    have h4' : v2 = V.int j := h4
    have h6' : u = V.int k := h6
    subst h2' h4' h6'
    obtain ⟨⟨b1, b2, b3, b4, b5⟩, p1⟩ := p1
    dsimp only at b1 b2 b3 b4 b5
    subst b5
    exact ⟨i, j, -1, (i - j).toNat, rfl, RgC.neg (by omega) (by omega) (by omega) (by omega), ct G1 H1 _ _ st1 e1 p1 (walks_rngD _ _ (by have := szl; omega))⟩⟩
/-- the signs of a text -/
def signs (z : Str) : List Str := z.cps.toList.map fun c => ⟨#[c]⟩
theorem walks_str {K : PySem.W.Frag} {G : Hp} (z : Str) (hz : z.cps.size ≤ sizeLine) : Walks (Its z) G (rS : Rp K Str) (signs z) where
  len := by unfold signs; simpa using hz
  go := fun i H s hi => by
    show i < z.cps.size
    unfold signs at hi
    simpa using hi
  yld := fun i G0 H v H' x s0 s hx hy => by
    obtain ⟨e, c, hc, hv⟩ := hy
    subst e hv
    refine ⟨G0, Step.refl s, ?_⟩
    unfold signs at hx
    rw [List.getElem?_map, Array.getElem?_toList, hc] at hx
    have : (⟨#[c]⟩ : Str) = x := by simpa using hx
    rw [← this]
    rfl
  stop := fun H s => by show z.cps.size ≤ _; unfold signs; simp
theorem pi_strX {w : W Str} (h : PE X e (TEx ρ rS w)) : PI X tg e (TIx ρ rS fun P => w fun z => z.cps.size ≤ sizeLine ∧ P (signs z)) :=
  pi_imp (pi_str h) fun σ H Q ⟨G, P, s, ev, p, c⟩ => ⟨G, _, s, ev, p, fun G1 H1 v z st1 e1 p1 r1 => ⟨z, r1, c G1 H1 _ _ st1 e1 p1.2 (walks_str z p1.1)⟩⟩
/-- targets -/
theorem pg_nameX {i : Nat} {nm : Str} (h : PG X (.Name nm pos) (gName i)) (hp : (ρ.getD i .off).pl = [] := by rfl) : PG X (.Name nm pos) (TGx ρ R (fun a => ρ.set i (.fr R a)) [i]) :=
  pg_imp h fun v σ H Q ⟨G, a, s, ev, r, c⟩ => c _ (ev.putFr r) (by simp) fun j hj => by
    have : i ≠ j := fun z => hj (by simp [z])
    exact List.getElem?_set_ne this
def TGsx (ρ : List (En K)) (F : Fs K α) (ext : α → List (En K)) (is : List Nat) : TGs := fun vs σ H Q => ∃ (G : Hp) (a : α), Same G H ∧ EnvOk ρ G H σ ∧ F.ok G vs a ∧
  ∀ σ', EnvOk (ext a) G H σ' → σ'.length = σ.length → (∀ j, j ∉ is → σ'[j]? = σ[j]?) → Q σ' H
theorem pgs_oneX {i : Nat} {nm : Str} (h : PG X (.Name nm pos) (gName i)) (hs : (assignEach [(.Name nm pos)] X.env).map (·.2) = assign (.Name nm pos) X.env :: (assignEach [] X.env).map (·.2) := by rfl) :
    PGs X [.Name nm pos] (TGsx ρ (fs1 R) (fun a => ρ.set i (.fr R a)) [i]) :=
  ⟨fun pins s σ H vs us Q I r ⟨G, a, sm, ev, ⟨v, h1, h2⟩, c⟩ => (pgs_cons h pgs_nil hs).run pins s σ H vs us Q I r ⟨v, [], h1, rfl, c _ (ev.putFr h2) (by simp) fun j hj => by
    have : i ≠ j := fun z => hj (by simp [z])
    exact List.getElem?_set_ne this⟩⟩
theorem pgs_consX {i : Nat} {nm : Str} {es : List Expr} {F : Fs K β} {ext : α → β → List (En K)} {is : List Nat} (h : PG X (.Name nm pos) (gName i)) (ht : ∀ a, PGs X es (TGsx (ρ.set i (.fr R a)) F (ext a) is))
    (hs : (assignEach ((.Name nm pos) :: es) X.env).map (·.2) = assign (.Name nm pos) X.env :: (assignEach es X.env).map (·.2) := by rfl) : PGs X (.Name nm pos :: es) (TGsx ρ (fsC R F) (fun a => ext a.1 a.2) (i :: is)) := by
  have ht' : PGs X es (fun vs σ H Q => ∃ a, TGsx (ρ.set i (.fr R a)) F (ext a) is vs σ H Q) := ⟨fun pins s σ H vs us Q I r ⟨a, q⟩ => (ht a).run pins s σ H vs us Q I r q⟩
  refine ⟨fun pins s σ H vs us Q I r ⟨G, a, sm, ev, ⟨v, vr, h1, h2, h3⟩, c⟩ => (pgs_cons h ht' hs).run pins s σ H vs us Q I r ⟨v, vr, h1, a.1, G, a.2, sm, ev.putFr h2, h3, fun σ' e' hl hj => c σ' e' (by simpa using hl) fun j hj' => ?_⟩⟩
  have h1 : i ≠ j := fun z => hj' (by simp [z])
  have h2 : j ∉ is := fun z => hj' (List.mem_cons_of_mem _ z)
  rw [hj j h2, List.getElem?_set_ne h1]
theorem pg_tupX {es : List Expr} {k : Nat} {F : Fs K α} {ext : α → List (En K)} {is : List Nat} (h : PGs X es (TGsx ρ F ext is)) (hc : X.calm = true := by rfl) (hn : (assignEach es X.env).length = F.n := by rfl) (hst : (assignEach es X.env).findIdx? (·.1) = none := by rfl) :
    PG X (.Tuple es k pos) (TGx ρ (rT F) ext is) := by
  have hK : X.K = K := HK.eq
  subst hK
  exact pg_imp (pg_tup hc h hn hst) fun v σ H Q ⟨G, a, s, ev, ⟨b, vs, h1, h2, h3⟩, c⟩ => ⟨b, vs, h1, same_t s h2, F.len h3, G, a, s, ev, h3, c⟩
/-- a target seen under another representation -/
theorem pg_to {R' : Rp K β} {g : β → α} {ext : α → List (En K)} {is : List Nat} (h : PG X tg (TGx ρ R ext is)) (k : ∀ G v x, R'.ok G v x → R.ok G v (g x)) : PG X tg (TGx ρ R' (fun x => ext (g x)) is) :=
  pg_imp h fun v σ H Q ⟨G, a, s, ev, r, c⟩ => ⟨G, g a, s, ev, k _ _ _ r, c⟩
end

/-! ### comprehensions -/
def wipeE {K : PySem.W.Frag} (ρ : List (En K)) : List Nat → List (En K)
  | [] => ρ
  | v :: vs => (wipeE ρ vs).set v .off
theorem EnvOk.off {K : PySem.W.Frag} {ρ : List (En K)} {G H : Hp} {σ : L2.St} (h : EnvOk ρ G H σ) (i : Nat) : EnvOk (ρ.set i .off) G H (σ.set i none) := by
  refine ⟨by rw [List.length_set, List.length_set, h.len], fun j e hj => ?_, (nodup_fr h.nd rfl).1⟩
  by_cases hij : i = j
  · subst hij
    have hl : i < ρ.length := by
      rcases Nat.lt_or_ge i ρ.length with z | z
      · exact z
      · rw [List.set_eq_of_length_le z, List.getElem?_eq_none z] at hj; cases hj
    rw [List.getElem?_set_self hl] at hj
    cases hj
    exact ⟨none, by rw [List.getElem?_set_self (by rw [h.len]; exact hl)], trivial⟩
  · rw [List.getElem?_set_ne hij] at hj ⊢
    exact h.ok j e hj
theorem EnvOk.wipe {K : PySem.W.Frag} {ρ : List (En K)} {G H : Hp} {σ : L2.St} (h : EnvOk ρ G H σ) : ∀ vs : List Nat, EnvOk (wipeE ρ vs) G H (L2.wipe σ vs)
  | [] => h
  | v :: vs => (EnvOk.wipe h vs).off v
theorem adrs_off {K : PySem.W.Frag} {ρ : List (En K)} {i : Nat} : ∀ a ∈ adrs (ρ.set i .off), a ∈ adrs ρ := fun a h => (adrs_set h).elim id fun z => nomatch z
theorem adrs_wipe {K : PySem.W.Frag} {ρ : List (En K)} : ∀ (vs : List Nat), ∀ a ∈ adrs (wipeE ρ vs), a ∈ adrs ρ
  | [], a, h => h
  | v :: vs, a, h => adrs_wipe vs a (adrs_off a h)
theorem wipe_get (σ : L2.St) (j : Nat) : ∀ vs : List Nat, (L2.wipe σ vs)[j]? = if j ∈ vs then σ[j]?.map (fun _ => none) else σ[j]?
  | [] => by simp [L2.wipe]
  | v :: vs => by
    unfold L2.wipe
    by_cases e : v = j
    · subst e
      rw [if_pos (by simp)]
      by_cases hl : v < σ.length
      · rw [List.getElem?_set_self (by rw [wipe_length]; exact hl), List.getElem?_eq_getElem hl]; rfl
      · rw [List.getElem?_eq_none (by rw [List.length_set, wipe_length]; omega), List.getElem?_eq_none (by omega)]; rfl
    · rw [List.getElem?_set_ne e, wipe_get σ j vs]
      have : (j ∈ v :: vs) ↔ j ∈ vs := by simp [Ne.symm e]
      simp only [this]
theorem wipe_same {σ σ' : L2.St} {vs is : List Nat} (hl : σ'.length = σ.length) (h : ∀ j, j ∉ is → σ'[j]? = (L2.wipe σ vs)[j]?) (hs : ∀ j ∈ is, j ∈ vs) : L2.wipe σ' vs = L2.wipe σ vs := by
  apply List.ext_getElem?
  intro j
  rw [wipe_get, wipe_get]
  by_cases hj : j ∈ vs
  · rw [if_pos hj, if_pos hj]
    by_cases hb : j < σ.length
    · rw [List.getElem?_eq_getElem hb, List.getElem?_eq_getElem (by omega)]; rfl
    · rw [List.getElem?_eq_none (by omega), List.getElem?_eq_none (by omega)]
  · rw [if_neg hj, if_neg hj, h j (fun z => hj (hs j z)), wipe_get, if_neg hj]
/-- the list that a comprehension makes -/
def lcW {α β : Type} : List α → (α → W Bool) → (α → W β) → W (List β)
  | [], _, _ => fun P => P []
  | x :: xs, t, e => fun P => t x fun b => if b = true then e x fun y => lcW xs t e fun ys => P (y :: ys) else lcW xs t e P
def yesW {α : Type} : α → W Bool := fun _ P => P true
section
variable {X : Cx} {K : PySem.W.Frag} [HK X K] {α β : Type} {ρ : List (En K)} {Ra : Rp K α} {R : Rp K β} {tg iter elt : Expr} {ifs : List Expr} {scope : Scope} {own : List (Str × Nat)} {pos : Pos} {wi : W (List α)} {ext : α → List (En K)} {is : List Nat} {t : α → W Bool} {f : α → W β}
theorem tx_lc (hsub : ∀ j ∈ is, j ∈ own.map (·.2)) (hpl : ∀ x, pls (ext x) = pls ρ) (hpw : pls (wipeE ρ (own.map (·.2))) = pls ρ) (σ : L2.St) (H : Hp) (Q : VK)
    (h : TEL ρ R (fun P => wi fun xs => lcW xs t f P) σ H Q) : tLc (TIx ρ Ra wi) (TGx (wipeE ρ (own.map (·.2))) Ra ext is) (ttf fun x => TTx (ext x) (t x)) (tef fun x => TEx (ext x) R (f x)) (own.map (·.2)) σ H Q := by
  obtain ⟨G, P, s, ev, p, c⟩ := h
  refine ⟨G, _, s, ev, p, fun G1 H1 J xs st1 e1 p1 wk D hD => ?_⟩
  have pe : ∀ x, padr (ext x) = padr ρ := fun x => by unfold padr; rw [hpl]
  have hD0 : H D = none := EnvOk.freshIn st1 e1 hD
  have hDr : D ∉ adrs ρ := e1.fresh hD
  -- the word: what is still to be made
  refine ⟨fun i m H' => m = xs.length - i ∧ i ≤ xs.length ∧ ∃ (G' : Hp) (us : List V) (ys : List β), Step (padr ρ) G1 H1 G' H' ∧ EnvOk ρ G' H' σ ∧ G' D = none ∧ H' D = some (.lst us) ∧ Paired (R.ok G') us ys ∧ us.length ≤ i ∧
    lcW (xs.drop i) t f (fun zs => P (ys ++ zs)), ⟨xs.length, by simp, Nat.zero_le _, G1, [], [], ?_, ?_, st1.gh.free hD, upd_same, .nil, Nat.le_refl _, p1⟩, ?_⟩
  · exact Step.lay st1.gh hD
  · exact e1.step0 (Step.lay st1.gh hD)
  rintro i m H' ⟨rfl, hi, G', us, ys, st, ev', gD, hDl, pr, hlen, wl⟩
  by_cases hlt : i < xs.length
  · refine .inr ⟨wk.go i H' (st.gg.trans st.gh) hlt, fun H'' => i + 1 ≤ xs.length ∧ ∃ (G'' : Hp) (us : List V) (ys : List β), Step (padr ρ) G1 H1 G'' H'' ∧ EnvOk ρ G'' H'' σ ∧ G'' D = none ∧ H'' D = some (.lst us) ∧ Paired (R.ok G'') us ys ∧ us.length ≤ i + 1 ∧
      lcW (xs.drop (i + 1)) t f (fun zs => P (ys ++ zs)), fun H'' ⟨q1, q2⟩ => ⟨xs.length - (i + 1), by omega, rfl, q1, q2⟩, fun v H2 hy => ?_⟩
    have hx : xs[i]? = some xs[i] := List.getElem?_eq_getElem hlt
    obtain ⟨G2, sy, rv⟩ := wk.yld i G' H' v H2 _ st.gg st.gh hx hy
    rw [List.drop_eq_getElem_cons hlt] at wl
    have ev2 := ev'.step0 sy
    have gD2 : G2 D = none := sy.old D _ hDl gD (by simp)
    have hD2 : H2 D = some (.lst us) := sy.keep D _ hDl (by simp)
    have stt : Step (padr ρ) G1 H1 G2 H2 := st.trans sy.of0
    refine ⟨G2, xs[i], sy.gh, ev2.wipe _, rv, fun σ2 e2 hl2 hj2 => ⟨wipe_same (by rw [hl2, wipe_length]) hj2 hsub, ?_⟩⟩
    refine ⟨xs[i], G2, _, sy.gh, e2, wl, fun G3 H3 b st3 e3 p3 => ?_⟩
    rw [pe] at st3
    have hDp : D ∉ padr ρ := fun z => hDr (padr_sub z)
    have gD3 : G3 D = none := st3.old D _ hD2 gD2 hDp
    have hD3 : H3 D = some (.lst us) := st3.keep D _ hD2 hDp
    have envb : ∀ {Ga Ha : Hp}, Step (padr ρ) G2 H2 Ga Ha → EnvOk (ext xs[i]) Ga Ha σ2 → EnvOk ρ Ga Ha σ := fun {Ga Ha} sa ea => by
      have pools : Pools ρ Ga Ha := fun q hq => ea.pools q (by rw [hpl]; exact hq)
      refine ⟨ev2.len, fun j e hj => ?_, ev2.nd⟩
      obtain ⟨o, ho, q⟩ := ev2.ok j e hj
      refine ⟨o, ho, ?_⟩
      cases e with
      | pool pp gg => exact ⟨q.1, pools (pp, gg) (pls_mem hj (by simp [En.pl]))⟩
      | off => trivial
      | fr Rr x => exact En.step (e := .fr Rr x) q sa fun a ha => nomatch ha
      | own a Rr x =>
        refine En.step (e := .own a Rr x) q sa fun a' ha z => ?_
        obtain ⟨q', hq1, hq2⟩ := List.mem_flatMap.mp z
        obtain ⟨j', hj'⟩ := pls_of hq1
        exact own_ne_pool ev2.nd hj hj' ha (by simpa [En.adr] using hq2)
      | obj a Cc x =>
        refine En.step (e := .obj a Cc x) q sa fun a' ha z => ?_
        obtain ⟨q', hq1, hq2⟩ := List.mem_flatMap.mp z
        obtain ⟨j', hj'⟩ := pls_of hq1
        exact own_ne_pool ev2.nd hj hj' ha (by simpa [En.adr] using hq2)
      | rg a Cc x =>
        refine En.step (e := .rg a Cc x) q sa fun a' ha z => ?_
        obtain ⟨q', hq1, hq2⟩ := List.mem_flatMap.mp z
        obtain ⟨j', hj'⟩ := pls_of hq1
        exact own_ne_pool ev2.nd hj hj' ha (by simpa [En.adr] using hq2)
    cases b with
    | false =>
      refine ⟨hlt, G3, us, ys, stt.trans st3, envb st3 e3, gD3, hD3, paired_mono (fun _ _ z => R.mono (sy.gg.trans st3.gg) z) pr, by omega, ?_⟩
      exact p3
    | true =>
      refine ⟨xs[i], G3, _, st3.gh, e3, p3, fun G4 H4 y b st4 e4 p4 r4 => ?_⟩
      rw [pe] at st4
      have gD4 : G4 D = none := st4.old D _ hD3 gD3 hDp
      have hD4 : H4 D = some (.lst us) := st4.keep D _ hD3 hDp
      have s34 := st3.trans st4
      have zl := wk.len
      refine ⟨us, hD4, by omega, hlt, G4, us ++ [y], ys ++ [b], ?_, ?_, gD4, upd_same, paired_app (paired_mono (fun _ _ z => R.mono (sy.gg.trans s34.gg) z) pr) (.cons r4 .nil), by simp; omega, ?_⟩
      · exact (stt.trans s34).cut (Step.put (M := [D]) st4.gh (by simp) gD4) fun a ha => .inr (by rw [mem1 ha]; exact hD)
      · exact (envb s34 e4).step (Step.put (M := [D]) st4.gh (by simp) gD4) fun a ha z => hDr (by rw [← mem1 z]; exact ha)
      · have eq : (fun zs => P (ys ++ [b] ++ zs)) = fun zs => P (ys ++ b :: zs) := by funext zs; rw [List.append_assoc]; rfl
        rw [eq]
        exact p4
  · have hi' : i = xs.length := by omega
    subst hi'
    refine .inl ⟨wk.stop H' (st.gg.trans st.gh), ?_⟩
    rw [List.drop_length] at wl
    have wl' : P (ys ++ []) := wl
    rw [List.append_nil] at wl'
    exact c G' H' D us ys (st1.trans st) ev' wl' hD0 gD hDl pr (by have := wk.len; omega)
end

/-- two clauses -/
def lc2W {α β γ : Type} : List α → List β → (α → W Bool) → (α → W (List γ)) → (α → γ → W Bool) → (α → γ → W β) → W (List β)
  | [], acc, _, _, _, _ => fun P => P acc
  | x :: xs, acc, t, wi1, t1, f => fun P => t x fun b => if b = true then wi1 x fun ys => acc.length + ys.length ≤ sizeLine ∧ lcW ys (t1 x) (f x) fun zs => lc2W xs (acc ++ zs) t wi1 t1 f P else lc2W xs acc t wi1 t1 f P
/-- what a block leaves of the outer environment -/
theorem env_back {K : PySem.W.Frag} {ρ ρ' : List (En K)} {σ σ' : L2.St} {G H Ga Ha : Hp} (ev : EnvOk ρ G H σ) (sa : Step (padr ρ) G H Ga Ha) (ea : EnvOk ρ' Ga Ha σ') (hpl : pls ρ' = pls ρ) : EnvOk ρ Ga Ha σ := by
  have pools : Pools ρ Ga Ha := fun q hq => ea.pools q (by rw [hpl]; exact hq)
  refine ⟨ev.len, fun j e hj => ?_, ev.nd⟩
  obtain ⟨o, ho, q⟩ := ev.ok j e hj
  refine ⟨o, ho, ?_⟩
  cases e with
  | pool pp gg => exact ⟨q.1, pools (pp, gg) (pls_mem hj (by simp [En.pl]))⟩
  | off => trivial
  | fr Rr x => exact En.step (e := .fr Rr x) q sa fun a ha => nomatch ha
  | own a Rr x =>
    refine En.step (e := .own a Rr x) q sa fun a' ha z => ?_
    obtain ⟨q', hq1, hq2⟩ := List.mem_flatMap.mp z
    obtain ⟨j', hj'⟩ := pls_of hq1
    exact own_ne_pool ev.nd hj hj' ha (by simpa [En.adr] using hq2)
  | obj a Cc x =>
    refine En.step (e := .obj a Cc x) q sa fun a' ha z => ?_
    obtain ⟨q', hq1, hq2⟩ := List.mem_flatMap.mp z
    obtain ⟨j', hj'⟩ := pls_of hq1
    exact own_ne_pool ev.nd hj hj' ha (by simpa [En.adr] using hq2)
  | rg a Cc x =>
    refine En.step (e := .rg a Cc x) q sa fun a' ha z => ?_
    obtain ⟨q', hq1, hq2⟩ := List.mem_flatMap.mp z
    obtain ⟨j', hj'⟩ := pls_of hq1
    exact own_ne_pool ev.nd hj hj' ha (by simpa [En.adr] using hq2)
section
variable {X : Cx} {K : PySem.W.Frag} [HK X K] {α β γ : Type} {ρ : List (En K)} {Ra : Rp K α} {Rg : Rp K γ} {R : Rp K β} {own : List (Str × Nat)} {vs1 : List Nat} {wi : W (List α)} {wi1 : α → W (List γ)} {ext : α → List (En K)} {ext1 : α → γ → List (En K)} {is is1 : List Nat} {t : α → W Bool} {t1 : α → γ → W Bool} {f : α → γ → W β}
theorem tx_lc2 (hsub : ∀ j ∈ is, j ∈ own.map (·.2)) (hsub1 : ∀ j ∈ is1, j ∈ vs1) (hpl : ∀ x, pls (ext x) = pls ρ) (hpl1 : ∀ x y, pls (ext1 x y) = pls ρ) (hA : ∀ x, adrs (ext x) = adrs ρ) (σ : L2.St) (H : Hp) (Q : VK)
    (h : TEL ρ R (fun P => wi fun xs => lc2W xs [] t wi1 t1 f P) σ H Q) :
    tLc2 (TIx ρ Ra wi) (TGx (wipeE ρ (own.map (·.2))) Ra ext is) (ttf fun x => TTx (ext x) (t x)) (fun σ H Rr => ∃ x, TIx (ext x) Rg (wi1 x) σ H Rr) (tgf fun x => TGx (wipeE (ext x) vs1) Rg (ext1 x) is1)
      (ttf fun q : α × γ => TTx (ext1 q.1 q.2) (t1 q.1 q.2)) (tef fun q : α × γ => TEx (ext1 q.1 q.2) R (f q.1 q.2)) (own.map (·.2)) vs1 σ H Q := by
  obtain ⟨G, P, s, ev, p, c⟩ := h
  refine ⟨G, _, s, ev, p, fun G1 H1 J xs st1 e1 p1 wk D hD => ?_⟩
  have pe : ∀ x, padr (ext x) = padr ρ := fun x => by unfold padr; rw [hpl]
  have pe1 : ∀ x y, padr (ext1 x y) = padr ρ := fun x y => by unfold padr; rw [hpl1]
  have hD0 : H D = none := EnvOk.freshIn st1 e1 hD
  have hDr : D ∉ adrs ρ := e1.fresh hD
  have hDp : D ∉ padr ρ := fun z => hDr (padr_sub z)
  refine ⟨fun i m H' => m = xs.length - i ∧ i ≤ xs.length ∧ ∃ (G' : Hp) (us : List V) (ys : List β), Step (padr ρ) G1 H1 G' H' ∧ EnvOk ρ G' H' σ ∧ G' D = none ∧ H' D = some (.lst us) ∧ Paired (R.ok G') us ys ∧ us.length ≤ sizeLine ∧
    lc2W (xs.drop i) ys t wi1 t1 f P, ⟨xs.length, by simp, Nat.zero_le _, G1, [], [], ?_, ?_, st1.gh.free hD, upd_same, .nil, Nat.zero_le _, p1⟩, ?_⟩
  · exact Step.lay st1.gh hD
  · exact e1.step0 (Step.lay st1.gh hD)
  rintro i m H' ⟨rfl, hi, G', us, ys, st, ev', gD, hDl, pr, hlen, wl⟩
  by_cases hlt : i < xs.length
  · refine .inr ⟨wk.go i H' (st.gg.trans st.gh) hlt, fun H'' => i + 1 ≤ xs.length ∧ ∃ (G'' : Hp) (us : List V) (ys : List β), Step (padr ρ) G1 H1 G'' H'' ∧ EnvOk ρ G'' H'' σ ∧ G'' D = none ∧ H'' D = some (.lst us) ∧ Paired (R.ok G'') us ys ∧ us.length ≤ sizeLine ∧
      lc2W (xs.drop (i + 1)) ys t wi1 t1 f P, fun H'' ⟨q1, q2⟩ => ⟨xs.length - (i + 1), by omega, rfl, q1, q2⟩, fun v H2 hy => ?_⟩
    have hx : xs[i]? = some xs[i] := List.getElem?_eq_getElem hlt
    obtain ⟨G2, sy, rv⟩ := wk.yld i G' H' v H2 _ st.gg st.gh hx hy
    rw [List.drop_eq_getElem_cons hlt] at wl
    have ev2 := ev'.step0 sy
    have gD2 : G2 D = none := sy.old D _ hDl gD (by simp)
    have hD2 : H2 D = some (.lst us) := sy.keep D _ hDl (by simp)
    have stt : Step (padr ρ) G1 H1 G2 H2 := st.trans sy.of0
    refine ⟨G2, xs[i], sy.gh, ev2.wipe _, rv, fun σ2 e2 hl2 hj2 => ⟨wipe_same (by rw [hl2, wipe_length]) hj2 hsub, ?_⟩⟩
    refine ⟨xs[i], G2, _, sy.gh, e2, wl, fun G3 H3 b st3 e3 p3 => ?_⟩
    rw [pe] at st3
    have gD3 : G3 D = none := st3.old D _ hD2 gD2 hDp
    have hD3 : H3 D = some (.lst us) := st3.keep D _ hD2 hDp
    cases b with
    | false => exact ⟨hlt, G3, us, ys, stt.trans st3, env_back ev2 st3 e3 (hpl _), gD3, hD3, paired_mono (fun _ _ z => R.mono (sy.gg.trans st3.gg) z) pr, hlen, p3⟩
    | true =>
      refine ⟨xs[i], G3, _, st3.gh, e3, p3, fun G4 H4 J1 ws st4 e4 p4 wk1 => ?_⟩
      rw [pe] at st4
      have gD4 : G4 D = none := st4.old D _ hD3 gD3 hDp
      have hD4 : H4 D = some (.lst us) := st4.keep D _ hD3 hDp
      have s24 : Step (padr ρ) G2 H2 G4 H4 := st3.trans st4
      obtain ⟨hz4, p4⟩ := p4
      refine ⟨fun j k Hb => k = ws.length - j ∧ j ≤ ws.length ∧ ∃ (Gb : Hp) (ub : List V) (yb : List β), Step (D :: padr ρ) G4 H4 Gb Hb ∧ EnvOk (ext xs[i]) Gb Hb σ2 ∧ Gb D = none ∧ Hb D = some (.lst ub) ∧ Paired (R.ok Gb) ub yb ∧ ub.length ≤ ys.length + j ∧
        lcW (ws.drop j) (t1 xs[i]) (f xs[i]) (fun zs => lc2W (xs.drop (i + 1)) (yb ++ zs) t wi1 t1 f P), ⟨ws.length, by simp, Nat.zero_le _, G4, us, ys, Step.refl st4.gh, e4, gD4, hD4, paired_mono (fun _ _ z => R.mono (sy.gg.trans s24.gg) z) pr, by rw [paired_len pr]; exact Nat.le_refl _, p4⟩, ?_⟩
      rintro j k Hb ⟨rfl, hj, Gb, ub, yb, sb, eb, gDb, hDb, prb, hlb, wb⟩
      have back : ∀ {Gc Hc : Hp} {σc : L2.St} {ρc : List (En K)}, Step (D :: padr ρ) G2 H2 Gc Hc → EnvOk ρc Gc Hc σc → pls ρc = pls ρ → EnvOk ρ Gc Hc σ := fun {Gc Hc σc ρc} sc ec hc => by
        have pools : Pools ρ Gc Hc := fun q hq => ec.pools q (by rw [hc]; exact hq)
        refine ⟨ev2.len, fun j e hj => ?_, ev2.nd⟩
        obtain ⟨o, ho, q⟩ := ev2.ok j e hj
        refine ⟨o, ho, ?_⟩
        have nD : ∀ a ∈ e.adr, a ≠ D := fun a ha z => hDr (z ▸ adrs_mem hj ha)
        cases e with
        | pool pp gg => exact ⟨q.1, pools (pp, gg) (pls_mem hj (by simp [En.pl]))⟩
        | off => trivial
        | fr Rr x => exact En.step (e := .fr Rr x) q sc fun a ha => nomatch ha
        | own a Rr x =>
          refine En.step (e := .own a Rr x) q sc fun a' ha z => ?_
          rcases List.mem_cons.mp z with z | z
          · exact nD a' ha z
          · obtain ⟨q', hq1, hq2⟩ := List.mem_flatMap.mp z
            obtain ⟨j', hj'⟩ := pls_of hq1
            exact own_ne_pool ev2.nd hj hj' ha (by simpa [En.adr] using hq2)
        | obj a Cc x =>
          refine En.step (e := .obj a Cc x) q sc fun a' ha z => ?_
          rcases List.mem_cons.mp z with z | z
          · exact nD a' ha z
          · obtain ⟨q', hq1, hq2⟩ := List.mem_flatMap.mp z
            obtain ⟨j', hj'⟩ := pls_of hq1
            exact own_ne_pool ev2.nd hj hj' ha (by simpa [En.adr] using hq2)
        | rg a Cc x =>
          refine En.step (e := .rg a Cc x) q sc fun a' ha z => ?_
          rcases List.mem_cons.mp z with z | z
          · exact nD a' ha z
          · obtain ⟨q', hq1, hq2⟩ := List.mem_flatMap.mp z
            obtain ⟨j', hj'⟩ := pls_of hq1
            exact own_ne_pool ev2.nd hj hj' ha (by simpa [En.adr] using hq2)
      have wide : ∀ {Ga Ha Gc Hc : Hp}, Step (padr ρ) Ga Ha Gc Hc → Step (D :: padr ρ) Ga Ha Gc Hc := fun s => s.wide fun a h => List.mem_cons_of_mem _ h
      by_cases hltj : j < ws.length
      · refine .inr ⟨wk1.go j Hb (sb.gg.trans sb.gh) hltj, fun Hc => j + 1 ≤ ws.length ∧ ∃ (Gb : Hp) (ub : List V) (yb : List β), Step (D :: padr ρ) G4 H4 Gb Hc ∧ EnvOk (ext xs[i]) Gb Hc σ2 ∧ Gb D = none ∧ Hc D = some (.lst ub) ∧ Paired (R.ok Gb) ub yb ∧ ub.length ≤ ys.length + (j + 1) ∧
          lcW (ws.drop (j + 1)) (t1 xs[i]) (f xs[i]) (fun zs => lc2W (xs.drop (i + 1)) (yb ++ zs) t wi1 t1 f P), fun Hc ⟨q1, q2⟩ => ⟨ws.length - (j + 1), by omega, rfl, q1, q2⟩, fun v1 H5 hy1 => ?_⟩
        have hw : ws[j]? = some ws[j] := List.getElem?_eq_getElem hltj
        obtain ⟨G5, sy5, rv5⟩ := wk1.yld j Gb Hb v1 H5 _ sb.gg sb.gh hw hy1
        rw [List.drop_eq_getElem_cons hltj] at wb
        have eb5 := eb.step0 sy5
        have gD5 : G5 D = none := sy5.old D _ hDb gDb (by simp)
        have hD5 : H5 D = some (.lst ub) := sy5.keep D _ hDb (by simp)
        refine ⟨xs[i], G5, ws[j], sy5.gh, eb5.wipe _, rv5, fun σ3 e5 hl5 hj5 => ⟨wipe_same (by rw [hl5, wipe_length]) hj5 hsub1, ?_⟩⟩
        refine ⟨(xs[i], ws[j]), G5, _, sy5.gh, e5, wb, fun G6 H6 b1 st6 e6 p6 => ?_⟩
        rw [pe1] at st6
        have gD6 : G6 D = none := st6.old D _ hD5 gD5 hDp
        have hD6 : H6 D = some (.lst ub) := st6.keep D _ hD5 hDp
        have eback : ∀ {Gc Hc : Hp} {σc : L2.St}, Step (padr ρ) G5 H5 Gc Hc → EnvOk (ext1 xs[i] ws[j]) Gc Hc σc → EnvOk (ext xs[i]) Gc Hc σ2 := fun {Gc Hc σc} sc ec => env_back eb5 (by rw [pe]; exact sc) ec (by rw [hpl1, hpl])
        cases b1 with
        | false => exact ⟨hltj, G6, ub, yb, (sb.trans (wide sy5.of0)).trans (wide st6), eback st6 e6, gD6, hD6, paired_mono (fun _ _ z => R.mono (sy5.gg.trans st6.gg) z) prb, by omega, p6⟩
        | true =>
          refine ⟨(xs[i], ws[j]), G6, _, st6.gh, e6, p6, fun G7 H7 y b st7 e7 p7 r7 => ?_⟩
          rw [pe1] at st7
          have gD7 : G7 D = none := st7.old D _ hD6 gD6 hDp
          have hD7 : H7 D = some (.lst ub) := st7.keep D _ hD6 hDp
          have s67 := st6.trans st7
          have zl := wk1.len
          have sput : Step [D] G7 H7 G7 (upd H7 D (.lst (ub ++ [y]))) := Step.put (M := [D]) st7.gh (by simp) gD7
          refine ⟨ub, hD7, by omega, hltj, G7, ub ++ [y], yb ++ [b], ?_, ?_, gD7, upd_same, paired_app (paired_mono (fun _ _ z => R.mono (sy5.gg.trans s67.gg) z) prb) (.cons r7 .nil), by simp; omega, ?_⟩
          · exact ((sb.trans (wide sy5.of0)).trans (wide s67)).trans (sput.wide fun a ha => by rw [mem1 ha]; exact List.mem_cons_self)
          · refine (eback s67 e7).step sput fun a ha z => ?_
            exact hDr (by rw [← mem1 z, ← hA xs[i]]; exact ha)
          · have eq : (fun zs => lc2W (xs.drop (i + 1)) (yb ++ [b] ++ zs) t wi1 t1 f P) = fun zs => lc2W (xs.drop (i + 1)) (yb ++ b :: zs) t wi1 t1 f P := by funext zs; rw [List.append_assoc]; rfl
            rw [eq]
            exact p7
      · have hj' : j = ws.length := by omega
        subst hj'
        rw [List.drop_length] at wb
        have wb' : lc2W (xs.drop (i + 1)) (yb ++ []) t wi1 t1 f P := wb
        rw [List.append_nil] at wb'
        have s2b : Step (D :: padr ρ) G2 H2 Gb Hb := (wide s24).trans sb
        refine .inl ⟨wk1.stop Hb (sb.gg.trans sb.gh), hlt, Gb, ub, yb, ?_, back s2b eb (hpl _), gDb, hDb, prb, by omega, wb'⟩
        exact stt.cut s2b fun a ha => (List.mem_cons.mp ha).elim (fun z => .inr (by rw [z]; exact hD)) .inl
  · have hi' : i = xs.length := by omega
    subst hi'
    refine .inl ⟨wk.stop H' (st.gg.trans st.gh), ?_⟩
    rw [List.drop_length] at wl
    have wl' : P ys := wl
    exact c G' H' D us ys (st1.trans st) ev' wl' hD0 gD hDl pr hlen
end
end SS

set_option Elab.async false
set_option linter.all false
set_option maxRecDepth 100000
/-! SSD: own rules: list comprehensions as terms, statements, loops, calls of defs, the def. Own work. -/
namespace SS
open PySem PySem.Spec L2

/-! ### list comprehensions -/
section
variable {X : Cx} {K : PySem.W.Frag} [HK X K] {α β : Type} {ρ : List (En K)} {Ra : Rp K α} {R : Rp K β} {tg iter elt : Expr} {ifs : List Expr} {scope : Scope} {own : List (Str × Nat)} {pos : Pos} {wi : W (List α)} {ext : α → List (En K)} {is : List Nat} {t : α → W Bool} {f : α → W β}
def BX (X : Cx) (scope : Scope) (s : Shared) (H : Hp) (C : Addr) (cl : List (Str × Addr)) (fp : List Addr) : Cx := X.blk s H scope (compEnvC scope cl C X.env) fp
instance {X : Cx} {K : PySem.W.Frag} {scope : Scope} {s : Shared} {H : Hp} {C : Addr} {cl : List (Str × Addr)} {fp : List Addr} [h : HK X K] : HK (BX X scope s H C cl fp) K := ⟨h.eq⟩
theorem pr_lc (hN : X.N.Nodup) (ok : BlkOk X.N X.env.scope scope own) (hi : PI X tg iter (TIx ρ Ra wi))
    (hg : ∀ (s : Shared) (H : Hp) (C : Addr) (cl : List (Str × Addr)) (fp : List Addr), PG (BX X scope s H C cl fp) tg (TGx (wipeE ρ (own.map (·.2))) Ra ext is))
    (ht : ∀ (x : α) (s : Shared) (H : Hp) (C : Addr) (cl : List (Str × Addr)) (fp : List Addr), PTs (BX X scope s H C cl fp) ifs (TTx (ext x) (t x)))
    (he : ∀ (x : α) (s : Shared) (H : Hp) (C : Addr) (cl : List (Str × Addr)) (fp : List Addr), PE (BX X scope s H C cl fp) elt (TEx (ext x) R (f x)))
    (hc : X.calm = true := by rfl) (hsub : ∀ j ∈ is, j ∈ own.map (·.2) := by decide) (hpl : ∀ x, pls (ext x) = pls ρ := by intro _; rfl) (hpw : pls (wipeE ρ (own.map (·.2))) = pls ρ := by rfl)
    (hs : ∀ x, foldedSetIterable iter X.env x = pure x := by intro _; rfl) : PE X (.ListComp elt [⟨tg, iter, ifs, 0⟩] scope pos) (TEL ρ R fun P => wi fun xs => lcW xs t f P) :=
  pe_imp (pe_lc hc hN hi ok hg (fun s H C cl fp => pts_fam fun x => ht x s H C cl fp) (fun s H C cl fp => pe_fam fun x => he x s H C cl fp) hs) (tx_lc hsub hpl hpw)
theorem pr_lc2 {γ : Type} {Rg : Rp K γ} {tg1 iter1 : Expr} {ifs1 : List Expr} {vs1 : List Nat} {wi1 : α → W (List γ)} {ext1 : α → γ → List (En K)} {is1 : List Nat} {t1 : α → γ → W Bool} {f : α → γ → W β} (hN : X.N.Nodup) (ok : BlkOk X.N X.env.scope scope own) (hi : PI X tg iter (TIx ρ Ra wi))
    (hg : ∀ (s : Shared) (H : Hp) (C : Addr) (cl : List (Str × Addr)) (fp : List Addr), PG (BX X scope s H C cl fp) tg (TGx (wipeE ρ (own.map (·.2))) Ra ext is))
    (ht : ∀ (x : α) (s : Shared) (H : Hp) (C : Addr) (cl : List (Str × Addr)) (fp : List Addr), PTs (BX X scope s H C cl fp) ifs (TTx (ext x) (t x)))
    (hi1 : ∀ (x : α) (s : Shared) (H : Hp) (C : Addr) (cl : List (Str × Addr)) (fp : List Addr), PI (BX X scope s H C cl fp) tg1 iter1 (TIx (ext x) Rg (wi1 x)))
    (hg1 : ∀ (x : α) (s : Shared) (H : Hp) (C : Addr) (cl : List (Str × Addr)) (fp : List Addr), PG (BX X scope s H C cl fp) tg1 (TGx (wipeE (ext x) vs1) Rg (ext1 x) is1))
    (ht1 : ∀ (x : α) (y : γ) (s : Shared) (H : Hp) (C : Addr) (cl : List (Str × Addr)) (fp : List Addr), PTs (BX X scope s H C cl fp) ifs1 (TTx (ext1 x y) (t1 x y)))
    (he : ∀ (x : α) (y : γ) (s : Shared) (H : Hp) (C : Addr) (cl : List (Str × Addr)) (fp : List Addr), PE (BX X scope s H C cl fp) elt (TEx (ext1 x y) R (f x y)))
    (hc : X.calm = true := by rfl) (hv : ∀ i ∈ vs1, i ∈ own.map (·.2) := by decide) (hsub : ∀ j ∈ is, j ∈ own.map (·.2) := by decide) (hsub1 : ∀ j ∈ is1, j ∈ vs1 := by decide) (hpl : ∀ x, pls (ext x) = pls ρ := by intro _; rfl) (hpl1 : ∀ x y, pls (ext1 x y) = pls ρ := by intro _ _; rfl)
    (hA : ∀ x, adrs (ext x) = adrs ρ := by intro _; rfl) (hs : ∀ x, foldedSetIterable iter X.env x = pure x := by intro _; rfl) (hs1 : ∀ env x, foldedSetIterable iter1 env x = pure x := by intro _ _; rfl) :
    PE X (.ListComp elt [⟨tg, iter, ifs, 0⟩, ⟨tg1, iter1, ifs1, 0⟩] scope pos) (TEL ρ R fun P => wi fun xs => lc2W xs [] t wi1 t1 f P) :=
  pe_imp (pe_lc2 hc hN hi ok hv hg (fun s H C cl fp => pts_fam fun x => ht x s H C cl fp) (fun s H C cl fp => pi_fam fun x => hi1 x s H C cl fp) (fun s H C cl fp => pg_fam fun x => hg1 x s H C cl fp) (fun s H C cl fp => pts_fam fun q : α × γ => ht1 q.1 q.2 s H C cl fp) (fun s H C cl fp => pe_fam fun q : α × γ => he q.1 q.2 s H C cl fp) hs hs1) (tx_lc2 hsub hsub1 hpl hpl1 hA)
theorem pts_nilX {X : Cx} {ρ : List (En K)} : PTs X [] (TTx ρ fun P => P true) := pts_imp pts_nil fun σ H Q ⟨G, P, s, e, h, c⟩ => c G H true (Step.refl s) e h
theorem pts_oneX {X : Cx} {ρ : List (En K)} {c : Expr} {w : W Bool} (h : PT X c (TTx ρ w)) : PTs X [c] (TTx ρ w) := pts_one h
end

/-! ### what a block is to reach -/
inductive Out (τ ℓ β : Type)
  | nx (t : τ) | ct (l : ℓ) | bk (l : ℓ) | rt (b : β)
section
variable {K : PySem.W.Frag} {τ τ' ℓ ℓ' α β : Type}
structure Cts (D : Ends) (post : τ → List (En K)) (lp : ℓ → List (En K)) (R : Rp K β) (P : Out τ ℓ β → Prop) (ρ : List (En K)) (G H : Hp) : Prop where
  nx : ∀ (t : τ) (G' H' : Hp) (σ' : L2.St), Step (adrs ρ) G H G' H' → EnvOk (post t) G' H' σ' → P (.nx t) → D.nx σ' H'
  ct : ∀ (l : ℓ) (G' H' : Hp) (σ' : L2.St), Step (adrs ρ) G H G' H' → EnvOk (lp l) G' H' σ' → P (.ct l) → D.ct σ' H'
  bk : ∀ (l : ℓ) (G' H' : Hp) (σ' : L2.St), Step (adrs ρ) G H G' H' → EnvOk (lp l) G' H' σ' → P (.bk l) → D.bk σ' H'
  rt : ∀ (b : β) (G' H' : Hp) (v : V), Step (adrs ρ) G H G' H' → Pools ρ G' H' → P (.rt b) → R.ok G' v b → D.rt v H'
def TBO (ρ : List (En K)) (post : τ → List (En K)) (lp : ℓ → List (En K)) (R : Rp K β) (w : W (Out τ ℓ β)) : TS := fun D σ H => ∃ (G : Hp) (P : Out τ ℓ β → Prop), Same G H ∧ EnvOk ρ G H σ ∧ w P ∧ Cts D post lp R P ρ G H
theorem Cts.step {D : Ends} {post : τ → List (En K)} {lp : ℓ → List (En K)} {R : Rp K β} {P : Out τ ℓ β → Prop} {ρ ρ1 : List (En K)} {G H G1 H1 : Hp} (c : Cts D post lp R P ρ G H) (s : Step (adrs ρ) G H G1 H1)
    (h : ∀ a ∈ adrs ρ1, a ∈ adrs ρ ∨ H a = none) (hp : ∀ q ∈ pls ρ, q ∈ pls ρ1) : Cts D post lp R P ρ1 G1 H1 where
  nx := fun t G' H' σ' s' e p => c.nx t G' H' σ' (s.cut s' h) e p
  ct := fun t G' H' σ' s' e p => c.ct t G' H' σ' (s.cut s' h) e p
  bk := fun t G' H' σ' s' e p => c.bk t G' H' σ' (s.cut s' h) e p
  rt := fun b G' H' v s' e p r => c.rt b G' H' v (s.cut s' h) (fun q hq => e q (hp q hq)) p r
/-- behind a block: its outcomes, then what follows -/
def onx (m : τ → W (Out τ' ℓ β)) (P : Out τ' ℓ β → Prop) : Out τ ℓ β → Prop
  | .nx t => m t P
  | .ct l => P (.ct l)
  | .bk l => P (.bk l)
  | .rt b => P (.rt b)
/-- a loop over a list -/
def forW {σ : Type} : List α → σ → (σ → α → W (Out σ σ β)) → (σ → Prop) → (β → Prop) → Prop
  | [], st, _, N, _ => N st
  | x :: xs, st, f, N, Rr => f st x fun o => match o with
    | .nx st' => forW xs st' f N Rr
    | .ct st' => forW xs st' f N Rr
    | .bk st' => N st'
    | .rt b => Rr b
end

section
variable {X : Cx} {K : PySem.W.Frag} [HK X K] {τ τ' ℓ ℓ' α β γ : Type} {ρ : List (En K)} {post : τ → List (En K)} {lp : ℓ → List (En K)} {R : Rp K β} {rest : List Stmt} {pos : Pos} {e : Expr}
theorem b_nil {t : τ} (h : Ent ρ (post t)) : PSs X [] (TBO ρ post lp R fun P => P (.nx t)) :=
  pss_imp pss_nil fun D σ H ⟨G, P, s, ev, p, c⟩ => c.nx t G H σ (Step.refl s) (ev.ent h) p
theorem b_ret {w : W β} (h : PE X e (TEx ρ R w)) : PSs X (.Return (some e) pos :: rest) (TBO ρ post lp R fun P => w fun b => P (.rt b)) :=
  pss_imp (pss_cons (ps_ret h) pss_never) fun D σ H ⟨G, P, s, ev, p, c⟩ => ⟨G, _, s, ev, p, fun G' H' v b st e' pb rb => c.rt b G' H' v (st.wide fun a ha => padr_sub ha) e'.pools pb rb⟩
theorem b_retN {R : Rp K Unit} (h : ∀ G, R.ok G .non ()) : PSs X (.Return none pos :: rest) (TBO ρ post lp R fun P => P (.rt ())) :=
  pss_imp (pss_cons ps_retN pss_never) fun D σ H ⟨G, P, s, ev, p, c⟩ => c.rt () G H .non (Step.refl s) ev.pools p (h G)
theorem b_never {sts : List Stmt} : PSs X sts (TBO ρ post lp R fun _ => False) := pss_imp pss_never fun D σ H ⟨_, _, _, _, p, _⟩ => p
theorem b_pass {w : W (Out τ ℓ β)} (h : PSs X rest (TBO ρ post lp R w)) : PSs X (.Pass pos :: rest) (TBO ρ post lp R w) := pss_cons ps_pass h
theorem b_cont {l : ℓ} (h : Ent ρ (lp l)) : PSs X (.Continue pos :: rest) (TBO ρ post lp R fun P => P (.ct l)) :=
  pss_imp (pss_cons ps_continue pss_never) fun D σ H ⟨G, P, s, ev, p, c⟩ => c.ct l G H σ (Step.refl s) (ev.ent h) p
theorem b_brk {l : ℓ} (h : Ent ρ (lp l)) : PSs X (.Break pos :: rest) (TBO ρ post lp R fun P => P (.bk l)) :=
  pss_imp (pss_cons ps_break pss_never) fun D σ H ⟨G, P, s, ev, p, c⟩ => c.bk l G H σ (Step.refl s) (ev.ent h) p
theorem b_expr {Ra : Rp K α} {w : W α} {m : W (Out τ ℓ β)} (h : PE X e (TEx ρ Ra w)) (hr : PSs X rest (TBO ρ post lp R m)) (hs : swapsWith e none pos.line X.env = pure false := by rfl) :
    PSs X (.Expr e pos :: rest) (TBO ρ post lp R fun P => w fun _ => m P) :=
  pss_imp (pss_cons (ps_expr h hs) hr) fun D σ H ⟨G, P, s, ev, p, c⟩ => ⟨G, _, s, ev, p, fun G' H' v b st e' pb rb => ⟨G', P, st.gh, e', pb, c.step (st.wide fun a ha => padr_sub ha) (fun a ha => .inl ha) fun q hq => hq⟩⟩
/-- name = value -/
theorem b_asg {i : Nat} {nm : Str} {pn : Pos} {Ra : Rp K α} {w : W α} {m : α → W (Out τ ℓ β)} (hN : X.N.Nodup) (hi : X.N[i]? = some nm) (hx : Loc X.env.scope nm) (h : PE X e (TEx ρ Ra w))
    (hr : ∀ a, PSs X rest (TBO (ρ.set i (.fr Ra a)) post lp R (m a))) (hp : (ρ.getD i .off).pl = [] := by rfl) (hs : swapsWith e (some (.Name nm pn)) pos.line X.env = pure false := by rfl)
    (hf : X.fn nm = true ∨ X.env.scope.names.lookup nm = some .local := by first | exact .inl rfl | exact .inr rfl | assumption) : PSs X (.Assign [.Name nm pn] e pos :: rest) (TBO ρ post lp R fun P => w fun a => m a P) :=
  pss_imp (pss_cons (ps_set hN hi hx h hs hf) (pss_fam hr)) fun D σ H ⟨G, P, s, ev, p, c⟩ => ⟨G, _, s, ev, p, fun G' H' v a st e' pa ra => ⟨a, G', P, st.gh, e'.putFr ra, pa,
    c.step (st.wide fun a ha => padr_sub ha) (fun b hb => .inl ((nodup_fr ev.nd rfl).2 b hb)) fun q hq => pls_set hp hq⟩⟩
/-- name = a new list of one's own -/
theorem cts_own {D : Ends} {P : Out τ ℓ β → Prop} {i : Nat} {Ra : Rp K α} {xs : List α} {G H G' H' : Hp} {p : Addr} (c : Cts D post lp R P ρ G H) (st : Step (padr ρ) G H G' H') (hp : (ρ.getD i .off).pl = []) (np : H p = none) :
    Cts D post lp R P (ρ.set i (.own p Ra xs)) G' H' :=
  c.step (st.wide fun a ha => padr_sub ha) (fun b hb => (adrs_set hb).elim .inl fun z => .inr (by rw [mem1 z]; exact np)) fun q hq => pls_set hp hq
theorem EnvOk.putOwn {i : Nat} {Ra : Rp K α} {xs : List α} {vs : List V} {G H : Hp} {σ : L2.St} {p : Addr} (ev : EnvOk ρ G H σ) (n1 : G p = none) (hq : H p = some (.lst vs)) (pr : Paired (Ra.ok G) vs xs) (hz : vs.length ≤ sizeLine) (nw : p ∉ adrs ρ) :
    EnvOk (ρ.set i (.own p Ra xs)) G H (σ.set i (some (.ref p))) :=
  ev.put ⟨rfl, n1, vs, hq, pr, hz⟩ (nodup_set ev.nd (by simp [En.adr]) fun a ha z => nw (by rw [← mem1 ha]; exact z))
theorem b_asgL {i : Nat} {nm : Str} {pn : Pos} {Ra : Rp K α} {w : W (List α)} {m : Addr → List α → W (Out τ ℓ β)} (hN : X.N.Nodup) (hi : X.N[i]? = some nm) (hx : Loc X.env.scope nm) (h : PE X e (TEL ρ Ra w))
    (hr : ∀ (q : Addr) (z : List α), PSs X rest (TBO (ρ.set i (.own q Ra z)) post lp R (m q z))) (hp : (ρ.getD i .off).pl = [] := by rfl) (hs : swapsWith e (some (.Name nm pn)) pos.line X.env = pure false := by rfl)
    (hf : X.fn nm = true ∨ X.env.scope.names.lookup nm = some .local := by first | exact .inl rfl | exact .inr rfl | assumption) : PSs X (.Assign [.Name nm pn] e pos :: rest) (TBO ρ post lp R fun P => w fun xs => ∀ p, m p xs P) :=
  pss_imp (pss_cons (ps_set hN hi hx h hs hf) (pss_fam fun q : Addr × List α => hr q.1 q.2)) fun D σ H ⟨G, P, s, ev, p, c⟩ => ⟨G, _, s, ev, p, fun G' H' q vs xs st e' pa n1 n2 hq pr hz => ⟨(q, xs), G', P, st.gh,
    e'.putOwn n2 hq pr hz (ev.fresh n1), pa q, cts_own c st hp n1⟩⟩
/-- .. by a comprehension that stands alone -/
theorem b_lcT {i : Nat} {nm : Str} {pn : Pos} {Ra : Rp K α} {Rb : Rp K γ} {tg iter elt : Expr} {ifs : List Expr} {scope : Scope} {own : List (Str × Nat)} {spos : Pos} {wi : W (List α)} {ext : α → List (En K)} {is : List Nat} {t : α → W Bool} {f : α → W γ} {m : Addr → List γ → W (Out τ ℓ β)}
    (hN : X.N.Nodup) (hi : X.N[i]? = some nm) (hyl : X.env.scope.names.lookup nm = some .local) (hk : X.env.scope.kind = .function) (ha : (scope.names.any fun (n, k) => n == nm && (k == .local || k == .cell)) = false)
    (ok : BlkOk X.N X.env.scope scope own) (hit : PI X tg iter (TIx ρ Ra wi))
    (hg : ∀ (s : Shared) (H : Hp) (C : Addr) (cl : List (Str × Addr)) (fp : List Addr), PG (BX X scope s H C cl fp) tg (TGx (wipeE ρ (own.map (·.2))) Ra ext is))
    (ht : ∀ (x : α) (s : Shared) (H : Hp) (C : Addr) (cl : List (Str × Addr)) (fp : List Addr), PTs (BX X scope s H C cl fp) ifs (TTx (ext x) (t x)))
    (he : ∀ (x : α) (s : Shared) (H : Hp) (C : Addr) (cl : List (Str × Addr)) (fp : List Addr), PE (BX X scope s H C cl fp) elt (TEx (ext x) Rb (f x)))
    (hr : ∀ (q : Addr) (z : List γ), PSs X rest (TBO (ρ.set i (.own q Rb z)) post lp R (m q z))) (hp : (ρ.getD i .off).pl = [] := by rfl)
    (hc : X.calm = true := by rfl) (hsub : ∀ j ∈ is, j ∈ own.map (·.2) := by decide) (hpl : ∀ x, pls (ext x) = pls ρ := by intro _; rfl) (hpw : pls (wipeE ρ (own.map (·.2))) = pls ρ := by rfl)
    (hs : ∀ x, foldedSetIterable iter X.env x = pure x := by intro _; rfl) (hl : (pn.line == pos.line) = true := by rfl) :
    PSs X (.Assign [.Name nm pn] (.ListComp elt [⟨tg, iter, ifs, 0⟩] scope pos) spos :: rest) (TBO ρ post lp R fun P => wi fun xs => lcW xs t f fun ys => ∀ p, m p ys P) :=
  pss_imp (pss_cons (ps_setLc hc hN hi hyl (sw_true hk hyl hl ha) hit ok hg (fun s H C cl fp => pts_fam fun x => ht x s H C cl fp) (fun s H C cl fp => pe_fam fun x => he x s H C cl fp) hs) (pss_fam fun q : Addr × List γ => hr q.1 q.2))
    fun D σ H ⟨G, P, s, ev, p, c⟩ => tx_lc hsub hpl hpw σ H (fun x H1 => tsf (fun q : Addr × List γ => TBO (ρ.set i (.own q.1 Rb q.2)) post lp R (m q.1 q.2)) D (σ.set i (some x)) H1) ⟨G, _, s, ev, p, fun G' H' q vs xs st e' pa n1 n2 hq pr hz => ⟨(q, xs), G', P, st.gh, e'.putOwn n2 hq pr hz (ev.fresh n1), pa q, cts_own c st hp n1⟩⟩
theorem b_lc2T {γ δ : Type} {i : Nat} {nm : Str} {pn : Pos} {Ra : Rp K α} {Rg : Rp K γ} {Rb : Rp K δ} {tg iter tg1 iter1 elt : Expr} {ifs ifs1 : List Expr} {scope : Scope} {own : List (Str × Nat)} {vs1 : List Nat} {spos : Pos} {wi : W (List α)} {wi1 : α → W (List γ)} {ext : α → List (En K)} {ext1 : α → γ → List (En K)} {is is1 : List Nat} {t : α → W Bool} {t1 : α → γ → W Bool} {f : α → γ → W δ} {m : Addr → List δ → W (Out τ ℓ β)}
    (hN : X.N.Nodup) (hi : X.N[i]? = some nm) (hyl : X.env.scope.names.lookup nm = some .local) (hk : X.env.scope.kind = .function) (ha : (scope.names.any fun (n, k) => n == nm && (k == .local || k == .cell)) = false)
    (ok : BlkOk X.N X.env.scope scope own) (hit : PI X tg iter (TIx ρ Ra wi))
    (hg : ∀ (s : Shared) (H : Hp) (C : Addr) (cl : List (Str × Addr)) (fp : List Addr), PG (BX X scope s H C cl fp) tg (TGx (wipeE ρ (own.map (·.2))) Ra ext is))
    (ht : ∀ (x : α) (s : Shared) (H : Hp) (C : Addr) (cl : List (Str × Addr)) (fp : List Addr), PTs (BX X scope s H C cl fp) ifs (TTx (ext x) (t x)))
    (hi1 : ∀ (x : α) (s : Shared) (H : Hp) (C : Addr) (cl : List (Str × Addr)) (fp : List Addr), PI (BX X scope s H C cl fp) tg1 iter1 (TIx (ext x) Rg (wi1 x)))
    (hg1 : ∀ (x : α) (s : Shared) (H : Hp) (C : Addr) (cl : List (Str × Addr)) (fp : List Addr), PG (BX X scope s H C cl fp) tg1 (TGx (wipeE (ext x) vs1) Rg (ext1 x) is1))
    (ht1 : ∀ (x : α) (y : γ) (s : Shared) (H : Hp) (C : Addr) (cl : List (Str × Addr)) (fp : List Addr), PTs (BX X scope s H C cl fp) ifs1 (TTx (ext1 x y) (t1 x y)))
    (he : ∀ (x : α) (y : γ) (s : Shared) (H : Hp) (C : Addr) (cl : List (Str × Addr)) (fp : List Addr), PE (BX X scope s H C cl fp) elt (TEx (ext1 x y) Rb (f x y)))
    (hr : ∀ (q : Addr) (z : List δ), PSs X rest (TBO (ρ.set i (.own q Rb z)) post lp R (m q z))) (hp : (ρ.getD i .off).pl = [] := by rfl)
    (hc : X.calm = true := by rfl) (hv : ∀ i ∈ vs1, i ∈ own.map (·.2) := by decide) (hsub : ∀ j ∈ is, j ∈ own.map (·.2) := by decide) (hsub1 : ∀ j ∈ is1, j ∈ vs1 := by decide) (hpl : ∀ x, pls (ext x) = pls ρ := by intro _; rfl) (hpl1 : ∀ x y, pls (ext1 x y) = pls ρ := by intro _ _; rfl)
    (hA : ∀ x, adrs (ext x) = adrs ρ := by intro _; rfl) (hs : ∀ x, foldedSetIterable iter X.env x = pure x := by intro _; rfl) (hs1 : ∀ env x, foldedSetIterable iter1 env x = pure x := by intro _ _; rfl) (hl : (pn.line == pos.line) = true := by rfl) :
    PSs X (.Assign [.Name nm pn] (.ListComp elt [⟨tg, iter, ifs, 0⟩, ⟨tg1, iter1, ifs1, 0⟩] scope pos) spos :: rest) (TBO ρ post lp R fun P => wi fun xs => lc2W xs [] t wi1 t1 f fun ys => ∀ p, m p ys P) :=
  pss_imp (pss_cons (ps_setLc2 hc hN hi hyl (sw_true hk hyl hl ha) hit ok hv hg (fun s H C cl fp => pts_fam fun x => ht x s H C cl fp) (fun s H C cl fp => pi_fam fun x => hi1 x s H C cl fp) (fun s H C cl fp => pg_fam fun x => hg1 x s H C cl fp) (fun s H C cl fp => pts_fam fun q : α × γ => ht1 q.1 q.2 s H C cl fp) (fun s H C cl fp => pe_fam fun q : α × γ => he q.1 q.2 s H C cl fp) hs hs1) (pss_fam fun q : Addr × List δ => hr q.1 q.2))
    fun D σ H ⟨G, P, s, ev, p, c⟩ => tx_lc2 hsub hsub1 hpl hpl1 hA σ H (fun x H1 => tsf (fun q : Addr × List δ => TBO (ρ.set i (.own q.1 Rb q.2)) post lp R (m q.1 q.2)) D (σ.set i (some x)) H1) ⟨G, _, s, ev, p, fun G' H' q vs xs st e' pa n1 n2 hq pr hz => ⟨(q, xs), G', P, st.gh, e'.putOwn n2 hq pr hz (ev.fresh n1), pa q, cts_own c st hp n1⟩⟩
/-- an own list is frozen (no statement) -/
theorem b_frz {sts : List Stmt} (i : Nat) {p : Addr} {Ra : Rp K α} {xs : List α} {m : W (Out τ ℓ β)} (h : ρ[i]? = some (.own p Ra xs)) (hr : PSs X sts (TBO (ρ.set i (.fr (rL Ra) xs)) post lp R m)) : PSs X sts (TBO ρ post lp R m) := by
  refine pss_imp hr fun D σ H ⟨G, P, s, ev, pp, c⟩ => ?_
  obtain ⟨o, ho, e1, n1, vs, hq, pr, hz⟩ := ev.ok i _ h
  have hm : p ∈ adrs ρ := adrs_mem h (by simp [En.adr])
  have s2 : Step [p] G H (upd G p (.lst vs)) H := Step.freeze s (by simp) n1 hq
  have nf := nodup_fr (i := i) (e := (.fr (rL Ra) xs : En K)) ev.nd rfl
  have hpl : (ρ.getD i .off).pl = [] := by
    have e : ρ.getD i .off = .own p Ra xs := by rw [List.getD_eq_getElem?_getD, h]; rfl
    rw [e]; rfl
  refine ⟨upd G p (.lst vs), P, s2.gh, ?_, pp, c.step (s2.wide fun a ha => by rw [mem1 ha]; exact hm) (fun b hb => .inl (nf.2 b hb)) fun q hq => pls_set hpl hq⟩
  -- the environment
  refine ⟨by rw [List.length_set, ev.len], fun j e' hj => ?_, nf.1⟩
  by_cases hij : i = j
  · subst hij
    have hl : i < ρ.length := (List.getElem?_eq_some_iff.mp h).1
    rw [List.getElem?_set_self hl] at hj
    cases hj
    exact ⟨o, ho, .ref p, e1, p, vs, rfl, SqL.of upd_same, paired_mono (fun _ _ z => Ra.mono s2.gg z) pr, hz⟩
  · rw [List.getElem?_set_ne hij] at hj
    obtain ⟨o', ho', q⟩ := ev.ok j e' hj
    exact ⟨o', ho', En.step q s2 fun a ha z => nodup_apart ev.nd h hj hij (by rw [mem1 z]; simp [En.adr]) ha⟩
/-- targets of any form -/
theorem b_asgT {tg : Expr} {Ra : Rp K α} {w : W α} {ext : α → List (En K)} {is : List Nat} {m : α → W (Out τ ℓ β)} (h : PE X e (TEx ρ Ra w)) (hg : PG X tg (TGx ρ Ra ext is)) (hr : ∀ a, PSs X rest (TBO (ext a) post lp R (m a)))
    (had : ∀ a, adrs (ext a) = adrs ρ := by intro _; rfl) (hpl : ∀ a, pls (ext a) = pls ρ := by intro _; rfl)
    (hs : swapsWithSole [tg] e pos.line X.env = pure false := by rfl) (hw : swappedStores [tg] e X.env = pure none := by rfl) (h1 : (assignEach [tg] X.env).map (·.2) = [assign tg X.env] := by rfl) :
    PSs X (.Assign [tg] e pos :: rest) (TBO ρ post lp R fun P => w fun a => m a P) :=
  pss_imp (pss_cons (ps_asg h hg hs hw h1) (pss_fam hr)) fun D σ H ⟨G, P, s, ev, p, c⟩ => ⟨G, _, s, ev, p, fun G' H' v a st e' pa ra => ⟨G', a, st.gh, e', ra, fun σ' e'' _ _ => ⟨a, G', P, st.gh, e'', pa,
    c.step (st.wide fun a ha => padr_sub ha) (fun b hb => .inl (by rw [had] at hb; exact hb)) fun q hq => by rw [hpl]; exact hq⟩⟩⟩
/-- x += e on whole numbers -/
theorem b_aug {i : Nat} {nm : Str} {pn : Pos} {op : Operator} {g : Int → Int → Int} {x : Int} {w : W Int} {m : Int → W (Out τ ℓ β)} (hN : X.N.Nodup) (hi : X.N[i]? = some nm) (hx : Loc X.env.scope nm) (ho : PIp X op (ipI g)) (hv : ρ[i]? = some (.fr rI x)) (h : PE X e (TEx ρ rI w))
    (hr : ∀ a, PSs X rest (TBO (ρ.set i (.fr rI a)) post lp R (m a))) (hp : (ρ.getD i .off).pl = [] := by rfl)
    (hf : X.fn nm = true ∨ X.env.scope.names.lookup nm = some .local := by first | exact .inl rfl | exact .inr rfl | assumption) : PSs X (.AugAssign (.Name nm pn) op e pos :: rest) (TBO ρ post lp R fun P => w fun a => m (g x a) P) := by
  refine pss_imp (pss_cons (ps_aug hN hi hx h ho hf) (pss_fam hr)) fun D σ H ⟨G, P, s, ev, p, c⟩ => ?_
  obtain ⟨o, ho, v, hv', q⟩ := ev.ok i _ hv
  subst hv'
  have q' : v = V.int x := q
  subst q'
  refine ⟨_, ho, G, _, s, ev, p, fun G' H' u a st e' pa ra => ?_⟩
  have ra' : u = V.int a := ra
  subst ra'
  exact ⟨x, a, rfl, rfl, g x a, G', P, st.gh, e'.putFr rfl, pa, c.step (st.wide fun a ha => padr_sub ha) (fun b hb => .inl ((nodup_fr ev.nd rfl).2 b hb)) fun q hq => pls_set hp hq⟩
theorem ip_mul {X : Cx} : PIp X .Mult (fun x y H Q => ∃ i j, x = .int i ∧ y = .int j ∧ CMul i j ∧ Q (.int (i * j)) H) := fun pins s σ H x y v u Q I rx ry ⟨i, j, h1, h2, h3, q⟩ => iop_mul pins s σ H x y v u Q I rx ry ⟨i, j, h1, h2, h3, q⟩
theorem b_augM {i : Nat} {nm : Str} {pn : Pos} {x : Int} {w : W Int} {m : Int → W (Out τ ℓ β)} (hN : X.N.Nodup) (hi : X.N[i]? = some nm) (hx : Loc X.env.scope nm) (hv : ρ[i]? = some (.fr rI x)) (h : PE X e (TEx ρ rI w))
    (hr : ∀ a, PSs X rest (TBO (ρ.set i (.fr rI a)) post lp R (m a))) (hp : (ρ.getD i .off).pl = [] := by rfl)
    (hf : X.fn nm = true ∨ X.env.scope.names.lookup nm = some .local := by first | exact .inl rfl | exact .inr rfl | assumption) : PSs X (.AugAssign (.Name nm pn) .Mult e pos :: rest) (TBO ρ post lp R fun P => w fun a => CMul x a ∧ m (x * a) P) := by
  refine pss_imp (pss_cons (ps_aug hN hi hx h ip_mul hf) (pss_fam hr)) fun D σ H ⟨G, P, s, ev, p, c⟩ => ?_
  obtain ⟨o, ho, v, hv', q⟩ := ev.ok i _ hv
  subst hv'
  have q' : v = V.int x := q
  subst q'
  refine ⟨_, ho, G, _, s, ev, p, fun G' H' u a st e' pa ra => ?_⟩
  have ra' : u = V.int a := ra
  subst ra'
  exact ⟨x, a, rfl, rfl, pa.1, x * a, G', P, st.gh, e'.putFr rfl, pa.2, c.step (st.wide fun a ha => padr_sub ha) (fun b hb => .inl ((nodup_fr ev.nd rfl).2 b hb)) fun q hq => pls_set hp hq⟩
/-- if -/
theorem b_if {t : Expr} {a b : List Stmt} {u : W Bool} {τ1 : Type} {m1 m2 : W (Out τ1 ℓ β)} {m : τ1 → W (Out τ ℓ β)} (post1 : τ1 → List (En K)) (ht : PT X t (TTx ρ u)) (ha : PSs X a (TBO ρ post1 lp R m1)) (hb : PSs X b (TBO ρ post1 lp R m2))
    (hr : ∀ t, PSs X rest (TBO (post1 t) post lp R (m t))) (had : ∀ t, ∀ a ∈ adrs (post1 t), a ∈ adrs ρ) (hpl : ∀ t, pls (post1 t) = pls ρ := by intro _; rfl) :
    PSs X (.If t a b pos :: rest) (TBO ρ post lp R fun P => u fun k => if k = true then m1 (onx m P) else m2 (onx m P)) := by
  refine pss_imp (pss_cons (ps_if ht ha hb) (pss_fam hr)) fun D σ H ⟨G, P, s, ev, p, c⟩ => ⟨G, _, s, ev, p, fun G' H' k st e' pk => ?_⟩
  have c' : Cts D post lp R P ρ G' H' := c.step (st.wide fun a ha => padr_sub ha) (fun a ha => .inl ha) fun q hq => hq
  have cc : Cts { D with nx := tsf (fun t => TBO (post1 t) post lp R (m t)) D } post1 lp R (onx m P) ρ G' H' :=
    ⟨fun t G2 H2 σ' s2 e2 p2 => ⟨t, G2, P, s2.gh, e2, p2, c'.step s2 (fun a ha => .inl (had t a ha)) fun q hq => by rw [hpl]; exact hq⟩, c'.ct, c'.bk, c'.rt⟩
  cases k with
  | true => exact ⟨G', _, st.gh, e', pk, cc⟩
  | false => exact ⟨G', _, st.gh, e', pk, cc⟩
/-- if whose body never falls through, without else -/
theorem b_ifr {t : Expr} {a : List Stmt} {u : W Bool} {m1 : W (Out Empty ℓ β)} {m : W (Out τ ℓ β)} (ht : PT X t (TTx ρ u)) (ha : PSs X a (TBO ρ (fun _ => ρ) lp R m1)) (hr : PSs X rest (TBO ρ post lp R m)) :
    PSs X (.If t a [] pos :: rest) (TBO ρ post lp R fun P => u fun k => if k = true then m1 (onx (fun z => nomatch z) P) else m P) := by
  refine pss_imp (pss_cons (ps_if ht ha pss_nil) hr) fun D σ H ⟨G, P, s, ev, p, c⟩ => ⟨G, _, s, ev, p, fun G' H' k st e' pk => ?_⟩
  have c' : Cts D post lp R P ρ G' H' := c.step (st.wide fun a ha => padr_sub ha) (fun a ha => .inl ha) fun q hq => hq
  cases k with
  | true => exact ⟨G', _, st.gh, e', pk, ⟨fun t _ _ _ _ _ _ => (nomatch t), c'.ct, c'.bk, c'.rt⟩⟩
  | false => exact ⟨G', P, st.gh, e', pk, c'⟩
/-- if, both ways of which never fall through -/
theorem b_ifrr {t : Expr} {a b : List Stmt} {u : W Bool} {m1 m2 : W (Out τ ℓ β)} (ht : PT X t (TTx ρ u)) (ha : PSs X a (TBO ρ post lp R m1)) (hb : PSs X b (TBO ρ post lp R m2)) :
    PSs X [.If t a b pos] (TBO ρ post lp R fun P => u fun k => if k = true then m1 P else m2 P) := by
  refine pss_imp (pss_one (ps_if ht ha hb)) fun D σ H ⟨G, P, s, ev, p, c⟩ => ⟨G, _, s, ev, p, fun G' H' k st e' pk => ?_⟩
  have c' : Cts D post lp R P ρ G' H' := c.step (st.wide fun a ha => padr_sub ha) (fun a ha => .inl ha) fun q hq => hq
  cases k with
  | true => exact ⟨G', P, st.gh, e', pk, c'⟩
  | false => exact ⟨G', P, st.gh, e', pk, c'⟩
/-- for -/
theorem b_for {tg iter : Expr} {body : List Stmt} {Ra : Rp K α} {wi : W (List α)} {ext : τ' → α → List (En K)} {is : List Nat} {f : τ' → α → W (Out τ' τ' β)} {m : τ' → W (Out τ ℓ β)} (inv : τ' → List (En K)) (st0 : τ')
    (hi : PI X tg iter (TIx ρ Ra wi)) (h0 : Ent ρ (inv st0)) (hg : ∀ st, PG X tg (TGx (inv st) Ra (ext st) is)) (hb : ∀ (st : τ') (x : α), PSs X body (TBO (ext st x) inv inv R (f st x))) (hr : ∀ st, PSs X rest (TBO (inv st) post lp R (m st)))
    (hA : ∀ st, adrs (inv st) = adrs (inv st0) := by intro _; rfl) (hB : ∀ st x, adrs (ext st x) = adrs (inv st0) := by intro _ _; rfl) (hp : ∀ st x, pls (ext st x) = pls (inv st0) := by intro _ _; rfl) (hp' : ∀ st, pls (inv st) = pls (inv st0) := by intro _; rfl) (hc : X.calm = true := by rfl) (ho : PassesOwn (model X.prog X.w) X.A X.env X.xe := by exact PassesOwn.never)
    (hs : ∀ x, foldedSetIterable iter X.env x = pure x := by intro _; rfl) :
    PSs X (.For tg iter body [] pos :: rest) (TBO ρ post lp R fun P => wi fun xs => forW xs st0 f (fun st => m st P) fun b => P (.rt b)) := by
  refine pss_imp (pss_cons (ps_for ho hc hi (pg_fam hg) (pss_fam fun q : τ' × α => hb q.1 q.2) hs) (pss_fam hr)) fun D σ H ⟨G, P, s, ev, p, c⟩ => ⟨G, _, s, ev, p, fun G1 H1 J xs st1 e1 p1 wk => ?_⟩
  have c1 : Cts D post lp R P ρ G1 H1 := c.step (st1.wide fun a ha => padr_sub ha) (fun a ha => .inl ha) fun q hq => hq
  have sub : ∀ st, ∀ a ∈ adrs (inv st), a ∈ adrs ρ := fun st a ha => h0.adrs.subset (by rw [hA] at ha; exact ha)
  have subB : ∀ st x, ∀ a ∈ adrs (ext st x), a ∈ adrs ρ := fun st x a ha => h0.adrs.subset (by rw [hB] at ha; exact ha)
  have plI : ∀ st, ∀ q ∈ pls ρ, q ∈ pls (inv st) := fun st q hq => by rw [hp', h0.pls]; exact hq
  have plB : ∀ st x, ∀ q ∈ pls ρ, q ∈ pls (ext st x) := fun st x q hq => by rw [hp, h0.pls]; exact hq
  refine ⟨fun i k σ' H' => k = xs.length - i ∧ i ≤ xs.length ∧ ∃ (G' : Hp) (st : τ'), Step (adrs ρ) G1 H1 G' H' ∧ EnvOk (inv st) G' H' σ' ∧ forW (xs.drop i) st f (fun st => m st P) fun b => P (.rt b),
    ⟨xs.length, by simp, Nat.zero_le _, G1, st0, Step.refl st1.gh, e1.ent h0, p1⟩, ?_⟩
  rintro i k σ' H' ⟨rfl, hle, G', st, sg, ei, wl⟩
  by_cases hlt : i < xs.length
  · refine .inr ⟨wk.go i H' (sg.gg.trans sg.gh) hlt, fun σ2 H2 => i + 1 ≤ xs.length ∧ ∃ (G' : Hp) (st : τ'), Step (adrs ρ) G1 H1 G' H2 ∧ EnvOk (inv st) G' H2 σ2 ∧ forW (xs.drop (i + 1)) st f (fun st => m st P) fun b => P (.rt b),
      fun σ2 H2 ⟨q1, q2⟩ => ⟨xs.length - (i + 1), by omega, rfl, q1, q2⟩, fun v H2 hy => ?_⟩
    have hx : xs[i]? = some xs[i] := List.getElem?_eq_getElem hlt
    obtain ⟨G2, sy, rv⟩ := wk.yld i G' H' v H2 _ sg.gg sg.gh hx hy
    rw [List.drop_eq_getElem_cons hlt] at wl
    have s2 : Step (adrs ρ) G1 H1 G2 H2 := sg.trans sy.of0
    refine ⟨st, G2, xs[i], sy.gh, ei.step0 sy, rv, fun σ2 e2 _ _ => ⟨(st, xs[i]), G2, _, sy.gh, e2, wl, ?_⟩⟩
    refine ⟨fun t G3 H3 σ3 s3 e3 p3 => ?_, fun t G3 H3 σ3 s3 e3 p3 => ?_, fun t G3 H3 σ3 s3 e3 p3 => ?_, fun b G3 H3 v s3 e3 p3 r3 => ?_⟩
    · exact ⟨hlt, G3, t, s2.cut s3 fun a ha => .inl (subB _ _ a ha), e3, p3⟩
    · exact ⟨hlt, G3, t, s2.cut s3 fun a ha => .inl (subB _ _ a ha), e3, p3⟩
    · have s4 : Step (adrs ρ) G1 H1 G3 H3 := s2.cut s3 fun a ha => .inl (subB _ _ a ha)
      exact ⟨t, G3, P, s3.gh, e3, p3, c1.step s4 (fun a ha => .inl (sub t a ha)) (plI t)⟩
    · exact c1.rt b G3 H3 v (s2.cut s3 fun a ha => .inl (subB _ _ a ha)) (fun q hq => e3 q (plB _ _ q hq)) p3 r3
  · have hi' : i = xs.length := by omega
    subst hi'
    rw [List.drop_length] at wl
    exact .inl ⟨wk.stop H' (sg.gg.trans sg.gh), st, G', P, sg.gh, ei, wl, c1.step sg (fun a ha => .inl (sub st a ha)) (plI st)⟩
end
end SS

set_option Elab.async false
set_option linter.all false
set_option maxRecDepth 100000
/-! SSE: own rules: operations by representation, equality of data, lists of one's own that change, fields, calls, the def. Own work. -/
namespace SS
open PySem PySem.Spec L2

/-! ### numbers -/
section
variable {K : PySem.W.Frag} {α β : Type}
theorem r2_I0 {g : Int → Int → Int} : R2Ok (rI0 fun i j => .int (g i j)) (rI : Rp K Int) (rI : Rp K Int) (rI : Rp K Int) (fun x y P => P (g x y)) := fun G H v u x y P Q s h1 h2 p k => ⟨x, y, h1, h2, k G H _ _ (Step.refl s) p rfl⟩
theorem r2_B0 {g : Int → Int → Bool} : R2Ok (rI0 fun i j => .bl (g i j)) (rI : Rp K Int) (rI : Rp K Int) (rB : Rp K Bool) (fun x y P => P (g x y)) := fun G H v u x y P Q s h1 h2 p k => ⟨x, y, h1, h2, k G H _ _ (Step.refl s) p rfl⟩
theorem r2_I {C : Int → Int → Prop} {g : Int → Int → Int} : R2Ok (L2.rI C fun i j => .int (g i j)) (rI : Rp K Int) (rI : Rp K Int) (rI : Rp K Int) (fun x y P => C x y ∧ P (g x y)) := fun G H v u x y P Q s h1 h2 p k => ⟨x, y, h1, h2, p.1, k G H _ _ (Step.refl s) p.2 rfl⟩
theorem r2_add : R2Ok (rI0 fun i j => .int (i + j)) (rI : Rp K Int) (rI : Rp K Int) (rI : Rp K Int) (fun x y P => P (x + y)) := r2_I0
theorem r2_sub : R2Ok (rI0 fun i j => .int (i - j)) (rI : Rp K Int) (rI : Rp K Int) (rI : Rp K Int) (fun x y P => P (x - y)) := r2_I0
theorem r2_mul : R2Ok (L2.rI CMul fun i j => .int (i * j)) (rI : Rp K Int) (rI : Rp K Int) (rI : Rp K Int) (fun x y P => CMul x y ∧ P (x * y)) := r2_I
theorem r2_fdiv : R2Ok (L2.rI CDivN fun i j => .int (i.fdiv j)) (rI : Rp K Int) (rI : Rp K Int) (rI : Rp K Int) (fun x y P => CDivN x y ∧ P (x.fdiv y)) := r2_I
theorem r2_mod : R2Ok (L2.rI (fun _ j => j ≠ 0) fun i j => .int (i.fmod j)) (rI : Rp K Int) (rI : Rp K Int) (rI : Rp K Int) (fun x y P => y ≠ 0 ∧ P (x.fmod y)) := r2_I
theorem r2_pow : R2Ok (L2.rI CPow fun i j => .int (i ^ j.toNat)) (rI : Rp K Int) (rI : Rp K Int) (rI : Rp K Int) (fun x y P => CPow x y ∧ P (x ^ y.toNat)) := r2_I
theorem r2_shr : R2Ok (L2.rI (fun _ j => 0 ≤ j) fun i j => .int (i / 2 ^ j.toNat)) (rI : Rp K Int) (rI : Rp K Int) (rI : Rp K Int) (fun x y P => 0 ≤ y ∧ P (x / 2 ^ y.toNat)) := r2_I
theorem r2_lt : R2Ok (rI0 fun i j => .bl (decide (i < j))) (rI : Rp K Int) (rI : Rp K Int) (rB : Rp K Bool) (fun x y P => P (decide (x < y))) := r2_B0
theorem r2_le : R2Ok (rI0 fun i j => .bl (decide (i ≤ j))) (rI : Rp K Int) (rI : Rp K Int) (rB : Rp K Bool) (fun x y P => P (decide (x ≤ y))) := r2_B0
theorem r2_gt : R2Ok (rI0 fun i j => .bl (decide (j < i))) (rI : Rp K Int) (rI : Rp K Int) (rB : Rp K Bool) (fun x y P => P (decide (y < x))) := r2_B0
theorem r2_ge : R2Ok (rI0 fun i j => .bl (decide (j ≤ i))) (rI : Rp K Int) (rI : Rp K Int) (rB : Rp K Bool) (fun x y P => P (decide (y ≤ x))) := r2_B0
theorem r1_neg : R1Ok (L2.rU fun i => .int (-i)) (rI : Rp K Int) (rI : Rp K Int) (fun x P => P (-x)) := fun G H v x P Q s h p k => ⟨x, h, k G H _ _ (Step.refl s) p rfl⟩
/-- is None -/
def Nn (R : Rp K α) : Prop := ∀ (G : Hp) (v : V) (x : α), R.ok G v x → v ≠ .non
theorem nn_I : Nn (rI : Rp K Int) := fun G v x h z => by rw [show v = V.int x from h] at z; cases z
theorem nn_B : Nn (rB : Rp K Bool) := fun G v x h z => by rw [show v = V.bl x from h] at z; cases z
theorem nn_S : Nn (rS : Rp K Str) := fun G v x h z => by rw [show v = V.str x from h] at z; cases z
theorem nn_L {R : Rp K α} : Nn (rL R) := fun G v x ⟨a, vs, h, _⟩ z => by rw [h] at z; cases z
theorem nn_U {R : Rp K α} : Nn (rU R) := fun G v x ⟨a, vs, h, _⟩ z => by rw [h] at z; cases z
theorem nn_T {F : Fs K α} : Nn (rT F) := fun G v x ⟨a, vs, h, _⟩ z => by rw [h] at z; cases z
theorem r2_isN {R : Rp K α} (hn : Nn R) : R2Ok (fun x y H Q => y = .non ∧ Q (.bl (decide (x = .non))) H) (rO R) (rN : Rp K Unit) (rB : Rp K Bool) (fun o _ P => P o.isNone) := fun G H v u x y P Q s h1 h2 p k => by
  refine ⟨h2, ?_⟩
  cases x with
  | none => rw [show v = V.non from h1, decide_eq_true rfl]; exact k G H _ true (Step.refl s) p rfl
  | some x => rw [decide_eq_false (hn G v x h1)]; exact k G H _ false (Step.refl s) p rfl
theorem r2_notN {R : Rp K α} (hn : Nn R) : R2Ok (fun x y H Q => y = .non ∧ Q (.bl (!decide (x = .non))) H) (rO R) (rN : Rp K Unit) (rB : Rp K Bool) (fun o _ P => P o.isSome) := fun G H v u x y P Q s h1 h2 p k => by
  refine ⟨h2, ?_⟩
  cases x with
  | none => rw [show v = V.non from h1, decide_eq_true rfl]; exact k G H _ false (Step.refl s) p rfl
  | some x => rw [decide_eq_false (hn G v x h1)]; exact k G H _ true (Step.refl s) p rfl
/-! ### items -/
theorem atI_pair {F : V → α → Prop} {vs : List V} {xs : List α} {i : Int} {x : α} (p : Paired F vs xs) (h : atI xs i = some x) : ∃ v, atI vs i = some v ∧ F v x := by
  unfold atI at h ⊢
  rw [paired_len p]
  cases q : ixN xs.length i with
  | none => rw [q] at h; cases h
  | some j =>
    rw [q] at h
    obtain ⟨v, e, r⟩ := paired_get p (show xs[j]? = some x from h)
    exact ⟨v, e, r⟩
theorem r2_ixL {R : Rp K α} : R2Ok (rIxL K) (rL R) (rI : Rp K Int) R (fun xs i P => ∃ x, atI xs i = some x ∧ P x) := fun G H v u xs i P Q s ⟨a, vs, h1, h2, h3, _⟩ h4 ⟨x, hx, p⟩ k => by
  obtain ⟨w, e, r⟩ := atI_pair h3 hx
  exact ⟨a, vs, i, w, h1, h4, Same.seq s h2, e, k G H w x (Step.refl s) p r⟩
theorem r2_ixU {R : Rp K α} : R2Ok (rIxT K) (rU R) (rI : Rp K Int) R (fun xs i P => ∃ x, atI xs i = some x ∧ P x) := fun G H v u xs i P Q s ⟨a, vs, h1, h2, h3, _⟩ h4 ⟨x, hx, p⟩ k => by
  obtain ⟨w, e, r⟩ := atI_pair h3 hx
  exact ⟨a, vs, i, w, h1, h4, same_t s h2, e, k G H w x (Step.refl s) p r⟩
/-- the place j of a row of fixed places -/
structure FsAt (F : Fs K α) (j : Nat) (R : Rp K β) (g : α → β) : Prop where
  get : ∀ (G : Hp) (vs : List V) (x : α), F.ok G vs x → ∃ v, vs[j]? = some v ∧ R.ok G v (g x)
theorem fsAt_1 {R : Rp K α} : FsAt (fs1 R) 0 R (fun x => x) := ⟨fun G vs x ⟨v, h, r⟩ => ⟨v, by rw [h]; rfl, r⟩⟩
theorem fsAt_0 {R : Rp K α} {F : Fs K β} : FsAt (fsC R F) 0 R (fun x => x.1) := ⟨fun G vs x ⟨v, r, h, q, _⟩ => ⟨v, by rw [h]; rfl, q⟩⟩
theorem fsAt_s {γ : Type} {R : Rp K α} {F : Fs K β} {j : Nat} {R' : Rp K γ} {g : β → γ} (h : FsAt F j R' g) : FsAt (fsC R F) (j + 1) R' (fun x => g x.2) := ⟨fun G vs x ⟨v, r, h1, _, z⟩ => by
  obtain ⟨u, e, q⟩ := h.get G r x.2 z
  exact ⟨u, by rw [h1]; exact e, q⟩⟩
theorem r2_ixF {F : Fs K α} {j : Nat} {R : Rp K β} {g : α → β} (h : FsAt F j R g) : R2Ok (rIxT K) (rT F) (rI : Rp K Int) R (fun x i P => i = (j : Int) ∧ P (g x)) := fun G H v u x i P Q s ⟨a, vs, h1, h2, h3⟩ h4 ⟨hi, p⟩ k => by
  obtain ⟨w, e, r⟩ := h.get G vs x h3
  exact ⟨a, vs, i, w, h1, h4, same_t s h2, by rw [hi]; exact atI_nat e, k G H w _ (Step.refl s) p r⟩
/-! ### in, of flat things -/
structure FlatR (R : Rp K α) [DecidableEq α] : Prop where
  flat : ∀ (G : Hp) (v : V) (x : α), R.ok G v x → flatV v = true
  eq : ∀ (G : Hp) (v u : V) (x y : α), R.ok G v x → R.ok G u y → eqV u v = decide (x = y)
theorem flat_I : FlatR (rI : Rp K Int) := ⟨fun G v x h => by rw [show v = V.int x from h]; rfl, fun G v u x y h1 h2 => by
  rw [show v = V.int x from h1, show u = V.int y from h2]
  show (y == x) = decide (x = y)
  by_cases e : x = y
  · subst e; simp
  · rw [decide_eq_false e]; exact beq_eq_false_iff_ne.mpr fun z => e z.symm⟩
theorem flat_S : FlatR (rS : Rp K Str) := ⟨fun G v x h => by rw [show v = V.str x from h]; rfl, fun G v u x y h1 h2 => by
  rw [show v = V.str x from h1, show u = V.str y from h2]
  show decide (y = x) = decide (x = y)
  by_cases e : x = y
  · subst e; rfl
  · rw [decide_eq_false e, decide_eq_false fun z => e z.symm]⟩
theorem inV_of [DecidableEq α] {R : Rp K α} (f : FlatR R) {G : Hp} {v : V} {x : α} (h : R.ok G v x) : ∀ {vs : List V} {xs : List α}, Paired (R.ok G) vs xs → vs.all flatV = true ∧ inV v vs = decide (x ∈ xs)
  | _, _, .nil => ⟨rfl, by simp [inV]⟩
  | _, _, .cons (a := u) (b := y) (l₁ := vs) (l₂ := xs) r t => by
    obtain ⟨h1, h2⟩ := inV_of f h t
    refine ⟨by rw [List.all_cons, f.flat _ _ _ r, h1]; rfl, ?_⟩
    show (eqV u v || inV v vs) = _
    rw [h2, f.eq _ _ _ _ _ h r]
    by_cases e : x = y
    · simp [e]
    · simp [e]
theorem r2_inL [DecidableEq α] {R : Rp K α} (f : FlatR R) : R2Ok (rIn K false) R (rL R) (rB : Rp K Bool) (fun x xs P => P (decide (x ∈ xs))) := fun G H v u x xs P Q s h1 ⟨a, vs, h2, h3, h4, _⟩ p k => by
  obtain ⟨e1, e2⟩ := inV_of f h1 h4
  exact ⟨a, vs, h2, .inl (Same.seq s h3), f.flat _ _ _ h1, e1, k G H _ _ (Step.refl s) p (by show V.bl _ = _; rw [e2]; rfl)⟩
theorem r2_ninL [DecidableEq α] {R : Rp K α} (f : FlatR R) : R2Ok (rIn K true) R (rL R) (rB : Rp K Bool) (fun x xs P => P (!decide (x ∈ xs))) := fun G H v u x xs P Q s h1 ⟨a, vs, h2, h3, h4, _⟩ p k => by
  obtain ⟨e1, e2⟩ := inV_of f h1 h4
  exact ⟨a, vs, h2, .inl (Same.seq s h3), f.flat _ _ _ h1, e1, k G H _ _ (Step.refl s) p (by show V.bl _ = _; rw [e2]; rfl)⟩
/-! ### == of data -/
structure Eqp (R : Rp K α) where
  enc : α → PyData
  dep : Nat
  dp : ∀ (G : Hp) (v : V) (x : α), R.ok G v x → Dp K G v (enc x)
  pl : ∀ x, (enc x).plain = true
  dle : ∀ x, (enc x).depth ≤ dep
  eqv : ∀ x y, PyData.eqv (enc x) (enc y) = true ↔ x = y
def eqI : Eqp (rI : Rp K Int) := ⟨.int, 0, fun G v x h => by rw [show v = V.int x from h]; exact .int x, fun _ => rfl, fun _ => Nat.le_refl _, fun x y => by simp [PyData.eqv]⟩
def eqB : Eqp (rB : Rp K Bool) := ⟨.bool, 0, fun G v x h => by rw [show v = V.bl x from h]; exact .bl x, fun _ => rfl, fun _ => Nat.le_refl _, fun x y => by simp [PyData.eqv]⟩
def eqS : Eqp (rS : Rp K Str) := ⟨.str, 0, fun G v x h => by rw [show v = V.str x from h]; exact .str x, fun _ => rfl, fun _ => Nat.le_refl _, fun x y => by simp [PyData.eqv]⟩
theorem dpAll_of {R : Rp K α} (e : Eqp R) {G : Hp} : ∀ {vs : List V} {xs : List α}, Paired (R.ok G) vs xs → DpAll K G vs (xs.map e.enc)
  | _, _, .nil => .nil
  | _, _, .cons r t => .cons (e.dp _ _ _ r) (dpAll_of e t)
theorem plainAll_of {R : Rp K α} (e : Eqp R) : ∀ xs : List α, PyData.plainAll (xs.map e.enc) = true
  | [] => rfl
  | x :: xs => by show (PyData.plain _ && PyData.plainAll _) = true; rw [e.pl, plainAll_of e xs]; rfl
theorem depthAll_of {R : Rp K α} (e : Eqp R) : ∀ xs : List α, PyData.depthAll (xs.map e.enc) ≤ e.dep
  | [] => Nat.zero_le _
  | x :: xs => by show max (PyData.depth _) (PyData.depthAll _) ≤ _; exact Nat.max_le.mpr ⟨e.dle x, depthAll_of e xs⟩
theorem eqvAll_of {R : Rp K α} (e : Eqp R) : ∀ xs ys : List α, PyData.eqvAll (xs.map e.enc) (ys.map e.enc) = true ↔ xs = ys
  | [], [] => by simp [PyData.eqvAll]
  | [], _ :: _ => by simp [PyData.eqvAll]
  | _ :: _, [] => by simp [PyData.eqvAll]
  | x :: xs, y :: ys => by
    show (PyData.eqv _ _ && PyData.eqvAll _ _) = true ↔ _
    rw [Bool.and_eq_true, e.eqv, eqvAll_of e xs ys]
    simp
def eqL {R : Rp K α} (e : Eqp R) : Eqp (rL R) := ⟨fun xs => .list (xs.map e.enc), e.dep + 1, fun G v xs ⟨a, vs, h1, h2, h3, _⟩ => by rw [h1]; exact .lst h2 (dpAll_of e h3), fun xs => plainAll_of e xs, fun xs => Nat.succ_le_succ (depthAll_of e xs), fun xs ys => by
  rw [PyData.eqv]; exact eqvAll_of e xs ys⟩
def eqU {R : Rp K α} (e : Eqp R) : Eqp (rU R) := ⟨fun xs => .tuple (xs.map e.enc), e.dep + 1, fun G v xs ⟨a, vs, h1, h2, h3, _⟩ => by rw [h1]; exact .tup h2 (dpAll_of e h3), fun xs => plainAll_of e xs, fun xs => Nat.succ_le_succ (depthAll_of e xs), fun xs ys => by
  rw [PyData.eqv]; exact eqvAll_of e xs ys⟩
/-- None or not: the rest is never None -/
structure EqNn {R : Rp K α} (e : Eqp R) : Prop where
  l : ∀ x, PyData.eqv .none (e.enc x) = false
  r : ∀ x, PyData.eqv (e.enc x) .none = false
theorem enn_I : EqNn (eqI : Eqp (rI : Rp K Int)) := ⟨fun _ => by simp [eqI, PyData.eqv], fun _ => by simp [eqI, PyData.eqv]⟩
theorem enn_S : EqNn (eqS : Eqp (rS : Rp K Str)) := ⟨fun _ => by simp [eqS, PyData.eqv], fun _ => by simp [eqS, PyData.eqv]⟩
theorem enn_L {R : Rp K α} {e : Eqp R} : EqNn (eqL e) := ⟨fun _ => by simp [eqL, PyData.eqv], fun _ => by simp [eqL, PyData.eqv]⟩
def eqO {R : Rp K α} (e : Eqp R) (n : EqNn e) : Eqp (rO R) := ⟨fun o => match o with | none => .none | some x => e.enc x, e.dep, fun G v o h => by
  cases o with
  | none => rw [show v = V.non from h]; exact .non
  | some x => exact e.dp _ _ _ h, fun o => by cases o with | none => rfl | some x => exact e.pl x, fun o => by cases o with | none => exact Nat.zero_le _ | some x => exact e.dle x, fun o o' => by
  cases o with
  | none => cases o' with
    | none => simp [PyData.eqv]
    | some y => simp [n.l]
  | some x => cases o' with
    | none => simp [n.r]
    | some y => simp [e.eqv]⟩
/-- rows of fixed places -/
structure EqF (F : Fs K α) where
  enc : α → List PyData
  dep : Nat
  dp : ∀ (G : Hp) (vs : List V) (x : α), F.ok G vs x → DpAll K G vs (enc x)
  pl : ∀ x, PyData.plainAll (enc x) = true
  dle : ∀ x, PyData.depthAll (enc x) ≤ dep
  eqv : ∀ x y, PyData.eqvAll (enc x) (enc y) = true ↔ x = y
def eqf1 {R : Rp K α} (e : Eqp R) : EqF (fs1 R) := ⟨fun x => [e.enc x], e.dep, fun G vs x ⟨v, h, q⟩ => by rw [h]; exact .cons (e.dp _ _ _ q) .nil, fun x => by show (PyData.plain _ && true) = true; rw [e.pl]; rfl,
  fun x => by show max _ 0 ≤ _; exact Nat.max_le.mpr ⟨e.dle x, Nat.zero_le _⟩, fun x y => by show (PyData.eqv _ _ && true) = true ↔ _; rw [Bool.and_true]; exact e.eqv x y⟩
def eqfC {R : Rp K α} {F : Fs K β} (e : Eqp R) (f : EqF F) : EqF (fsC R F) := ⟨fun x => e.enc x.1 :: f.enc x.2, max e.dep f.dep, fun G vs x ⟨v, r, h, q, z⟩ => by rw [h]; exact .cons (e.dp _ _ _ q) (f.dp _ _ _ z),
  fun x => by show (PyData.plain _ && PyData.plainAll _) = true; rw [e.pl, f.pl]; rfl, fun x => by show max _ _ ≤ _; exact Nat.max_le.mpr ⟨Nat.le_trans (e.dle x.1) (Nat.le_max_left _ _), Nat.le_trans (f.dle x.2) (Nat.le_max_right _ _)⟩,
  fun x y => by
    show (PyData.eqv _ _ && PyData.eqvAll _ _) = true ↔ _
    rw [Bool.and_eq_true, e.eqv, f.eqv]
    exact ⟨fun h => Prod.ext h.1 h.2, fun h => by rw [h]; exact ⟨rfl, rfl⟩⟩⟩
def eqT {F : Fs K α} (f : EqF F) : Eqp (rT F) := ⟨fun x => .tuple (f.enc x), f.dep + 1, fun G v x ⟨a, vs, h1, h2, h3⟩ => by rw [h1]; exact .tup h2 (f.dp _ _ _ h3), fun x => f.pl x, fun x => Nat.succ_le_succ (f.dle x), fun x y => by
  rw [PyData.eqv]; exact f.eqv x y⟩
mutual
theorem Dp.same {H H' : Hp} (e : Same H H') : ∀ {v : V} (d : PyData), Dp K H v d → Dp K H' v d
  | _, .none, h => by cases h; exact .non
  | _, .bool _, h => by cases h; exact .bl _
  | _, .int _, h => by cases h; exact .int _
  | _, .str _, h => by cases h; exact .str _
  | _, .list ds, h => by cases h with | lst h1 h2 => exact .lst (Same.seq e h1) (DpAll.same e ds h2)
  | _, .tuple ds, h => by cases h with | tup h1 h2 => exact .tup (same_t e h1) (DpAll.same e ds h2)
  | _, .dict _, h => by cases h
theorem DpAll.same {H H' : Hp} (e : Same H H') : ∀ {vs : List V} (ds : List PyData), DpAll K H vs ds → DpAll K H' vs ds
  | _, [], h => by cases h; exact .nil
  | _, d :: ds, h => by cases h with | cons h1 h2 => exact .cons (Dp.same e d h1) (DpAll.same e ds h2)
end
def rEqP (K : PySem.W.Frag) : R2 := fun x y H Q => ∃ d e, Dp K H x d ∧ Dp K H y e ∧ d.plain = true ∧ e.plain = true ∧ d.depth ≤ 64 ∧ Q (.bl (PyData.eqv d e)) H
def rNeP (K : PySem.W.Frag) : R2 := fun x y H Q => ∃ d e, Dp K H x d ∧ Dp K H y e ∧ d.plain = true ∧ e.plain = true ∧ d.depth ≤ 64 ∧ Q (.bl (!PyData.eqv d e)) H
theorem r2_eq [DecidableEq α] {R : Rp K α} (e : Eqp R) (hd : e.dep ≤ 64 := by exact Nat.le_of_ble_eq_true rfl) : R2Ok (rEqP K) R R (rB : Rp K Bool) (fun x y P => P (decide (x = y))) := fun G H v u x y P Q s h1 h2 p k =>
  ⟨e.enc x, e.enc y, Dp.same s _ (e.dp _ _ _ h1), Dp.same s _ (e.dp _ _ _ h2), e.pl x, e.pl y, Nat.le_trans (e.dle x) hd, k G H _ _ (Step.refl s) p (by
    show V.bl _ = V.bl _
    congr 1
    rw [Bool.eq_iff_iff, e.eqv, decide_eq_true_iff])⟩
theorem r2_ne [DecidableEq α] {R : Rp K α} (e : Eqp R) (hd : e.dep ≤ 64 := by exact Nat.le_of_ble_eq_true rfl) : R2Ok (rNeP K) R R (rB : Rp K Bool) (fun x y P => P (!decide (x = y))) := fun G H v u x y P Q s h1 h2 p k =>
  ⟨e.enc x, e.enc y, Dp.same s _ (e.dp _ _ _ h1), Dp.same s _ (e.dp _ _ _ h2), e.pl x, e.pl y, Nat.le_trans (e.dle x) hd, k G H _ _ (Step.refl s) p (by
    show V.bl (!_) = V.bl (!_)
    congr 2
    rw [Bool.eq_iff_iff, e.eqv, decide_eq_true_iff])⟩
end
section
variable {X : Cx} {K : PySem.W.Frag} [HK X K]
theorem op_eqP (hu : X.A.units + 64 < cLine) : OpR X (compareOp .Eq) (rEqP X.K) := by
  intro pins s σ H x y v u Q I rx ry h
  obtain ⟨d, e, hd, he, sd, se, dd, q⟩ := h
  obtain ⟨as, r1⟩ := Dp.reads I d x v hd rx
  obtain ⟨bs, r2⟩ := Dp.reads I e y u he ry
  exact PySem.SeqAt.eq_plain r1 r2 sd se (by have := Nat.min_le_left d.depth e.depth; omega) ⟨.bl _, H, I, rfl, q⟩
theorem op_neP (hu : X.A.units + 64 < cLine) : OpR X (compareOp .NotEq) (rNeP X.K) := by
  intro pins s σ H x y v u Q I rx ry h
  obtain ⟨d, e, hd, he, sd, se, dd, q⟩ := h
  obtain ⟨as, r1⟩ := Dp.reads I d x v hd rx
  obtain ⟨bs, r2⟩ := Dp.reads I e y u he ry
  exact PySem.SeqAt.ne_plain r1 r2 sd se (by have := Nat.min_le_left d.depth e.depth; omega) ⟨.bl _, H, I, rfl, q⟩
end
/-! ### built-in calls -/
section
variable {K : PySem.W.Frag} {α β : Type}
theorem rc_len {R : Rp K α} : RCOk (fun xs H Q => ∃ p ys, xs = [.ref p] ∧ (SqL K H p ys ∨ SqT K H p ys) ∧ Q (.int ys.length) H) (fs1 (rL R)) (rI : Rp K Int) (fun xs P => xs.length ≤ sizeLine → P (xs.length : Int)) := fun G H vs x P Q s ⟨v, h, a, us, h1, h2, h3, h4⟩ p k => by
  subst h; subst h1
  exact ⟨a, us, rfl, .inl (Same.seq s h2), k G H _ _ (Step.refl s) (p (by rw [← paired_len h3]; exact h4)) (by rw [paired_len h3]; rfl)⟩
theorem rc_lenU {R : Rp K α} : RCOk (fun xs H Q => ∃ p ys, xs = [.ref p] ∧ (SqL K H p ys ∨ SqT K H p ys) ∧ Q (.int ys.length) H) (fs1 (rU R)) (rI : Rp K Int) (fun xs P => xs.length ≤ sizeLine → P (xs.length : Int)) := fun G H vs x P Q s ⟨v, h, a, us, h1, h2, h3, h4⟩ p k => by
  subst h; subst h1
  exact ⟨a, us, rfl, .inr (same_t s h2), k G H _ _ (Step.refl s) (p (by rw [← paired_len h3]; exact h4)) (by rw [paired_len h3]; rfl)⟩
theorem rc_max2 : RCOk (fun xs H Q => ∃ i j, xs = [.int i, .int j] ∧ Q (.int (if j > i then j else i)) H) (fsC (rI : Rp K Int) (fs1 rI)) (rI : Rp K Int) (fun q P => P (max q.1 q.2)) := fun G H vs x P Q s ⟨v, r, h1, h2, u, h3, h4⟩ p k => by
  have e1 : v = V.int x.1 := h2
  have e2 : u = V.int x.2 := h4
  subst h3 e1 e2; subst h1
  refine ⟨x.1, x.2, rfl, ?_⟩
  have e : (if x.2 > x.1 then x.2 else x.1) = max x.1 x.2 := by split <;> omega
  rw [e]
  exact k G H _ _ (Step.refl s) p rfl
theorem rc_min2 : RCOk (fun xs H Q => ∃ i j, xs = [.int i, .int j] ∧ Q (.int (if j < i then j else i)) H) (fsC (rI : Rp K Int) (fs1 rI)) (rI : Rp K Int) (fun q P => P (min q.1 q.2)) := fun G H vs x P Q s ⟨v, r, h1, h2, u, h3, h4⟩ p k => by
  have e1 : v = V.int x.1 := h2
  have e2 : u = V.int x.2 := h4
  subst h3 e1 e2; subst h1
  refine ⟨x.1, x.2, rfl, ?_⟩
  have e : (if x.2 < x.1 then x.2 else x.1) = min x.1 x.2 := by split <;> omega
  rw [e]
  exact k G H _ _ (Step.refl s) p rfl
theorem rc_int : RCOk (fun xs H Q => (∃ i, xs = [.int i] ∧ Q (.int i) H) ∨ ∃ k, xs = [.bl k] ∧ Q (.int (if k then 1 else 0)) H) (fs1 (rI : Rp K Int)) (rI : Rp K Int) (fun x P => P x) := fun G H vs x P Q s ⟨v, h, q⟩ p k => by
  have e : v = V.int x := q
  subst e
  exact .inl ⟨x, h, k G H _ _ (Step.refl s) p rfl⟩
theorem rc_strI : RCOk (fun xs H Q => ∃ i, xs = [.int i] ∧ i.natAbs.log2 < 1920 ∧ Q (.str (toString i)) H) (fs1 (rI : Rp K Int)) (rS : Rp K Str) (fun x P => x.natAbs.log2 < 1920 ∧ P (toString x)) := fun G H vs x P Q s ⟨v, h, q⟩ p k => by
  have e : v = V.int x := q
  subst e
  exact ⟨x, h, p.1, k G H _ _ (Step.refl s) p.2 rfl⟩
theorem bls_of {G : Hp} : ∀ {us : List V} {bs : List Bool}, Paired ((rB : Rp K Bool).ok G) us bs → us = bs.map V.bl
  | _, _, .nil => rfl
  | _, _, .cons (a := u) (b := b) r t => by rw [List.map_cons, ← bls_of t, show u = V.bl b from r]
theorem rc_all : RCOk (rAll K) (fs1 (rL (rB : Rp K Bool))) (rB : Rp K Bool) (fun bs P => P (bs.all id)) := fun G H vs bs P Q s ⟨v, h, a, us, h1, h2, h3, h4⟩ p k => by
  have e : us = bs.map V.bl := bls_of h3
  subst h; subst h1; subst e
  exact ⟨a, bs, rfl, Same.seq s h2, k G H _ _ (Step.refl s) p rfl⟩
theorem rc_any : RCOk (rAny K) (fs1 (rL (rB : Rp K Bool))) (rB : Rp K Bool) (fun bs P => P (bs.any id)) := fun G H vs bs P Q s ⟨v, h, a, us, h1, h2, h3, h4⟩ p k => by
  have e : us = bs.map V.bl := bls_of h3
  subst h; subst h1; subst e
  exact ⟨a, bs, rfl, Same.seq s h2, k G H _ _ (Step.refl s) p rfl⟩
/-- list(xs) -/
theorem rcl_list {R : Rp K α} : RCL (fun xs H Q => ∃ p ys, xs = [.ref p] ∧ (SqL K H p ys ∨ SqT K H p ys) ∧ ∀ l, H l = none → Q (.ref l) (upd H l (.lst ys))) (fs1 (rL R)) R (fun xs P => P xs) := fun G H vs xs P Q s ⟨v, h, a, us, h1, h2, h3, h4⟩ p k => by
  subst h; subst h1
  exact ⟨a, us, rfl, .inl (Same.seq s h2), fun l hl => k _ l us xs (Step.lay s hl) p hl upd_same h3 h4⟩
theorem rcl_listU {R : Rp K α} : RCL (fun xs H Q => ∃ p ys, xs = [.ref p] ∧ (SqL K H p ys ∨ SqT K H p ys) ∧ ∀ l, H l = none → Q (.ref l) (upd H l (.lst ys))) (fs1 (rU R)) R (fun xs P => P xs) := fun G H vs xs P Q s ⟨v, h, a, us, h1, h2, h3, h4⟩ p k => by
  subst h; subst h1
  exact ⟨a, us, rfl, .inr (same_t s h2), fun l hl => k _ l us xs (Step.lay s hl) p hl upd_same h3 h4⟩
/-- t + u of tuples of any length -/
theorem r2_catU {R : Rp K α} : R2Ok (rCatA K) (rU R) (rU R) (rU R) (fun xs ys P => xs.length + ys.length ≤ sizeLine ∧ P (xs ++ ys)) := fun G H v u xs ys P Q s ⟨a, vs, h1, h2, h3, h4⟩ ⟨b, us, g1, g2, g3, g4⟩ ⟨hz, p⟩ k => by
  have hz' : vs.length + us.length ≤ sizeLine := by rw [paired_len h3, paired_len g3]; exact hz
  have pr := paired_app h3 g3
  refine ⟨a, b, vs, us, h1, g1, same_t s h2, same_t s g2, hz', fun e => ?_, fun e1 e2 => ?_, fun e1 e2 q hq => ?_⟩
  · subst e
    cases h3
    exact k G H _ _ (Step.refl s) p ⟨b, us, rfl, g2, g3, g4⟩
  · subst e2
    cases g3
    rw [List.append_nil] at p
    exact k G H _ _ (Step.refl s) p ⟨a, vs, rfl, h2, h3, h4⟩
  · have s2 := Step.new (M := []) (o := .tup (vs ++ us)) s hq
    exact k _ _ _ _ s2 p ⟨q, vs ++ us, rfl, SqT.of upd_same, paired_mono (fun _ _ z => R.mono s2.gg z) pr, by rw [List.length_append]; exact hz'⟩
end
end SS

set_option Elab.async false
set_option linter.all false
set_option maxRecDepth 100000
/-! SSF: own rules: lists of one's own that change, fields, instances, calls of defs, the def. Own work. -/
namespace SS
open PySem PySem.Spec L2

/-! ### lists of one's own -/
section
variable {X : Cx} {K : PySem.W.Frag} [HK X K] {τ ℓ α β γ : Type} {ρ : List (En K)} {post : τ → List (En K)} {lp : ℓ → List (En K)} {R : Rp K β} {rest : List Stmt} {pos : Pos} {e : Expr}
theorem own_get {i : Nat} {p : Addr} {Ra : Rp K α} {xs : List α} (h : ρ[i]? = some (.own p Ra xs)) {G H : Hp} {σ : L2.St} (ev : EnvOk ρ G H σ) :
    σ[i]? = some (some (.ref p)) ∧ G p = none ∧ (∃ vs, H p = some (.lst vs) ∧ Paired (Ra.ok G) vs xs ∧ vs.length ≤ sizeLine) ∧ p ∈ adrs ρ := by
  obtain ⟨o, ho, e1, n1, vs, h1, h2, h3⟩ := ev.ok i _ h
  subst e1
  exact ⟨ho, n1, ⟨vs, h1, h2, h3⟩, adrs_mem h (by simp [En.adr])⟩
theorem own_pl {i : Nat} {p : Addr} {Ra : Rp K α} {xs : List α} (h : ρ[i]? = some (.own p Ra xs)) : (ρ.getD i .off).pl = [] := by
  have e : ρ.getD i .off = .own p Ra xs := by rw [List.getD_eq_getElem?_getD, h]; rfl
  rw [e]; rfl
/-- the list at p becomes ys -/
theorem own_put {i : Nat} {p : Addr} {Ra : Rp K α} {xs ys : List α} (h : ρ[i]? = some (.own p Ra xs)) {G H : Hp} {σ : L2.St} (ev : EnvOk ρ G H σ) (s : Same G H) {us : List V} (pr : Paired (Ra.ok G) us ys) (hz : us.length ≤ sizeLine) :
    Step (adrs ρ) G H G (upd H p (.lst us)) ∧ EnvOk (ρ.set i (.own p Ra ys)) G (upd H p (.lst us)) σ := by
  obtain ⟨ho, n1, ⟨vs, h1, _, _⟩, hm⟩ := own_get h ev
  have s1 : Step [p] G H G (upd H p (.lst us)) := Step.put s (by simp) n1
  refine ⟨s1.wide fun a ha => by rw [mem1 ha]; exact hm, ⟨by rw [List.length_set, ev.len], fun j e' hj => ?_, (nodup_same (e' := .own p Ra ys) ev.nd h (.inl rfl)).1⟩⟩
  by_cases hij : i = j
  · subst hij
    rw [List.getElem?_set_self (List.getElem?_eq_some_iff.mp h).1] at hj
    cases hj
    exact ⟨_, ho, rfl, n1, us, upd_same, pr, hz⟩
  · rw [List.getElem?_set_ne hij] at hj
    obtain ⟨o', ho', q⟩ := ev.ok j e' hj
    exact ⟨o', ho', En.step q s1 fun a ha z => nodup_apart ev.nd h hj hij (by rw [mem1 z]; simp [En.adr]) ha⟩
theorem own_cts {D : Ends} {P : Out τ ℓ β → Prop} {i : Nat} {p : Addr} {Ra : Rp K α} {xs ys : List α} {G H G' H' : Hp} (c : Cts D post lp R P ρ G H) (st : Step (adrs ρ) G H G' H') (h : ρ[i]? = some (.own p Ra xs)) :
    Cts D post lp R P (ρ.set i (.own p Ra ys)) G' H' :=
  c.step st (fun b hb => (adrs_set hb).elim .inl fun z => .inl (adrs_mem h z)) fun q hq => pls_set (own_pl h) hq
/-- x.append(e) -/
theorem b_app {i : Nat} {nm : Str} {pn ap cp : Pos} {p : Addr} {Ra : Rp K α} {xs : List α} {w : W α} {m : α → W (Out τ ℓ β)} (hv : PE X (.Name nm pn) (tVar i)) (ho : ρ[i]? = some (.own p Ra xs)) (h : PE X e (TEx ρ Ra w))
    (hr : ∀ a, PSs X rest (TBO (ρ.set i (.own p Ra (xs ++ [a]))) post lp R (m a)))
    (hbase : attributeBase (.Name nm pn) "append" X.env (eval (.Name nm pn) X.env) = eval (.Name nm pn) X.env := by rfl)
    (hfew : ((backTo cp (starEach [e] X.env)).all (fun x => !x.1) && (backToKw cp (keywordEach [] X.env)).all (fun x => x.1.isSome)
      && decide ([e].length + ([] : List Keyword).length + (if ([] : List Keyword).isEmpty then 0 else 1) < 30)) = true := by rfl)
    (hline : (ap.endLine == cp.line) = true := by rfl) (hs : starEach [e] X.env = (false, eval e X.env) :: starEach [] X.env := by rfl) (hplain : (backTo cp (starEach [] X.env)).any (·.1) = false := by rfl)
    (hsw : swapsWith (.Call (.Attribute (.Name nm pn) "append" ap) [e] [] cp) none pos.line X.env = pure false := by rfl) :
    PSs X (.Expr (.Call (.Attribute (.Name nm pn) "append" ap) [e] [] cp) pos :: rest) (TBO ρ post lp R fun P => w fun a => (xs.length ≤ sizeLine → xs.length < sizeLine) ∧ m a P) := by
  refine pss_imp (pss_cons (ps_expr (pe_bm PySem.F.plainAttrs_list PySem.F.slot_list_append PySem.F.type_list_append mt_append hv (pa_cons h pa_nil hs) hbase hfew hline hs hplain) hsw) (pss_fam hr)) fun D σ H ⟨G, P, s, ev, pp, c⟩ => ?_
  obtain ⟨hσ, n1, ⟨vs, h1, h2, h3⟩, hm⟩ := own_get ho ev
  refine ⟨.ref p, hσ, .inl ⟨rfl, vs, SqL.of h1⟩, G, _, s, ev, pp, fun G1 H1 v a st e1 pa ra => ?_⟩
  obtain ⟨_, _, ⟨vs1, k1, k2, k3⟩, _⟩ := own_get ho e1
  obtain ⟨s2, e2⟩ := own_put ho e1 st.gh (paired_app k2 (.cons ra .nil)) (by have := pa.1 (by rw [← paired_len k2]; exact k3); rw [List.length_append, paired_len k2]; exact this)
  exact ⟨p, vs1, v, rfl, rfl, k1, by rw [paired_len k2]; exact pa.1 (by rw [← paired_len k2]; exact k3), a, G1, P, s2.gh, e2, pa.2, own_cts c ((st.wide fun a ha => padr_sub ha).trans s2) ho⟩
/-- x.extend(e), e a new list -/
theorem b_ext {i : Nat} {nm : Str} {pn ap cp : Pos} {p : Addr} {Ra : Rp K α} {xs : List α} {w : W (List α)} {m : List α → W (Out τ ℓ β)} (hv : PE X (.Name nm pn) (tVar i)) (ho : ρ[i]? = some (.own p Ra xs)) (h : PE X e (TEL ρ Ra w))
    (hr : ∀ ys, PSs X rest (TBO (ρ.set i (.own p Ra (xs ++ ys))) post lp R (m ys)))
    (hbase : attributeBase (.Name nm pn) "extend" X.env (eval (.Name nm pn) X.env) = eval (.Name nm pn) X.env := by rfl)
    (hfew : ((backTo cp (starEach [e] X.env)).all (fun x => !x.1) && (backToKw cp (keywordEach [] X.env)).all (fun x => x.1.isSome)
      && decide ([e].length + ([] : List Keyword).length + (if ([] : List Keyword).isEmpty then 0 else 1) < 30)) = true := by rfl)
    (hline : (ap.endLine == cp.line) = true := by rfl) (hs : starEach [e] X.env = (false, eval e X.env) :: starEach [] X.env := by rfl) (hplain : (backTo cp (starEach [] X.env)).any (·.1) = false := by rfl)
    (hsw : swapsWith (.Call (.Attribute (.Name nm pn) "extend" ap) [e] [] cp) none pos.line X.env = pure false := by rfl) :
    PSs X (.Expr (.Call (.Attribute (.Name nm pn) "extend" ap) [e] [] cp) pos :: rest) (TBO ρ post lp R fun P => w fun ys => xs.length + ys.length ≤ sizeLine ∧ m ys P) := by
  refine pss_imp (pss_cons (ps_expr (pe_bm PySem.F.plainAttrs_list PySem.F.slot_list_extend PySem.F.type_list_extend mt_extend hv (pa_cons h pa_nil hs) hbase hfew hline hs hplain) hsw) (pss_fam hr)) fun D σ H ⟨G, P, s, ev, pp, c⟩ => ?_
  obtain ⟨hσ, n1, ⟨vs, h1, h2, h3⟩, hm⟩ := own_get ho ev
  refine ⟨.ref p, hσ, .inl ⟨rfl, vs, SqL.of h1⟩, G, _, s, ev, pp, fun G1 H1 q us ys st e1 pa q1 q2 hq pr hz => ?_⟩
  obtain ⟨_, _, ⟨vs1, k1, k2, k3⟩, _⟩ := own_get ho e1
  have hl : vs1.length + us.length ≤ sizeLine := by rw [paired_len k2, paired_len pr]; exact pa.1
  obtain ⟨s2, e2⟩ := own_put ho e1 st.gh (paired_app k2 pr) (by rw [List.length_append]; exact hl)
  exact ⟨p, q, vs1, us, rfl, rfl, k1, hq, hl, ys, G1, P, s2.gh, e2, pa.2, own_cts c ((st.wide fun a ha => padr_sub ha).trans s2) ho⟩
/-- x[j] = e -/
theorem b_seti {i : Nat} {nm : Str} {pn sp : Pos} {ej : Expr} {p : Addr} {Ra : Rp K α} {xs : List α} {w : W α} {wj : W Int} {m : Nat → α → W (Out τ ℓ β)} (hv : PE X (.Name nm pn) (tVar i)) (ho : ρ[i]? = some (.own p Ra xs)) (h : PE X e (TEx ρ Ra w)) (hj : PE X ej (TEx ρ rI wj))
    (hr : ∀ (k : Nat) (z : α), PSs X rest (TBO (ρ.set i (.own p Ra (xs.set k z))) post lp R (m k z)))
    (ha : ∀ v, assign (.Subscript (.Name nm pn) ej sp) X.env v = (do
      let ov ← holding [v] (eval (.Name nm pn) X.env)
      let iv ← holding [v, ov] (eval ej X.env)
      standAt sp
      holding [v, ov, iv] (setItem ov iv v)
      release [v, ov, iv] []) := by intro _; rfl)
    (hs : swapsWithSole [.Subscript (.Name nm pn) ej sp] e pos.line X.env = pure false := by rfl) (hw : swappedStores [.Subscript (.Name nm pn) ej sp] e X.env = pure none := by rfl) (h1 : (assignEach [.Subscript (.Name nm pn) ej sp] X.env).map (·.2) = [assign (.Subscript (.Name nm pn) ej sp) X.env] := by rfl) :
    PSs X (.Assign [.Subscript (.Name nm pn) ej sp] e pos :: rest) (TBO ρ post lp R fun P => w fun a => wj fun z => ∃ k, ixN xs.length z = some k ∧ m k a P) := by
  refine pss_imp (pss_cons (ps_asg h (pg_sub hv hj set_list ha) hs hw h1) (pss_fam fun q : Nat × α => hr q.1 q.2)) fun D σ H ⟨G, P, s, ev, pp, c⟩ => ⟨G, _, s, ev, pp, fun G1 H1 v a st e1 pa ra => ?_⟩
  obtain ⟨hσ, n1, _, hm⟩ := own_get ho e1
  refine ⟨.ref p, hσ, G1, _, st.gh, e1, pa, fun G2 H2 u z st2 e2 pz rz => ?_⟩
  obtain ⟨_, _, ⟨vs1, k1, k2, k3⟩, _⟩ := own_get ho e2
  have rz' : u = V.int z := rz
  subst rz'
  obtain ⟨k, hk, pk⟩ := pz
  obtain ⟨s3, e3⟩ := own_put ho e2 st2.gh (paired_set (Ra.mono st2.gg ra) k k2) (by rw [List.length_set]; exact k3)
  exact ⟨p, vs1, z, k, rfl, rfl, k1, by rw [paired_len k2]; exact hk, (k, a), G2, P, s3.gh, e3, pk, own_cts c (((st.trans st2).wide fun a ha => padr_sub ha).trans s3) ho⟩
/-! reading one's own list: items, length -/
theorem pr_ownix {i : Nat} {nm : Str} {pn : Pos} {p : Addr} {Ra : Rp K α} {xs : List α} {wj : W Int} {ej : Expr} (hv : PE X (.Name nm pn) (tVar i)) (ho : ρ[i]? = some (.own p Ra xs)) (hj : PE X ej (TEx ρ rI wj)) (hs : PlainIx ej := by exact fun _ _ => rfl) :
    PE X (.Subscript (.Name nm pn) ej pos) (TEx ρ Ra fun P => wj fun z => ∃ x, atI xs z = some x ∧ P x) := by
  refine pe_imp (pe_ix ix_list hv hj hs) fun σ H Q ⟨G, P, s, ev, pp, c⟩ => ?_
  obtain ⟨hσ, _⟩ := own_get ho ev
  refine ⟨.ref p, hσ, G, _, s, ev, pp, fun G1 H1 v z st e1 pz rz => ?_⟩
  obtain ⟨_, _, ⟨vs1, k1, k2, k3⟩, _⟩ := own_get ho e1
  obtain ⟨x, hx, px⟩ := pz
  obtain ⟨u, hu, ru⟩ := atI_pair k2 hx
  exact ⟨p, vs1, z, u, rfl, rz, SqL.of k1, hu, c G1 H1 u x st e1 px ru⟩
/-- an own list, read as if frozen, where the answer holds nothing of it -/
def hide {K : PySem.W.Frag} : En K → En K
  | .pool _ _ => .off
  | e => e
def Flat {K : PySem.W.Frag} {α : Type} (R : Rp K α) : Prop := ∀ (G G' : Hp) (v : V) (x : α), R.ok G v x → R.ok G' v x
theorem hide_pls {K : PySem.W.Frag} (ρ : List (En K)) : pls (ρ.map hide) = [] := by
  induction ρ with
  | nil => rfl
  | cons e r ih => show (hide e).pl ++ pls (r.map hide) = []; rw [ih]; cases e <;> rfl
theorem hide_adrs {K : PySem.W.Frag} (ρ : List (En K)) : (adrs (ρ.map hide)).Sublist (adrs ρ) := by
  induction ρ with
  | nil => exact List.Sublist.refl _
  | cons e r ih =>
    show ((hide e).adr ++ adrs (r.map hide)).Sublist (e.adr ++ adrs r)
    cases e with
    | pool p g => exact ih.trans (List.sublist_append_right _ _)
    | _ => exact List.Sublist.append (List.Sublist.refl _) ih
theorem pls_setoff {K : PySem.W.Frag} {ρ : List (En K)} {i : Nat} {e : En K} (h : pls ρ = []) (he : e.pl = []) : pls (ρ.set i e) = [] := by
  induction ρ generalizing i with
  | nil => exact h
  | cons x r ih =>
    have h' : x.pl = [] ∧ pls r = [] := List.append_eq_nil_iff.mp h
    cases i with
    | zero => show e.pl ++ pls r = []; rw [he, h'.2]; rfl
    | succ i => show x.pl ++ pls (r.set i e) = []; rw [h'.1, ih h'.2]; rfl
theorem pr_thaw {i : Nat} {p : Addr} {Ra : Rp K α} {xs : List α} {Rb : Rp K γ} {w : W γ} (ho : ρ[i]? = some (.own p Ra xs)) (hf : Flat Rb) (h : PE X e (TEx ((ρ.map hide).set i (.fr (rL Ra) xs)) Rb w)) : PE X e (TEx ρ Rb w) := by
  refine pe_imp h fun σ H Q ⟨G, P, s, ev, pp, c⟩ => ?_
  obtain ⟨hσ, n1, ⟨vs, h1, h2, h3⟩, hm⟩ := own_get ho ev
  have s1 : Step [p] G H (upd G p (.lst vs)) H := Step.freeze s (by simp) n1 h1
  have hpl : pls ((ρ.map hide).set i (.fr (rL Ra) xs : En K)) = [] := pls_setoff (hide_pls ρ) rfl
  have nd0 : (adrs (ρ.map hide)).Nodup := ev.nd.sublist (hide_adrs ρ)
  refine ⟨upd G p (.lst vs), P, s1.gh, ⟨by simp [ev.len], fun j e' hj => ?_, (nodup_fr nd0 rfl).1⟩, pp, fun G' H' v b st e' pb rb => ?_⟩
  · by_cases hij : i = j
    · subst hij
      have hl : i < (ρ.map hide).length := by rw [List.length_map]; exact (List.getElem?_eq_some_iff.mp ho).1
      rw [List.getElem?_set_self hl] at hj
      cases hj
      exact ⟨_, hσ, .ref p, rfl, p, vs, rfl, SqL.of upd_same, paired_mono (fun _ _ z => Ra.mono s1.gg z) h2, h3⟩
    · rw [List.getElem?_set_ne hij, List.getElem?_map] at hj
      cases q : ρ[j]? with
      | none => rw [q] at hj; cases hj
      | some e0 =>
        rw [q] at hj
        obtain ⟨o, ho', q'⟩ := ev.ok j e0 q
        have ee : hide e0 = e' := by simpa using hj
        subst ee
        refine ⟨o, ho', ?_⟩
        cases e0 with
        | pool a b => trivial
        | off => trivial
        | fr R' x' => exact En.step (e := .fr R' x') q' s1 fun a ha => nomatch ha
        | own a' R' x' => exact En.step (e := .own a' R' x') q' s1 fun a ha z => nodup_apart ev.nd ho q hij (by rw [mem1 z]; simp [En.adr]) ha
        | obj a' C' x' => exact En.step (e := .obj a' C' x') q' s1 fun a ha z => nodup_apart ev.nd ho q hij (by rw [mem1 z]; simp [En.adr]) ha
        | rg a' C' x' => exact En.step (e := .rg a' C' x') q' s1 fun a ha z => nodup_apart ev.nd ho q hij (by rw [mem1 z]; simp [En.adr]) ha
  · -- the ghost without p
    have st0 : Step [] (upd G p (.lst vs)) H G' H' := by
      have e0 : padr ((ρ.map hide).set i (.fr (rL Ra) xs : En K)) = [] := by unfold padr; rw [hpl]; rfl
      rw [e0] at st
      exact st
    let G2 : Hp := fun a => if a = p then none else G' a
    have g2 : ∀ a o, G2 a = some o → G' a = some o ∧ a ≠ p := fun a o q => by
      by_cases z : a = p
      · have : G2 a = none := if_pos z
        rw [this] at q; cases q
      · have : G2 a = G' a := if_neg z
        rw [this] at q; exact ⟨q, z⟩
    have stf : Step [] G H G2 H' := by
      refine ⟨fun a o q => ?_, fun a o q => st0.gh a o (g2 a o q).1, fun a o q _ => st0.keep a o q (by simp), fun a o q n _ => ?_⟩
      · have z : a ≠ p := ne_of_none q n1
        have : G2 a = G' a := if_neg z
        rw [this]
        exact st0.gg a o (by rw [upd_ne z]; exact q)
      · by_cases z : a = p
        · exact if_pos z
        · have : G2 a = G' a := if_neg z
          rw [this]
          exact st0.old a o q (by rw [upd_ne z]; exact n) (by simp)
    exact c G2 H' v b stf.of0 (ev.step0 stf) pb (hf _ _ _ _ rb)
end

/-! ### instances -/
section
variable {K : PySem.W.Frag} {α β : Type}
abbrev KP (G : Hp) : Str × V → Str × Mp → Prop := fun p q => p.1 = q.1 ∧ q.2.1 G p.2
def rIns (C : Addr) (F : α → List (Str × Mp)) : Rp K α := ⟨fun G v x => ∃ a dx vs, v = .ref a ∧ G a = some (.ins C dx vs) ∧ Paired (KP G) vs (F x), fun e ⟨a, dx, vs, h1, h2, h3⟩ => ⟨a, dx, vs, h1, e _ _ h2, paired_mono2 (fun p q ⟨z1, z2⟩ => ⟨z1, q.2.2 _ _ _ e z2⟩) h3⟩⟩
theorem kp_keys {G : Hp} : ∀ {vs : List (Str × V)} {fs : List (Str × Mp)}, Paired (KP G) vs fs → vs.map (·.1) = fs.map (·.1)
  | _, _, .nil => rfl
  | _, _, .cons r t => by rw [List.map_cons, List.map_cons, kp_keys t, r.1]
theorem lookup_ix {vs : List (Str × V)} {j : Nat} {f : Str} {v : V} (h : vs[j]? = some (f, v)) (hn : ∀ i, i < j → (vs.map (·.1))[i]? ≠ some f) : vs.lookup f = some v := by
  induction vs generalizing j with
  | nil => simp at h
  | cons p r ih =>
    obtain ⟨k, u⟩ := p
    cases j with
    | zero =>
      have e : (k, u) = (f, v) := by simpa using h
      cases e
      simp [List.lookup]
    | succ j =>
      have hk : ¬ f = k := fun z => hn 0 (by omega) (by simp [z])
      have : (f == k) = false := beq_eq_false_iff_ne.mpr hk
      rw [List.lookup, this]
      exact ih (by simpa using h) fun i hi => by simpa using hn (i + 1) (by omega)
theorem lookup_no {vs : List (Str × V)} {f : Str} (h : f ∉ vs.map (·.1)) : vs.lookup f = none := by
  induction vs with
  | nil => rfl
  | cons p r ih =>
    obtain ⟨k, u⟩ := p
    have hk : ¬ f = k := fun z => h (by simp [z])
    have : (f == k) = false := beq_eq_false_iff_ne.mpr hk
    rw [List.lookup, this]
    exact ih fun z => h (by simpa using Or.inr (by simpa using z))
theorem putF_new {f : Str} {v : V} : ∀ {vs : List (Str × V)}, f ∉ vs.map (·.1) → putF f v vs = vs ++ [(f, v)]
  | [], _ => rfl
  | (k, u) :: r, h => by
    have hk : ¬ k = f := fun z => h (by simp [z])
    have e := putF_new (f := f) (v := v) (vs := r) fun z => h (by simpa using Or.inr (by simpa using z))
    show (if k = f then _ else _) = _
    rw [if_neg hk, e]
    rfl
def firstAt (ks : List Str) (f : Str) (j : Nat) : Bool := decide (ks[j]? = some f) && (ks.take j).all fun k => !decide (k = f)
def notIn (ks : List Str) (f : Str) : Bool := ks.all fun k => !decide (k = f)
theorem notIn_ok {ks : List Str} {f : Str} (h : notIn ks f = true) : f ∉ ks := fun z => by
  have := List.all_eq_true.mp h f z
  simp at this
theorem firstAt_ok {ks : List Str} {f : Str} {j : Nat} (h : firstAt ks f j = true) : ∀ i, i < j → ks[i]? ≠ some f := fun i hi z => by
  obtain ⟨_, h2⟩ := Bool.and_eq_true_iff.mp h
  have hm : f ∈ ks.take j := List.mem_of_getElem? (by rw [List.getElem?_take_of_lt hi]; exact z)
  have := List.all_eq_true.mp h2 f hm
  simp at this
end
section
variable {X : Cx} {K : PySem.W.Frag} [HK X K] {τ ℓ α β γ δ : Type} {ρ : List (En K)} {post : τ → List (En K)} {lp : ℓ → List (En K)} {R : Rp K β} {rest : List Stmt} {pos apos : Pos} {e o : Expr}
/-- o.f of a frozen instance -/
theorem pr_fld {C : Addr} {F : α → List (Str × Mp)} {f : Str} {w : W α} {Rb : Rp K γ} {g : α → γ} {ks : List Str} (j : Nat) (h : PE X o (TEx ρ (rIns C F) w)) (hc : Cls K C) (hn : NoAttr K C f) (hk : ∀ x, (F x).map (·.1) = ks) (hj : ∀ x, (F x)[j]? = some (f, Rb.mp (g x))) (hf : firstAt ks f j = true)
    (hb : attributeBase o f X.env (eval o X.env) = eval o X.env := by rfl) : PE X (.Attribute o f apos) (TEx ρ Rb fun P => w fun x => P (g x)) := by
  have hK : X.K = K := HK.eq
  subst hK
  exact pe_imp (pe_fld h hb) fun σ H Q ⟨G, P, s, ev, pp, c⟩ => ⟨G, _, s, ev, pp, fun G1 H1 v x st e1 px ⟨a, dx, vs, h1, h2, h3⟩ => by
    obtain ⟨q, hq, k1, k2⟩ := paired_get h3 (hj x)
    obtain ⟨q1, q2⟩ := q
    have k1' : q1 = f := k1
    subst k1'
    exact ⟨a, C, dx, vs, q2, h1, st.gh _ _ h2, hc, hn, lookup_ix hq (by rw [kp_keys h3, hk]; exact firstAt_ok hf), c G1 H1 q2 (g x) st e1 px k2⟩⟩
/-- self.f = e while the instance is made -/
theorem b_fld {i : Nat} {nm : Str} {pn fp : Pos} {a C : Addr} {fs : List (Str × Mp)} {f : Str} {Ra : Rp K α} {w : W α} {m : α → W (Out τ ℓ β)} {ks : List Str} (hv : PE X (.Name nm pn) (tVar i)) (ho : ρ[i]? = some (.obj a C fs)) (hc : Cls K C) (hn : NoAttr K C f) (h : PE X e (TEx ρ Ra w))
    (hk : fs.map (·.1) = ks) (hf : (notIn ks f && decide (ks.length < 900)) = true) (hr : ∀ x, PSs X rest (TBO (ρ.set i (.obj a C (fs ++ [(f, Ra.mp x)]))) post lp R (m x)))
    (hs : swapsWith e (some (.Attribute (.Name nm pn) f fp)) pos.line X.env = pure false := by rfl) :
    PSs X (.Assign [.Attribute (.Name nm pn) f fp] e pos :: rest) (TBO ρ post lp R fun P => w fun x => m x P) := by
  have hK : X.K = K := HK.eq
  subst hK
  obtain ⟨hf1, hf2⟩ := Bool.and_eq_true_iff.mp hf
  refine pss_imp (pss_cons (ps_fld hv h hs) (pss_fam hr)) fun D σ H ⟨G, P, s, ev, pp, c⟩ => ⟨G, _, s, ev, pp, fun G1 H1 v x st e1 px rx => ?_⟩
  obtain ⟨oo, hoo, eq, n1, dx, vs, k1, k2⟩ := e1.ok i _ ho
  subst eq
  have hkv : vs.map (·.1) = ks := (kp_keys k2).trans hk
  have hlen : vs.length = ks.length := by rw [← hkv, List.length_map]
  have hlt : ks.length < 900 := of_decide_eq_true hf2
  have hpf : putF f v vs = vs ++ [(f, v)] := putF_new (by rw [hkv]; exact notIn_ok hf1)
  refine ⟨.ref a, hoo, a, C, dx, vs, rfl, k1, hc, hn, by omega, ?_⟩
  rw [hpf]
  have s1 : Step [a] G1 H1 G1 (upd H1 a (.ins C dx (vs ++ [(f, v)]))) := Step.put st.gh (by simp) n1
  have hm : a ∈ adrs ρ := adrs_mem ho (by simp [En.adr])
  have hpl : (ρ.getD i .off).pl = [] := by
    have e : ρ.getD i .off = .obj a C fs := by rw [List.getD_eq_getElem?_getD, ho]; rfl
    rw [e]; rfl
  refine ⟨x, G1, P, s1.gh, ⟨by rw [List.length_set, e1.len], fun j e' hj => ?_, (nodup_same (e' := .obj a C (fs ++ [(f, Ra.mp x)])) e1.nd ho (.inl rfl)).1⟩, px, c.step ((st.wide fun a ha => padr_sub ha).trans (s1.wide fun b hb => by rw [mem1 hb]; exact hm)) (fun b hb => (adrs_set hb).elim .inl fun z => .inl (adrs_mem ho z)) fun q hq => pls_set hpl hq⟩
  by_cases hij : i = j
  · subst hij
    rw [List.getElem?_set_self (List.getElem?_eq_some_iff.mp ho).1] at hj
    cases hj
    exact ⟨_, hoo, rfl, n1, dx, _, upd_same, paired_app k2 (.cons ⟨rfl, rx⟩ .nil)⟩
  · rw [List.getElem?_set_ne hij] at hj
    obtain ⟨o', ho', q⟩ := e1.ok j e' hj
    exact ⟨o', ho', En.step q s1 fun b hb z => nodup_apart e1.nd ho hj hij (by rw [mem1 z]; simp [En.adr]) hb⟩
end

/-! ### promises and calls -/
section
variable {K : PySem.W.Frag} {α β : Type}
def SpF (F : Fs K α) (R : Rp K β) (m : α → W β) : Sp := fun vs H Q _ => ∃ (G : Hp) (a : α) (P : β → Prop), Same G H ∧ F.ok G vs a ∧ m a P ∧ ∀ G' H' v b, Step [] G H G' H' → P b → R.ok G' v b → Q v H'
/-- a def that draws: the pool is its first argument -/
def SpP (F : Fs K α) (R : Rp K β) (m : α → W β) : Sp := fun vs H Q _ => ∃ (G : Hp) (p : Addr) (g : Addr × Addr) (us : List V) (a : α) (P : β → Prop), vs = .ref p :: us ∧ Same G H ∧ PoolAt G H p g ∧ F.ok G us a ∧ m a P ∧
  ∀ G' H' v b, Step [p, g.1] G H G' H' → PoolAt G' H' p g → P b → R.ok G' v b → Q v H'
/-- __init__ -/
def SpI (C : Addr) (F : Fs K α) (R : Rp K β) (m : α → W β) : Sp := fun vs H Q _ => ∃ (G : Hp) (x dx : Addr) (us : List V) (a : α) (P : β → Prop), vs = .ref x :: us ∧ Same G H ∧ G x = none ∧ H x = some (.ins C dx []) ∧ F.ok G us a ∧ m a P ∧
  ∀ G' H' b, Step [x] G H G' H' → P b → R.ok G' (.ref x) b → Q .non H'
end
structure FnG (P : Program) (w : World) (K : PySem.W.Frag) (mg : Str → Option Value) (base : Heap) (x : Str) (k : Nat) (ps : List Str) (sp : Sp) : Prop where
  ex : ∃ f fd, mg x = some (.ref f) ∧ PySem.W.keepIn K (.ref f) = true ∧ Binds K fd ps [] ∧ FnOk P w K mg base CX0 k f fd ps sp
structure FnM (P : Program) (w : World) (K : PySem.W.Frag) (mg : Str → Option Value) (base : Heap) (C : Addr) (x : Str) (k : Nat) (ps : List Str) (sp : Sp) : Prop where
  ex : ∃ f fd, Cls K C ∧ Meth K C x f ∧ Binds K fd ps [] ∧ FnOk P w K mg base CX0 k f fd ps sp
structure FnC (P : Program) (w : World) (K : PySem.W.Frag) (mg : Str → Option Value) (base : Heap) (x : Str) (C : Addr) (k : Nat) (ps : List Str) (sp : Sp) : Prop where
  ex : ∃ f fd, mg x = some (.ref C) ∧ Mk K C f ∧ Binds K fd ps [] ∧ FnOk P w K mg base CX0 k f fd ps sp
section
variable {X : Cx} {K : PySem.W.Frag} [HK X K] {α β : Type} {ρ : List (En K)} {R : Rp K β} {F : Fs K α} {m : α → W β} {w : W α} {x : Str} {k : Nat} {ps : List Str} {p pos apos : Pos} {e o : Expr} {es : List Expr}
theorem pr_call (h : FnG X.prog X.w K X.mg X.base x k ps (SpF F R m)) (hr : Room k X.A) (ha : PA X (e :: es) (TAx ρ F w)) (hg : Gl X x := by rfl) (hdb : (x == ("__debug__" : Str)) = false := by decide) (he : starEach (e :: es) X.env = (false, eval e X.env) :: starEach es X.env := by rfl)
    (hpl : (backTo pos (starEach es X.env)).any (·.1) = false := by rfl) : PE X (.Call (.Name x p) (e :: es) [] pos) (TEx ρ R fun P => w fun a => m a P) := by
  have hK : X.K = K := HK.eq
  subst hK
  obtain ⟨f, fd, h1, h2, h3, h4⟩ := h.ex
  refine pe_imp (pe_call h4 hr hg h1 h2 h3 .nil pass0 ha hdb he hpl) fun σ H Q ⟨G, P, s, ev, pp, c⟩ => ⟨G, _, s, ev, pp, fun G1 H1 vs a st e1 pa ra => ?_⟩
  show SpF F R m (vs ++ []) H1 Q E0
  rw [List.append_nil]
  exact ⟨G1, a, P, st.gh, ra, pa, fun G2 H2 v b st2 pb rb => c G2 H2 v b (st.trans st2.of0) (e1.step0 st2) pb rb⟩
/-- f(pool, ..) -/
theorem tx_pool {i : Nat} {pp : Addr} {g : Addr × Addr} {σ : L2.St} {H G : Hp} {Q : VK} {P : β → Prop} (hi : ρ[i]? = some (.pool pp g)) {G1 H1 : Hp} {us : List V} {a : α} (c : Ct ρ σ G H R P Q) (st : Step (padr ρ) G H G1 H1) (e1 : EnvOk ρ G1 H1 σ) (pa : m a P) (ra : F.ok G1 us a) (hone : pls ρ = [(pp, g)]) : SpP F R m (.ref pp :: us) H1 Q E0 := by
  obtain ⟨oo, hoo, z1, z2⟩ := e1.ok i _ hi
  refine ⟨G1, pp, g, us, a, P, rfl, st.gh, z2, ra, pa, fun G2 H2 v b st2 pl pb rb => ?_⟩
  have hpd : padr ρ = [pp, g.1] := by unfold padr; rw [hone]; rfl
  refine c G2 H2 v b (st.trans (by rw [hpd]; exact st2)) ⟨e1.len, fun j e' hj => ?_, e1.nd⟩ pb rb
  obtain ⟨o', ho', q⟩ := e1.ok j e' hj
  refine ⟨o', ho', ?_⟩
  cases e' with
  | pool a' b' =>
    have : (a', b') ∈ pls ρ := pls_mem hj (by simp [En.pl])
    rw [hone] at this
    have e : (a', b') = (pp, g) := by simpa using this
    cases e
    exact ⟨q.1, pl⟩
  | off => trivial
  | fr R' x' => exact En.step (e := .fr R' x') q st2 fun a ha => nomatch ha
  | own a' R' x' => exact En.step (e := .own a' R' x') q st2 fun a ha z => own_ne_pool e1.nd hj hi ha (by simpa using z)
  | obj a' C' x' => exact En.step (e := .obj a' C' x') q st2 fun a ha z => own_ne_pool e1.nd hj hi ha (by simpa using z)
  | rg a' C' x' => exact En.step (e := .rg a' C' x') q st2 fun a ha z => own_ne_pool e1.nd hj hi ha (by simpa using z)
theorem pr_draw {i : Nat} {nm : Str} {pn : Pos} {pp : Addr} {g : Addr × Addr} (h : FnG X.prog X.w K X.mg X.base x k ps (SpP F R m)) (hr : Room k X.A) (hv : PE X (.Name nm pn) (tVar i)) (hi : ρ[i]? = some (.pool pp g)) (ha : PA X es (TAx ρ F w)) (hone : pls ρ = [(pp, g)] := by rfl) (hg : Gl X x := by rfl) (hdb : (x == ("__debug__" : Str)) = false := by decide)
    (he : starEach (.Name nm pn :: es) X.env = (false, eval (.Name nm pn) X.env) :: starEach es X.env := by rfl) (hpl : (backTo pos (starEach es X.env)).any (·.1) = false := by rfl) : PE X (.Call (.Name x p) (.Name nm pn :: es) [] pos) (TEx ρ R fun P => w fun a => m a P) := by
  have hK : X.K = K := HK.eq
  subst hK
  obtain ⟨f, fd, h1, h2, h3, h4⟩ := h.ex
  refine pe_imp (pe_call h4 hr hg h1 h2 h3 .nil pass0 (pa_cons hv ha he) hdb he hpl) fun σ H Q ⟨G, P, s, ev, pp', c⟩ => ?_
  obtain ⟨oo, hoo, z1, z2⟩ := ev.ok i _ hi
  subst z1
  refine ⟨_, hoo, G, _, s, ev, pp', fun G1 H1 us a st e1 pa ra => ?_⟩
  show SpP F R m (.ref pp :: us ++ []) H1 Q E0
  rw [List.append_nil]
  exact tx_pool hi c st e1 pa ra hone
/-- o.m(..) of a frozen instance -/
theorem pr_meth {C : Addr} {mn : Str} {FI : β → List (Str × Mp)} {γ δ : Type} {Rc : Rp K γ} {F' : Fs K δ} {wo : W β} {w' : W δ} {m' : β × δ → W γ} {ks : List Str} {pl : Sem Bool} (h : FnM X.prog X.w K X.mg X.base C mn k ps (SpF (fsC (rIns C FI) F') Rc m')) (hr : Room k X.A) (ho : PE X o (TEx ρ (rIns C FI) wo))
    (hk : ∀ y, (FI y).map (·.1) = ks) (hm : notIn ks mn = true) (ha : PA X (e :: es) (TAx ρ F' w'))
    (hst : starEach (e :: es) X.env = (false, eval e X.env) :: starEach es X.env := by rfl) (hpl : (backTo pos (starEach es X.env)).any (·.1) = false := by rfl)
    (ht : eval (.Call (.Attribute o mn apos) (e :: es) [] pos) X.env = (do
      let ov ← eval o X.env
      standAt apos.atName
      let (f, first) ← holding [ov] (getMethod ov mn pl)
      callWith pos f first (backTo pos (starEach (e :: es) X.env)) (backToKw pos (keywordEach [] X.env))) := by rfl) : PE X (.Call (.Attribute o mn apos) (e :: es) [] pos) (TEx ρ Rc fun P => wo fun y => w' fun a => m' (y, a) P) := by
  have hK : X.K = K := HK.eq
  subst hK
  obtain ⟨f, fd, hc, h2, h3, h4⟩ := h.ex
  refine pe_imp (pe_meth ho hc h2 h4 hr h3 .nil pass0 ha hst hpl ht) fun σ H Q ⟨G, P, s, ev, pp, c⟩ => ⟨G, _, s, ev, pp, fun G1 H1 v y st e1 py ⟨a, dx, vs, k1, k2, k3⟩ => ?_⟩
  subst k1
  refine ⟨a, dx, vs, rfl, st.gh _ _ k2, lookup_no (by rw [kp_keys k3, hk]; exact notIn_ok hm), G1, _, st.gh, e1, py, fun G2 H2 us z st2 e2 pz rz => ?_⟩
  show SpF (fsC (rIns C FI) F') Rc m' (.ref a :: (us ++ [])) H2 Q E0
  rw [List.append_nil]
  exact ⟨G2, (y, z), P, st2.gh, ⟨_, us, rfl, (rIns C FI).mono st2.gg ⟨a, dx, vs, rfl, k2, k3⟩, rz⟩, pz, fun G3 H3 u b st3 pb rb => c G3 H3 u b ((st.trans st2).trans st3.of0) (e2.step0 st3) pb rb⟩
/-- o.m() -/
theorem pr_meth0 {C : Addr} {mn : Str} {FI : β → List (Str × Mp)} {γ : Type} {Rc : Rp K γ} {wo : W β} {m' : β → W γ} {ks : List Str} {pl : Sem Bool} (h : FnM X.prog X.w K X.mg X.base C mn k ps (SpF (fs1 (rIns C FI)) Rc m')) (hr : Room k X.A) (ho : PE X o (TEx ρ (rIns C FI) wo))
    (hk : ∀ y, (FI y).map (·.1) = ks) (hm : notIn ks mn = true)
    (ht : eval (.Call (.Attribute o mn apos) [] [] pos) X.env = (do
      let ov ← eval o X.env
      standAt apos.atName
      let (f, first) ← holding [ov] (getMethod ov mn pl)
      callWith pos f first (backTo pos (starEach [] X.env)) (backToKw pos (keywordEach [] X.env))) := by rfl) : PE X (.Call (.Attribute o mn apos) [] [] pos) (TEx ρ Rc fun P => wo fun y => m' y P) := by
  have hK : X.K = K := HK.eq
  subst hK
  obtain ⟨f, fd, hc, h2, h3, h4⟩ := h.ex
  refine pe_imp (pe_meth0 ho hc h2 h4 hr h3 .nil pass0 ht) fun σ H Q ⟨G, P, s, ev, pp, c⟩ => ⟨G, _, s, ev, pp, fun G1 H1 v y st e1 py ⟨a, dx, vs, k1, k2, k3⟩ => ?_⟩
  refine ⟨a, dx, vs, k1, st.gh _ _ k2, lookup_no (by rw [kp_keys k3, hk]; exact notIn_ok hm), ?_⟩
  exact ⟨G1, y, P, st.gh, ⟨v, by rw [k1]; rfl, a, dx, vs, k1, k2, k3⟩, py, fun G3 H3 u b st3 pb rb => c G3 H3 u b (st.trans st3.of0) (e1.step0 st3) pb rb⟩
/-- C(..) -/
theorem pr_make {C : Addr} (h : FnC X.prog X.w K X.mg X.base x C k ps (SpI C F R m)) (hr : Room (k + 1) X.A) (ha : PA X (e :: es) (TAx ρ F w)) (hg : Gl X x := by rfl) (hdb : (x == ("__debug__" : Str)) = false := by decide) (he : starEach (e :: es) X.env = (false, eval e X.env) :: starEach es X.env := by rfl)
    (hpl : (backTo pos (starEach es X.env)).any (·.1) = false := by rfl) : PE X (.Call (.Name x p) (e :: es) [] pos) (TEx ρ R fun P => w fun a => m a P) := by
  have hK : X.K = K := HK.eq
  subst hK
  obtain ⟨f, fd, h1, h2, h3, h4⟩ := h.ex
  refine pe_imp (pe_make h2 h4 hr hg h1 h3 .nil pass0 ha hdb he hpl) fun σ H Q ⟨G, P, s, ev, pp, c⟩ => ⟨G, _, s, ev, pp, fun G1 H1 vs a st e1 pa ra => fun xx dx hx hdx ne => ?_⟩
  show SpI C F R m (.ref xx :: (vs ++ [])) _ _ _
  rw [List.append_nil]
  have s1 : Step [] G1 H1 G1 (upd H1 dx (.own xx)) := Step.lay st.gh hdx
  have hx1 : (upd H1 dx (.own xx)) xx = none := by rw [upd_ne (Ne.symm ne)]; exact hx
  have s2 : Step [] G1 (upd H1 dx (.own xx)) G1 (upd (upd H1 dx (.own xx)) xx (.ins C dx [])) := Step.lay s1.gh hx1
  refine ⟨G1, xx, dx, vs, a, P, rfl, s2.gh, st.gh.free hx, upd_same, ra, pa, fun G2 H2 b st2 pb rb => ⟨rfl, ?_⟩⟩
  have hxr : xx ∉ adrs ρ := e1.fresh hx
  have s12 : Step [] G1 H1 G1 (upd (upd H1 dx (.own xx)) xx (.ins C dx [])) := s1.trans s2
  have s3 : Step [] G1 H1 G2 H2 := s12.cut st2 fun a ha => .inr (by rw [mem1 ha]; exact hx)
  exact c G2 H2 _ b (st.trans s3.of0) (e1.step0 s3) pb rb
end
/-! ### the def -/
structure FsE {K : PySem.W.Frag} {α : Type} (F : Fs K α) (env : α → List (En K)) : Prop where
  len : ∀ x, (env x).length = F.n
  ok : ∀ (G H : Hp) (vs : List V) (x : α), F.ok G vs x → ∀ (i : Nat) (e : En K), (env x)[i]? = some e → ∃ v, vs[i]? = some v ∧ e.ok G H (some v)
  no : ∀ x, adrs (env x) = []
section
variable {K : PySem.W.Frag} {α β : Type}
theorem fsE_N : FsE (fsN : Fs K Unit) (fun _ => []) := ⟨fun _ => rfl, fun G H vs x h i e hi => by simp at hi, fun _ => rfl⟩
theorem fsE_1 {R : Rp K α} : FsE (fs1 R) (fun x => [.fr R x]) := ⟨fun _ => rfl, fun G H vs x ⟨v, h, q⟩ i e hi => by
  cases i with
  | zero => simp at hi; subst hi; exact ⟨v, by rw [h]; rfl, v, rfl, q⟩
  | succ i => simp at hi, fun _ => rfl⟩
theorem fsE_C {R : Rp K α} {F : Fs K β} {env : β → List (En K)} (h : FsE F env) : FsE (fsC R F) (fun x => .fr R x.1 :: env x.2) := ⟨fun x => by rw [List.length_cons, h.len]; rfl, fun G H vs x ⟨v, r, h1, h2, h3⟩ i e hi => by
  cases i with
  | zero => simp at hi; subst hi; exact ⟨v, by rw [h1]; rfl, v, rfl, h2⟩
  | succ i =>
    obtain ⟨u, k1, k2⟩ := h.ok G H r x.2 h3 i e (by simpa using hi)
    exact ⟨u, by rw [h1]; simpa using k1, k2⟩, fun x => by show [] ++ adrs (env x.2) = []; rw [h.no]; rfl⟩
theorem adrs_off_rep (n : Nat) : adrs (List.replicate n (.off : En K)) = [] := by
  induction n with
  | zero => rfl
  | succ n ih => rw [List.replicate_succ]; show [] ++ adrs _ = []; rw [ih]; rfl
theorem adrs_app (a b : List (En K)) : adrs (a ++ b) = adrs a ++ adrs b := by
  induction a with
  | nil => rfl
  | cons e r ih => show e.adr ++ adrs (r ++ b) = (e.adr ++ adrs r) ++ adrs b; rw [ih, List.append_assoc]
theorem start_get (N : List Str) (vs : List V) (i : Nat) : (L2.start N vs)[i]? = if i < vs.length then vs[i]?.map some else if i < N.length then some none else none := by
  unfold L2.start
  by_cases h : i < vs.length
  · rw [if_pos h, List.getElem?_append_left (by simpa using h), List.getElem?_map]
  · rw [if_neg h, List.getElem?_append_right (by simpa using h)]
    simp only [List.length_map, List.getElem?_replicate]
    by_cases h2 : i < N.length
    · rw [if_pos h2, if_pos (by omega)]
    · rw [if_neg h2, if_neg (by omega)]
theorem env_start {F : Fs K α} {env : α → List (En K)} (hE : FsE F env) {N : List Str} {G H : Hp} {vs : List V} {x : α} {pre : List (En K)} {pv : List V} (hp : pre.length = pv.length) (hpo : ∀ (i : Nat) (e : En K), pre[i]? = some e → ∃ v, pv[i]? = some v ∧ e.ok G H (some v)) (nd : (adrs pre).Nodup)
    (h : F.ok G vs x) (hn : pre.length + F.n ≤ N.length) : EnvOk (pre ++ (env x ++ List.replicate (N.length - (pre.length + F.n)) .off)) G H (L2.start N (pv ++ vs)) := by
  have hl := F.len h
  have hle := hE.len x
  refine ⟨?_, fun i e hi => ?_, ?_⟩
  · unfold L2.start
    simp only [List.length_append, List.length_map, List.length_replicate, hle, hl, hp]
    omega
  · rw [start_get]
    by_cases h1 : i < pre.length
    · rw [List.getElem?_append_left h1] at hi
      obtain ⟨v, k1, k2⟩ := hpo i e hi
      exact ⟨some v, by rw [if_pos (by rw [List.length_append]; omega), List.getElem?_append_left (by omega), k1]; rfl, k2⟩
    · rw [List.getElem?_append_right (by omega)] at hi
      by_cases h2 : i - pre.length < (env x).length
      · rw [List.getElem?_append_left h2] at hi
        obtain ⟨v, k1, k2⟩ := hE.ok G H vs x h _ e hi
        refine ⟨some v, ?_, k2⟩
        rw [if_pos (by rw [List.length_append]; omega), List.getElem?_append_right (by omega), ← hp, k1]
        rfl
      · rw [List.getElem?_append_right (by omega)] at hi
        obtain ⟨hb, he⟩ := List.getElem?_eq_some_iff.mp hi
        simp only [List.length_replicate] at hb
        have : e = .off := by rw [← he]; simp
        subst this
        exact ⟨none, by rw [if_neg (by rw [List.length_append]; omega), if_pos (by omega)], trivial⟩
  · rw [adrs_app, adrs_app, hE.no, adrs_off_rep]
    simpa using nd
end
section
variable {P : Program} {w : World} {K : PySem.W.Frag} {mg : Str → Option Value} {base : Heap} {x qual : Str} {params : Arguments} {body : List Stmt} {sc : Scope} {f : Addr} {fd : FuncData} {N ps : List Str} {k : Nat} {α β τ : Type}
def XC (P : Program) (w : World) (K : PySem.W.Frag) (mg : Str → Option Value) (base : Heap) (N : List Str) (qual : Str) (sc : Scope) (f : Addr) (cdv : Value) (A : Around) (outer : List Env) (s : Shared) (H : Hp) (E : XK) : Cx :=
  (cxOf CX0 P w K mg base N qual sc f cdv A outer s H E).nox
instance {N : List Str} {qual : Str} {sc : Scope} {f : Addr} {cdv : Value} {A : Around} {outer : List Env} {s : Shared} {H : Hp} {E : XK} : HK (XC P w K mg base N qual sc f cdv A outer s H E) K := ⟨rfl⟩
/-- the end of a def: its value, or None -/
def fin {τ ℓ β : Type} (fall : Prop) (P : β → Prop) : Out τ ℓ β → Prop
  | .rt b => P b
  | .nx _ => fall
  | _ => False
/-- a def that hands back a value -/
theorem fnok_of {F : Fs K α} {R : Rp K β} {m : α → W β} {env : α → List (En K)} {post : τ → List (En K)} {wb : α → W (Out τ Empty β)} (D : FunD K x qual params body sc [] [] f fd) (S : FnScope N ps sc) (hn : F.n = ps.length) (hl : ps.length ≤ N.length) (hE : FsE F env) (ρ0 : α → List (En K)) (h0 : ∀ a, env a ++ List.replicate (N.length - ps.length) .off = ρ0 a)
    (hb : ∀ (a : α) cdv A outer s H E, Room k (A.deeper (PyProof.Rows.envOfC qual sc s.heap.objs.size f cdv)) → PSs (XC P w K mg base N qual sc f cdv A outer s H E) body (TBO (K := K) (ρ0 a) post (fun z : Empty => nomatch z) R (wb a)))
    (hm : ∀ a Q, m a Q → wb a (fin False Q)) : FnOk P w K mg base CX0 (k + 1) f fd ps (SpF F R m) := by
  refine D.ok S (fun vs H Q E ⟨G, a, Pp, s, h, _⟩ => by rw [F.len h, hn]) fun cdv A outer s H vs Q E hr ⟨G, a, Pp, sG, h, hp, c⟩ => ⟨_, (hb a cdv A outer s H E hr).nox, ?_⟩
  have ev := env_start (N := N) (H := H) hE (pre := []) (pv := []) rfl (fun i e hi => by simp at hi) List.nodup_nil h (by simp [hn]; exact hl)
  rw [List.nil_append] at ev
  have e0 : adrs (ρ0 a) = [] := by rw [← h0, adrs_app, hE.no, adrs_off_rep]; rfl
  refine ⟨G, fin False Pp, sG, by rw [← h0]; simpa [hn] using ev, hm a Pp hp, ⟨fun t G' H' σ' st _ z => z.elim, fun t => (nomatch t), fun t => (nomatch t), fun b G' H' v st _ pb rb => c G' H' v b (by rw [e0] at st; exact st) pb rb⟩⟩
/-- a def that hands back None -/
theorem fnok_ofN {F : Fs K α} {m : α → W Unit} {env : α → List (En K)} {post : τ → List (En K)} {wb : α → W (Out τ Empty Unit)} (D : FunD K x qual params body sc [] [] f fd) (S : FnScope N ps sc) (hn : F.n = ps.length) (hl : ps.length ≤ N.length) (hE : FsE F env) (ρ0 : α → List (En K)) (h0 : ∀ a, env a ++ List.replicate (N.length - ps.length) .off = ρ0 a)
    (hb : ∀ (a : α) cdv A outer s H E, Room k (A.deeper (PyProof.Rows.envOfC qual sc s.heap.objs.size f cdv)) → PSs (XC P w K mg base N qual sc f cdv A outer s H E) body (TBO (K := K) (ρ0 a) post (fun z : Empty => nomatch z) rN (wb a)))
    (hm : ∀ a Q, m a Q → wb a (fin (Q ()) Q)) : FnOk P w K mg base CX0 (k + 1) f fd ps (SpF F rN m) := by
  refine D.ok S (fun vs H Q E ⟨G, a, Pp, s, h, _⟩ => by rw [F.len h, hn]) fun cdv A outer s H vs Q E hr ⟨G, a, Pp, sG, h, hp, c⟩ => ⟨_, (hb a cdv A outer s H E hr).nox, ?_⟩
  have ev := env_start (N := N) (H := H) hE (pre := []) (pv := []) rfl (fun i e hi => by simp at hi) List.nodup_nil h (by simp [hn]; exact hl)
  rw [List.nil_append] at ev
  have e0 : adrs (ρ0 a) = [] := by rw [← h0, adrs_app, hE.no, adrs_off_rep]; rfl
  refine ⟨G, fin (Pp ()) Pp, sG, by rw [← h0]; simpa [hn] using ev, hm a Pp hp, ⟨fun t G' H' σ' st _ z => c G' H' .non () (by rw [e0] at st; exact st) z rfl, fun t => (nomatch t), fun t => (nomatch t), fun b G' H' v st _ pb rb => c G' H' v b (by rw [e0] at st; exact st) pb rb⟩⟩
/-- a def that draws -/
theorem fnok_ofP {F : Fs K α} {R : Rp K β} {m : α → W β} {env : α → List (En K)} {post : Addr → (Addr × Addr) → τ → List (En K)} {wb : Addr → (Addr × Addr) → α → W (Out τ Empty β)} (D : FunD K x qual params body sc [] [] f fd) (S : FnScope N ps sc) (hn : F.n + 1 = ps.length) (hl : ps.length ≤ N.length) (hE : FsE F env) (ρ0 : Addr → (Addr × Addr) → α → List (En K)) (h0 : ∀ p g a, .pool p g :: (env a ++ List.replicate (N.length - ps.length) .off) = ρ0 p g a)
    (hb : ∀ (p : Addr) (g : Addr × Addr) (a : α) cdv A outer s H E, Room k (A.deeper (PyProof.Rows.envOfC qual sc s.heap.objs.size f cdv)) → PSs (XC P w K mg base N qual sc f cdv A outer s H E) body (TBO (K := K) (ρ0 p g a) (post p g) (fun z : Empty => nomatch z) R (wb p g a)))
    (hm : ∀ p g a Q, m a Q → wb p g a (fin False Q)) : FnOk P w K mg base CX0 (k + 1) f fd ps (SpP F R m) := by
  refine D.ok S (fun vs H Q E ⟨G, p, g, us, a, Pp, e, s, _, h, _⟩ => by rw [e, List.length_cons, F.len h, hn]) fun cdv A outer s H vs Q E hr ⟨G, p, g, us, a, Pp, e, sG, hP, h, hp, c⟩ => ⟨_, (hb p g a cdv A outer s H E hr).nox, ?_⟩
  subst e
  have ev := env_start (N := N) (H := H) hE (pre := [.pool p g]) (pv := [.ref p]) rfl (fun i e hi => by
    cases i with
    | zero => simp at hi; subst hi; exact ⟨.ref p, rfl, rfl, hP⟩
    | succ i => simp at hi) (by have := hP.2.2.1; simp [adrs, En.adr, this]) h (by simp only [List.length_cons, List.length_nil]; omega)
  have e1 : N.length - ([En.pool (K := K) p g].length + F.n) = N.length - ps.length := by simp only [List.length_cons, List.length_nil]; omega
  rw [e1] at ev
  have e0 : adrs (ρ0 p g a) = [p, g.1] := by rw [← h0]; show [p, g.1] ++ adrs _ = _; rw [adrs_app, hE.no, adrs_off_rep]; rfl
  refine ⟨G, fin False Pp, sG, by rw [← h0]; exact ev, hm p g a Pp hp, ⟨fun t G' H' σ' st _ z => z.elim, fun t => (nomatch t), fun t => (nomatch t), fun b G' H' v st pl pb rb => c G' H' v b (by rw [e0] at st; exact st) (pl (p, g) (by rw [← h0]; simp [pls, En.pl])) pb rb⟩⟩
/-- __init__: the record is made by the stores -/
theorem fnok_ofI {C : Addr} {F : Fs K α} {FI : β → List (Str × Mp)} {m : α → W β} {env : α → List (En K)} {wb : Addr → α → W (Out β Empty Unit)} (D : FunD K x qual params body sc [] [] f fd) (S : FnScope N ps sc) (hn : F.n + 1 = ps.length) (hl : ps.length ≤ N.length) (hE : FsE F env) (ρ0 : Addr → α → List (En K)) (h0 : ∀ i a, .obj i C [] :: (env a ++ List.replicate (N.length - ps.length) .off) = ρ0 i a) (post : Addr → β → List (En K)) (hpost : ∀ i b, (post i b)[0]? = some (.obj i C (FI b)))
    (hb : ∀ (i : Addr) (a : α) cdv A outer s H E, Room k (A.deeper (PyProof.Rows.envOfC qual sc s.heap.objs.size f cdv)) → PSs (XC P w K mg base N qual sc f cdv A outer s H E) body (TBO (K := K) (ρ0 i a) (post i) (fun z : Empty => nomatch z) rN (wb i a)))
    (hm : ∀ i a Q, m a Q → wb i a (fun o => match o with | .nx b => Q b | _ => False)) : FnOk P w K mg base CX0 (k + 1) f fd ps (SpI C F (rIns C FI) m) := by
  refine D.ok S (fun vs H Q E ⟨G, i, dx, us, a, Pp, e, s, _, _, h, _⟩ => by rw [e, List.length_cons, F.len h, hn]) fun cdv A outer s H vs Q E hr ⟨G, i, dx, us, a, Pp, e, sG, n1, hH, h, hp, c⟩ => ⟨_, (hb i a cdv A outer s H E hr).nox, ?_⟩
  subst e
  have ev := env_start (N := N) (H := H) hE (pre := [.obj i C []]) (pv := [.ref i]) rfl (fun j e hi => by
    cases j with
    | zero => simp at hi; subst hi; exact ⟨.ref i, rfl, rfl, n1, dx, [], hH, .nil⟩
    | succ j => simp at hi) (by simp [adrs, En.adr]) h (by simp only [List.length_cons, List.length_nil]; omega)
  have e1 : N.length - ([En.obj (K := K) i C []].length + F.n) = N.length - ps.length := by simp only [List.length_cons, List.length_nil]; omega
  rw [e1] at ev
  have e0 : adrs (ρ0 i a) = [i] := by rw [← h0]; show [i] ++ adrs _ = _; rw [adrs_app, hE.no, adrs_off_rep]; rfl
  refine ⟨G, _, sG, by rw [← h0]; exact ev, hm i a Pp hp, ⟨fun b G' H' σ' st e' z => ?_, fun t => (nomatch t), fun t => (nomatch t), fun b G' H' v st _ pb rb => pb.elim⟩⟩
  rw [e0] at st
  obtain ⟨o, ho, eo, n2, dx2, vs, k1, k2⟩ := e'.ok 0 _ (hpost i b)
  have s2 : Step [i] G' H' (upd G' i (.ins C dx2 vs)) H' := Step.freeze st.gh (by simp) n2 k1
  exact c _ _ b (st.trans s2) z ⟨i, dx2, vs, rfl, upd_same, paired_mono2 (fun p q ⟨z1, z2⟩ => ⟨z1, q.2.2 _ _ _ s2.gg z2⟩) k2⟩
end
end SS

set_option Elab.async false
set_option linter.all false
set_option maxRecDepth 100000
/-! SSG: own rules: isinstance of a text, the greatest of triples, items of a list changed in place, loops by word. Own work. -/
namespace SS
open PySem PySem.Spec L2

/-! ### loops and comprehensions, by an invariant -/
section
variable {α β γ σ : Type}
theorem forW_inv {N : σ → Prop} {Rr : β → Prop} {f : σ → α → W (Out σ σ β)} {xs : List α} {st0 : σ} (I : List α → List α → σ → Prop) (h0 : I [] xs st0)
    (hs : ∀ (pre : List α) (x : α) (suf : List α) (st : σ) (C : Out σ σ β → Prop), xs = pre ++ x :: suf → I pre (x :: suf) st → (∀ st', I (pre ++ [x]) suf st' → C (.nx st')) → (∀ st', I (pre ++ [x]) suf st' → C (.ct st')) → (∀ st', N st' → C (.bk st')) → (∀ b, Rr b → C (.rt b)) → f st x C)
    (hN : ∀ st, I xs [] st → N st) : forW xs st0 f N Rr := by
  suffices ∀ (suf pre : List α) (st : σ), xs = pre ++ suf → I pre suf st → forW suf st f N Rr from this xs [] st0 rfl h0
  intro suf
  induction suf with
  | nil => intro pre st e i; rw [List.append_nil] at e; subst e; exact hN st i
  | cons x suf ih =>
    intro pre st e i
    refine hs pre x suf st _ e i (fun st' i' => ?_) (fun st' i' => ?_) (fun st' i' => i') (fun b hb => hb)
    · exact ih (pre ++ [x]) st' (by rw [e]; simp) i'
    · exact ih (pre ++ [x]) st' (by rw [e]; simp) i'
/-- a map with a test, both plain -/
theorem lcW_map {P : List β → Prop} {t : α → W Bool} {f : α → W β} (p : α → Bool) (g : α → β) : ∀ (xs : List α), (∀ x ∈ xs, ∀ C : Bool → Prop, C (p x) → t x C) → (∀ x ∈ xs, p x = true → ∀ C : β → Prop, C (g x) → f x C) → P ((xs.filter p).map g) → lcW xs t f P
  | [], _, _, h => h
  | x :: xs, ht, hf, h => by
    refine ht x (by simp) _ ?_
    cases e : p x with
    | true =>
      simp only [if_true]
      rw [List.filter_cons_of_pos e] at h
      exact hf x (by simp) e _ (lcW_map (P := fun ys => P (g x :: ys)) p g xs (fun y hy => ht y (by simp [hy])) (fun y hy => hf y (by simp [hy])) h)
    | false =>
      simp only [Bool.false_eq_true, if_false]
      rw [List.filter_cons_of_neg (by rw [e]; simp)] at h
      exact lcW_map p g xs (fun y hy => ht y (by simp [hy])) (fun y hy => hf y (by simp [hy])) h
theorem lcW_map1 {P : List β → Prop} {f : α → W β} (g : α → β) (xs : List α) (hf : ∀ x ∈ xs, ∀ C : β → Prop, C (g x) → f x C) (h : P (xs.map g)) : lcW xs yesW f P :=
  lcW_map (fun _ => true) g xs (fun x _ C c => c) (fun x hx _ C c => hf x hx C c) (by rw [List.filter_eq_self.mpr (by simp)]; exact h)
/-- every made item satisfies a word -/
theorem lcW_all {t : α → W Bool} {f : α → W β} (I : α → β → Prop) : ∀ (xs : List α) (P : List β → Prop), (∀ x ∈ xs, ∀ C : Bool → Prop, (∀ b, C b) → t x C) → (∀ x ∈ xs, ∀ C : β → Prop, (∀ y, I x y → C y) → f x C) → (∀ ys, (∃ zs, zs.Sublist xs ∧ Paired I zs ys) → P ys) → lcW xs t f P
  | [], P, _, _, h => h [] ⟨[], List.Sublist.refl _, .nil⟩
  | x :: xs, P, ht, hf, h => by
    refine ht x (by simp) _ fun b => ?_
    cases b with
    | true =>
      simp only [if_true]
      refine hf x (by simp) _ fun y hy => ?_
      refine lcW_all I xs _ (fun y hy => ht y (by simp [hy])) (fun y hy => hf y (by simp [hy])) fun ys ⟨zs, h1, h2⟩ => h _ ⟨x :: zs, h1.cons₂ x, .cons hy h2⟩
    | false =>
      simp only [Bool.false_eq_true, if_false]
      exact lcW_all I xs P (fun y hy => ht y (by simp [hy])) (fun y hy => hf y (by simp [hy])) fun ys ⟨zs, h1, h2⟩ => h _ ⟨zs, h1.cons x, h2⟩
/-- .. without a test: all the items -/
theorem lcW_all1 {f : α → W β} (I : α → β → Prop) (xs : List α) (P : List β → Prop) (hf : ∀ x ∈ xs, ∀ C : β → Prop, (∀ y, I x y → C y) → f x C) (h : ∀ ys, Paired I xs ys → P ys) : lcW xs yesW f P := by
  induction xs generalizing P with
  | nil => exact h [] .nil
  | cons x xs ih =>
    show if true = true then f x (fun y => lcW xs yesW f fun ys => P (y :: ys)) else lcW xs yesW f P
    rw [if_pos rfl]
    exact hf x (by simp) _ fun y hy => ih _ (fun z hz => hf z (by simp [hz])) fun ys hys => h _ (.cons hy hys)
/-- two clauses, both plain -/
theorem lc2W_map {P : List γ → Prop} {wi1 : α → W (List β)} {f : α → β → W γ} (k : α → List β) (g : α → β → γ) : ∀ (xs : List α) (acc : List γ), (∀ x ∈ xs, ∀ C : List β → Prop, C (k x) → wi1 x C) → (∀ x ∈ xs, ∀ y ∈ k x, ∀ C : γ → Prop, C (g x y) → f x y C) → acc.length + (xs.flatMap k).length ≤ sizeLine →
    P (acc ++ xs.flatMap fun x => (k x).map (g x)) → lc2W xs acc yesW wi1 (fun _ => yesW) f P
  | [], acc, _, _, _, h => by
    show P acc
    simpa using h
  | x :: xs, acc, hi, hf, hz, h => by
    show if true = true then wi1 x (fun ys => acc.length + ys.length ≤ sizeLine ∧ lcW ys yesW (f x) fun zs => lc2W xs (acc ++ zs) yesW wi1 (fun _ => yesW) f P) else lc2W xs acc yesW wi1 (fun _ => yesW) f P
    rw [if_pos rfl]
    rw [List.flatMap_cons, List.length_append] at hz
    refine hi x (by simp) _ ⟨by omega, ?_⟩
    refine lcW_map1 (g x) (k x) (fun y hy C c => hf x (by simp) y hy C c) ?_
    refine lc2W_map k g xs _ (fun y hy => hi y (by simp [hy])) (fun y hy => hf y (by simp [hy])) (by rw [List.length_append, List.length_map]; omega) ?_
    rw [List.flatMap_cons] at h
    rw [List.append_assoc]
    exact h
end

/-! ### isinstance(x, str), len of a text, a sign in a text -/
section
variable {X : Cx} {K : PySem.W.Frag} [HK X K] {α β γ : Type} {ρ : List (En K)} {e : Expr} {pos : Pos}
theorem rc_lenS : RCOk (fun xs H Q => ∃ z : Str, xs = [.str z] ∧ z.length ≤ sizeLine ∧ Q (.int z.length) H) (fs1 (rS : Rp K Str)) (rI : Rp K Int) (fun z P => z.length ≤ sizeLine ∧ P (z.length : Int)) := fun G H vs x P Q s ⟨v, h, q⟩ p k => by
  have e : v = V.str x := q
  subst h; subst e
  exact ⟨x, rfl, p.1, k G H _ _ (Step.refl s) p.2 rfl⟩
theorem r2_ninS : R2Ok (fun x y H Q => ∃ (c : Nat) (z : Str), x = .str ⟨#[c]⟩ ∧ y = .str z ∧ Q (.bl (!decide (c ∈ z.cps.toList))) H) (rS : Rp K Str) (rS : Rp K Str) (rB : Rp K Bool) (fun x z P => ∃ c : Nat, x = ⟨#[c]⟩ ∧ P (!decide (c ∈ z.cps.toList))) := fun G H v u x y P Q s h1 h2 ⟨c, e, p⟩ k => by
  have e1 : v = V.str x := h1
  have e2 : u = V.str y := h2
  subst e1 e2 e
  exact ⟨c, y, rfl, rfl, k G H _ _ (Step.refl s) p rfl⟩
def rIsiS (K : PySem.W.Frag) : List V → Hp → VK → Prop := fun xs H Q => ∃ z : Str, xs = [.str z, .ty "str"] ∧ Q (.bl true) H
theorem call_isiS : CallR X (.builtin "isinstance") (rIsiS X.K) := by
  intro pins s σ H xs us Q I r ⟨z, h, q⟩
  exact call_isi pins s σ H xs us Q I r ⟨_, _, _, _, true, h, .ty "str", .base (.str z), kit_ty (by decide +kernel), q⟩
/-- isinstance(x, str) of a text -/
theorem pr_isStr {p p2 : Pos} {w : W Str} (hm : X.mg "isinstance" = none) (hm2 : X.mg "str" = none) (h : PE X e (TEx ρ rS w)) (hg : Gl X "isinstance" := by rfl) (hg2 : Gl X "str" := by rfl)
    (hs : starEach [e, .Name "str" p2] X.env = (false, eval e X.env) :: starEach [.Name "str" p2] X.env := by rfl) (hs2 : starEach [.Name "str" p2] X.env = (false, eval (.Name "str" p2) X.env) :: starEach [] X.env := by rfl)
    (hpl : (backTo pos (starEach [.Name "str" p2] X.env)).any (·.1) = false := by rfl) :
    PE X (.Call (.Name "isinstance" p) [e, .Name "str" p2] [] pos) (TEx ρ rB fun P => w fun _ => P true) := by
  have hK : X.K = K := HK.eq
  subst hK
  exact pe_imp (pe_callB call_isiS hg hm (by decide +kernel) (pa_cons h (pa_cons (pe_bltn (v := .ty "str") hg2 hm2 (by decide +kernel) rfl) pa_nil hs2) hs) (by decide) (by decide) hs hpl)
    fun σ H Q ⟨G, P, s, ev, pp, c⟩ => ⟨G, _, s, ev, pp, fun G1 H1 v a st e1 pa ra => by
      have e2 : v = V.str a := ra
      subst e2
      exact ⟨a, rfl, c G1 H1 _ true st e1 pa rfl⟩⟩
end

/-! ### the greatest of triples of whole numbers -/
open PySem.W PySem.SeqAt
abbrev T3 : Type := Int × Int × Int
def triD (t : T3) : PyData := .tuple [.int t.1, .int t.2.1, .int t.2.2]
def ltT (x y : T3) : Prop := x.1 < y.1 ∨ (x.1 = y.1 ∧ (x.2.1 < y.2.1 ∨ (x.2.1 = y.2.1 ∧ x.2.2 < y.2.2)))
instance (x y : T3) : Decidable (ltT x y) := by unfold ltT; infer_instance
theorem ltT_trans {x y z : T3} (h1 : ltT x y) (h2 : ltT y z) : ltT x z := by unfold ltT at *; omega
theorem ltT_irr (x : T3) : ¬ ltT x x := by unfold ltT; omega
theorem dlt_T3 (x y : T3) : dataLt (triD x) (triD y) = decide (ltT x y) := by
  obtain ⟨a, b, c⟩ := x
  obtain ⟨a', b', c'⟩ := y
  unfold triD
  rw [dataLt_tuple]
  have ev : ∀ i j : Int, PyData.eqv (.int i) (.int j) = decide (i = j) := fun i j => by
    by_cases e : i = j
    · subst e; simp [PyData.eqv]
    · simp [PyData.eqv, e]
  by_cases h1 : a = a'
  · subst h1
    rw [dataLt_all_yes rfl (by rw [ev]; simp)]
    by_cases h2 : b = b'
    · subst h2
      rw [dataLt_all_yes rfl (by rw [ev]; simp)]
      by_cases h3 : c = c'
      · subst h3
        rw [dataLt_all_yes rfl (by rw [ev]; simp)]
        rw [decide_eq_false (ltT_irr _)]
        rfl
      · rw [dataLt_all_no rfl (by rw [ev]; simp [h3]), dataLt_int]
        congr 1
        unfold ltT
        simp
    · rw [dataLt_all_no rfl (by rw [ev]; simp [h2]), dataLt_int]
      congr 1
      unfold ltT
      simp [h2]
  · rw [dataLt_all_no rfl (by rw [ev]; simp [h1]), dataLt_int]
    congr 1
    unfold ltT
    simp [h1]
def maxT (x : T3) (xs : List T3) : T3 := xs.foldl (fun a y => if ltT a y then y else a) x
theorem maxD_T3 (x : T3) : ∀ xs : List T3, maxD (triD x) (xs.map triD) = triD (maxT x xs) := by
  intro xs
  unfold maxD maxT
  induction xs generalizing x with
  | nil => rfl
  | cons y r ih =>
    rw [List.map_cons, List.foldl_cons, List.foldl_cons, ← ih]
    (try dsimp only)
    rw [dlt_T3]
    by_cases h : ltT x y
    · simp [h]
    · simp [h]
theorem maxT_top (x : T3) : ∀ (xs : List T3), (¬ ltT (maxT x xs) x) ∧ (∀ y ∈ xs, ¬ ltT (maxT x xs) y) ∧ (maxT x xs = x ∨ maxT x xs ∈ xs) := by
  intro xs
  unfold maxT
  induction xs generalizing x with
  | nil => exact ⟨ltT_irr x, fun _ h => (nomatch h), .inl rfl⟩
  | cons y r ih =>
    rw [List.foldl_cons]
    by_cases h : ltT x y
    · rw [if_pos h]
      obtain ⟨h1, h2, h3⟩ := ih y
      refine ⟨fun z => h1 (ltT_trans z h), fun u hu => ?_, .inr (by rcases h3 with h3 | h3 <;> simp [h3])⟩
      rcases List.mem_cons.mp hu with e | hu
      · rw [e]; exact h1
      · exact h2 u hu
    · rw [if_neg h]
      obtain ⟨h1, h2, h3⟩ := ih x
      refine ⟨h1, fun u hu => ?_, by rcases h3 with h3 | h3 <;> simp [h3]⟩
      rcases List.mem_cons.mp hu with e | hu
      · rw [e]
        intro z
        exact h1 (by revert z h; unfold ltT; intros; omega)
      · exact h2 u hu
theorem triD_inj {x y : T3} (h : triD x = triD y) : x = y := by
  obtain ⟨a, b, c⟩ := x
  obtain ⟨a', b', c'⟩ := y
  unfold triD at h
  simp at h
  simp [h]
def rMaxT3 (K : PySem.W.Frag) : List V → Hp → VK → Prop := fun xs H Q => ∃ (p : Addr) (vs : List V) (ts : List T3), xs = [.ref p] ∧ SqL K H p vs ∧ DpAll K H vs (ts.map triD) ∧ ts ≠ [] ∧
  ∀ (i : Nat) (v : V) (t : T3), vs[i]? = some v → ts[i]? = some t → (∀ y ∈ ts, ¬ ltT t y) → Q v H
theorem dpAll_get {K : PySem.W.Frag} {H : Hp} : ∀ {vs : List V} {ds : List PyData}, DpAll K H vs ds → ∀ {i : Nat} {v : V}, vs[i]? = some v → ∃ d, ds[i]? = some d ∧ Dp K H v d
  | _, _, .nil, i, v, h => by simp at h
  | _, _, .cons r t, 0, v, h => by simp at h; subst h; exact ⟨_, rfl, r⟩
  | _, _, .cons r t, i + 1, v, h => by
    obtain ⟨d, e, q⟩ := dpAll_get t (i := i) (by simpa using h)
    exact ⟨d, by simpa using e, q⟩
theorem vals_back : ∀ {xs : List V} {us : List Value} {i : Nat} {u : Value}, Vals xs us → us[i]? = some u → ∃ x, xs[i]? = some x ∧ RelV x u
  | _, _, _, _, .nil, h => by simp at h
  | _, _, 0, _, .cons r t, h => by simp at h; subst h; exact ⟨_, rfl, r⟩
  | _, _, i + 1, _, .cons r t, h => by
    obtain ⟨x, e, q⟩ := vals_back (i := i) t (by simpa using h)
    exact ⟨x, by simpa using e, q⟩
theorem alike_T3 (ts : List T3) : AlikeAll (ts.map triD) := ⟨fun x hx y hy => by
  obtain ⟨a, _, rfl⟩ := List.mem_map.mp hx
  obtain ⟨b, _, rfl⟩ := List.mem_map.mp hy
  rfl, fun x hx => by
  obtain ⟨a, _, rfl⟩ := List.mem_map.mp hx
  intro z; cases z⟩
theorem depth_T3 : ∀ ts : List T3, PyData.depthAll (ts.map triD) ≤ 1
  | [] => Nat.zero_le _
  | t :: ts => by show max (PyData.depth _) (PyData.depthAll _) ≤ _; exact Nat.max_le.mpr ⟨Nat.le_refl _, depth_T3 ts⟩
section
variable {X : Cx} {K : PySem.W.Frag} [HK X K] {α β γ : Type} {ρ : List (En K)}
theorem cr_maxT3 (hu : X.A.units + 64 < cLine) (hc : X.calm = true) : CallR X (.builtin "max") (rMaxT3 X.K) := by
  intro pins s σ H xs us Q I r ⟨p, vs, ts, e, hq, hd, hne, k⟩
  subst e
  obtain ⟨its, rv, hl, _⟩ := I.list hq
  rw [Vals.ref1 r]
  obtain ⟨as, hr⟩ := Dp.readsAll I _ vs its hd rv
  cases ts with
  | nil => exact absurd rfl hne
  | cons t ts =>
    refine max_list_data (I.ok.hd hc) hl.isList hr (alike_T3 (t :: ts)) (by have := depth_T3 (t :: ts); rw [List.map_cons] at this; omega) fun i v h' tk bs hi hR hk => ?_
    have hi' : its[i]? = some v := by simpa using hi
    obtain ⟨x, hx, rx⟩ := vals_back rv hi'
    obtain ⟨d, hdi, hdp⟩ := dpAll_get hd hx
    rw [List.getElem?_map] at hdi
    cases ht : (t :: ts)[i]? with
    | none => rw [ht] at hdi; cases hdi
    | some u =>
      rw [ht] at hdi
      have ed : triD u = d := by simpa using hdi
      subst ed
      obtain ⟨as2, hR2⟩ := Dp.reads I _ x v hdp rx
      have hR3 := reads_keeps hk hR2
      rw [maxD_T3] at hR
      have e3 : triD u = triD (maxT t ts) := SeqAt.plain_unique _ _ _ _ _ rfl hR3 hR
      have e4 := triD_inj e3
      obtain ⟨m1, m2, _⟩ := maxT_top t ts
      exact ⟨x, H, I.kept hk, rx, k i x u hx ht fun y hy => by
        rw [e4]
        rcases List.mem_cons.mp hy with z | z
        · rw [z]; exact m1
        · exact m2 y z⟩
theorem rc_maxT3 : RCOk (rMaxT3 K) (fs1 (rL (rT (fsC rI (fsC rI (fs1 rI)))))) (rT (fsC rI (fsC rI (fs1 rI))) : Rp K T3) (fun ts P => ts ≠ [] ∧ ∀ t ∈ ts, (∀ y ∈ ts, ¬ ltT t y) → P t) := fun G H vs ts P Q s ⟨v, h, a, us, h1, h2, h3, h4⟩ p k => by
  subst h; subst h1
  refine ⟨a, us, ts, rfl, Same.seq s h2, ?_, p.1, fun i v t hi ht ht' => ?_⟩
  · exact DpAll.same s _ (dpAll_of (K := K) (eqT (eqfC eqI (eqfC eqI (eqf1 eqI)))) h3)
  · obtain ⟨x, hx, rx⟩ := paired_get' h3 hi
    rw [ht] at hx
    cases hx
    exact k G H v t (Step.refl s) (p.2 t (List.mem_of_getElem? ht) ht') rx
end

/-! ### an item of a list, by values -/
section
variable {X : Cx}
theorem get_list : PGet X (rIxL X.K) := by
  intro pins s σ H x y v u Q I rx ry h
  obtain ⟨p, xs, i, z, rfl, rfl, hq, he, q⟩ := h
  cases rx
  obtain ⟨t, rfl⟩ := ry
  obtain ⟨its, r, pl, hz⟩ := I.list hq
  obtain ⟨j, h1, h2, h3, h4, h5⟩ := atI_get he
  obtain ⟨w, ew, rw'⟩ := r.get h2
  have hl := r.length
  have hn := line63
  have fin : EP X pins σ Q w s := ⟨z, H, I, rw', q⟩
  by_cases h0 : 0 ≤ i
  · have hj : i.toNat = j := by
      rw [seqIndex_of h0 h5] at h1
      exact Option.some.inj h1
    exact PySem.wpAny_getItem_list pl.isList h0 (by omega) (by rw [hj]; simpa using ew) fin
  · have hj : (i + (its.toArray.size : Int)).toNat = j := by
      rw [seqIndex_neg (by omega) h4] at h1
      rw [List.size_toArray, ← hl]
      exact Option.some.inj h1
    exact PySem.wpAny_getItem_list_neg pl.isList (by omega) (by rw [List.size_toArray] <;> omega) (by omega) (by rw [hj]; simpa using ew) fin
end
end SS

set_option Elab.async false
set_option linter.all false
set_option maxRecDepth 100000
/-! MM: what the defs compute, in plain Lean, and the plain laws. Own work. -/
namespace MM
open PySem PySem.Spec L2 SS
abbrev Form : Type := List Int
abbrev Needs : Type := List (Int × List Int)
abbrev Rule : Type := Str × Needs × Int × Int × Option Int × Option Int × List Needs
set_option synthInstance.maxSize 2000
set_option synthInstance.maxHeartbeats 400000
instance instDecNeeds : DecidableEq Needs := inferInstance
instance instDecRule : DecidableEq Rule := inferInstance
instance instDecRules : DecidableEq (List Rule) := inferInstance
def SZ : List (List Int) := [[2,2,2,2], [2,2],[2,3],[3,2],[3,3],[2,2,2],[2,2,3],[2,3,2],[2,3,3],[3,2,2],[3,2,3],[3,3,2],[3,3,3]]
def wider (fs : List Form) (n : Int) : List Form := fs.flatMap fun f => (SS.rng 0 n.toNat).map fun v => f ++ [v]
def forms (s : List Int) : List Form := s.foldl wider [[]]
def steps : List Int → List Int
  | [] => []
  | _ :: r => r.foldl (· * ·) 1 :: steps r
def spc (s : List Int) : List Int × List Form × List Int := (s, forms s, steps s)
def num (s : List Int) (f : Form) : Int := (SS.rng 0 s.length).foldl (fun n i => n + f.getD i.toNat 0 * (steps s).getD i.toNat 0) 0
def okV (n : Int) : Int → List Int → Bool
  | _, [] => true
  | u, v :: r => decide (u < v) && decide (v < n) && okV n v r
def okN (s : List Int) : Int → Needs → Bool
  | _, [] => true
  | u, (i, vs) :: r => decide (u < i) && decide (i < s.length) && !vs.isEmpty && okV (s.getD i.toNat 0) (-1) vs && okN s i r
def CS : Str := "abcdefghijklmnopqrstuvwxyz0123456789_"
def NameOk (z : Str) : Prop := 1 ≤ z.length ∧ z.length ≤ 20 ∧ ∀ c ∈ z.cps.toList, c ∈ CS.cps.toList
def Big (x : Int) : Prop := -1000000000 ≤ x ∧ x ≤ 1000000000
def DayOk (x : Int) : Prop := -1000000 ≤ x ∧ x ≤ 1000000
def EndOk (o : Option Int) : Prop := ∀ x, o = some x → 0 ≤ x ∧ x ≤ 100
structure RuleOk (s : List Int) (r : Rule) : Prop where
  name : NameOk r.1
  needs : okN s (-1) r.2.1 = true
  due : Big r.2.2.1
  rank : Big r.2.2.2.1
  first : EndOk r.2.2.2.2.1
  last : EndOk r.2.2.2.2.2.1
  ends : ∀ a b, r.2.2.2.2.1 = some a → r.2.2.2.2.2.1 = some b → a ≤ b
  few : r.2.2.2.2.2.2.length ≤ 2
  unl : ∀ u ∈ r.2.2.2.2.2.2, u ≠ [] ∧ okN s (-1) u = true
def met (f : Form) (nd : Needs) : Bool := nd.all fun p => decide (f.getD p.1.toNat 0 ∈ p.2)
def spk (r : Rule) (f : Form) (d : Int) : Bool :=
  (match r.2.2.2.2.1 with | none => true | some a => decide (a ≤ d)) && (match r.2.2.2.2.2.1 with | none => true | some b => decide (d ≤ b)) && met f r.2.1 && !(r.2.2.2.2.2.2.any fun u => met f u)
def outr (r o : Rule) : Bool :=
  if r.2.2.2.1 = o.2.2.2.1 then (match o.2.2.2.2.1 with | none => true | some y => (match r.2.2.2.2.1 with | none => false | some x => decide (y ≤ x))) else decide (o.2.2.2.1 < r.2.2.2.1)
def dstep (f : Form) (d : Int) (found : Option Rule) (r : Rule) : Option Rule := if spk r f d && (match found with | none => true | some o => outr r o) then some r else found
def dcd (rs : List Rule) (f : Form) (d : Int) : Option Rule := rs.foldl (dstep f d) none
def dueOf (rs : List Rule) (df : Int) (d : Int) (f : Form) : Int := match dcd rs f d with | none => df | some r => r.2.2.1
def InR (n : Nat) (nd : Needs) : Prop := ∀ p ∈ nd, 0 ≤ p.1 ∧ p.1 < n
def RuleIn (n : Nat) (r : Rule) : Prop := InR n r.2.1 ∧ ∀ u ∈ r.2.2.2.2.2.2, InR n u
structure BookOk (s : List Int) (df : Int) (rs : List Rule) : Prop where
  sz : s ∈ SZ
  df : Big df
  few : rs.length ≤ 60
  ok : ∀ r ∈ rs, RuleOk s r
  nd : (rs.map (·.1)).Nodup
/-! the plain laws -/
theorem okN_in {s : List Int} : ∀ {nd : Needs} {u : Int}, -1 ≤ u → okN s u nd = true → InR s.length nd
  | [], _, _, _ => fun p h => nomatch h
  | (i, vs) :: r, u, hu, h => by
    simp only [okN, Bool.and_eq_true, decide_eq_true_eq] at h
    intro p hp
    rcases List.mem_cons.mp hp with e | hp
    · subst e
      exact ⟨by omega, h.1.1.1.2⟩
    · exact okN_in (by omega) h.2 p hp
theorem RuleOk.inn {s : List Int} {r : Rule} (h : RuleOk s r) : RuleIn s.length r := ⟨okN_in (by omega) h.needs, fun u hu => okN_in (by omega) (h.unl u hu).2⟩
theorem forms_len : ∀ s ∈ SZ, ∀ f ∈ forms s, f.length = s.length := by decide +kernel
theorem forms_in : ∀ s ∈ SZ, ∀ f ∈ forms s, ∀ i : Fin 4, (i : Nat) < s.length → 0 ≤ f.getD i 0 ∧ f.getD i 0 < s.getD i 0 := by decide +kernel
theorem num_at : ∀ s ∈ SZ, ∀ f ∈ forms s, (0 ≤ num s f ∧ (forms s)[(num s f).toNat]? = some f) := by decide +kernel
theorem sz_small : ∀ s ∈ SZ, 2 ≤ s.length ∧ s.length ≤ 4 := by decide +kernel
theorem sz_in : ∀ s ∈ SZ, ∀ x ∈ s, 2 ≤ x ∧ x ≤ 3 := by decide +kernel
theorem forms_few : ∀ s ∈ SZ, (forms s).length ≤ 81 := by decide +kernel
theorem forms_nd : ∀ s ∈ SZ, (forms s).Nodup := by decide +kernel
theorem steps_len : ∀ s : List Int, (steps s).length = s.length
  | [] => rfl
  | _ :: r => by show (_ :: steps r).length = _; rw [List.length_cons, steps_len r]; rfl
/-- the key of a rule at a place -/
def key (r : Rule) (k : Nat) : T3 := (r.2.2.2.1, (match r.2.2.2.2.1 with | none => -1000000000 | some x => x), (k : Int))
theorem outr_key {s : List Int} {r o : Rule} (hr : RuleOk s r) (ho : RuleOk s o) {i j : Nat} (h : i < j) : outr r o = decide (ltT (key o i) (key r j)) := by
  have h1 := hr.first
  have h2 := ho.first
  unfold outr key ltT
  by_cases e : r.2.2.2.1 = o.2.2.2.1
  · rw [if_pos e, e]
    cases eo : o.2.2.2.2.1 with
    | none =>
      cases er : r.2.2.2.2.1 with
      | none => exact (decide_eq_true (by dsimp only; omega)).symm
      | some x => have := h1 x er; exact (decide_eq_true (by dsimp only; omega)).symm
    | some y =>
      have := h2 y eo
      cases er : r.2.2.2.2.1 with
      | none => exact (decide_eq_false (by dsimp only; omega)).symm
      | some x => have := h1 x er; exact decide_eq_decide.mpr (by dsimp only; omega)
  · rw [if_neg e]
    exact decide_eq_decide.mpr (by dsimp only; omega)
/-- the decider is the greatest key among those that speak -/
theorem dcd_top {s : List Int} (f : Form) (d : Int) (rs : List Rule) (hok : ∀ r ∈ rs, RuleOk s r) :
    (dcd rs f d = none ∧ ∀ r ∈ rs, spk r f d = false) ∨ ∃ (k : Nat) (r : Rule), dcd rs f d = some r ∧ rs[k]? = some r ∧ spk r f d = true ∧ ∀ (j : Nat) (q : Rule), rs[j]? = some q → spk q f d = true → j ≠ k → ltT (key q j) (key r k) := by
  suffices ∀ (n : Nat) (rs : List Rule), rs.length = n → (∀ r ∈ rs, RuleOk s r) → (dcd rs f d = none ∧ ∀ r ∈ rs, spk r f d = false) ∨ ∃ (k : Nat) (r : Rule), dcd rs f d = some r ∧ rs[k]? = some r ∧ spk r f d = true ∧ ∀ (j : Nat) (q : Rule), rs[j]? = some q → spk q f d = true → j ≠ k → ltT (key q j) (key r k) from this _ rs rfl hok
  intro n
  induction n with
  | zero => intro rs hn _; rw [List.length_eq_zero_iff.mp hn]; exact .inl ⟨rfl, fun r h => nomatch h⟩
  | succ n ih =>
    intro rs hn hok
    have hne : rs ≠ [] := fun z => by rw [z] at hn; cases hn
    have es : rs = rs.dropLast ++ [rs.getLast hne] := (List.dropLast_concat_getLast hne).symm
    generalize eq : rs.dropLast = qs at es
    generalize el : rs.getLast hne = l at es
    have hq : qs.length = n := by rw [es] at hn; simpa using hn
    have hokq : ∀ r ∈ qs, RuleOk s r := fun r hr => hok r (by rw [es]; simp [hr])
    have hl : RuleOk s l := hok l (by rw [es]; simp)
    have ed : dcd rs f d = dstep f d (dcd qs f d) l := by rw [es]; unfold dcd; rw [List.foldl_append]; rfl
    have gl : rs[n]? = some l := by rw [es, ← hq]; simp
    have gq : ∀ {j : Nat} {q : Rule}, rs[j]? = some q → (j = n ∧ q = l) ∨ qs[j]? = some q ∧ j < n := fun {j q} h => by
      rw [es] at h
      by_cases hj : j < qs.length
      · exact .inr ⟨by rw [List.getElem?_append_left hj] at h; exact h, by omega⟩
      · rw [List.getElem?_append_right (by omega)] at h
        have : j - qs.length = 0 := by
          rcases Nat.eq_zero_or_pos (j - qs.length) with z | z
          · exact z
          · rw [List.getElem?_eq_none (by simp only [List.length_cons, List.length_nil]; omega)] at h; cases h
        rw [this] at h
        have e : l = q := by simpa using h
        exact .inl ⟨by omega, e.symm⟩
    have gq' : ∀ {j : Nat} {q : Rule}, qs[j]? = some q → rs[j]? = some q := fun {j q} h => by
      rw [es, List.getElem?_append_left (List.getElem?_eq_some_iff.mp h).1]; exact h
    rw [ed]
    rcases ih qs hq hokq with ⟨h1, h2⟩ | ⟨k, r, h1, h2, h3, h4⟩
    · rw [h1]
      unfold dstep
      cases hs : spk l f d with
      | true =>
        refine .inr ⟨n, l, by simp, gl, hs, fun j q hj hsq hne => ?_⟩
        rcases gq hj with ⟨e, _⟩ | ⟨hj', _⟩
        · exact absurd e hne
        · rw [h2 q (List.mem_of_getElem? hj')] at hsq; cases hsq
      | false =>
        refine .inl ⟨by simp, fun r hr => ?_⟩
        rw [es] at hr
        rcases List.mem_append.mp hr with z | z
        · exact h2 r z
        · rw [List.mem_singleton.mp z]; exact hs
    · rw [h1]
      have hk : k < n := by rw [← hq]; exact (List.getElem?_eq_some_iff.mp h2).1
      have hr : RuleOk s r := hokq r (List.mem_of_getElem? h2)
      unfold dstep
      cases hs : spk l f d with
      | false =>
        refine .inr ⟨k, r, by simp, gq' h2, h3, fun j q hj hsq hne => ?_⟩
        rcases gq hj with ⟨_, e⟩ | ⟨hj', _⟩
        · subst e; rw [hs] at hsq; cases hsq
        · exact h4 j q hj' hsq hne
      | true =>
        simp only [Bool.true_and]
        rw [outr_key hl hr hk]
        by_cases hlt : ltT (key r k) (key l n)
        · rw [decide_eq_true hlt]
          refine .inr ⟨n, l, by simp, gl, hs, fun j q hj hsq hne => ?_⟩
          rcases gq hj with ⟨e, _⟩ | ⟨hj', _⟩
          · exact absurd e hne
          · by_cases e : j = k
            · subst e
              rw [h2] at hj'
              cases hj'
              exact hlt
            · exact ltT_trans (h4 j q hj' hsq e) hlt
        · rw [decide_eq_false hlt]
          refine .inr ⟨k, r, by simp, gq' h2, h3, fun j q hj hsq hne => ?_⟩
          rcases gq hj with ⟨e1, e2⟩ | ⟨hj', _⟩
          · subst e1 e2
            revert hlt
            unfold key ltT
            intro hlt
            simp only at hlt ⊢
            omega
          · exact h4 j q hj' hsq hne
end MM

set_option Elab.async false
set_option linter.all false
set_option maxRecDepth 100000
/-! MH: small helps for the conditions. Own work. -/
namespace MM
open PySem PySem.Spec L2 SS
theorem rng_mem {lo : Int} {n : Nat} {pre suf : List Int} {x : Int} (h : rng lo n = pre ++ x :: suf) : x = lo + (pre.length : Int) ∧ pre.length < n ∧ pre = rng lo pre.length := by
  have h1 : (rng lo n)[pre.length]? = some x := by rw [h]; simp
  obtain ⟨h2, h3⟩ := rng_get h1
  refine ⟨h3, h2, ?_⟩
  have h4 : (rng lo n).take pre.length = pre := by rw [h]; simp
  have h5 : (rng lo n).take pre.length = rng lo pre.length := by
    unfold rng
    rw [← List.map_take, List.take_range, Nat.min_eq_left (Nat.le_of_lt h2)]
  rw [← h4, h5]
  simp [rng_len]
theorem rng_snoc (lo : Int) (n : Nat) : rng lo (n + 1) = rng lo n ++ [lo + (n : Int)] := by unfold rng; rw [List.range_succ]; simp
theorem rng_in {lo x : Int} {n : Nat} (h : x ∈ rng lo n) : lo ≤ x ∧ x < lo + (n : Int) := by
  unfold rng at h
  obtain ⟨i, h1, h2⟩ := List.mem_map.mp h
  have := List.mem_range.mp h1
  omega
theorem atI_of {α : Type} {xs : List α} {z : Int} (d : α) (h0 : 0 ≤ z) (h1 : z < (xs.length : Int)) : atI xs z = some (xs.getD z.toNat d) := by
  obtain ⟨n, rfl⟩ := Int.eq_ofNat_of_zero_le h0
  have hl : n < xs.length := by omega
  refine atI_nat ?_
  rw [List.getElem?_eq_getElem hl]
  simp [hl]
theorem ixN_of {n : Nat} {z : Int} (h0 : 0 ≤ z) (h1 : z < (n : Int)) : ixN n z = some z.toNat := by
  unfold ixN
  rw [if_pos h0, if_pos h1]
theorem cmulL {i j : Int} (h1 : -(2 ^ 64) < i) (h2 : i < 2 ^ 64) : CMul i j := .inl ⟨h1, h2⟩
theorem cmulR {i j : Int} (h1 : -(2 ^ 64) < j) (h2 : j < 2 ^ 64) : CMul i j := .inr ⟨h1, h2⟩
theorem small {n : Nat} (h : n ≤ 1000000) : n ≤ sizeLine := by have := szl; omega
theorem smallS {n : Nat} (h : n < 1000000) : n < sizeLine := by have := szl; omega
theorem sz_pre : ∀ s ∈ SZ, ∀ k : Fin 5, (forms (s.take k)).length ≤ 81 ∧ ∀ f ∈ forms (s.take k), f.length ≤ 4 := by decide +kernel
theorem sz_split {s pre suf : List Int} {x : Int} (h : s ∈ SZ) (e : s = pre ++ x :: suf) : (2 ≤ x ∧ x ≤ 3) ∧ (forms pre).length ≤ 81 ∧ ∀ f ∈ forms pre, f.length ≤ 4 := by
  have hx := sz_in s h x (by rw [e]; simp)
  have hl := (sz_small s h).2
  have hp : pre.length < 5 := by rw [e] at hl; simp at hl; omega
  have := sz_pre s h ⟨pre.length, hp⟩
  have e2 : s.take pre.length = pre := by rw [e]; simp
  dsimp only at this
  rw [e2] at this
  exact ⟨hx, this⟩
theorem forms_snoc (pre : List Int) (x : Int) : forms (pre ++ [x]) = wider (forms pre) x := by unfold forms; rw [List.foldl_append]; rfl
theorem forW_all {α β : Type} {xs : List α} {f : Unit → α → W (Out Unit Unit β)} {N : Unit → Prop} {Rr : β → Prop} (h : ∀ x ∈ xs, ∀ C : Out Unit Unit β → Prop, C (.nx ()) → f () x C) (hN : N ()) : forW xs () f N Rr :=
  forW_inv (fun _ _ _ => True) trivial (fun pre x suf st C e _ h1 _ _ _ => h x (by rw [e]; simp) C (h1 () trivial)) (fun _ _ => hN)
theorem dT {p : Prop} [Decidable p] (h : p) : decide p = true := decide_eq_true h
theorem dF {p : Prop} [Decidable p] (h : ¬ p) : decide p = false := decide_eq_false h
theorem sign_of {z x : Str} (h : x ∈ signs z) : ∃ c : Nat, x = ⟨#[c]⟩ ∧ c ∈ z.cps.toList := by
  unfold signs at h
  obtain ⟨c, h1, h2⟩ := List.mem_map.mp h
  exact ⟨c, h2.symm, h1⟩
theorem len_cps (z : Str) : z.length = z.cps.size := rfl
theorem nodup_mid {α β : Type} {f : α → β} {pre suf : List α} {x : α} (h : ((pre ++ x :: suf).map f).Nodup) : f x ∉ pre.map f := by
  rw [List.map_append, List.map_cons] at h
  have h3 := (List.nodup_append.mp h).2.2
  intro z
  exact h3 _ z _ (by simp) rfl
theorem wider_len (fs : List Form) (x : Int) (h : x ≤ 3) : (wider fs x).length ≤ fs.length * 3 := by
  unfold wider
  induction fs with
  | nil => simp
  | cons y l ih => rw [List.flatMap_cons, List.length_append, List.length_map, rng_len, List.length_cons]; omega
def dfl : Rule := ("", [], 0, 0, none, none, [])
theorem rng_cons (lo : Int) (n : Nat) : rng lo (n + 1) = lo :: rng (lo + 1) n := by
  unfold rng
  rw [List.range_succ_eq_map, List.map_cons, List.map_map]
  congr 1
  · simp
  · apply List.map_congr_left
    intro i _
    simp only [Function.comp]
    omega
theorem okV_sub {n : Int} : ∀ (m : Nat) (lo u : Int) (ys : List Int), ys.Sublist (rng lo m) → lo + (m : Int) ≤ n → u < lo → okV n u ys = true
  | 0, lo, u, ys, h, _, _ => by
    have : ys = [] := by simpa [rng] using h
    rw [this]; rfl
  | m + 1, lo, u, ys, h, h1, h2 => by
    rw [rng_cons] at h
    cases h with
    | cons _ h => exact okV_sub m (lo + 1) u ys h (by omega) (by omega)
    | cons_cons _ h =>
      rename_i r
      have := okV_sub (n := n) m (lo + 1) lo r h (by omega) (by omega)
      simp only [okV, Bool.and_eq_true, decide_eq_true_eq]
      exact ⟨⟨h2, by omega⟩, this⟩
theorem okN_snoc {s : List Int} {i : Int} {vs : List Int} : ∀ {nd : Needs} {u : Int}, okN s u nd = true → (∀ p ∈ nd, p.1 < i) → u < i → i < (s.length : Int) → vs ≠ [] → okV (s.getD i.toNat 0) (-1) vs = true → okN s u (nd ++ [(i, vs)]) = true
  | [], u, _, _, h1, h2, h3, h4 => by
    have : vs.isEmpty = false := by cases vs with
      | nil => exact absurd rfl h3
      | cons _ _ => rfl
    simp only [List.nil_append, okN, Bool.and_eq_true, decide_eq_true_eq, this, h4]
    exact ⟨⟨⟨⟨h1, h2⟩, rfl⟩, trivial⟩, trivial⟩
  | (j, ws) :: r, u, h, hp, h1, h2, h3, h4 => by
    simp only [okN, Bool.and_eq_true, decide_eq_true_eq] at h
    rw [List.cons_append]
    simp only [okN, Bool.and_eq_true, decide_eq_true_eq]
    exact ⟨h.1, okN_snoc h.2 (fun p hp' => hp p (by simp [hp'])) (hp (j, ws) (by simp)) h2 h3 h4⟩
theorem paired_eq {α : Type} : ∀ {xs ys : List α}, Paired (fun x y => y = x) xs ys → ys = xs
  | _, _, .nil => rfl
  | _, _, .cons r t => by rw [r, paired_eq t]
theorem couples_step {s : List Int} {x : Int} {q : Needs} {C : Out Needs Needs Needs → Prop} (h0 : 0 ≤ x) (h1 : x < (s.length : Int)) (g1 : 2 ≤ s.getD x.toNat 0) (g2 : s.getD x.toNat 0 ≤ 3) (hq : q.length < 100000)
    (hC : ∀ vs : List Int, vs ≠ [] → okV (s.getD x.toNat 0) (-1) vs = true → C (.nx (q ++ [(x, vs)]))) :
    ∃ y, atI s x = some y ∧ (y < 1000000 ∧ -1000000 < y) ∧ lcW (rng 0 y.toNat) (fun _ P => ((0 : Int) < 2 ∧ (2 : Int) < 1000000) ∧ ∀ r : Int, 0 ≤ r → r < 2 → P (decide (r = 0))) (fun v P => P v) fun ys => ∀ _ : Addr,
      if decide (ys = []) = true then ∃ y, atI s x = some y ∧ (0 < y ∧ y < 1000000) ∧ ∀ r : Int, 0 ≤ r → r < y → (q.length ≤ sizeLine → q.length < sizeLine) ∧ C (.nx (q ++ [(x, [r])])) else (q.length ≤ sizeLine → q.length < sizeLine) ∧ C (.nx (q ++ [(x, ys)])) := by
  refine ⟨_, atI_of 0 h0 h1, ⟨by omega, by omega⟩, ?_⟩
  refine lcW_all (fun x y => y = x) _ _ (fun x _ C c => ⟨by decide, fun r _ _ => c _⟩) (fun x _ C c => c x rfl) (fun ys hy p => ?_)
  obtain ⟨zs, hs, hp⟩ := hy
  have ey := paired_eq hp
  subst ey
  by_cases hy : ys = []
  · rw [dT hy, if_pos rfl]
    refine ⟨_, atI_of 0 h0 h1, ⟨by omega, by omega⟩, fun r r1 r2 => ⟨fun _ => smallS (by omega), hC [r] (by simp) ?_⟩⟩
    simp only [okV, Bool.and_eq_true, decide_eq_true_eq]
    exact ⟨⟨by omega, r2⟩, trivial⟩
  · rw [dF hy, if_neg (by decide)]
    exact ⟨fun _ => smallS (by omega), hC ys hy (okV_sub _ 0 (-1) ys hs (by omega) (by omega))⟩
theorem ends_pick (f l k : Int) (f1 : 0 ≤ f) (f2 : f < 9) (l1 : 0 ≤ l) (l2 : l < 6) (k1 : 0 ≤ k) (k2 : k < 6) :
    ∃ y : Option Int × Option Int, atI [(some f, some (f + l)), (some f, some (f + l)), (some f, none), (none, some (f + l)), (none, none), (none, none)] k = some y ∧ EndOk y.1 ∧ EndOk y.2 ∧ ∀ a b, y.1 = some a → y.2 = some b → a ≤ b := by
  have en : EndOk none := fun x e => nomatch e
  have ef : EndOk (some f) := fun x e => by cases e; omega
  have el : EndOk (some (f + l)) := fun x e => by cases e; omega
  have fl : ∀ a b, (some f : Option Int) = some a → (some (f + l) : Option Int) = some b → a ≤ b := fun a b e1 e2 => by cases e1; cases e2; omega
  rcases (show k = 0 ∨ k = 1 ∨ k = 2 ∨ k = 3 ∨ k = 4 ∨ k = 5 by omega) with e | e | e | e | e | e <;> subst e
  · exact ⟨_, rfl, ef, el, fl⟩
  · exact ⟨_, rfl, ef, el, fl⟩
  · exact ⟨_, rfl, ef, en, fun a b _ e => nomatch e⟩
  · exact ⟨_, rfl, en, el, fun a b e => nomatch e⟩
  · exact ⟨_, rfl, en, en, fun a b e => nomatch e⟩
  · exact ⟨_, rfl, en, en, fun a b e => nomatch e⟩
theorem cpow_64 : CPow 2 64 := by unfold CPow; decide
theorem cpow_18 : CPow 10 18 := by unfold CPow; decide
theorem cpow_6 : CPow 10 6 := by unfold CPow; decide
theorem dT' {p : Prop} {i : Decidable p} (h : p) : @decide p i = true := by cases i with
  | isTrue _ => rfl
  | isFalse n => exact absurd h n
theorem dF' {p : Prop} {i : Decidable p} (h : ¬ p) : @decide p i = false := by cases i with
  | isTrue y => exact absurd y h
  | isFalse _ => rfl
theorem cpow_9 : CPow 10 9 := by unfold CPow; decide
theorem okN_len {s : List Int} : ∀ {nd : Needs} {u : Int}, okN s u nd = true → -1 ≤ u → (nd.length : Int) + u + 1 ≤ (s.length : Int) ∨ nd = []
  | [], _, _, _ => .inr rfl
  | (i, vs) :: r, u, h, hu => by
    simp only [okN, Bool.and_eq_true, decide_eq_true_eq] at h
    have h1 := h.1.1.1
    rcases okN_len h.2 (by omega) with z | z
    · left; rw [List.length_cons]; omega
    · left; rw [z]; simp only [List.length_cons, List.length_nil]; omega
theorem okV_len {n : Int} : ∀ {vs : List Int} {u : Int}, okV n u vs = true → -1 ≤ u → (vs.length : Int) + u + 1 ≤ n ∨ vs = []
  | [], _, _, _ => .inr rfl
  | v :: r, u, h, hu => by
    simp only [okV, Bool.and_eq_true, decide_eq_true_eq] at h
    rcases okV_len h.2 (by omega) with z | z
    · left; rw [List.length_cons]; omega
    · left; rw [z]; simp only [List.length_cons, List.length_nil]; omega
theorem okN_mem {s : List Int} : ∀ {nd : Needs} {u : Int}, okN s u nd = true → ∀ p ∈ nd, okV (s.getD p.1.toNat 0) (-1) p.2 = true
  | [], _, _ => fun p h => nomatch h
  | (i, vs) :: r, u, h => by
    simp only [okN, Bool.and_eq_true, decide_eq_true_eq] at h
    intro p hp
    rcases List.mem_cons.mp hp with e | hp
    · subst e; exact h.1.2
    · exact okN_mem h.2 p hp
theorem sz_get {s : List Int} (hs : s ∈ SZ) (i : Nat) : s.getD i 0 ≤ 3 := by
  by_cases h : i < s.length
  · have := sz_in s hs (s.getD i 0) (by rw [List.getD_eq_getElem?_getD, List.getElem?_eq_getElem h]; exact List.getElem_mem h)
    exact this.2
  · rw [List.getD_eq_getElem?_getD, List.getElem?_eq_none (by omega)]; decide
theorem needs_small {s : List Int} {nd : Needs} (hs : s ∈ SZ) (h : okN s (-1) nd = true) : nd.length ≤ 4 ∧ ∀ p ∈ nd, p.2.length ≤ 3 := by
  have b2 := (sz_small s hs).2
  refine ⟨?_, fun p hp => ?_⟩
  · rcases okN_len h (by omega) with z | z
    · omega
    · rw [z]; exact Nat.zero_le _
  · have h3 := sz_get hs p.1.toNat
    rcases okV_len (okN_mem h p hp) (by omega) with z | z
    · omega
    · rw [z]; exact Nat.zero_le _
def nm (k : Int) : Str := Str.ofString "r" ++ Str.ofString (toString k)
instance (z : Str) : Decidable (NameOk z) := by unfold NameOk; infer_instance
theorem nm_fin : ∀ k : Fin 10, ((k : Nat) : Int).natAbs.log2 < 1920 ∧ (Str.ofString "r").length + (Str.ofString (toString ((k : Nat) : Int))).length ≤ 1000 ∧ NameOk (nm ((k : Nat) : Int)) := by decide +kernel
theorem nm_inj : ∀ j k : Fin 10, nm ((j : Nat) : Int) = nm ((k : Nat) : Int) → j = k := by decide +kernel
theorem nm_ok {k : Int} (h0 : 0 ≤ k) (h1 : k < 10) : k.natAbs.log2 < 1920 ∧ (Str.ofString "r").length + (Str.ofString (toString k)).length ≤ sizeLine ∧ NameOk (Str.ofString "r" ++ Str.ofString (toString k)) := by
  obtain ⟨n, rfl⟩ := Int.eq_ofNat_of_zero_le h0
  have := nm_fin ⟨n, by omega⟩
  exact ⟨this.1, small (by have := this.2.1; dsimp only at this; omega), this.2.2⟩
theorem nm_nodup (n : Nat) (h : n ≤ 10) : ((rng 0 n).map nm).Nodup := by
  unfold rng
  rw [List.map_map]
  refine (List.pairwise_map).mpr ?_
  refine List.Pairwise.imp_of_mem ?_ (List.nodup_range (n := n))
  intro a b ha hb hne z
  have ha' := List.mem_range.mp ha
  have hb' := List.mem_range.mp hb
  have := nm_inj ⟨a, by omega⟩ ⟨b, by omega⟩ (by simpa [Function.comp] using z)
  exact hne (by simpa using this)
theorem paired_all {α β : Type} {F : α → β → Prop} : ∀ {xs : List α} {ys : List β}, Paired F xs ys → ∀ y ∈ ys, ∃ x ∈ xs, F x y
  | _, _, .nil => fun y h => nomatch h
  | _, _, .cons r t => fun y h => by
    rcases List.mem_cons.mp h with e | h
    · subst e; exact ⟨_, by simp, r⟩
    · obtain ⟨x, hx, q⟩ := paired_all t y h
      exact ⟨x, by simp [hx], q⟩
theorem paired_map {α β γ : Type} {f : α → γ} {g : β → γ} : ∀ {xs : List α} {ys : List β}, Paired (fun x y => g y = f x) xs ys → ys.map g = xs.map f
  | _, _, .nil => rfl
  | _, _, .cons r t => by rw [List.map_cons, List.map_cons, r, paired_map t]
abbrev Made : Type := ((List Int × List Form × List Int) × Int × List Rule) × List Int × List Form × Int × List Rule
structure MadeOk (q : Made) : Prop where
  sp : q.1.1 = spc q.2.1
  bk : BookOk q.2.1 q.1.2.1 q.1.2.2
  fm : q.2.2.1 = forms q.2.1
  df : q.2.2.2.1 = q.1.2.1
  rs : q.2.2.2.2 = q.1.2.2
  few : q.1.2.2.length ≤ 9
theorem rank_ok {s : List Int} {x : Rule} (h : RuleOk s x) (b : Int) (b0 : 0 ≤ b) (b1 : b < 2) : RuleOk s (x.1, x.2.1, x.2.2.1, 10 ^ Int.toNat 9 * (1 - 2 * b), x.2.2.2.2.1, x.2.2.2.2.2.1, x.2.2.2.2.2.2) := by
  refine ⟨h.name, h.needs, h.due, ?_, h.first, h.last, h.ends, h.few, h.unl⟩
  have e9 : (10 : Int) ^ Int.toNat 9 = 1000000000 := by decide
  show Big (10 ^ Int.toNat 9 * (1 - 2 * b))
  rw [e9]
  rcases (show b = 0 ∨ b = 1 by omega) with z | z <;> subst z <;> exact ⟨by omega, by omega⟩
theorem set_names {rs : List Rule} {k : Nat} {x y : Rule} (h : rs[k]? = some x) (e : y.1 = x.1) : (rs.set k y).map (·.1) = rs.map (·.1) := by
  rw [List.map_set]
  apply List.ext_getElem?
  intro j
  by_cases hj : k = j
  · subst hj
    have hl := (List.getElem?_eq_some_iff.mp h).1
    rw [List.getElem?_set_self (by rw [List.length_map]; exact hl), List.getElem?_map, h]
    show some y.1 = some x.1
    rw [e]
  · rw [List.getElem?_set_ne hj]
theorem max23 : max (2 : Int) 3 = 3 := by decide
end MM

set_option Elab.async false
set_option linter.all false
set_option maxRecDepth 100000
/-! SSH: own rules: the pool of draws, read and changed. Own work. -/
namespace SS
open PySem PySem.Spec L2
section
variable {K : PySem.W.Frag} {ρ : List (En K)}
theorem pool_get {i : Nat} {p : Addr} {g : Addr × Addr} (h : ρ[i]? = some (.pool p g)) {G H : Hp} {σ : L2.St} (ev : EnvOk ρ G H σ) : σ[i]? = some (some (.ref p)) ∧ PoolAt G H p g := by
  obtain ⟨o, ho, e, q⟩ := ev.ok i _ h
  subst e
  exact ⟨ho, q⟩
theorem ref_get {i : Nat} {u : V} (h : ρ[i]? = some (.fr (rV u) ())) {G H : Hp} {σ : L2.St} (ev : EnvOk ρ G H σ) : σ[i]? = some (some u) := by
  obtain ⟨o, ho, v, e, q⟩ := ev.ok i _ h
  have q' : v = u := q
  subst e q'
  exact ho
theorem int_get {i : Nat} {n : Int} (h : ρ[i]? = some (.fr rI n)) {G H : Hp} {σ : L2.St} (ev : EnvOk ρ G H σ) : σ[i]? = some (some (.int n)) := by
  obtain ⟨o, ho, v, e, q⟩ := ev.ok i _ h
  have q' : v = .int n := q
  subst e q'
  exact ho
theorem pool_upd {i : Nat} {p a : Addr} {g : Addr × Addr} {o : HO} (h : ρ[i]? = some (.pool p g)) (hone : pls ρ = [(p, g)]) {G H : Hp} {σ : L2.St} (ev : EnvOk ρ G H σ) (s : Same G H) (ha : a = p ∨ a = g.1) (hn : PoolAt G (upd H a o) p g) :
    Step (padr ρ) G H G (upd H a o) ∧ EnvOk ρ G (upd H a o) σ := by
  have hpd : padr ρ = [p, g.1] := by unfold padr; rw [hone]; rfl
  have na : G a = none := by
    rcases ha with e | e
    · rw [e]; exact hn.1
    · rw [e]; exact hn.2.1
  have st : Step [p, g.1] G H G (upd H a o) := Step.put s (by simpa using ha) na
  refine ⟨by rw [hpd]; exact st, ev.len, fun j e' hj => ?_, ev.nd⟩
  obtain ⟨o', ho', q⟩ := ev.ok j e' hj
  refine ⟨o', ho', ?_⟩
  cases e' with
  | pool a' b' =>
    have : (a', b') ∈ pls ρ := pls_mem hj (by simp [En.pl])
    rw [hone] at this
    have e : (a', b') = (p, g) := by simpa using this
    cases e
    exact ⟨q.1, hn⟩
  | off => trivial
  | fr R' x' => exact En.step (e := .fr R' x') q st fun a ha => nomatch ha
  | own a' R' x' => exact En.step (e := .own a' R' x') q st fun a ha z => own_ne_pool ev.nd hj h ha (by simpa using z)
  | obj a' C' x' => exact En.step (e := .obj a' C' x') q st fun a ha z => own_ne_pool ev.nd hj h ha (by simpa using z)
  | rg a' C' x' => exact En.step (e := .rg a' C' x') q st fun a ha z => own_ne_pool ev.nd hj h ha (by simpa using z)
theorem at0 {α : Type} (x : α) (xs : List α) : atI (x :: xs) 0 = some x := atI_nat (j := 0) rfl
theorem dInts {H : Hp} : ∀ gs : List Int, DpAll K H (gs.map V.int) (gs.map PyData.int)
  | [] => .nil
  | x :: r => .cons (.int x) (dInts r)
theorem plInts : ∀ gs : List Int, PyData.plainAll (gs.map PyData.int) = true
  | [] => rfl
  | x :: r => by show (PyData.plain _ && PyData.plainAll _) = true; rw [plInts r]; rfl
theorem deInts : ∀ gs : List Int, PyData.depthAll (gs.map PyData.int) ≤ 0
  | [] => Nat.le_refl _
  | x :: r => by show max (PyData.depth _) (PyData.depthAll _) ≤ _; exact Nat.max_le.mpr ⟨Nat.le_refl _, deInts r⟩
theorem ints_pair {G : Hp} : ∀ gs : List Int, Paired ((rI : Rp K Int).ok G) (gs.map V.int) gs
  | [] => .nil
  | x :: r => .cons rfl (ints_pair r)
end
section
variable {X : Cx} {K : PySem.W.Frag} [HK X K] {τ ℓ β : Type} {ρ : List (En K)} {post : τ → List (En K)} {lp : ℓ → List (En K)} {R : Rp K β} {rest : List Stmt} {pos pn p0 : Pos} {nm : Str} {i : Nat} {p : Addr} {g : Addr × Addr}
theorem pr_plA {j0} (hv : PE X (.Name nm pn) (tVar i)) (hi : ρ[i]? = some (.pool p g)) : PE X (.Subscript (.Name nm pn) (.Constant (.int 0) j0 p0) pos) (TEx ρ (rV (.ref g.1)) fun P => P ()) := by
  refine pe_imp (pe_ix ix_list hv pe_int (fun _ _ => rfl)) fun σ H Q ⟨G, P, s, ev, pp, c⟩ => ?_
  obtain ⟨hσ, _, _, _, sm, cc, m, gs, ns, h4, h5, h6, h7⟩ := pool_get hi ev
  exact ⟨.ref p, hσ, p, _, 0, .ref g.1, rfl, rfl, SqL.of h4, rfl, c.go s ev pp rfl⟩
theorem pr_plB {j0} (hv : PE X (.Name nm pn) (tVar i)) (hi : ρ[i]? = some (.pool p g)) : PE X (.Subscript (.Name nm pn) (.Constant (.int 1) j0 p0) pos) (TEx ρ (rL rI) fun P => ∀ ns : List Int, ns ≠ [] → P ns) := by
  refine pe_imp (pe_ix ix_list hv pe_int (fun _ _ => rfl)) fun σ H Q ⟨G, P, s, ev, pp, c⟩ => ?_
  obtain ⟨hσ, _, _, _, sm, cc, m, gs, ns, h4, h5, h6, h7, h8, h9⟩ := pool_get hi ev
  refine ⟨.ref p, hσ, p, _, 1, .ref sm, rfl, rfl, SqL.of h4, rfl, c.go s ev (pp ns h7) ⟨sm, _, rfl, SqL.of h6, ints_pair ns, ?_⟩⟩
  rw [List.length_map]
  have := szl
  omega
theorem pr_plC {j0} (hv : PE X (.Name nm pn) (tVar i)) (hi : ρ[i]? = some (.pool p g)) : PE X (.Subscript (.Name nm pn) (.Constant (.int 2) j0 p0) pos) (TEx ρ rI fun P => ∀ x : Int, P x) := by
  refine pe_imp (pe_ix ix_list hv pe_int (fun _ _ => rfl)) fun σ H Q ⟨G, P, s, ev, pp, c⟩ => ?_
  obtain ⟨hσ, _, _, _, sm, cc, m, gs, ns, h4, h5, h6, h7⟩ := pool_get hi ev
  exact ⟨.ref p, hσ, p, _, 2, .int cc, rfl, rfl, SqL.of h4, rfl, c.go s ev (pp cc) rfl⟩
theorem pr_plD {j0} (hv : PE X (.Name nm pn) (tVar i)) (hi : ρ[i]? = some (.pool p g)) : PE X (.Subscript (.Name nm pn) (.Constant (.int 3) j0 p0) pos) (TEx ρ rI fun P => ∀ x : Int, P x) := by
  refine pe_imp (pe_ix ix_list hv pe_int (fun _ _ => rfl)) fun σ H Q ⟨G, P, s, ev, pp, c⟩ => ?_
  obtain ⟨hσ, _, _, _, sm, cc, m, gs, ns, h4, h5, h6, h7⟩ := pool_get hi ev
  exact ⟨.ref p, hσ, p, _, 3, .int m, rfl, rfl, SqL.of h4, rfl, c.go s ev (pp m) rfl⟩
/-- pool[2] += 1 -/
theorem b_plAug {j0 j1} {sp p1 : Pos} {m : W (Out τ ℓ β)} (hv : PE X (.Name nm pn) (tVar i)) (hi : ρ[i]? = some (.pool p g)) (hr : PSs X rest (TBO ρ post lp R m)) (hone : pls ρ = [(p, g)] := by rfl) :
    PSs X (.AugAssign (.Subscript (.Name nm pn) (.Constant (.int 2) j0 p0) sp) .Add (.Constant (.int 1) j1 p1) pos :: rest) (TBO ρ post lp R m) := by
  refine pss_imp (pss_cons (ps_augS hv pe_int get_list pe_int ip_add set_list) hr) fun D σ H ⟨G, P, s, ev, pp, c⟩ => ?_
  obtain ⟨hσ, h1, h2, h3, sm, cc, m0, gs, ns, h4, h5, h6, h7⟩ := pool_get hi ev
  have hn : PoolAt G (upd H p (.lst [.ref g.1, .ref sm, .int (cc + 1), .int m0])) p g := ⟨h1, h2, h3, sm, cc + 1, m0, gs, ns, upd_same, by rw [upd_ne (Ne.symm h3)]; exact h5, h6, h7⟩
  obtain ⟨st, e2⟩ := pool_upd hi hone ev s (.inl rfl) hn
  exact ⟨.ref p, hσ, p, _, 2, .int cc, rfl, rfl, SqL.of h4, rfl, cc, 1, rfl, rfl, p, _, 2, 2, rfl, rfl, h4, rfl, G, P, st.gh, e2, pp, c.step (st.wide fun a ha => padr_sub ha) (fun b hb => .inl hb) fun q hq => hq⟩
/-- pool[3] = e -/
theorem b_plSet {j0} {sp : Pos} {e : Expr} {w : W Int} {m : W (Out τ ℓ β)} (hv : PE X (.Name nm pn) (tVar i)) (hi : ρ[i]? = some (.pool p g)) (h : PE X e (TEx ρ rI w)) (hr : PSs X rest (TBO ρ post lp R m)) (hone : pls ρ = [(p, g)] := by rfl)
    (ha : ∀ v, assign (.Subscript (.Name nm pn) (.Constant (.int 3) j0 p0) sp) X.env v = (do
      let ov ← holding [v] (eval (.Name nm pn) X.env)
      let iv ← holding [v, ov] (eval (.Constant (.int 3) j0 p0) X.env)
      standAt sp
      holding [v, ov, iv] (setItem ov iv v)
      release [v, ov, iv] []) := by intro _; rfl)
    (hs : swapsWithSole [.Subscript (.Name nm pn) (.Constant (.int 3) j0 p0) sp] e pos.line X.env = pure false := by rfl) (hw : swappedStores [.Subscript (.Name nm pn) (.Constant (.int 3) j0 p0) sp] e X.env = pure none := by rfl) (h1 : (assignEach [.Subscript (.Name nm pn) (.Constant (.int 3) j0 p0) sp] X.env).map (·.2) = [assign (.Subscript (.Name nm pn) (.Constant (.int 3) j0 p0) sp) X.env] := by rfl) :
    PSs X (.Assign [.Subscript (.Name nm pn) (.Constant (.int 3) j0 p0) sp] e pos :: rest) (TBO ρ post lp R fun P => w fun _ => m P) := by
  refine pss_imp (pss_cons (ps_asg h (pg_sub hv pe_int set_list ha) hs hw h1) hr) fun D σ H ⟨G, P, s, ev, pp, c⟩ => ⟨G, _, s, ev, pp, fun G1 H1 v z st e1 pz rz => ?_⟩
  have rz' : v = .int z := rz
  subst rz'
  obtain ⟨hσ, h1, h2, h3, sm, cc, m0, gs, ns, h4, h5, h6, h7⟩ := pool_get hi e1
  have hn : PoolAt G1 (upd H1 p (.lst [.ref g.1, .ref sm, .int cc, .int z])) p g := ⟨h1, h2, h3, sm, cc, z, gs, ns, upd_same, by rw [upd_ne (Ne.symm h3)]; exact h5, h6, h7⟩
  obtain ⟨st2, e2⟩ := pool_upd hi hone e1 st.gh (.inl rfl) hn
  exact ⟨.ref p, hσ, p, _, 3, 3, rfl, rfl, h4, rfl, G1, P, st2.gh, e2, pz, c.step ((st.trans st2).wide fun a ha => padr_sub ha) (fun b hb => .inl hb) fun q hq => hq⟩
/-- while great != [] and great[0] == 0: great.pop(0) -/
theorem b_plWhile {j : Nat} {c : Expr} {body : List Stmt} {m : W (Out τ ℓ β)} (hi : ρ[i]? = some (.pool p g)) (hj : ρ[j]? = some (.fr (rV (.ref g.1)) ()))
    (hc : PT X c (tAnd (tTest (tOp (rNeP X.K) (tVar j) (tLst tNil))) (tTest (tOp (rEqP X.K) (tOp (rIxL X.K) (tVar j) (tC (.int 0))) (tC (.int 0))))))
    (hb : PSs X body (tDrop (tBM X.K "list" rPopAt (tVar j) (tCons (tC (.int 0)) tNil)))) (hr : PSs X rest (TBO ρ post lp R m)) (hone : pls ρ = [(p, g)] := by rfl) (ho : PassesOwn (model X.prog X.w) X.A X.env X.xe := by exact PassesOwn.never) :
    PSs X (.While c body [] pos :: rest) (TBO ρ post lp R m) := by
  refine pss_imp (pss_cons (ps_while ho hc hb) hr) fun D σ H ⟨G, P, s, ev, pp, ct⟩ => ?_
  refine ⟨fun n σ' H' => ∃ G', Step (adrs ρ) G H G' H' ∧ EnvOk ρ G' H' σ' ∧ ∃ gs : List Int, H' g.1 = some (.lst (gs.map V.int)) ∧ n = gs.length, ?_, ?_⟩
  · obtain ⟨_, _, _, _, sm, cc, m0, gs, ns, h4, h5, _⟩ := pool_get hi ev
    exact ⟨gs.length, G, Step.refl s, ev, gs, h5, rfl⟩
  rintro n σ' H' ⟨G', st, e1, gs, hg, rfl⟩
  obtain ⟨_, h1, h2, h3, sm, cc, m0, gs', ns, h4, h5, h6, h7, h8, h9⟩ := pool_get hi e1
  have hσ := ref_get hj e1
  refine ⟨.ref g.1, hσ, Nat.zero_le _, fun q hq => ?_⟩
  have s1 : Step [] G' H' G' (upd H' q (.lst [])) := Step.lay st.gh hq
  have ev1 := e1.step0 s1
  have hg1 : (upd H' q (.lst [])) g.1 = some (.lst (gs.map V.int)) := s1.keep _ _ hg (by simp)
  refine ⟨.list (gs.map .int), .list [], .lst (SqL.of hg1) (dInts gs), .lst (SqL.of upd_same) .nil, plInts gs, rfl, by have := deInts gs; show PyData.depthAll _ + 1 ≤ 64; omega, ?_⟩
  refine ⟨_, rfl, ?_⟩
  cases gs with
  | nil => exact ⟨G', P, s1.gh, ev1, pp, ct.step (st.trans s1.of0) (fun b hb => .inl hb) fun q hq => hq⟩
  | cons z zs =>
    refine ⟨.ref g.1, hσ, g.1, _, 0, .int z, rfl, rfl, SqL.of hg1, at0 _ _, .int z, .int 0, .int z, .int 0, rfl, rfl, Nat.zero_le _, _, rfl, ?_⟩
    cases hb : PyData.eqv (.int z) (.int 0) with
    | false => exact ⟨G', P, s1.gh, ev1, pp, ct.step (st.trans s1.of0) (fun b hb => .inl hb) fun q hq => hq⟩
    | true =>
      refine ⟨fun σ'' H'' => σ'' = σ' ∧ H'' = upd (upd H' q (.lst [])) g.1 (.lst (zs.map V.int)), ?_, ?_⟩
      · rintro _ _ ⟨rfl, rfl⟩
        obtain ⟨_, k1, k2, k3, sm', cc', m1, gs2, ns2, k4, k5, k6, k7, k8, k9⟩ := pool_get hi ev1
        have hl : gs2.length = zs.length + 1 := by
          rw [hg1] at k5
          have := congrArg (fun o => match o with | some (HO.lst l) => l.length | _ => 0) k5
          simpa using this.symm
        have hn : PoolAt G' (upd (upd H' q (.lst [])) g.1 (.lst (zs.map V.int))) p g := ⟨k1, k2, k3, sm', cc', m1, zs, ns2, by rw [upd_ne k3]; exact k4, upd_same, k6, k7, k8, by omega, k9.2⟩
        obtain ⟨st2, e2⟩ := pool_upd hi hone ev1 s1.gh (.inr rfl) hn
        exact ⟨zs.length, by simp, G', (st.trans s1.of0).trans (st2.wide fun a ha => padr_sub ha), e2, zs, upd_same, rfl⟩
      · exact ⟨.ref g.1, hσ, .inl ⟨rfl, _, SqL.of hg1⟩, g.1, _, 0, 0, .int z, rfl, rfl, hg1, by decide, by decide, by simp [seqIndex?], rfl, rfl, rfl⟩
def rIntB : List V → Hp → VK → Prop := fun xs H Q => (∃ i, xs = [.int i] ∧ Q (.int i) H) ∨ ∃ k, xs = [.bl k] ∧ Q (.int (if k then 1 else 0)) H
/-- if great != []: digit = int(great[0]) % many; great[0] = great[0] // many; return digit -/
theorem b_plIf {jm jg jd : Nat} {n : Int} {c : Expr} {body : List Stmt} {m : W (Out τ ℓ Int)} (hi : ρ[i]? = some (.pool p g)) (hj : ρ[jg]? = some (.fr (rV (.ref g.1)) ())) (hm : ρ[jm]? = some (.fr rI n)) (hd1 : jg ≠ jd) (hd2 : jm ≠ jd) (hd3 : jd < ρ.length)
    (hc : PT X c (tTest (tOp (rNeP X.K) (tVar jg) (tLst tNil))))
    (hb : PSs X body (tSeq (tAsg (tOp (L2.rI (fun _ j => j ≠ 0) fun i j => .int (i.fmod j)) (tCB rIntB (tCons (tOp (rIxL X.K) (tVar jg) (tC (.int 0))) tNil)) (tVar jm)) (gName jd))
      (tSeq (tAsg (tOp (L2.rI CDivN fun i j => .int (i.fdiv j)) (tOp (rIxL X.K) (tVar jg) (tC (.int 0))) (tVar jm)) (gSub (tVar jg) (tC (.int 0)) rSetL)) (tRet (tVar jd)))))
    (hr : PSs X rest (TBO ρ post lp rI m)) (hone : pls ρ = [(p, g)] := by rfl) :
    PSs X (.If c body [] pos :: rest) (TBO ρ post lp rI fun P => ((0 < n ∧ n < 1000000) ∧ ∀ r, 0 ≤ r → r < n → P (.rt r)) ∧ m P) := by
  refine pss_imp (pss_cons (ps_if hc hb pss_nil) hr) fun D σ H ⟨G, P, s, ev, ⟨⟨⟨n0, n1⟩, hP⟩, pp⟩, ct⟩ => ?_
  obtain ⟨_, h1, h2, h3, sm, cc, m0, gs, ns, h4, h5, h6, h7, h8, h9⟩ := pool_get hi ev
  have hσ := ref_get hj ev
  have hσm := int_get hm ev
  refine ⟨.ref g.1, hσ, Nat.zero_le _, fun q hq => ?_⟩
  have s1 : Step [] G H G (upd H q (.lst [])) := Step.lay s hq
  have ev1 := ev.step0 s1
  have hg1 : (upd H q (.lst [])) g.1 = some (.lst (gs.map V.int)) := s1.keep _ _ h5 (by simp)
  refine ⟨.list (gs.map .int), .list [], .lst (SqL.of hg1) (dInts gs), .lst (SqL.of upd_same) .nil, plInts gs, rfl, by have := deInts gs; show PyData.depthAll _ + 1 ≤ 64; omega, ?_⟩
  refine ⟨_, rfl, ?_⟩
  cases gs with
  | nil => exact ⟨G, P, s1.gh, ev1, pp, ct.step s1.of0 (fun b hb => .inl hb) fun q hq => hq⟩
  | cons z zs =>
    refine ⟨.ref g.1, hσ, g.1, _, 0, .int z, rfl, rfl, SqL.of hg1, at0 _ _, .inl ⟨z, rfl, .int n, hσm, z, n, rfl, rfl, by omega, ?_⟩⟩
    have hl : jd < σ.length := by rw [ev.len]; exact hd3
    have g1 : (σ.set jd (some (.int (z.fmod n))))[jg]? = some (some (.ref g.1)) := by rw [List.getElem?_set_ne (Ne.symm hd1)]; exact hσ
    have g2 : (σ.set jd (some (.int (z.fmod n))))[jm]? = some (some (.int n)) := by rw [List.getElem?_set_ne (Ne.symm hd2)]; exact hσm
    have g3 : (σ.set jd (some (.int (z.fmod n))))[jd]? = some (some (.int (z.fmod n))) := List.getElem?_set_self hl
    refine ⟨.ref g.1, g1, g.1, _, 0, .int z, rfl, rfl, SqL.of hg1, at0 _ _, .int n, g2, z, n, rfl, rfl, ⟨by omega, by omega⟩, ?_⟩
    refine ⟨.ref g.1, g1, g.1, _, 0, 0, rfl, rfl, hg1, by rw [List.length_map]; simp [ixN], _, g3, ?_⟩
    obtain ⟨_, k1, k2, k3, sm', cc', m1, gs2, ns2, k4, k5, k6, k7, k8, k9⟩ := pool_get hi ev1
    have hn : PoolAt G (upd (upd H q (.lst [])) g.1 (.lst (((z :: zs).map V.int).set 0 (.int (z.fdiv n))))) p g := ⟨k1, k2, k3, sm', cc', m1, z.fdiv n :: zs, ns2, by rw [upd_ne k3]; exact k4, upd_same, k6, k7, k8, by simpa using h9.1, k9.2⟩
    obtain ⟨st2, e2⟩ := pool_upd hi hone ev1 s1.gh (.inr rfl) hn
    exact ct.rt (z.fmod n) G _ _ ((s1.of0).trans (st2.wide fun a ha => padr_sub ha)) e2.pools (hP _ (Int.fmod_nonneg_of_pos _ n0) (Int.fmod_lt_of_pos _ n0)) rfl
end
end SS

set_option Elab.async false
set_option linter.all false
set_option maxRecDepth 100000
/-! SSI: own rules: plain data of any kind: isinstance, len, items, ==. Own work. -/
namespace SS
open PySem PySem.Spec L2
section
variable {K : PySem.W.Frag}
def rD : Rp K PyData := ⟨fun G v d => Dp K G v d, fun e h => Dp.same e _ h⟩
def dty : PyData → String
  | .none => "NoneType"
  | .bool _ => "bool"
  | .int _ => "int"
  | .str _ => "str"
  | .list _ => "list"
  | .tuple _ => "tuple"
  | .dict _ => "dict"
def isL : PyData → Bool
  | .list _ => true
  | _ => false
def isT : PyData → Bool
  | .tuple _ => true
  | _ => false
def isBl : PyData → Bool
  | .bool _ => true
  | _ => false
def isIn : PyData → Bool
  | .int _ => true
  | .bool _ => true
  | _ => false
def isSt : PyData → Bool
  | .str _ => true
  | _ => false
def isNo : PyData → Bool
  | .none => true
  | _ => false
theorem kit_L : ∀ d, kitB (dty d) "list" = some (isL d)
  | .none => by show kitB "NoneType" "list" = some false; decide +kernel
  | .bool _ => by show kitB "bool" "list" = some false; decide +kernel
  | .int _ => by show kitB "int" "list" = some false; decide +kernel
  | .str _ => by show kitB "str" "list" = some false; decide +kernel
  | .list _ => by show kitB "list" "list" = some true; decide +kernel
  | .tuple _ => by show kitB "tuple" "list" = some false; decide +kernel
  | .dict _ => by show kitB "dict" "list" = some false; decide +kernel
theorem kit_T : ∀ d, kitB (dty d) "tuple" = some (isT d)
  | .none => by show kitB "NoneType" "tuple" = some false; decide +kernel
  | .bool _ => by show kitB "bool" "tuple" = some false; decide +kernel
  | .int _ => by show kitB "int" "tuple" = some false; decide +kernel
  | .str _ => by show kitB "str" "tuple" = some false; decide +kernel
  | .list _ => by show kitB "list" "tuple" = some false; decide +kernel
  | .tuple _ => by show kitB "tuple" "tuple" = some true; decide +kernel
  | .dict _ => by show kitB "dict" "tuple" = some false; decide +kernel
theorem kit_Bl : ∀ d, kitB (dty d) "bool" = some (isBl d)
  | .none => by show kitB "NoneType" "bool" = some false; decide +kernel
  | .bool _ => by show kitB "bool" "bool" = some true; decide +kernel
  | .int _ => by show kitB "int" "bool" = some false; decide +kernel
  | .str _ => by show kitB "str" "bool" = some false; decide +kernel
  | .list _ => by show kitB "list" "bool" = some false; decide +kernel
  | .tuple _ => by show kitB "tuple" "bool" = some false; decide +kernel
  | .dict _ => by show kitB "dict" "bool" = some false; decide +kernel
theorem kit_In : ∀ d, kitB (dty d) "int" = some (isIn d)
  | .none => by show kitB "NoneType" "int" = some false; decide +kernel
  | .bool _ => by show kitB "bool" "int" = some true; decide +kernel
  | .int _ => by show kitB "int" "int" = some true; decide +kernel
  | .str _ => by show kitB "str" "int" = some false; decide +kernel
  | .list _ => by show kitB "list" "int" = some false; decide +kernel
  | .tuple _ => by show kitB "tuple" "int" = some false; decide +kernel
  | .dict _ => by show kitB "dict" "int" = some false; decide +kernel
theorem kit_St : ∀ d, kitB (dty d) "str" = some (isSt d)
  | .none => by show kitB "NoneType" "str" = some false; decide +kernel
  | .bool _ => by show kitB "bool" "str" = some false; decide +kernel
  | .int _ => by show kitB "int" "str" = some false; decide +kernel
  | .str _ => by show kitB "str" "str" = some true; decide +kernel
  | .list _ => by show kitB "list" "str" = some false; decide +kernel
  | .tuple _ => by show kitB "tuple" "str" = some false; decide +kernel
  | .dict _ => by show kitB "dict" "str" = some false; decide +kernel
theorem tyx {H : Hp} {v : V} {d : PyData} (h : Dp K H v d) : TyX K H v (.type (dty d)) := by
  cases h with
  | non => exact .base .non
  | bl b => exact .base (.bl b)
  | int i => exact .base (.int i)
  | str x => exact .base (.str x)
  | lst h1 h2 =>
    rcases h1 with (h1 | ⟨o, h1⟩) | ⟨o, its, n, h1, h2, _⟩
    · exact .base (.lst h1)
    · exact .base (.frz h1)
    · exact .kList h1 h2
  | tup h1 h2 =>
    rcases h1 with (h1 | ⟨o, h1⟩) | ⟨o, its, n, h1, h2, _⟩
    · exact .base (.tup h1)
    · exact .fTuple h1
    · exact .kTuple h1 h2
theorem dpAll_len {H : Hp} : ∀ {vs : List V} {ds : List PyData}, DpAll K H vs ds → vs.length = ds.length
  | _, _, .nil => rfl
  | _, _, .cons _ t => congrArg (· + 1) (dpAll_len t)
theorem dpAll_at {H : Hp} : ∀ {vs : List V} {ds : List PyData}, DpAll K H vs ds → ∀ {i : Nat} {d : PyData}, ds[i]? = some d → ∃ v, vs[i]? = some v ∧ Dp K H v d
  | _, _, .nil, i, d, h => by simp at h
  | _, _, .cons r t, 0, d, h => by simp at h; subst h; exact ⟨_, rfl, r⟩
  | _, _, .cons r t, i + 1, d, h => by
    obtain ⟨v, e, q⟩ := dpAll_at t (i := i) (by simpa using h)
    exact ⟨v, by simpa using e, q⟩
theorem dpAll_atI {H : Hp} {vs : List V} {ds : List PyData} {i : Int} {d : PyData} (p : DpAll K H vs ds) (h : atI ds i = some d) : ∃ v, atI vs i = some v ∧ Dp K H v d := by
  unfold atI at h ⊢
  rw [dpAll_len p]
  cases q : ixN ds.length i with
  | none => rw [q] at h; cases h
  | some j =>
    rw [q] at h
    obtain ⟨v, e, r⟩ := dpAll_at p (show ds[j]? = some d from h)
    exact ⟨v, e, r⟩
theorem rc_lenD : RCOk (fun xs H Q => ∃ p ys, xs = [.ref p] ∧ (SqL K H p ys ∨ SqT K H p ys) ∧ Q (.int ys.length) H) (fs1 (rD : Rp K PyData)) (rI : Rp K Int) (fun d P => ∃ ds, (d = .list ds ∨ d = .tuple ds) ∧ P (ds.length : Int)) := fun G H vs x P Q s ⟨v, h, r⟩ ⟨ds, e, p⟩ k => by
  subst h
  have r' : Dp K G v x := r
  rcases e with e | e
  · subst e
    cases r' with
    | lst h1 h2 => exact ⟨_, _, rfl, .inl (Same.seq s h1), k G H _ _ (Step.refl s) p (by rw [dpAll_len h2]; rfl)⟩
  · subst e
    cases r' with
    | tup h1 h2 => exact ⟨_, _, rfl, .inr (same_t s h1), k G H _ _ (Step.refl s) p (by rw [dpAll_len h2]; rfl)⟩
theorem r2_ixD : R2Ok (fun x y H Q => rIxL K x y H Q ∨ rIxT K x y H Q) (rD : Rp K PyData) (rI : Rp K Int) (rD : Rp K PyData) (fun d i P => ∃ ds e, (d = .list ds ∨ d = .tuple ds) ∧ atI ds i = some e ∧ P e) := fun G H v u x i P Q s r h4 ⟨ds, d, e, ha, p⟩ k => by
  have r' : Dp K G v x := r
  rcases e with e | e
  · subst e
    cases r' with
    | lst h1 h2 =>
      obtain ⟨w, e2, rw2⟩ := dpAll_atI h2 ha
      exact .inl ⟨_, _, i, w, rfl, h4, Same.seq s h1, e2, k G H w d (Step.refl s) p rw2⟩
  · subst e
    cases r' with
    | tup h1 h2 =>
      obtain ⟨w, e2, rw2⟩ := dpAll_atI h2 ha
      exact .inr ⟨_, _, i, w, rfl, h4, same_t s h1, e2, k G H w d (Step.refl s) p rw2⟩
theorem r2_eqD : R2Ok (rEqP K) (rD : Rp K PyData) (rD : Rp K PyData) (rB : Rp K Bool) (fun d e P => (d.plain = true ∧ e.plain = true ∧ d.depth ≤ 64) ∧ P (PyData.eqv d e)) := fun G H v u x y P Q s h1 h2 ⟨⟨p1, p2, p3⟩, p⟩ k =>
  ⟨x, y, Dp.same s _ h1, Dp.same s _ h2, p1, p2, p3, k G H _ _ (Step.refl s) p rfl⟩
theorem r2_isND : R2Ok (fun x y H Q => y = .non ∧ Q (.bl (decide (x = .non))) H) (rD : Rp K PyData) (rN : Rp K Unit) (rB : Rp K Bool) (fun d _ P => P (isNo d)) := fun G H v u x y P Q s h1 h2 p k => by
  refine ⟨h2, ?_⟩
  have r' : Dp K G v x := h1
  cases r' with
  | non => rw [decide_eq_true rfl]; exact k G H _ true (Step.refl s) p rfl
  | bl b => rw [decide_eq_false (fun z => by cases z)]; exact k G H _ false (Step.refl s) p rfl
  | int i => rw [decide_eq_false (fun z => by cases z)]; exact k G H _ false (Step.refl s) p rfl
  | str x => rw [decide_eq_false (fun z => by cases z)]; exact k G H _ false (Step.refl s) p rfl
  | lst _ _ => rw [decide_eq_false (fun z => by cases z)]; exact k G H _ false (Step.refl s) p rfl
  | tup _ _ => rw [decide_eq_false (fun z => by cases z)]; exact k G H _ false (Step.refl s) p rfl
end
section
variable {X : Cx} {K : PySem.W.Frag} [HK X K] {α β γ : Type} {ρ : List (En K)} {e : Expr} {pos : Pos}
def rIsiD (K : PySem.W.Frag) (T : String) (f : PyData → Bool) : List V → Hp → VK → Prop := fun xs H Q => ∃ v d, xs = [v, .ty T] ∧ Dp K H v d ∧ Q (.bl (f d)) H
theorem call_isiD {T : String} {f : PyData → Bool} (hf : ∀ d, kitB (dty d) T = some (f d)) : CallR X (.builtin "isinstance") (rIsiD X.K T f) := by
  intro pins s σ H xs us Q I r ⟨v, d, h, hd, q⟩
  exact call_isi pins s σ H xs us Q I r ⟨_, _, _, _, f d, h, .ty T, tyx hd, kit_ty (hf d), q⟩
/-- isinstance(x, T) of data -/
theorem pr_isiD {T : String} {nT : Str} {f : PyData → Bool} {p p2 : Pos} {w : W PyData} (hf : ∀ d, kitB (dty d) T = some (f d)) (hm : X.mg "isinstance" = none) (hm2 : X.mg nT = none) (h : PE X e (TEx ρ rD w)) (hbT : bootBuiltins nT = some (.type T)) (hg : Gl X "isinstance" := by rfl) (hg2 : Gl X nT := by rfl)
    (hn : nT ≠ "__name__" := by decide) (hdb : (nT == ("__debug__" : Str)) = false := by decide)
    (hs : starEach [e, .Name nT p2] X.env = (false, eval e X.env) :: starEach [.Name nT p2] X.env := by rfl) (hs2 : starEach [.Name nT p2] X.env = (false, eval (.Name nT p2) X.env) :: starEach [] X.env := by rfl)
    (hpl : (backTo pos (starEach [.Name nT p2] X.env)).any (·.1) = false := by rfl) :
    PE X (.Call (.Name "isinstance" p) [e, .Name nT p2] [] pos) (TEx ρ rB fun P => w fun d => P (f d)) := by
  have hK : X.K = K := HK.eq
  subst hK
  exact pe_imp (pe_callB (call_isiD hf) hg hm (by decide +kernel) (pa_cons h (pa_cons (pe_bltn (v := .ty T) hg2 hm2 hbT rfl hn hdb) pa_nil hs2) hs) (by decide) (by decide) hs hpl)
    fun σ H Q ⟨G, P, s, ev, pp, c⟩ => ⟨G, _, s, ev, pp, fun G1 H1 v a st e1 pa ra => ⟨v, a, rfl, Dp.same st.gh _ ra, c G1 H1 _ _ st e1 pa rfl⟩⟩
/-- isinstance(x, (list, tuple)) of data -/
theorem pr_isiLT {p p2 p3 pt : Pos} {k0 : Nat} {w : W PyData} (hm : X.mg "isinstance" = none) (hm2 : X.mg "list" = none) (hm3 : X.mg "tuple" = none) (h : PE X e (TEx ρ rD w)) (hg : Gl X "isinstance" := by rfl) (hg2 : Gl X "list" := by rfl) (hg3 : Gl X "tuple" := by rfl)
    (hs : starEach [e, .Tuple [.Name "list" p2, .Name "tuple" p3] k0 pt] X.env = (false, eval e X.env) :: starEach [.Tuple [.Name "list" p2, .Name "tuple" p3] k0 pt] X.env := by rfl) (hs2 : starEach [.Tuple [.Name "list" p2, .Name "tuple" p3] k0 pt] X.env = (false, eval (.Tuple [.Name "list" p2, .Name "tuple" p3] k0 pt) X.env) :: starEach [] X.env := by rfl)
    (hs3 : starEach [.Name "list" p2, .Name "tuple" p3] X.env = (false, eval (.Name "list" p2) X.env) :: starEach [.Name "tuple" p3] X.env := by rfl) (hs4 : starEach [.Name "tuple" p3] X.env = (false, eval (.Name "tuple" p3) X.env) :: starEach [] X.env := by rfl)
    (hpl : (backTo pos (starEach [.Tuple [.Name "list" p2, .Name "tuple" p3] k0 pt] X.env)).any (·.1) = false := by rfl) :
    PE X (.Call (.Name "isinstance" p) [e, .Tuple [.Name "list" p2, .Name "tuple" p3] k0 pt] [] pos) (TEx ρ rB fun P => w fun d => P (isL d || isT d)) := by
  have hK : X.K = K := HK.eq
  subst hK
  refine pe_imp (pe_callB call_isiT hg hm (by decide +kernel) (pa_cons h (pa_cons (pe_tup (pa_cons (pe_bltn (v := .ty "list") hg2 hm2 (by decide +kernel) rfl) (pa_cons (pe_bltn (v := .ty "tuple") hg3 hm3 (by decide +kernel) rfl) pa_nil hs4) hs3)) pa_nil hs2) hs) (by decide) (by decide) hs hpl)
    fun σ H Q ⟨G, P, s, ev, pp, c⟩ => ⟨G, _, s, ev, pp, fun G1 H1 v d st e1 pa ra => ?_⟩
  refine ⟨by have := szl; show 2 ≤ sizeLine; omega, fun q hq => ?_⟩
  have s1 : Step [] G1 H1 G1 (upd H1 q (.tup [.ty "list", .ty "tuple"])) := Step.lay st.gh hq
  refine ⟨v, q, [.ty "list", .ty "tuple"], _, [.type "list", .type "tuple"], isL d || isT d, rfl, upd_same, .cons (.ty "list") (.cons (.ty "tuple") .nil), tyx (Dp.same s1.gh _ (Dp.same s1.gg _ ra)), ?_, c _ _ _ _ (st.trans s1.of0) (e1.step0 s1) pa rfl⟩
  refine kitAny_cons (kit_ty (kit_L d)) (fun hL => kitAny_cons (kit_ty (kit_T d)) (fun hT => by rw [hL, hT]; rfl) fun hT => by rw [hT]; simp) fun hL => by rw [hL]; rfl
end
/-- data not too deep nor too wide -/
def Fit : Nat → PyData → Prop
  | 0, _ => False
  | n + 1, .list ds => ds.length ≤ 1000 ∧ ∀ e ∈ ds, Fit n e
  | n + 1, .tuple ds => ds.length ≤ 1000 ∧ ∀ e ∈ ds, Fit n e
  | _ + 1, .dict _ => False
  | _ + 1, _ => True
theorem just_row {d : PyData} {ds : List PyData} {n : Nat} {Q : Bool → Prop} (hd : d = .list ds ∨ d = .tuple ds) (hl : ds.length ≤ 1000) (hf : ∀ e ∈ ds, Fit n e) (h : Q true) :
    ∃ ds, (d = PyData.list ds ∨ d = PyData.tuple ds) ∧ ∃ ds_1, (d = PyData.list ds_1 ∨ d = PyData.tuple ds_1) ∧
      if decide ((ds.length : Int) = (ds_1.length : Int)) = true then
        ∃ ds, (d = PyData.list ds ∨ d = PyData.tuple ds) ∧ ((ds.length : Int) < 1000000 ∧ -1000000 < (ds.length : Int)) ∧
          lcW (rng 0 ((ds.length : Int)).toNat) (fun _ P => P true) (fun x P => ∃ ds e, (d = PyData.list ds ∨ d = PyData.tuple ds) ∧ atI ds x = some e ∧
            ∃ ds e_1, (d = PyData.list ds ∨ d = PyData.tuple ds) ∧ atI ds x = some e_1 ∧ (e = e_1 ∧ Fit n e) ∧ P true) fun x => Q (x.all id)
      else Q false := by
  refine ⟨ds, hd, ds, hd, ?_⟩
  rw [if_pos (decide_eq_true rfl)]
  refine ⟨ds, hd, ⟨by omega, by omega⟩, ?_⟩
  refine lcW_map1 (fun _ => true) _ (fun x hx C c => ?_) ?_
  · obtain ⟨x1, x2⟩ := MM.rng_in hx
    have hlt : x.toNat < ds.length := by omega
    have ha := MM.atI_of PyData.none x1 (show x < (ds.length : Int) by omega)
    have hm : ds.getD x.toNat PyData.none ∈ ds := by
      rw [List.getD_eq_getElem?_getD, List.getElem?_eq_getElem hlt]
      exact List.getElem_mem hlt
    exact ⟨ds, _, hd, ha, ds, _, hd, ha, ⟨rfl, hf _ hm⟩, c⟩
  · have : (List.map (fun _ : Int => true) (rng 0 ((ds.length : Int)).toNat)).all id = true := by
      rw [List.all_eq_true]
      intro b hb
      obtain ⟨_, _, e⟩ := List.mem_map.mp hb
      rw [← e]; rfl
    rw [this]
    exact h
theorem fit_int (n : Nat) (x : Int) : Fit (n + 1) (.int x) := trivial
theorem fit_str (n : Nat) (x : Str) : Fit (n + 1) (.str x) := trivial
section
variable {K : PySem.W.Frag} {α β : Type}
theorem fit_L {R : Rp K α} {e : Eqp R} {n : Nat} {xs : List α} (h : xs.length ≤ 1000) (hf : ∀ x ∈ xs, Fit n (e.enc x)) : Fit (n + 1) ((eqL e).enc xs) := ⟨by rw [List.length_map]; exact h, fun d hd => by
  obtain ⟨x, hx, ex⟩ := List.mem_map.mp hd
  rw [← ex]; exact hf x hx⟩
theorem fit_I {n : Nat} {x : Int} : Fit (n + 1) ((eqI : Eqp (rI : Rp K Int)).enc x) := trivial
theorem fit_S {n : Nat} {x : Str} : Fit (n + 1) ((eqS : Eqp (rS : Rp K Str)).enc x) := trivial
theorem fit_O {R : Rp K α} {e : Eqp R} {en : EqNn e} {n : Nat} {o : Option α} (h : ∀ x, o = some x → Fit (n + 1) (e.enc x)) : Fit (n + 1) ((eqO e en).enc o) := by
  cases o with
  | none => exact trivial
  | some x => exact h x rfl
theorem fit_T {F : Fs K α} {f : EqF F} {n : Nat} {x : α} (h : (f.enc x).length ≤ 1000 ∧ ∀ d ∈ f.enc x, Fit n d) : Fit (n + 1) ((eqT f).enc x) := h
theorem fit_1 {R : Rp K α} {e : Eqp R} {n : Nat} {x : α} (h : Fit n (e.enc x)) : ((eqf1 e).enc x).length ≤ 1 ∧ ∀ d ∈ (eqf1 e).enc x, Fit n d := ⟨Nat.le_refl _, fun d hd => by rw [List.mem_singleton.mp hd]; exact h⟩
theorem fit_C {R : Rp K α} {F : Fs K β} {e : Eqp R} {f : EqF F} {n k : Nat} {x : α × β} (h : Fit n (e.enc x.1)) (hf : (f.enc x.2).length ≤ k ∧ ∀ d ∈ f.enc x.2, Fit n d) : ((eqfC e f).enc x).length ≤ k + 1 ∧ ∀ d ∈ (eqfC e f).enc x, Fit n d := ⟨Nat.succ_le_succ hf.1, fun d hd => by
  rcases List.mem_cons.mp hd with z | z
  · rw [z]; exact h
  · exact hf.2 d z⟩
theorem fit_of {k : Nat} {n : Nat} {ds : List PyData} (h : ds.length ≤ k ∧ ∀ d ∈ ds, Fit n d) (hk : k ≤ 1000) : ds.length ≤ 1000 ∧ ∀ d ∈ ds, Fit n d := ⟨Nat.le_trans h.1 hk, h.2⟩
end
end SS

set_option Elab.async false
set_option linter.all false
set_option maxRecDepth 100000
/-! SSJ: own rules: a slice from the front, abs, the pool when it is new. Own work. -/
namespace SS
open PySem PySem.Spec L2
theorem cut_take {vs : List V} {n : Int} (h : 0 ≤ n) : cutV vs none (some n) = vs.take n.toNat := by
  unfold cutV
  obtain ⟨k, rfl⟩ := Int.eq_ofNat_of_zero_le h
  rw [HT.sIx_none, HT.sIx_nat]
  simp only [List.drop_zero, Nat.sub_zero, Int.toNat_natCast]
  rw [List.take_eq_take_iff]
  omega
section
variable {X : Cx} {K : PySem.W.Frag} [HK X K] {α β τ ℓ : Type} {ρ : List (En K)} {R : Rp K α} {e : Expr} {pos p2 p3 : Pos}
theorem pr_slc {n : Int} {j0} {w : W (List α)} (h : PE X e (TEx ρ (rL R) w)) (hn : 0 ≤ n := by decide) : PE X (.Subscript e (.Slice none (some (.Constant (.int n) j0 p3)) none p2) pos) (TEL ρ R fun P => w fun xs => P (xs.take n.toNat)) := by
  have hK : X.K = K := HK.eq
  subst hK
  refine pe_imp (pe_slice sl_list h po_none (po_some pe_int)) fun σ H Q ⟨G, P, s, ev, pp, c⟩ => ⟨G, _, s, ev, pp, fun G1 H1 v xs st e1 pa ⟨a, vs, h1, h2, h3, h4⟩ => ?_⟩
  refine ⟨n, rfl, a, vs, h1, Same.seq st.gh h2, fun p hp => ?_⟩
  have s1 : Step [] G1 H1 G1 (upd H1 p (.lst (cutV vs none (some n)))) := Step.lay st.gh hp
  have hp0 : H p = none := EnvOk.freshIn st e1 hp
  have hpG : G1 p = none := st.gh.free hp
  refine c G1 _ p _ _ (st.trans s1.of0) (e1.step0 s1) pa hp0 hpG upd_same ?_ ?_
  · rw [cut_take hn]
    exact paired_take _ h3
  · exact Nat.le_trans (cutV_length _ _ _) h4
theorem rc_abs : RCOk (fun xs H Q => ∃ i, xs = [.int i] ∧ Q (.int (if i < 0 then -i else i)) H) (fs1 (rI : Rp K Int)) (rI : Rp K Int) (fun x P => P (if x < 0 then -x else x)) := fun G H vs x P Q s ⟨v, h, q⟩ p k => by
  have e : v = V.int x := q
  subst e
  exact ⟨x, h, k G H _ _ (Step.refl s) p rfl⟩
end
section
variable {K : PySem.W.Frag} {α : Type}
/-- .. and the heap at the start stands in the ghost -/
def rW (H0 : Hp) (R : Rp K α) : Rp K α := ⟨fun G v x => R.ok G v x ∧ Same H0 G, fun e h => ⟨R.mono e h.1, h.2.trans e⟩⟩
/-- a pool, laid since H0, all frozen -/
def rPl (H0 : Hp) : Rp K Unit := ⟨fun G v _ => ∃ (p g s : Addr) (c m : Int) (gs ns : List Int), v = .ref p ∧ H0 p = none ∧ H0 g = none ∧ H0 s = none ∧ p ≠ g ∧ s ≠ p ∧ s ≠ g ∧ G p = some (.lst [.ref g, .ref s, .int c, .int m]) ∧ G g = some (.lst (gs.map V.int)) ∧
  G s = some (.lst (ns.map V.int)) ∧ ns ≠ [] ∧ ns.length ≤ 1000 ∧ gs.length ≤ 1000,
  fun e ⟨p, g, s, c, m, gs, ns, h0, h1, h2, h3, h4, h5, h6, h7, h8, h9, h10⟩ => ⟨p, g, s, c, m, gs, ns, h0, h1, h2, h3, h4, h5, h6, e _ _ h7, e _ _ h8, e _ _ h9, h10⟩⟩
theorem ints_of {G : Hp} : ∀ {vs : List V} {xs : List Int}, Paired ((rI : Rp K Int).ok G) vs xs → vs = xs.map V.int
  | _, _, .nil => rfl
  | _, _, .cons r t => by rw [List.map_cons, ← ints_of t]; congr 1
end
section
variable {X : Cx} {K : PySem.W.Frag} [HK X K] {α τ ℓ : Type} {ρ : List (En K)} {post : τ → List (En K)} {lp : ℓ → List (En K)} {rest : List Stmt} {e : Expr} {pos : Pos}
/-- return [great, small + [7], 0, 1] -/
theorem b_retPl {H0 : Hp} {R0 : Rp K α} {x0 : α} {iw ig is : Nat} {g s0 : Addr} {gs ns : List Int} (hw : ρ[iw]? = some (.fr (rW H0 R0) x0)) (hg : ρ[ig]? = some (.own g rI gs)) (hs : ρ[is]? = some (.own s0 rI ns)) (hpl : pls ρ = [])
    (h : PE X e (tLst (tCons (tVar ig) (tCons (tOp rCat (tVar is) (tLst (tCons (tC (.int 7)) tNil))) (tCons (tC (.int 0)) (tCons (tC (.int 1)) tNil)))))) :
    PSs X (.Return (some e) pos :: rest) (TBO ρ post lp (rPl H0) fun P => (gs.length ≤ 1000 ∧ ns.length < 1000) ∧ P (.rt ())) := by
  refine pss_imp (pss_cons (ps_ret h) pss_never) fun D σ H ⟨G, P, s, ev, ⟨⟨l1, l2⟩, pp⟩, ct⟩ => ?_
  obtain ⟨e1, ng, ⟨vg, k1, k2, k3⟩, mg⟩ := own_get hg ev
  obtain ⟨e2, ns0, ⟨vs, k4, k5, k6⟩, _⟩ := own_get hs ev
  have ig' := ints_of k2
  have is' := ints_of k5
  subst ig' is'
  obtain ⟨o, ho, v0, eo, _, hW⟩ := ev.ok iw _ hw
  have sz := szl
  refine ⟨.ref g, e1, .ref s0, e2, by show 1 ≤ sizeLine; omega, fun q1 hq1 => ?_⟩
  have s1 : Step [] G H G (upd H q1 (.lst [.int 7])) := Step.lay s hq1
  refine ⟨s0, q1, _, _, rfl, rfl, s1.keep _ _ k4 (by simp), upd_same, by rw [List.length_map]; show ns.length + 1 ≤ sizeLine; omega, fun q2 hq2 => ?_⟩
  have s2 : Step [] G (upd H q1 (.lst [.int 7])) (upd G q2 (.lst (ns.map V.int ++ [.int 7]))) (upd (upd H q1 (.lst [.int 7])) q2 (.lst (ns.map V.int ++ [.int 7]))) := Step.new s1.gh hq2
  refine ⟨by show 4 ≤ sizeLine; omega, fun q3 hq3 => ?_⟩
  have s3 : Step [] (upd G q2 (.lst (ns.map V.int ++ [.int 7]))) (upd (upd H q1 (.lst [.int 7])) q2 (.lst (ns.map V.int ++ [.int 7]))) (upd (upd G q2 (.lst (ns.map V.int ++ [.int 7]))) q3 (.lst [.ref g, .ref q2, .int 0, .int 1])) (upd (upd (upd H q1 (.lst [.int 7])) q2 (.lst (ns.map V.int ++ [.int 7]))) q3 (.lst [.ref g, .ref q2, .int 0, .int 1])) := Step.new s2.gh hq3
  have s13 := (s1.trans s2).trans s3
  have ng3 := s13.old _ _ k1 ng (by simp)
  have hg3 := s13.keep _ _ k1 (by simp)
  have s4 := Step.freeze (M := [g]) s13.gh (by simp) ng3 hg3
  have n23 : q2 ≠ q3 := fun z => by subst z; rw [upd_same] at hq3; cases hq3
  have f3 : G q3 = none := (s1.trans s2).gH.free hq3
  have f2 : G q2 = none := s1.gH.free hq2
  have g2 : q2 ≠ g := fun z => by subst z; rw [s1.keep _ _ k1 (by simp)] at hq2; cases hq2
  have g3 : q3 ≠ g := fun z => by subst z; rw [(s1.trans s2).keep _ _ k1 (by simp)] at hq3; cases hq3
  refine ct.rt () _ _ (.ref q3) ((s13.of0).trans (s4.wide fun a ha => by rw [mem1 ha]; exact mg)) (fun q hq => by rw [hpl] at hq; cases hq) pp ?_
  refine ⟨q3, g, q2, 0, 1, gs, ns ++ [7], rfl, hW.free f3, hW.free ng, hW.free f2, g3, n23, g2, ?_, upd_same, ?_, by simp, by simp; omega, l1⟩
  · rw [upd_ne g3, upd_same]
  · rw [upd_ne g2, upd_ne n23, upd_same, List.map_append]; rfl
end
section
variable {K : PySem.W.Frag} {α τ : Type}
/-- the promise: a new pool -/
def SpB (K : PySem.W.Frag) (most : Nat) : Sp := fun vs H Q _ => ∃ (G : Hp) (v : V) (ns : List Int), vs = [v] ∧ Same G H ∧ (rL (rI : Rp K Int)).ok G v ns ∧ ns.length ≤ most ∧ ∀ G' H' p (g : Addr × Addr), Step [] G H G' H' → H p = none → H g.1 = none → PoolAt G' H' p g → Q (.ref p) H'
theorem pool_out {G H G4 H4 : Hp} {v : V} (s : Same G H) (st : Step [] H H G4 H4) (h : (rPl H : Rp K Unit).ok G4 v ()) : ∃ (G' : Hp) (p : Addr) (g : Addr × Addr), v = .ref p ∧ Step [] G H G' H4 ∧ H p = none ∧ H g.1 = none ∧ PoolAt G' H4 p g := by
  obtain ⟨p, g, sm, c, m, gs, ns, e, h1, h2, h3, h4, h5, h6, h7, h8, h9, h10, h11, h12⟩ := h
  refine ⟨fun a => if a = p ∨ a = g then none else if H a = none then G4 a else G a, p, (g, sm), e, ⟨fun a o q => ?_, fun a o q => ?_, fun a o q _ => st.keep a o q (by simp), fun a o q n _ => ?_⟩, h1, h2, ?_⟩
  · have hq := s _ _ q
    have n1 : a ≠ p := fun z => by rw [z, h1] at hq; cases hq
    have n2 : a ≠ g := fun z => by rw [z, h2] at hq; cases hq
    show (if a = p ∨ a = g then none else if H a = none then G4 a else G a) = some o
    rw [if_neg (by simp [n1, n2]), if_neg (by rw [hq]; simp)]
    exact q
  · have q' : (if a = p ∨ a = g then none else if H a = none then G4 a else G a) = some o := q
    by_cases z : a = p ∨ a = g
    · rw [if_pos z] at q'; cases q'
    · rw [if_neg z] at q'
      by_cases y : H a = none
      · rw [if_pos y] at q'; exact st.gh _ _ q'
      · rw [if_neg y] at q'; exact st.keep _ _ (s _ _ q') (by simp)
  · have n1 : a ≠ p := fun z => by rw [z, h1] at q; cases q
    have n2 : a ≠ g := fun z => by rw [z, h2] at q; cases q
    show (if a = p ∨ a = g then none else if H a = none then G4 a else G a) = none
    rw [if_neg (by simp [n1, n2]), if_neg (by rw [q]; simp)]
    exact n
  · refine ⟨by show (if p = p ∨ p = g then none else _) = none; rw [if_pos (.inl rfl)], by show (if g = p ∨ g = g then none else _) = none; rw [if_pos (.inr rfl)], h4, sm, c, m, gs, ns, st.gh _ _ h7, st.gh _ _ h8, ?_, h10, h11, h12, rfl⟩
    show (if sm = p ∨ sm = g then none else if H sm = none then G4 sm else G sm) = some _
    rw [if_neg (by simp [h5, h6]), if_pos h3]
    exact h9
end
section
variable {P : Program} {w : World} {K : PySem.W.Frag} {mg : Str → Option Value} {base : Heap} {x qual : Str} {params : Arguments} {body : List Stmt} {sc : Scope} {f : Addr} {fd : FuncData} {N ps : List Str} {k : Nat} {τ : Type}
theorem fnok_ofB {most : Nat} {post : τ → List (En K)} {wb : Hp → List Int → W (Out τ Empty Unit)} (D : FunD K x qual params body sc [] [] f fd) (S : FnScope N ps sc) (hn : 1 = ps.length) (hl : ps.length ≤ N.length) (ρ0 : Hp → List Int → List (En K)) (h0 : ∀ H a, .fr (rW H (rL rI)) a :: List.replicate (N.length - ps.length) .off = ρ0 H a)
    (hb : ∀ (a : List Int) cdv A outer s H E, Room k (A.deeper (PyProof.Rows.envOfC qual sc s.heap.objs.size f cdv)) → PSs (XC P w K mg base N qual sc f cdv A outer s H E) body (TBO (K := K) (ρ0 H a) post (fun z : Empty => nomatch z) (rPl H) (wb H a)))
    (hm : ∀ H (a : List Int) (Q : Unit → Prop), a.length ≤ most ∧ Q () → wb H a (fin False Q)) : FnOk P w K mg base CX0 (k + 1) f fd ps (SpB K most) := by
  refine D.ok S (fun vs H Q E ⟨G, v, ns, e, _⟩ => by rw [e, ← hn]; rfl) fun cdv A outer s H vs Q E hr ⟨G, v, ns, e, sG, hv, hlen, c⟩ => ⟨_, (hb ns cdv A outer s H E hr).nox, ?_⟩
  subst e
  have ev := env_start (N := N) (H := H) (fsE_1 (R := rW H (rL rI))) (pre := []) (pv := []) rfl (fun i e hi => by simp at hi) List.nodup_nil (G := H) (x := ns) (vs := [v]) ⟨v, rfl, (rL rI).mono sG hv, Same.refl H⟩ (by simp only [List.length_nil, Nat.zero_add]; show 1 ≤ _; omega)
  rw [List.nil_append] at ev
  have e1 : N.length - (([] : List (En K)).length + (fs1 (rW (K := K) H (rL rI))).n) = N.length - ps.length := by simp only [List.length_nil, Nat.zero_add]; show N.length - 1 = _; omega
  rw [e1] at ev
  have e0 : adrs (ρ0 H ns) = [] := by rw [← h0]; show [] ++ adrs _ = []; rw [adrs_off_rep]; rfl
  refine ⟨H, fin False (fun _ => True), Same.refl H, by rw [← h0]; exact ev, hm H ns _ ⟨hlen, trivial⟩, ⟨fun t G' H' σ' st _ z => z.elim, fun t => (nomatch t), fun t => (nomatch t), fun b G' H' v st _ pb rb => ?_⟩⟩
  rw [e0] at st
  obtain ⟨G2, p, g, ev, st2, n1, n2, pl⟩ := pool_out sG st rb
  subst ev
  exact c G2 H' p g st2 n1 n2 pl
end
end SS

set_option Elab.async false
set_option linter.all false
set_option maxRecDepth 100000
/-! SSK: own rules: copies that hold nothing of a bad part of the heap. Own work. -/
namespace SS
open PySem PySem.Spec L2
open Classical in
noncomputable def cut (B : Addr → Prop) (G : Hp) : Hp := fun a => if B a then none else G a
theorem cut_bad {B : Addr → Prop} {G : Hp} {a : Addr} (h : B a) : cut B G a = none := if_pos h
theorem cut_good {B : Addr → Prop} {G : Hp} {a : Addr} (h : ¬ B a) : cut B G a = G a := if_neg h
theorem cut_some {B : Addr → Prop} {G : Hp} {a : Addr} {o : HO} (h : cut B G a = some o) : ¬ B a ∧ G a = some o := by
  by_cases z : B a
  · rw [cut_bad z] at h; cases h
  · rw [cut_good z] at h; exact ⟨z, h⟩
theorem cut_same {B : Addr → Prop} {G : Hp} : Same (cut B G) G := fun a o h => (cut_some h).2
theorem cut_mono {B : Addr → Prop} {G G' : Hp} (e : Same G G') : Same (cut B G) (cut B G') := fun a o h => by
  obtain ⟨n, q⟩ := cut_some h
  rw [cut_good n]; exact e _ _ q
section
variable {K : PySem.W.Frag} {α β : Type}
/-- .. without anything of B -/
def rOn (B : Addr → Prop) (R : Rp K α) : Rp K α := ⟨fun G v x => R.ok (cut B G) v x, fun e h => R.mono (cut_mono e) h⟩
def rWB (B : Addr → Prop) (R : Rp K α) : Rp K α := ⟨fun G v x => R.ok G v x ∧ ∀ a, B a → ∃ o, G a = some o, fun e h => ⟨R.mono e h.1, fun a ha => let ⟨o, q⟩ := h.2 a ha; ⟨o, e _ _ q⟩⟩⟩
theorem rOn_ok {B : Addr → Prop} {R : Rp K α} {G : Hp} {v : V} {x : α} (h : (rOn B R).ok G v x) : R.ok G v x := R.mono cut_same h
/-- a list that stands in the heap as such -/
def rLx (R : Rp K α) : Rp K (List α) := ⟨fun G v xs => ∃ a vs, v = .ref a ∧ G a = some (.lst vs) ∧ Paired (R.ok G) vs xs ∧ vs.length ≤ sizeLine, fun e ⟨a, vs, h1, h2, h3, h4⟩ => ⟨a, vs, h1, e _ _ h2, paired_mono (fun _ _ z => R.mono e z) h3, h4⟩⟩
theorem rLx_ok {R : Rp K α} {G : Hp} {v : V} {xs : List α} (h : (rLx R).ok G v xs) : (rL R).ok G v xs := by
  obtain ⟨a, vs, h1, h2, h3, h4⟩ := h
  exact ⟨a, vs, h1, SqL.of h2, h3, h4⟩
end
section
variable {X : Cx} {K : PySem.W.Frag} [HK X K] {α β γ δ τ ℓ : Type} {ρ : List (En K)} {e : Expr} {es : List Expr} {pos : Pos} {B : Addr → Prop} {R0 : Rp K δ} {x0 : δ}
theorem wb_get {i : Nat} (hi : ρ[i]? = some (.fr (rWB B R0) x0)) {G H : Hp} {σ : L2.St} (ev : EnvOk ρ G H σ) : ∀ a, B a → ∃ o, G a = some o := by
  obtain ⟨o, _, v, _, q⟩ := ev.ok i _ hi
  exact q.2
theorem pr_unW {w : W α} {R : Rp K α} (h : PE X e (TEx ρ (rWB B R) w)) : PE X e (TEx ρ R w) := pr_to (fun x => x) h (fun _ _ _ q => q.1)
theorem pr_unO {w : W α} {R : Rp K α} (h : PE X e (TEx ρ (rOn B R) w)) : PE X e (TEx ρ R w) := pr_to (fun x => x) h (fun _ _ _ q => rOn_ok q)
theorem tel_to {w : W (List α)} {R R' : Rp K α} (h : PE X e (TEL ρ R w)) (k : ∀ G v x, R.ok G v x → R'.ok G v x) : PE X e (TEL ρ R' w) :=
  pe_imp h fun σ H Q ⟨G, P, s, ev, p, c⟩ => ⟨G, P, s, ev, p, fun G' H' q vs xs st e' px n1 n2 hq pr hz => c G' H' q vs xs st e' px n1 n2 hq (paired_mono (fun _ _ z => k _ _ _ z) pr) hz⟩
/-- a new list is frozen, clear of B -/
theorem pr_frzBX {i : Nat} {R : Rp K α} {w : W (List α)} (hi : ρ[i]? = some (.fr (rWB B R0) x0)) (h : PE X e (TEL ρ (rOn B R) w)) : PE X e (TEx ρ (rOn B (rLx R)) w) := by
  refine pe_imp h fun σ H Q ⟨G, P, s, ev, p, c⟩ => ⟨G, P, s, ev, p, fun G' H' q vs xs st e' px n1 n2 hq pr hz => ?_⟩
  have hq' : q ∉ adrs ρ := ev.fresh n1
  have nb : ¬ B q := fun z => by obtain ⟨o, e⟩ := wb_get hi e' q z; rw [n2] at e; cases e
  have s2 : Step [q] G' H' (upd G' q (.lst vs)) H' := Step.freeze st.gh (by simp) n2 hq
  refine c _ _ _ xs (st.cut s2 fun b hb => .inr (by rw [mem1 hb]; exact n1)) (e'.step s2 fun b hb z => hq' (by rw [← mem1 z]; exact hb)) px ?_
  exact ⟨q, vs, rfl, by rw [cut_good nb]; exact upd_same, paired_mono (fun _ _ z => R.mono (cut_mono s2.gg) z) pr, hz⟩
theorem pr_frzB {i : Nat} {R : Rp K α} {w : W (List α)} (hi : ρ[i]? = some (.fr (rWB B R0) x0)) (h : PE X e (TEL ρ (rOn B R) w)) : PE X e (TEx ρ (rOn B (rL R)) w) :=
  pr_to (fun x => x) (pr_frzBX hi h) (fun _ _ _ q => rLx_ok q)
/-- a tuple, clear of B -/
theorem pr_tupB {i : Nat} {F F' : Fs K α} {k} {w : W α} (hi : ρ[i]? = some (.fr (rWB B R0) x0)) (h : PA X es (TAx ρ F' w)) (hF : ∀ G vs x, F'.ok G vs x → F.ok (cut B G) vs x := by exact fun _ _ _ h => h) (hn : F'.n ≤ sizeLine := by exact Nat.le_of_ble_eq_true rfl) : PE X (.Tuple es k pos) (TEx ρ (rOn B (rT F)) w) := by
  refine pe_imp (pe_tup h) fun σ H Q ⟨G, P, s, e, h, c⟩ => ⟨G, P, s, e, h, fun G1 H1 vs x st1 e1 p1 r1 => ⟨by rw [F'.len r1]; exact hn, fun p hp => ?_⟩⟩
  have s2 := Step.new (M := []) (o := .tup vs) st1.gh hp
  have nb : ¬ B p := fun z => by obtain ⟨o, e⟩ := wb_get hi e1 p z; rw [st1.gh.free hp] at e; cases e
  exact c _ _ _ x (st1.trans s2.of0) (e1.step0 s2) p1 ⟨p, vs, rfl, SqT.of (by rw [cut_good nb]; exact upd_same), F.mono (cut_mono s2.gg) (hF _ _ _ r1)⟩
end
section
variable {X : Cx} {K : PySem.W.Frag} [HK X K] {α β δ τ ℓ : Type} {ρ : List (En K)} {post : τ → List (En K)} {lp : ℓ → List (En K)} {R : Rp K β} {B : Addr → Prop} {R0 : Rp K δ} {x0 : δ}
/-- an own list of things clear of B is frozen -/
theorem b_frzBX {sts : List Stmt} {iw : Nat} {p : Addr} {Ra : Rp K α} {xs : List α} {m : W (Out τ ℓ β)} (hw : ρ[iw]? = some (.fr (rWB B R0) x0)) (i : Nat) (h : ρ[i]? = some (.own p (rOn B Ra) xs)) (hr : PSs X sts (TBO (ρ.set i (.fr (rOn B (rLx Ra)) xs)) post lp R m)) : PSs X sts (TBO ρ post lp R m) := by
  refine pss_imp hr fun D σ H ⟨G, P, s, ev, pp, c⟩ => ?_
  obtain ⟨o, ho, e1, n1, vs, hq, pr, hz⟩ := ev.ok i _ h
  have nb : ¬ B p := fun z => by obtain ⟨o, q⟩ := wb_get hw ev p z; rw [n1] at q; cases q
  have hm : p ∈ adrs ρ := adrs_mem h (by simp [En.adr])
  have s2 : Step [p] G H (upd G p (.lst vs)) H := Step.freeze s (by simp) n1 hq
  have nf := nodup_fr (i := i) (e := (.fr (rOn B (rLx Ra)) xs : En K)) ev.nd rfl
  have hpl : (ρ.getD i .off).pl = [] := by
    have e : ρ.getD i .off = .own p (rOn B Ra) xs := by rw [List.getD_eq_getElem?_getD, h]; rfl
    rw [e]; rfl
  refine ⟨upd G p (.lst vs), P, s2.gh, ?_, pp, c.step (s2.wide fun a ha => by rw [mem1 ha]; exact hm) (fun b hb => .inl (nf.2 b hb)) fun q hq => pls_set hpl hq⟩
  refine ⟨by rw [List.length_set, ev.len], fun j e' hj => ?_, nf.1⟩
  by_cases hij : i = j
  · subst hij
    have hl : i < ρ.length := (List.getElem?_eq_some_iff.mp h).1
    rw [List.getElem?_set_self hl] at hj
    cases hj
    exact ⟨o, ho, .ref p, e1, p, vs, rfl, by rw [cut_good nb]; exact upd_same, paired_mono (fun _ _ z => Ra.mono (cut_mono s2.gg) z) pr, hz⟩
  · rw [List.getElem?_set_ne hij] at hj
    obtain ⟨o', ho', q⟩ := ev.ok j e' hj
    exact ⟨o', ho', En.step q s2 fun a ha z => nodup_apart ev.nd h hj hij (by rw [mem1 z]; simp [En.adr]) ha⟩
end
/-! ### promises -/
section
variable {K : PySem.W.Frag} {α β : Type}
def SpX (F : Fs K α) (R : Rp K β) (m : α → W β) : Sp := fun vs H Q _ => ∃ (B : Addr → Prop) (G : Hp) (a : α) (P : β → Prop), Same G H ∧ (∀ x, B x → ∃ o, G x = some o) ∧ F.ok G vs a ∧ m a P ∧ ∀ G' H' v b, Step [] G H G' H' → P b → (rOn B R).ok G' v b → Q v H'
def SpIX (C : Addr) (F : (Addr → Prop) → Fs K α) (R : Rp K β) (m : α → W β) : Sp := fun vs H Q _ => ∃ (B : Addr → Prop) (G : Hp) (x dx : Addr) (us : List V) (a : α) (P : β → Prop), vs = .ref x :: us ∧ Same G H ∧ (∀ y, B y → ∃ o, G y = some o) ∧ G x = none ∧ H x = some (.ins C dx []) ∧ (F B).ok G us a ∧ m a P ∧
  ∀ G' H' b, Step [x] G H G' H' → P b → (rOn B R).ok G' (.ref x) b → Q .non H'
end
section
variable {X : Cx} {K : PySem.W.Frag} [HK X K] {α β δ : Type} {ρ : List (En K)} {R : Rp K β} {F : Fs K α} {m : α → W β} {w : W α} {x : Str} {k : Nat} {ps : List Str} {p pos apos : Pos} {e o : Expr} {es : List Expr} {B : Addr → Prop} {R0 : Rp K δ} {x0 : δ}
theorem pr_callX {i : Nat} (h : FnG X.prog X.w K X.mg X.base x k ps (SpX F R m)) (hi : ρ[i]? = some (.fr (rWB B R0) x0)) (hr : Room k X.A) (ha : PA X (e :: es) (TAx ρ F w)) (hg : Gl X x := by rfl) (hdb : (x == ("__debug__" : Str)) = false := by decide) (he : starEach (e :: es) X.env = (false, eval e X.env) :: starEach es X.env := by rfl)
    (hpl : (backTo pos (starEach es X.env)).any (·.1) = false := by rfl) : PE X (.Call (.Name x p) (e :: es) [] pos) (TEx ρ (rOn B R) fun P => w fun a => m a P) := by
  have hK : X.K = K := HK.eq
  subst hK
  obtain ⟨f, fd, h1, h2, h3, h4⟩ := h.ex
  refine pe_imp (pe_call h4 hr hg h1 h2 h3 .nil pass0 ha hdb he hpl) fun σ H Q ⟨G, P, s, ev, pp, c⟩ => ⟨G, _, s, ev, pp, fun G1 H1 vs a st e1 pa ra => ?_⟩
  show SpX F R m (vs ++ []) H1 Q E0
  rw [List.append_nil]
  exact ⟨B, G1, a, P, st.gh, wb_get hi e1, ra, pa, fun G2 H2 v b st2 pb rb => c G2 H2 v b (st.trans st2.of0) (e1.step0 st2) pb rb⟩
/-- C(..) by the promise with B -/
theorem pr_makeX {C : Addr} {FB : (Addr → Prop) → Fs K α} {i : Nat} (h : FnC X.prog X.w K X.mg X.base x C k ps (SpIX C FB R m)) (hi : ρ[i]? = some (.fr (rWB B R0) x0)) (hr : Room (k + 1) X.A) (ha : PA X (e :: es) (TAx ρ (FB B) w)) (hg : Gl X x := by rfl) (hdb : (x == ("__debug__" : Str)) = false := by decide) (he : starEach (e :: es) X.env = (false, eval e X.env) :: starEach es X.env := by rfl)
    (hpl : (backTo pos (starEach es X.env)).any (·.1) = false := by rfl) : PE X (.Call (.Name x p) (e :: es) [] pos) (TEx ρ (rOn B R) fun P => w fun a => m a P) := by
  have hK : X.K = K := HK.eq
  subst hK
  obtain ⟨f, fd, h1, h2, h3, h4⟩ := h.ex
  refine pe_imp (pe_make h2 h4 hr hg h1 h3 .nil pass0 ha hdb he hpl) fun σ H Q ⟨G, P, s, ev, pp, c⟩ => ⟨G, _, s, ev, pp, fun G1 H1 vs a st e1 pa ra => fun xx dx hx hdx ne => ?_⟩
  show SpIX C FB R m (.ref xx :: (vs ++ [])) _ _ _
  rw [List.append_nil]
  have s1 : Step [] G1 H1 G1 (upd H1 dx (.own xx)) := Step.lay st.gh hdx
  have hx1 : (upd H1 dx (.own xx)) xx = none := by rw [upd_ne (Ne.symm ne)]; exact hx
  have s2 : Step [] G1 (upd H1 dx (.own xx)) G1 (upd (upd H1 dx (.own xx)) xx (.ins C dx [])) := Step.lay s1.gh hx1
  refine ⟨B, G1, xx, dx, vs, a, P, rfl, s2.gh, wb_get hi e1, st.gh.free hx, upd_same, ra, pa, fun G2 H2 b st2 pb rb => ⟨rfl, ?_⟩⟩
  have s12 : Step [] G1 H1 G1 (upd (upd H1 dx (.own xx)) xx (.ins C dx [])) := s1.trans s2
  have s3 : Step [] G1 H1 G2 H2 := s12.cut st2 fun a ha => .inr (by rw [mem1 ha]; exact hx)
  exact c G2 H2 _ b (st.trans s3.of0) (e1.step0 s3) pb rb
/-- C(..) of things clear of B, by the plain promise -/
theorem pr_makeOn {C : Addr} {F' : Fs K α} {i : Nat} (h : FnC X.prog X.w K X.mg X.base x C k ps (SpI C F R m)) (hi : ρ[i]? = some (.fr (rWB B R0) x0)) (hr : Room (k + 1) X.A) (ha : PA X (e :: es) (TAx ρ F' w)) (hF : ∀ G vs x, F'.ok G vs x → F.ok (cut B G) vs x := by exact fun _ _ _ h => h) (hg : Gl X x := by rfl) (hdb : (x == ("__debug__" : Str)) = false := by decide) (he : starEach (e :: es) X.env = (false, eval e X.env) :: starEach es X.env := by rfl)
    (hpl : (backTo pos (starEach es X.env)).any (·.1) = false := by rfl) : PE X (.Call (.Name x p) (e :: es) [] pos) (TEx ρ (rOn B R) fun P => w fun a => m a P) := by
  have hK : X.K = K := HK.eq
  subst hK
  obtain ⟨f, fd, h1, h2, h3, h4⟩ := h.ex
  refine pe_imp (pe_make h2 h4 hr hg h1 h3 .nil pass0 ha hdb he hpl) fun σ H Q ⟨G, P, s, ev, pp, c⟩ => ⟨G, _, s, ev, pp, fun G1 H1 vs a st e1 pa ra => fun xx dx hx hdx ne => ?_⟩
  show SpI C F R m (.ref xx :: (vs ++ [])) _ _ _
  rw [List.append_nil]
  have s1 : Step [] G1 H1 G1 (upd H1 dx (.own xx)) := Step.lay st.gh hdx
  have hx1 : (upd H1 dx (.own xx)) xx = none := by rw [upd_ne (Ne.symm ne)]; exact hx
  have s2 : Step [] G1 (upd H1 dx (.own xx)) G1 (upd (upd H1 dx (.own xx)) xx (.ins C dx [])) := Step.lay s1.gh hx1
  have hB := wb_get hi e1
  have gx : G1 xx = none := st.gh.free hx
  have gc : cut B G1 xx = none := by
    by_cases z : B xx
    · exact cut_bad z
    · rw [cut_good z]; exact gx
  have s12 : Step [] G1 H1 G1 (upd (upd H1 dx (.own xx)) xx (.ins C dx [])) := s1.trans s2
  refine ⟨cut B G1, xx, dx, vs, a, P, rfl, cut_same.trans s2.gh, gc, upd_same, hF _ _ _ ra, pa, fun G2 H2 b st2 pb rb => ⟨rfl, ?_⟩⟩
  -- back to the whole ghost
  have keepB : ∀ a o, G1 a = some o → H2 a = some o := fun a o q => st2.keep a o (s12.keep a o (st.gh _ _ q) (by simp)) fun z => by rw [mem1 z, gx] at q; cases q
  have n2 : ∀ a, B a → G2 a = none := fun a ha => by
    obtain ⟨o, q⟩ := hB a ha
    have h1 := s12.keep a o (st.gh _ _ q) (by simp)
    exact st2.old a o h1 (cut_bad ha) fun z => by rw [mem1 z, gx] at q; cases q
  let G3 : Hp := fun a => match G2 a with
    | some o => some o
    | none => G1 a
  have g3 : ∀ a o, G2 a = some o → G3 a = some o := fun a o q => by show (match G2 a with | some o => some o | none => G1 a) = some o; rw [q]
  have g3n : ∀ a, G2 a = none → G3 a = G1 a := fun a q => by show (match G2 a with | some o => some o | none => G1 a) = G1 a; rw [q]
  have agree : ∀ a o, G1 a = some o → G3 a = some o := fun a o q => by
    cases q2 : G2 a with
    | none => rw [g3n a q2]; exact q
    | some o2 =>
      have := st2.gh _ _ q2
      rw [keepB a o q] at this
      rw [g3 a o2 q2, this]
  have s3 : Step [] G1 H1 G3 H2 := by
    refine ⟨agree, fun a o q => ?_, fun a o q n => ?_, fun a o q n _ => ?_⟩
    · cases q2 : G2 a with
      | none => rw [g3n a q2] at q; exact keepB a o q
      | some o2 => rw [g3 a o2 q2] at q; rw [← q]; exact st2.gh _ _ q2
    · exact st2.keep a o (s12.keep a o q (by simp)) fun z => by rw [mem1 z, hx] at q; cases q
    · have h1 := s12.keep a o q (by simp)
      have gcn : cut B G1 a = none := by
        by_cases z : B a
        · exact cut_bad z
        · rw [cut_good z]; exact n
      have := st2.old a o h1 gcn fun z => by rw [mem1 z, hx] at q; cases q
      rw [g3n a this]; exact n
  refine c G3 H2 _ b (st.trans s3.of0) (e1.step0 s3) pb (R.mono (fun a o q => ?_) rb)
  have nb : ¬ B a := fun z => by rw [n2 a z] at q; cases q
  rw [cut_good nb]; exact g3 a o q
end
section
variable {P : Program} {w : World} {K : PySem.W.Frag} {mg : Str → Option Value} {base : Heap} {x qual : Str} {params : Arguments} {body : List Stmt} {sc : Scope} {f : Addr} {fd : FuncData} {N ps : List Str} {k : Nat} {α β τ : Type}
/-- a def of one argument that copies -/
theorem fnok_ofX {Ra : Rp K α} {R : Rp K β} {m : α → W β} {post : τ → List (En K)} {wb : α → W (Out τ Empty β)} (D : FunD K x qual params body sc [] [] f fd) (S : FnScope N ps sc) (hn : 1 = ps.length) (hl : ps.length ≤ N.length) (ρ0 : (Addr → Prop) → α → List (En K)) (h0 : ∀ B a, .fr (rWB B Ra) a :: List.replicate (N.length - ps.length) .off = ρ0 B a)
    (hb : ∀ (B : Addr → Prop) (a : α) cdv A outer s H E, Room k (A.deeper (PyProof.Rows.envOfC qual sc s.heap.objs.size f cdv)) → PSs (XC P w K mg base N qual sc f cdv A outer s H E) body (TBO (K := K) (ρ0 B a) post (fun z : Empty => nomatch z) (rOn B R) (wb a)))
    (hm : ∀ a Q, m a Q → wb a (fin False Q)) : FnOk P w K mg base CX0 (k + 1) f fd ps (SpX (fs1 Ra) R m) := by
  refine D.ok S (fun vs H Q E ⟨B, G, a, Pp, s, _, ⟨v, e, _⟩, _⟩ => by rw [e, ← hn]; rfl) fun cdv A outer s H vs Q E hr ⟨B, G, a, Pp, sG, hB, ⟨v, e, hv⟩, hp, c⟩ => ⟨_, (hb B a cdv A outer s H E hr).nox, ?_⟩
  subst e
  have ev := env_start (N := N) (H := H) (fsE_1 (R := rWB B Ra)) (pre := []) (pv := []) rfl (fun i e hi => by simp at hi) List.nodup_nil (G := G) (x := a) (vs := [v]) ⟨v, rfl, hv, hB⟩ (by simp only [List.length_nil, Nat.zero_add]; show 1 ≤ _; omega)
  rw [List.nil_append] at ev
  have e1 : N.length - (([] : List (En K)).length + (fs1 (rWB (K := K) B Ra)).n) = N.length - ps.length := by simp only [List.length_nil, Nat.zero_add]; show N.length - 1 = _; omega
  rw [e1] at ev
  have e0 : adrs (ρ0 B a) = [] := by rw [← h0]; show [] ++ adrs _ = []; rw [adrs_off_rep]; rfl
  exact ⟨G, fin False Pp, sG, by rw [← h0]; exact ev, hm a Pp hp, ⟨fun t G' H' σ' st _ z => z.elim, fun t => (nomatch t), fun t => (nomatch t), fun b G' H' v st _ pb rb => c G' H' v b (by rw [e0] at st; exact st) pb rb⟩⟩
/-- __init__ -/
theorem fnok_ofIX {C : Addr} {F : (Addr → Prop) → Fs K α} {FI : β → List (Str × Mp)} {FB : (Addr → Prop) → β → List (Str × Mp)} {m : α → W β} {env : (Addr → Prop) → α → List (En K)} {wb : Addr → α → W (Out β Empty Unit)} (D : FunD K x qual params body sc [] [] f fd) (S : FnScope N ps sc) (hn : ∀ B, (F B).n + 1 = ps.length) (hl : ps.length ≤ N.length) (hE : ∀ B, FsE (F B) (env B))
    (hW : ∀ B G us a, (∀ y, B y → ∃ o, G y = some o) → (F B).ok G us a → (F B).ok G us a)
    (ρ0 : (Addr → Prop) → Addr → α → List (En K)) (h0 : ∀ B i a, .obj i C [] :: (env B a ++ List.replicate (N.length - ps.length) .off) = ρ0 B i a) (post : (Addr → Prop) → Addr → β → List (En K)) (hpost : ∀ B i b, (post B i b)[0]? = some (.obj i C (FB B b)))
    (hFI : ∀ B b G vs, Paired (KP G) vs (FB B b) → Paired (KP (cut B G)) vs (FI b))
    (hb : ∀ (B : Addr → Prop) (i : Addr) (a : α) cdv A outer s H E, Room k (A.deeper (PyProof.Rows.envOfC qual sc s.heap.objs.size f cdv)) → PSs (XC P w K mg base N qual sc f cdv A outer s H E) body (TBO (K := K) (ρ0 B i a) (post B i) (fun z : Empty => nomatch z) rN (wb i a)))
    (hm : ∀ i a Q, m a Q → wb i a (fun o => match o with | .nx b => Q b | _ => False)) : FnOk P w K mg base CX0 (k + 1) f fd ps (SpIX C F (rIns C FI) m) := by
  refine D.ok S (fun vs H Q E ⟨B, G, i, dx, us, a, Pp, e, s, _, _, _, h, _⟩ => by rw [e, List.length_cons, (F B).len h, hn]) fun cdv A outer s H vs Q E hr ⟨B, G, i, dx, us, a, Pp, e, sG, hB, n1, hH, h, hp, c⟩ => ⟨_, (hb B i a cdv A outer s H E hr).nox, ?_⟩
  subst e
  have hnB := hn B
  have ev := env_start (N := N) (H := H) (hE B) (pre := [.obj i C []]) (pv := [.ref i]) rfl (fun j e hi => by
    cases j with
    | zero => simp at hi; subst hi; exact ⟨.ref i, rfl, rfl, n1, dx, [], hH, .nil⟩
    | succ j => simp at hi) (by simp [adrs, En.adr]) h (by simp only [List.length_cons, List.length_nil]; omega)
  have e1 : N.length - ([En.obj (K := K) i C []].length + (F B).n) = N.length - ps.length := by simp only [List.length_cons, List.length_nil]; omega
  rw [e1] at ev
  have e0 : adrs (ρ0 B i a) = [i] := by rw [← h0]; show [i] ++ adrs _ = _; rw [adrs_app, (hE B).no, adrs_off_rep]; rfl
  refine ⟨G, _, sG, by rw [← h0]; exact ev, hm i a Pp hp, ⟨fun b G' H' σ' st e' z => ?_, fun t => (nomatch t), fun t => (nomatch t), fun b G' H' v st _ pb rb => pb.elim⟩⟩
  rw [e0] at st
  obtain ⟨o, ho, eo, n2, dx2, vs, k1, k2⟩ := e'.ok 0 _ (hpost B i b)
  have s2 : Step [i] G' H' (upd G' i (.ins C dx2 vs)) H' := Step.freeze st.gh (by simp) n2 k1
  have nb : ¬ B i := fun z => by obtain ⟨o, q⟩ := hB i z; rw [n1] at q; cases q
  exact c _ _ b (st.trans s2) z ⟨i, dx2, vs, rfl, by rw [cut_good nb]; exact upd_same, hFI B b _ _ (paired_mono2 (fun p q ⟨z1, z2⟩ => ⟨z1, q.2.2 _ _ _ s2.gg z2⟩) k2)⟩
end
end SS

set_option Elab.async false
set_option linter.all false
set_option maxRecDepth 100000
/-! SSL: own rule: a list handed over, then changed. Own work. -/
namespace SS
open PySem PySem.Spec L2
section
variable {K : PySem.W.Frag}
theorem pls_rep (n : Nat) : pls (List.replicate n (.off : En K)) = [] := by
  induction n with
  | zero => rfl
  | succ n ih => rw [List.replicate_succ]; show [] ++ pls _ = []; rw [ih]; rfl
theorem padr_of {ρ : List (En K)} (h : pls ρ = []) : padr ρ = [] := by unfold padr; rw [h]; rfl
theorem env_off {n : Nat} {G H : Hp} {σ : L2.St} (h : σ.length = n) : EnvOk (List.replicate n (.off : En K)) G H σ := by
  refine ⟨by rw [List.length_replicate, h], fun i e hi => ?_, by rw [adrs_off_rep]; exact List.nodup_nil⟩
  obtain ⟨hb, he⟩ := List.getElem?_eq_some_iff.mp hi
  rw [List.length_replicate] at hb
  have : e = .off := by rw [← he]; simp
  subst this
  exact ⟨σ[i]'(by omega), List.getElem?_eq_getElem (by omega), trivial⟩
theorem env_fr {ρ : List (En K)} {G H : Hp} {σ : L2.St} {i : Nat} {α : Type} {R : Rp K α} {x : α} {v : V} (h : EnvOk ρ G H σ) (hv : σ[i]? = some (some v)) (q : R.ok G v x) : EnvOk (ρ.set i (.fr R x)) G H σ :=
  h.re (fun o ho => ⟨v, by rw [hv] at ho; exact (Option.some.inj ho).symm, q⟩) (nodup_fr h.nd rfl).1
theorem env_slot {ρ : List (En K)} {G H : Hp} {σ σ' : L2.St} {i : Nat} (h : EnvOk ρ G H σ) (hl : σ'.length = σ.length) (hs : ∀ j, j ≠ i → σ'[j]? = σ[j]?) : EnvOk (ρ.set i .off) G H σ' := by
  refine ⟨by rw [List.length_set, hl, h.len], fun j e hj => ?_, (nodup_fr h.nd rfl).1⟩
  by_cases hij : i = j
  · subst hij
    have hlt : i < ρ.length := by
      rcases Nat.lt_or_ge i ρ.length with z | z
      · exact z
      · rw [List.set_eq_of_length_le z, List.getElem?_eq_none z] at hj; cases hj
    rw [List.getElem?_set_self hlt] at hj
    cases hj
    have hl2 := h.len
    exact ⟨σ'[i]'(by omega), List.getElem?_eq_getElem (by omega), trivial⟩
  · rw [List.getElem?_set_ne hij] at hj
    obtain ⟨o, ho, q⟩ := h.ok j e hj
    exact ⟨o, by rw [hs j (Ne.symm hij)]; exact ho, q⟩
end
section
variable {X : Cx} {K : PySem.W.Frag} [HK X K] {α β δ ε τ ℓ : Type} {ρ : List (En K)} {post : τ → List (En K)} {lp : ℓ → List (En K)} {R : Rp K β} {rest : List Stmt} {S1 S2 S3 S4 S5 : Stmt}
def tCopy (K : PySem.W.Frag) (N iRs iH : Nat) {α : Type} (Ru Rx : Rp K α) (rs : List α) (B0 : Addr → Prop) (u : TS) : TS := fun D σ H => ∃ G, Same G H ∧ EnvOk ((List.replicate N (.off : En K)).set iRs (.fr (rWB B0 (rL Ru)) rs)) G H σ ∧
  ∀ G' H' q vs, Step [] G H G' H' → H q = none → G' q = none → H' q = some (.lst vs) → Paired ((rOn B0 Rx).ok G') vs rs → vs.length ≤ sizeLine → u D (σ.set iH (some (.ref q))) H'
/-- a TE that only lays new things -/
def Lays (t : TE) : Prop := ∀ (σ : L2.St) (H : Hp) (Q : VK), (∀ v H', (∀ a o, H a = some o → H' a = some o) → Q v H') → t σ H Q
theorem b_alias {Ru Rx : Rp K α} {Rs : Rp K δ} {Rbk : Rp K ε} {rs : List α} {sz : δ} {d : Int} {bk : ε} {iH iR iB iRs iS iD : Nat} {tA tB : TE} {tt : TS} {m : W (Out τ ℓ β)}
    (eRs : ρ[iRs]? = some (.fr (rL Ru) rs)) (eS : ρ[iS]? = some (.fr Rs sz)) (eD : ρ[iD]? = some (.fr rI d)) (hfew : rs.length ≤ 1000)
    (hx : ∀ (G : Hp) (v : V) (x : α), x ∈ rs → Rx.ok G v x → ∃ (a : Addr) (ws : List V) (n u : Addr) (l1 l2 : List V), v = .ref a ∧ SqT K G a ws ∧ ws[1]? = some (.ref n) ∧ ws[6]? = some (.ref u) ∧ G n = some (.lst l1) ∧ l1.length ≤ 1000 ∧ G u = some (.lst l2) ∧ l2.length ≤ 1000)
    (hxu : ∀ (G : Hp) (v : V) (x : α), Rx.ok G v x → Ru.ok G v x)
    (n1 : iH ≠ iRs) (n2 : iH ≠ iS) (n3 : iH ≠ iD) (n4 : iB ≠ iRs) (n5 : iB ≠ iH) (n6 : iR ≠ iH) (n8 : iRs ≠ iS) (n9 : iRs ≠ iD) (n10 : iS ≠ iD) (lH : iH < ρ.length) (lB : iB < ρ.length) (lR : iR < ρ.length)
    (pH : (ρ.getD iH .off).pl = []) (pB : ((ρ.set iH .off).getD iB .off).pl = []) (pR : (((ρ.set iH .off).set iB (.fr Rbk bk)).getD iR .off).pl = [])
    (hA : Lays tA) (hB : Lays tB)
    (h1 : ∀ (B0 : Addr → Prop) (sts : List Stmt) (u : TS), PSs X sts u → PSs X (S1 :: sts) (tCopy K ρ.length iRs iH Ru Rx rs B0 u))
    (h2 : PS X S2 (tAsg (tef fun B1 : Addr → Prop => TEx ((((List.replicate ρ.length (.off : En K)).set iS (.fr (rOn B1 Rs) sz)).set iD (.fr rI d)).set iH (.fr (rWB B1 (rL Ru)) rs)) (rOn B1 Rbk) (fun P => P bk)) (gName iB)))
    (h3 : PS X S3 (tIfS (TTx (((List.replicate ρ.length (.off : En K)).set iRs (.fr (rL Ru) rs)).set iH (.fr (rL Ru) rs)) (fun P => P false)) tt tNext))
    (h4 : PS X S4 (tFor (iList X.K (tVar iH)) (gName iR) (tSeq (tDrop (tBM X.K "list" rAppend (tOp (rIxT X.K) (tVar iR) (tC (.int 1))) (tCons tA tNil))) (tDrop (tBM X.K "list" rAppend (tOp (rIxT X.K) (tVar iR) (tC (.int 6))) (tCons tB tNil))))))
    (h5 : PS X S5 (tDrop (tBM X.K "list" rAppend (tVar iH) (tCons (tC (.int 7)) tNil))))
    (hr : PSs X rest (TBO (((ρ.set iH .off).set iB (.fr Rbk bk)).set iR .off) post lp R m)) :
    PSs X (S1 :: S2 :: S3 :: S4 :: S5 :: rest) (TBO ρ post lp R m) := by
  have hK : X.K = K := HK.eq
  subst hK
  refine pss_imp (pss_fam fun B0 : Addr → Prop => h1 B0 _ _ (pss_cons h2 (pss_cons h3 (pss_cons h4 (pss_cons h5 hr))))) fun D σ H ⟨G, P, s, ev, pp, ct⟩ => ?_
  have hl : σ.length = ρ.length := ev.len
  obtain ⟨_, oR, vR, eR', qR⟩ := ev.ok iRs _ eRs
  obtain ⟨_, oS, vS, eS', qS⟩ := ev.ok iS _ eS
  subst eR' eS'
  have oD := int_get eD ev
  refine ⟨fun a => G a ≠ none, G, s, env_fr (env_off hl) oR ⟨qR, fun a ha => by
    cases q : G a with
    | none => exact absurd q ha
    | some o => exact ⟨o, rfl⟩⟩, fun G1 H1 q vs st1 f1 f2 hq pr hz => ?_⟩
  -- the list is frozen for a while
  have fG : G q = none := s.free f1
  have sq : Step [q] G1 H1 (upd G1 q (.lst vs)) H1 := Step.freeze st1.gh (by simp) f2 hq
  have lσ1 : (σ.set iH (some (.ref q))).length = ρ.length := by rw [List.length_set, hl]
  have gq : (σ.set iH (some (.ref q)))[iH]? = some (some (.ref q)) := List.getElem?_set_self (by omega)
  have gS : (σ.set iH (some (.ref q)))[iS]? = some (some vS) := by rw [List.getElem?_set_ne n2]; exact oS
  have gD : (σ.set iH (some (.ref q)))[iD]? = some (some (.int d)) := by rw [List.getElem?_set_ne n3]; exact oD
  have gR : (σ.set iH (some (.ref q)))[iRs]? = some (some vR) := by rw [List.getElem?_set_ne n1]; exact oR
  have sGq : Same G (upd G1 q (.lst vs)) := st1.gg.trans sq.gg
  have prU : Paired (Ru.ok (upd G1 q (.lst vs))) vs rs := paired_mono (fun v x z => hxu _ _ _ (Rx.mono (cut_same.trans sq.gg) z)) pr
  have okH : (rL Ru).ok (upd G1 q (.lst vs)) (.ref q) rs := ⟨q, vs, rfl, SqL.of upd_same, prU, hz⟩
  let B1 : Addr → Prop := fun a => G a = none ∧ upd G1 q (.lst vs) a ≠ none
  have sB1 : Same G (cut B1 (upd G1 q (.lst vs))) := fun a o e => by
    rw [cut_good (fun z : B1 a => by rw [z.1] at e; cases e)]
    exact sGq _ _ e
  have bW : ∀ a, B1 a → ∃ o, upd G1 q (.lst vs) a = some o := fun a ha => by
    cases z : upd G1 q (.lst vs) a with
    | none => exact absurd z ha.2
    | some o => exact ⟨o, rfl⟩
  refine ⟨B1, upd G1 q (.lst vs), (· = bk), sq.gh, ?_, rfl, fun G2 H2 v b st2 _ eb rb => ?_⟩
  · refine env_fr (env_fr (env_fr (env_off lσ1) gS (Rs.mono sB1 qS)) gD rfl) gq ⟨okH, bW⟩
  subst eb
  rw [padr_of (pls_setoff (pls_setoff (pls_setoff (pls_rep _) rfl) rfl) rfl)] at st2
  have hq2 := st2.keep q _ hq (by simp)
  have lσ2 : ((σ.set iH (some (.ref q))).set iB (some v)).length = ρ.length := by rw [List.length_set]; exact lσ1
  have kq : ((σ.set iH (some (.ref q))).set iB (some v))[iH]? = some (some (.ref q)) := by rw [List.getElem?_set_ne n5]; exact gq
  have kR : ((σ.set iH (some (.ref q))).set iB (some v))[iRs]? = some (some vR) := by rw [List.getElem?_set_ne n4]; exact gR
  refine ⟨G2, (· = false), st2.gh, env_fr (env_fr (env_off lσ2) kR ((rL Ru).mono (sGq.trans st2.gg) qR)) kq ((rL Ru).mono st2.gg okH), rfl, fun G3 H3 k st3 _ ek => ?_⟩
  subst ek
  rw [padr_of (pls_setoff (pls_setoff (pls_rep _) rfl) rfl)] at st3
  have hq3 := st3.keep q _ hq2 (by simp)
  have up3 : ∀ a o, H1 a = some o → H3 a = some o := fun a o e => st3.keep a o (st2.keep a o e (by simp)) (by simp)
  -- what changes from here on
  let Mu : Addr → Prop := fun a => G a = none ∧ ∃ l : List V, G1 a = some (.lst l) ∧ l.length ≤ 1000
  have nMq : ¬ Mu q := fun ⟨_, l, e, _⟩ => by rw [f2] at e; cases e
  let Iv : Nat → Hp → Prop := fun b H' => (∀ a o, H3 a = some o → ¬ Mu a → H' a = some o) ∧ ∀ a, Mu a → ∃ l : List V, H' a = some (.lst l) ∧ l.length ≤ b
  have iv_app : ∀ (b : Nat) (H' H4 : Hp) (n : Addr) (l : List V) (w : V), Iv b H' → Mu n → (∀ a o, H' a = some o → H4 a = some o) → H' n = some (.lst l) → l.length ≤ b → Iv (b + 1) (upd H4 n (.lst (l ++ [w]))) := fun b H' H4 n l w iv hn up hl4 hb => by
    refine ⟨fun a o e na => ?_, fun a ha => ?_⟩
    · rw [upd_ne (fun z : a = n => na (z ▸ hn))]
      exact up _ _ (iv.1 a o e na)
    · by_cases z : a = n
      · subst z; exact ⟨l ++ [w], upd_same, by rw [List.length_append]; exact Nat.succ_le_succ hb⟩
      · obtain ⟨l', e, hb'⟩ := iv.2 a ha
        exact ⟨l', by rw [upd_ne z]; exact up _ _ e, Nat.le_succ_of_le hb'⟩
  have hvl : vs.length = rs.length := paired_len pr
  have szv := szl
  refine ⟨.ref q, kq, q, rfl, ⟨vs, SqL.of hq3⟩, fun i m σ' H' => m = vs.length - i ∧ i ≤ vs.length ∧ σ'.length = ρ.length ∧ (∀ j, j ≠ iR → σ'[j]? = ((σ.set iH (some (.ref q))).set iB (some v))[j]?) ∧ Iv (1000 + 2 * i) H', ⟨vs.length, by simp, Nat.zero_le _, lσ2, fun _ _ => rfl, fun a o e _ => e, fun a ⟨_, l, e, hb⟩ => ⟨l, up3 _ _ (st1.gh _ _ e), by omega⟩⟩, ?_⟩
  rintro i m σ' H' ⟨rfl, hle, hl', hsl, iv⟩
  have hq' : H' q = some (.lst vs) := iv.1 q _ hq3 nMq
  by_cases hlt : i < vs.length
  · refine .inr ⟨⟨vs, vs[i], SqL.of hq', List.getElem?_eq_getElem hlt⟩, fun σ'' H'' => σ''.length = ρ.length ∧ (∀ j, j ≠ iR → σ''[j]? = ((σ.set iH (some (.ref q))).set iB (some v))[j]?) ∧ Iv (1000 + 2 * (i + 1)) H'', fun σ'' H'' ⟨q1, q2, q3⟩ => ⟨vs.length - (i + 1), by omega, rfl, by omega, q1, q2, q3⟩, fun x H'' hy => ?_⟩
    obtain ⟨eH, hy⟩ := hy
    subst eH
    have hxi := hy vs (SqL.of hq')
    obtain ⟨z, hz1, hz2⟩ := paired_get' pr hxi
    obtain ⟨a, ws, n, u, l1, l2, ex, hT, w1, w6, g1, b1, g2, b2⟩ := hx _ _ _ (List.mem_of_getElem? hz1) hz2
    subst ex
    obtain ⟨c1, g1'⟩ := cut_some g1
    obtain ⟨c2, g2'⟩ := cut_some g2
    have Mn : Mu n := ⟨by simpa using c1, l1, g1', b1⟩
    have Muu : Mu u := ⟨by simpa using c2, l2, g2', b2⟩
    have hTM : SqT X.K (cut Mu G1) a ws := by
      rcases hT with (h | ⟨o, h⟩) | h
      · obtain ⟨_, h⟩ := cut_some h
        refine .inl (.inl ?_)
        rw [cut_good (fun ⟨_, l, e, _⟩ => by rw [h] at e; cases e)]
        exact h
      · obtain ⟨_, h⟩ := cut_some h
        refine .inl (.inr ⟨o, ?_⟩)
        rw [cut_good (fun ⟨_, l, e, _⟩ => by rw [h] at e; cases e)]
        exact h
      · exact .inr h
    have upT : ∀ {b : Nat} {Hx : Hp}, Iv b Hx → SqT X.K Hx a ws := fun {b Hx} ivx => same_t (fun a' o e => by
      obtain ⟨na, e'⟩ := cut_some e
      exact ivx.1 a' o (up3 _ _ (st1.gh _ _ e')) na) hTM
    have lR' : iR < σ'.length := by omega
    have gx : (σ'.set iR (some (.ref a)))[iR]? = some (some (.ref a)) := List.getElem?_set_self lR'
    obtain ⟨k1, e1, hb1⟩ := iv.2 n Mn
    refine ⟨.ref a, gx, a, ws, 1, .ref n, rfl, rfl, upT iv, atI_nat (j := 1) w1, .inl ⟨rfl, k1, SqL.of e1⟩, hA _ _ _ fun w4 H4 up4 => ?_⟩
    refine ⟨n, k1, w4, rfl, rfl, up4 _ _ e1, by omega, ?_⟩
    have iv2 : Iv (1000 + 2 * i + 1) (upd H4 n (.lst (k1 ++ [w4]))) := iv_app _ _ _ _ _ _ iv Mn up4 e1 hb1
    obtain ⟨k2, e2, hb2⟩ := iv2.2 u Muu
    refine ⟨.ref a, gx, a, ws, 6, .ref u, rfl, rfl, upT iv2, atI_nat (j := 6) w6, .inl ⟨rfl, k2, SqL.of e2⟩, hB _ _ _ fun w5 H5 up5 => ?_⟩
    refine ⟨u, k2, w5, rfl, rfl, up5 _ _ e2, by omega, ?_⟩
    exact ⟨by rw [List.length_set]; exact hl', fun j hj => by rw [List.getElem?_set_ne (Ne.symm hj)]; exact hsl j hj, iv_app _ _ _ _ _ _ iv2 Muu up5 e2 hb2⟩
  · refine .inl ⟨⟨vs, SqL.of hq', by omega⟩, ?_⟩
    have gq' : σ'[iH]? = some (some (.ref q)) := by rw [hsl iH (Ne.symm n6)]; exact kq
    refine ⟨.ref q, gq', .inl ⟨rfl, vs, SqL.of hq'⟩, q, vs, .int 7, rfl, rfl, hq', by omega, ?_⟩
    have stF : Step [] G H (cut B1 G3) (upd H' q (.lst (vs ++ [.int 7]))) := by
      refine ⟨fun a o e => ?_, fun a o e => ?_, fun a o e _ => ?_, fun a o e n _ => ?_⟩
      · rw [cut_good (fun z : B1 a => by rw [z.1] at e; cases e)]
        exact st3.gg _ _ (st2.gg _ _ (sGq _ _ e))
      · obtain ⟨nb, e⟩ := cut_some e
        have nm : ¬ Mu a := fun ⟨z1, l, z2, _⟩ => nb ⟨z1, fun z3 => by rw [sq.gg _ _ z2] at z3; cases z3⟩
        have nq : a ≠ q := fun z => nb (by subst z; exact ⟨fG, fun z3 => by rw [upd_same] at z3; cases z3⟩)
        rw [upd_ne nq]
        exact iv.1 _ _ (st3.gh _ _ e) nm
      · have nm : ¬ Mu a := fun ⟨z1, l, z2, _⟩ => by rw [st1.old a o e z1 (by simp)] at z2; cases z2
        have nq : a ≠ q := fun z => by subst z; rw [f1] at e; cases e
        rw [upd_ne nq]
        exact iv.1 _ _ (up3 _ _ (st1.keep a o e (by simp))) nm
      · have nq : a ≠ q := fun z => by subst z; rw [f1] at e; cases e
        have e1 := st1.keep a o e (by simp)
        have m1 : upd G1 q (.lst vs) a = none := by rw [upd_ne nq]; exact st1.old a o e n (by simp)
        have m2 := st2.old a o e1 m1 (by simp)
        have m3 := st3.old a o (st2.keep a o e1 (by simp)) m2 (by simp)
        by_cases z : B1 a
        · exact cut_bad z
        · rw [cut_good z]; exact m3
    have evF := ev.step0 stF
    have eA : EnvOk (ρ.set iH .off) (cut B1 G3) (upd H' q (.lst (vs ++ [.int 7]))) (σ.set iH (some (.ref q))) := evF.put (e := .off) trivial (nodup_fr evF.nd rfl).1
    have eB := eA.putFr (i := iB) (R := Rbk) (x := b) (v := v) (Rbk.mono (cut_mono st3.gg) rb)
    have eC := env_slot (i := iR) (σ' := σ') eB (by rw [hl', lσ2]) hsl
    refine ⟨cut B1 G3, P, stF.gh, eC, pp, ct.step stF.of0 (fun a ha => .inl ?_) fun z hz => pls_set pR (pls_set pB (pls_set pH hz))⟩
    rcases adrs_set ha with ha | ha
    · rcases adrs_set ha with ha | ha
      · rcases adrs_set ha with ha | ha
        · exact ha
        · cases ha
      · cases ha
    · cases ha
end
end SS

set_option Elab.async false
set_option linter.all false
set_option maxRecDepth 100000
/-! SSM: own rules: the pool begun, own lists in tests, the copying comprehension. Own work. -/
namespace SS
open PySem PySem.Spec L2
section
variable {X : Cx} {K : PySem.W.Frag} [HK X K] {τ ℓ α β γ δ : Type} {ρ : List (En K)} {post : τ → List (En K)} {lp : ℓ → List (En K)} {R : Rp K β} {rest : List Stmt} {pos : Pos} {e : Expr}
theorem pt_thaw {i : Nat} {p : Addr} {Ra : Rp K α} {xs : List α} {w : W Bool} (ho : ρ[i]? = some (.own p Ra xs)) (h : PT X e (TTx ((ρ.map hide).set i (.fr (rL Ra) xs)) w)) : PT X e (TTx ρ w) := by
  refine pt_imp h fun σ H Q ⟨G, P, s, ev, pp, c⟩ => ?_
  obtain ⟨hσ, n1, ⟨vs, h1, h2, h3⟩, hm⟩ := own_get ho ev
  have s1 : Step [p] G H (upd G p (.lst vs)) H := Step.freeze s (by simp) n1 h1
  have hpl : pls ((ρ.map hide).set i (.fr (rL Ra) xs : En K)) = [] := pls_setoff (hide_pls ρ) rfl
  have nd0 : (adrs (ρ.map hide)).Nodup := ev.nd.sublist (hide_adrs ρ)
  refine ⟨upd G p (.lst vs), P, s1.gh, ⟨by simp [ev.len], fun j e' hj => ?_, (nodup_fr nd0 rfl).1⟩, pp, fun G' H' b st e' pb => ?_⟩
  · by_cases hij : i = j
    · subst hij
      have hl : i < (ρ.map hide).length := by rw [List.length_map]; exact (List.getElem?_eq_some_iff.mp ho).1
      rw [List.getElem?_set_self hl] at hj
      cases hj
      exact ⟨_, hσ, .ref p, rfl, p, vs, rfl, SqL.of upd_same, paired_mono (fun _ _ z => Ra.mono s1.gg z) h2, h3⟩
    · rw [List.getElem?_set_ne hij, List.getElem?_map] at hj
      cases q : ρ[j]? with
      | none => rw [q] at hj; cases hj
      | some e0 =>
        rw [q] at hj
        obtain ⟨o, ho', q'⟩ := ev.ok j e0 q
        have ee : hide e0 = e' := by simpa using hj
        subst ee
        refine ⟨o, ho', ?_⟩
        cases e0 with
        | pool a b => trivial
        | off => trivial
        | fr R' x' => exact En.step (e := .fr R' x') q' s1 fun a ha => nomatch ha
        | own a' R' x' => exact En.step (e := .own a' R' x') q' s1 fun a ha z => nodup_apart ev.nd ho q hij (by rw [mem1 z]; simp [En.adr]) ha
        | obj a' C' x' => exact En.step (e := .obj a' C' x') q' s1 fun a ha z => nodup_apart ev.nd ho q hij (by rw [mem1 z]; simp [En.adr]) ha
        | rg a' C' x' => exact En.step (e := .rg a' C' x') q' s1 fun a ha z => nodup_apart ev.nd ho q hij (by rw [mem1 z]; simp [En.adr]) ha
  · -- the ghost without p
    have st0 : Step [] (upd G p (.lst vs)) H G' H' := by
      have e0 : padr ((ρ.map hide).set i (.fr (rL Ra) xs : En K)) = [] := by unfold padr; rw [hpl]; rfl
      rw [e0] at st
      exact st
    let G2 : Hp := fun a => if a = p then none else G' a
    have g2 : ∀ a o, G2 a = some o → G' a = some o ∧ a ≠ p := fun a o q => by
      by_cases z : a = p
      · have : G2 a = none := if_pos z
        rw [this] at q; cases q
      · have : G2 a = G' a := if_neg z
        rw [this] at q; exact ⟨q, z⟩
    have stf : Step [] G H G2 H' := by
      refine ⟨fun a o q => ?_, fun a o q => st0.gh a o (g2 a o q).1, fun a o q _ => st0.keep a o q (by simp), fun a o q n _ => ?_⟩
      · have z : a ≠ p := ne_of_none q n1
        have : G2 a = G' a := if_neg z
        rw [this]
        exact st0.gg a o (by rw [upd_ne z]; exact q)
      · by_cases z : a = p
        · exact if_pos z
        · have : G2 a = G' a := if_neg z
          rw [this]
          exact st0.old a o q (by rw [upd_ne z]; exact n) (by simp)
    exact c G2 H' b stf.of0 (ev.step0 stf) pb
/-- pool = begin(script) -/
theorem b_begin {i most k : Nat} {nm x : Str} {pn p spos : Pos} {ps : List Str} {w : W (List Int)} {m : Addr → (Addr × Addr) → W (Out τ ℓ β)} (h : FnG X.prog X.w K X.mg X.base x k ps (SpB K most)) (hr : Room k X.A) (hN : X.N.Nodup) (hi : X.N[i]? = some nm) (hx : Loc X.env.scope nm) (ha : PA X [e] (TAx ρ (fs1 (rL rI)) w))
    (hb : ∀ p g, PSs X rest (TBO (ρ.set i (.pool p g)) post lp R (m p g))) (hp : (ρ.getD i .off).pl = [] := by rfl) (hg : Gl X x := by rfl) (hdb : (x == ("__debug__" : Str)) = false := by decide) (he : starEach [e] X.env = (false, eval e X.env) :: starEach [] X.env := by rfl)
    (hpl : (backTo pos (starEach [] X.env)).any (·.1) = false := by rfl) (hs : swapsWith (.Call (.Name x p) [e] [] pos) (some (.Name nm pn)) spos.line X.env = pure false := by rfl)
    (hf : X.fn nm = true ∨ X.env.scope.names.lookup nm = some .local := by first | exact .inl rfl | exact .inr rfl | assumption) :
    PSs X (.Assign [.Name nm pn] (.Call (.Name x p) [e] [] pos) spos :: rest) (TBO ρ post lp R fun P => w fun ns => ns.length ≤ most ∧ ∀ p g, m p g P) := by
  have hK : X.K = K := HK.eq
  subst hK
  obtain ⟨f, fd, h1, h2, h3, h4⟩ := h.ex
  refine pss_imp (pss_cons (ps_set hN hi hx (pe_call h4 hr hg h1 h2 h3 .nil pass0 ha hdb he hpl) hs hf) (pss_fam fun q : Addr × (Addr × Addr) => hb q.1 q.2)) fun D σ H ⟨G, P, s, ev, pp, c⟩ => ⟨G, _, s, ev, pp, fun G1 H1 vs a st e1 pa ra => ?_⟩
  obtain ⟨v, hv, qv⟩ := ra
  subst hv
  show SpB X.K most ([v] ++ []) H1 _ E0
  refine ⟨G1, v, a, rfl, st.gh, qv, pa.1, fun G2 H2 p g st2 n1 n2 pl => ?_⟩
  have e2 := e1.step0 st2
  have np : H p = none := EnvOk.freshIn st e1 n1
  have ng : H g.1 = none := EnvOk.freshIn st e1 n2
  refine ⟨(p, g), G2, P, st2.gh, e2.put ⟨rfl, pl⟩ (nodup_set e2.nd (by have := pl.2.2.1; simp [En.adr, this]) fun a ha z => ?_), pa.2 p g, c.step ((st.trans st2.of0).wide fun a ha => padr_sub ha) (fun b hb => (adrs_set hb).elim .inl fun z => .inr ?_) fun q hq => pls_set hp hq⟩
  · rcases (by simpa [En.adr] using ha : a = p ∨ a = g.1) with z2 | z2
    · subst z2; exact ev.fresh np z
    · rw [z2] at z; exact ev.fresh ng z
  · rcases (by simpa [En.adr] using z : b = p ∨ b = g.1) with z2 | z2
    · rw [z2]; exact np
    · rw [z2]; exact ng
/-- name = [.. for ..] where the rest is anything -/
theorem b_lcK {i : Nat} {nm : Str} {pn : Pos} {Ra : Rp K α} {Rb : Rp K γ} {tg iter elt : Expr} {ifs : List Expr} {scope : Scope} {own : List (Str × Nat)} {spos : Pos} {wi : W (List α)} {ext : α → List (En K)} {is : List Nat} {t : α → W Bool} {f : α → W γ} {u : TS}
    (hN : X.N.Nodup) (hi : X.N[i]? = some nm) (hyl : X.env.scope.names.lookup nm = some .local) (hk : X.env.scope.kind = .function) (ha : (scope.names.any fun (n, k) => n == nm && (k == .local || k == .cell)) = false)
    (ok : BlkOk X.N X.env.scope scope own) (hit : PI X tg iter (TIx ρ Ra wi))
    (hg : ∀ (s : Shared) (H : Hp) (C : Addr) (cl : List (Str × Addr)) (fp : List Addr), PG (BX X scope s H C cl fp) tg (TGx (wipeE ρ (own.map (·.2))) Ra ext is))
    (ht : ∀ (x : α) (s : Shared) (H : Hp) (C : Addr) (cl : List (Str × Addr)) (fp : List Addr), PTs (BX X scope s H C cl fp) ifs (TTx (ext x) (t x)))
    (he : ∀ (x : α) (s : Shared) (H : Hp) (C : Addr) (cl : List (Str × Addr)) (fp : List Addr), PE (BX X scope s H C cl fp) elt (TEx (ext x) Rb (f x)))
    (hr : PSs X rest u)
    (hc : X.calm = true := by rfl) (hsub : ∀ j ∈ is, j ∈ own.map (·.2) := by decide) (hpl : ∀ x, pls (ext x) = pls ρ := by intro _; rfl) (hpw : pls (wipeE ρ (own.map (·.2))) = pls ρ := by rfl)
    (hs : ∀ x, foldedSetIterable iter X.env x = pure x := by intro _; rfl) (hl : (pn.line == pos.line) = true := by rfl) :
    PSs X (.Assign [.Name nm pn] (.ListComp elt [⟨tg, iter, ifs, 0⟩] scope pos) spos :: rest) (fun D σ H => ∃ (G : Hp) (P : List γ → Prop), Same G H ∧ EnvOk ρ G H σ ∧ (wi fun xs => lcW xs t f P) ∧
      ∀ G' H' q vs xs, Step (padr ρ) G H G' H' → EnvOk ρ G' H' σ → P xs → H q = none → G' q = none → H' q = some (.lst vs) → Paired (Rb.ok G') vs xs → vs.length ≤ sizeLine → u D (σ.set i (some (.ref q))) H') :=
  pss_imp (pss_cons (ps_setLc hc hN hi hyl (sw_true hk hyl hl ha) hit ok hg (fun s H C cl fp => pts_fam fun x => ht x s H C cl fp) (fun s H C cl fp => pe_fam fun x => he x s H C cl fp) hs) hr)
    fun D σ H ⟨G, P, s, ev, p, c⟩ => tx_lc hsub hpl hpw σ H (fun x H1 => u D (σ.set i (some x)) H1) ⟨G, _, s, ev, p, fun G' H' q vs xs st e' pa n1 n2 hq pr hz => c G' H' q vs xs st e' pa n1 n2 hq pr hz⟩
theorem b_cond {C : Prop} {sts : List Stmt} {m : W (Out τ ℓ β)} (h : C → PSs X sts (TBO ρ post lp R m)) : PSs X sts (TBO ρ post lp R fun P => C ∧ m P) :=
  ⟨fun pins s σ H D I ⟨G, P, sm, ev, ⟨c, pm⟩, ct⟩ => (h c).run pins s σ H D I ⟨G, P, sm, ev, pm, ct⟩⟩
theorem r2_addS : R2Ok (fun x y H Q => ∃ i j : Str, x = .str i ∧ y = .str j ∧ i.length + j.length ≤ sizeLine ∧ Q (.str (i ++ j)) H) (rS : Rp K Str) (rS : Rp K Str) (rS : Rp K Str) (fun x y P => x.length + y.length ≤ sizeLine ∧ P (x ++ y)) := fun G H v u x y P Q s h1 h2 p k => by
  have e1 : v = V.str x := h1
  have e2 : u = V.str y := h2
  subst e1 e2
  exact ⟨x, y, rfl, rfl, p.1, k G H _ _ (Step.refl s) p.2 rfl⟩
theorem tC_lays (v : V) : ∀ (σ : L2.St) (H : Hp) (Q : VK), Q v H → tC v σ H Q := fun _ _ _ h => h
/-- (0, [0]) -/
theorem lays_couple : Lays (tTup (tCons (tC (.int 0)) (tCons (tLst (tCons (tC (.int 0)) tNil)) tNil))) := fun σ H Q c => by
  have sz := szl
  refine ⟨by show 1 ≤ sizeLine; omega, fun q1 h1 => ⟨by show 2 ≤ sizeLine; omega, fun q2 h2 => c _ _ fun a o e => ?_⟩⟩
  have n1 : a ≠ q1 := fun z => by subst z; rw [h1] at e; cases e
  have e1 : (upd H q1 (.lst [.int 0])) a = some o := by rw [upd_ne n1]; exact e
  have n2 : a ≠ q2 := fun z => by subst z; rw [h2] at e1; cases e1
  rw [upd_ne n2]; exact e1
/-- [(0, [0])] -/
theorem lays_list : Lays (tLst (tCons (tTup (tCons (tC (.int 0)) (tCons (tLst (tCons (tC (.int 0)) tNil)) tNil))) tNil)) := fun σ H Q c => by
  have sz := szl
  refine lays_couple σ H (fun x H1 => ([x] : List V).length ≤ sizeLine ∧ ∀ p, H1 p = none → Q (.ref p) (upd H1 p (.lst [x]))) fun v H' up => ⟨by show 1 ≤ sizeLine; omega, fun q1 h1 => c _ _ fun a o e => ?_⟩
  have e1 := up a o e
  have n1 : a ≠ q1 := fun z => by subst z; rw [h1] at e1; cases e1
  rw [upd_ne n1]; exact e1
end
end SS

set_option Elab.async false
set_option linter.all false
set_option maxRecDepth 100000
/-! SSN: own rules: while, bits, slices, sums. Own work. -/
namespace SS
open PySem PySem.Spec L2
section
variable {σ β : Type}
/-- a while: an invariant and a measure are told in the condition -/
def whileW (st0 : σ) (c : σ → W Bool) (f : σ → W (Out σ σ β)) (N : σ → Prop) (Rr : β → Prop) : Prop := ∃ (I : σ → Prop) (μ : σ → Nat), I st0 ∧ ∀ st, I st → c st fun b => if b = true then f st fun o => match o with
  | .nx st' => I st' ∧ μ st' < μ st
  | .ct st' => I st' ∧ μ st' < μ st
  | .bk st' => N st'
  | .rt b => Rr b
  else N st
end
section
variable {X : Cx} {K : PySem.W.Frag} [HK X K] {τ τ' ℓ ℓ' α β γ : Type} {ρ : List (En K)} {post : τ → List (En K)} {lp : ℓ → List (En K)} {R : Rp K β} {rest : List Stmt} {pos : Pos} {e : Expr}
theorem pt_fam {ι : Type} {t : ι → TT} (h : ∀ i, PT X e (t i)) : PT X e (ttf t) := ⟨fun pins s σ H Q I ⟨i, q⟩ => (h i).run pins s σ H Q I q⟩
theorem b_while {t : Expr} {body : List Stmt} {cw : τ' → W Bool} {f : τ' → W (Out τ' τ' β)} {m : τ' → W (Out τ ℓ β)} (inv : τ' → List (En K)) (st0 : τ') (h0 : Ent ρ (inv st0)) (hc : ∀ st, PT X t (TTx (inv st) (cw st))) (hb : ∀ st, PSs X body (TBO (inv st) inv inv R (f st))) (hr : ∀ st, PSs X rest (TBO (inv st) post lp R (m st)))
    (hA : ∀ st, adrs (inv st) = adrs (inv st0) := by intro _; rfl) (hp' : ∀ st, pls (inv st) = pls (inv st0) := by intro _; rfl) (ho : PassesOwn (model X.prog X.w) X.A X.env X.xe := by exact PassesOwn.never) :
    PSs X (.While t body [] pos :: rest) (TBO ρ post lp R fun P => whileW st0 cw f (fun st => m st P) fun b => P (.rt b)) := by
  refine pss_imp (pss_cons (ps_while ho (pt_fam hc) (pss_fam hb)) (pss_fam hr)) fun D σ H ⟨G, P, s, ev, ⟨I, μ, i0, hi⟩, c⟩ => ?_
  have sub : ∀ st, ∀ a ∈ adrs (inv st), a ∈ adrs ρ := fun st a ha => h0.adrs.subset (by rw [hA] at ha; exact ha)
  have plI : ∀ st, ∀ q ∈ pls ρ, q ∈ pls (inv st) := fun st q hq => by rw [hp', h0.pls]; exact hq
  refine ⟨fun n σ' H' => ∃ (G' : Hp) (st : τ'), n = μ st ∧ I st ∧ Step (adrs ρ) G H G' H' ∧ EnvOk (inv st) G' H' σ', ⟨_, G, st0, rfl, i0, Step.refl s, ev.ent h0⟩, ?_⟩
  rintro n σ' H' ⟨G', st, rfl, ist, sg, ei⟩
  refine ⟨st, G', _, sg.gh, ei, hi st ist, fun G1 H1 b st1 e1 pb => ?_⟩
  have s1 : Step (adrs ρ) G H G1 H1 := sg.trans (st1.wide fun a ha => sub st a (padr_sub ha))
  cases b with
  | false => exact ⟨st, G1, P, st1.gh, e1, pb, c.step s1 (fun a ha => .inl (sub st a ha)) (plI st)⟩
  | true =>
    refine ⟨fun σ2 H2 => ∃ (G2 : Hp) (st' : τ'), I st' ∧ μ st' < μ st ∧ Step (adrs ρ) G H G2 H2 ∧ EnvOk (inv st') G2 H2 σ2, fun σ2 H2 ⟨G2, st', q1, q2, q3, q4⟩ => ⟨μ st', q2, G2, st', rfl, q1, q3, q4⟩, st, G1, _, st1.gh, e1, pb, ?_⟩
    refine ⟨fun t G3 H3 σ3 s3 e3 p3 => ?_, fun t G3 H3 σ3 s3 e3 p3 => ?_, fun t G3 H3 σ3 s3 e3 p3 => ?_, fun b G3 H3 v s3 e3 p3 r3 => ?_⟩
    · exact ⟨G3, t, p3.1, p3.2, s1.cut s3 fun a ha => .inl (sub st a ha), e3⟩
    · exact ⟨G3, t, p3.1, p3.2, s1.cut s3 fun a ha => .inl (sub st a ha), e3⟩
    · exact ⟨t, G3, P, s3.gh, e3, p3, c.step (s1.cut s3 fun a ha => .inl (sub st a ha)) (fun a ha => .inl (sub t a ha)) (plI t)⟩
    · exact c.rt b G3 H3 v (s1.cut s3 fun a ha => .inl (sub st a ha)) (fun q hq => e3 q (plI st q hq)) p3 r3
theorem r2_band : R2Ok (rI0 fun i j => .int (Builtin.bitAnd i j)) (rI : Rp K Int) (rI : Rp K Int) (rI : Rp K Int) (fun x y P => P (Builtin.bitAnd x y)) := fun G H v u x y P Q s h1 h2 p k => ⟨x, y, h1, h2, k G H _ _ (Step.refl s) p rfl⟩
theorem r2_bor : R2Ok (rI0 fun i j => .int (Builtin.bitOr i j)) (rI : Rp K Int) (rI : Rp K Int) (rI : Rp K Int) (fun x y P => P (Builtin.bitOr x y)) := fun G H v u x y P Q s h1 h2 p k => ⟨x, y, h1, h2, k G H _ _ (Step.refl s) p rfl⟩
theorem cut_drop {vs : List V} {n : Int} (h : 0 ≤ n) : cutV vs (some n) none = vs.drop n.toNat := by
  unfold cutV
  obtain ⟨k, rfl⟩ := Int.eq_ofNat_of_zero_le h
  rw [HT.sIx_none, HT.sIx_nat]
  simp only [Int.toNat_natCast]
  by_cases z : k ≤ vs.length
  · rw [Nat.min_eq_left z, List.take_of_length_le (by rw [List.length_drop]; exact Nat.le_refl _)]
  · rw [Nat.min_eq_right (by omega), List.drop_length, List.drop_of_length_le (by omega)]; simp
/-- xs[:e] -/
theorem pr_slcTo {en : Expr} {p2 : Pos} {Ra : Rp K α} {w : W (List α)} {wn : W Int} (h : PE X e (TEx ρ (rL Ra) w)) (hn : PE X en (TEx ρ rI wn)) : PE X (.Subscript e (.Slice none (some en) none p2) pos) (TEL ρ Ra fun P => w fun xs => wn fun n => 0 ≤ n ∧ P (xs.take n.toNat)) := by
  have hK : X.K = K := HK.eq
  subst hK
  refine pe_imp (pe_slice sl_list h po_none (po_some hn)) fun σ H Q ⟨G, P, s, ev, pp, c⟩ => ⟨G, _, s, ev, pp, fun G1 H1 v xs st e1 pa ra => ⟨G1, _, st.gh, e1, pa, fun G2 H2 u n st2 e2 pn rn => ?_⟩⟩
  have rn' : u = V.int n := rn
  obtain ⟨a, vs, h1, h2, h3, h4⟩ := (rL Ra).mono st2.gg ra
  refine ⟨n, rn', a, vs, h1, Same.seq st2.gh h2, fun p hp => ?_⟩
  have s1 : Step [] G2 H2 G2 (upd H2 p (.lst (cutV vs none (some n)))) := Step.lay st2.gh hp
  refine c G2 _ p _ _ ((st.trans st2).trans s1.of0) (e2.step0 s1) pn.2 (EnvOk.freshIn (st.trans st2) e2 hp) (st2.gh.free hp) upd_same ?_ (Nat.le_trans (cutV_length _ _ _) h4)
  rw [cut_take pn.1]
  exact paired_take _ h3
/-- xs[e:] -/
theorem pr_slcFrom {en : Expr} {p2 : Pos} {Ra : Rp K α} {w : W (List α)} {wn : W Int} (h : PE X e (TEx ρ (rL Ra) w)) (hn : PE X en (TEx ρ rI wn)) : PE X (.Subscript e (.Slice (some en) none none p2) pos) (TEL ρ Ra fun P => w fun xs => wn fun n => 0 ≤ n ∧ P (xs.drop n.toNat)) := by
  have hK : X.K = K := HK.eq
  subst hK
  refine pe_imp (pe_slice sl_list h (po_some hn) po_none) fun σ H Q ⟨G, P, s, ev, pp, c⟩ => ⟨G, _, s, ev, pp, fun G1 H1 v xs st e1 pa ra => ⟨G1, _, st.gh, e1, pa, fun G2 H2 u n st2 e2 pn rn => ?_⟩⟩
  have rn' : u = V.int n := rn
  obtain ⟨a, vs, h1, h2, h3, h4⟩ := (rL Ra).mono st2.gg ra
  refine ⟨n, rn', a, vs, h1, Same.seq st2.gh h2, fun p hp => ?_⟩
  have s1 : Step [] G2 H2 G2 (upd H2 p (.lst (cutV vs (some n) none))) := Step.lay st2.gh hp
  refine c G2 _ p _ _ ((st.trans st2).trans s1.of0) (e2.step0 s1) pn.2 (EnvOk.freshIn (st.trans st2) e2 hp) (st2.gh.free hp) upd_same ?_ (Nat.le_trans (cutV_length _ _ _) h4)
  rw [cut_drop pn.1]
  exact paired_drop _ h3
/-- a new list is frozen, as such -/
theorem pr_frzX {Ra : Rp K α} {w : W (List α)} (h : PE X e (TEL ρ Ra w)) : PE X e (TEx ρ (rLx Ra) w) := by
  refine pe_imp h fun σ H Q ⟨G, P, s, ev, p, c⟩ => ⟨G, P, s, ev, p, fun G' H' q vs xs st e' px n1 n2 hq pr hz => ?_⟩
  have hq' : q ∉ adrs ρ := ev.fresh n1
  have s2 : Step [q] G' H' (upd G' q (.lst vs)) H' := Step.freeze st.gh (by simp) n2 hq
  exact c _ _ _ xs (st.cut s2 fun b hb => .inr (by rw [mem1 hb]; exact n1)) (e'.step s2 fun b hb z => hq' (by rw [← mem1 z]; exact hb)) px ⟨q, vs, rfl, upd_same, paired_mono (fun _ _ z => Ra.mono s2.gg z) pr, hz⟩
theorem pr_ofX {Ra : Rp K α} {w : W (List α)} (h : PE X e (TEx ρ (rLx Ra) w)) : PE X e (TEx ρ (rL Ra) w) := pr_to (fun x => x) h (fun _ _ _ q => rLx_ok q)
/-- xs + ys -/
theorem pr_cat {a b : Expr} {Ra : Rp K α} {w1 w2 : W (List α)} (ha : PE X a (TEx ρ (rLx Ra) w1)) (hb : PE X b (TEx ρ (rLx Ra) w2)) : PE X (.BinOp a .Add b pos) (TEL ρ Ra fun P => w1 fun xs => w2 fun ys => xs.length + ys.length ≤ sizeLine ∧ P (xs ++ ys)) := by
  refine pe_imp (pe_op op_cat ha hb) fun σ H Q ⟨G, P, s, ev, pp, c⟩ => ⟨G, _, s, ev, pp, fun G1 H1 v xs st e1 pa ra => ⟨G1, _, st.gh, e1, pa, fun G2 H2 u ys st2 e2 pb rb => ?_⟩⟩
  obtain ⟨a1, vs, h1, h2, h3, h4⟩ := (rLx Ra).mono st2.gg ra
  obtain ⟨b1, us, g1, g2, g3, g4⟩ := rb
  have hz : vs.length + us.length ≤ sizeLine := by rw [paired_len h3, paired_len g3]; exact pb.1
  refine ⟨a1, b1, vs, us, h1, g1, st2.gh _ _ h2, st2.gh _ _ g2, hz, fun p hp => ?_⟩
  have s1 : Step [] G2 H2 G2 (upd H2 p (.lst (vs ++ us))) := Step.lay st2.gh hp
  exact c G2 _ p _ _ ((st.trans st2).trans s1.of0) (e2.step0 s1) pb.2 (EnvOk.freshIn (st.trans st2) e2 hp) (st2.gh.free hp) upd_same (paired_app h3 g3) (by rw [List.length_append]; exact hz)
theorem rc_sum : RCOk (rSum K) (fs1 (rL (rI : Rp K Int))) (rI : Rp K Int) (fun xs P => P xs.sum) := fun G H vs xs P Q s ⟨v, h, a, us, h1, h2, h3, h4⟩ p k => by
  have e : us = xs.map V.int := ints_of h3
  subst h; subst h1; subst e
  exact ⟨a, xs, rfl, Same.seq s h2, k G H _ _ (Step.refl s) p rfl⟩
theorem rc_maxL : RCOk (rMax K) (fs1 (rL (rI : Rp K Int))) (rI : Rp K Int) (fun xs P => xs ≠ [] ∧ ∀ m ∈ xs, (∀ x ∈ xs, x ≤ m) → P m) := fun G H vs xs P Q s ⟨v, h, a, us, h1, h2, h3, h4⟩ ⟨p0, p⟩ k => by
  have e : us = xs.map V.int := ints_of h3
  subst h; subst h1; subst e
  exact ⟨a, xs, rfl, Same.seq s h2, List.length_pos_iff.mpr p0, fun m m1 m2 => k G H _ _ (Step.refl s) (p m m1 m2) rfl⟩
theorem rc_minL : RCOk (rMin K) (fs1 (rL (rI : Rp K Int))) (rI : Rp K Int) (fun xs P => xs ≠ [] ∧ ∀ m ∈ xs, (∀ x ∈ xs, m ≤ x) → P m) := fun G H vs xs P Q s ⟨v, h, a, us, h1, h2, h3, h4⟩ ⟨p0, p⟩ k => by
  have e : us = xs.map V.int := ints_of h3
  subst h; subst h1; subst e
  exact ⟨a, xs, rfl, Same.seq s h2, List.length_pos_iff.mpr p0, fun m m1 m2 => k G H _ _ (Step.refl s) (p m m1 m2) rfl⟩
end
end SS

set_option Elab.async false
set_option linter.all false
set_option maxRecDepth 100000
/-! SSO: own rules: dicts whose keys are texts of any depth of tuples. Own work. -/
namespace SS
open PySem PySem.Spec L2
/-- a representation whose things may be a dict's keys -/
structure KeyR {K : PySem.W.Frag} {α : Type} (R : Rp K α) where
  enc : α → NestedKey
  inj : ∀ x y, enc x = enc y → x = y
  dep : Nat
  dle : ∀ x, (enc x).depth ≤ dep
  is : ∀ {X : Cx} {pins : List (Addr × Obj)} {σ : L2.St} {H : Hp} {s : Shared} {v : V} {u : Value} {x : α}, X.K = K → Inv X pins σ H s → R.ok H v x → RelV v u → NestedIs s.heap (enc x) u
structure KeyF {K : PySem.W.Frag} {α : Type} (F : Fs K α) where
  enc : α → List NestedKey
  inj : ∀ x y, enc x = enc y → x = y
  dep : Nat
  dle : ∀ x, NestedKey.depthAll (enc x) ≤ dep
  is : ∀ {X : Cx} {pins : List (Addr × Obj)} {σ : L2.St} {H : Hp} {s : Shared} {vs : List V} {us : List Value} {x : α}, X.K = K → Inv X pins σ H s → F.ok H vs x → Vals vs us → NestedAll s.heap (enc x) us
section
variable {K : PySem.W.Frag} {α β : Type}
def kI : KeyR (rI : Rp K Int) := ⟨.num, fun x y h => by cases h; rfl, 0, fun _ => Nat.le_refl _, fun {X pins σ H s v u x} _ I h r => by
  have e : v = V.int x := h
  subst e
  obtain ⟨t, rfl⟩ := r
  exact .int x t⟩
def kS : KeyR (rS : Rp K Str) := ⟨.text, fun x y h => by cases h; rfl, 0, fun _ => Nat.le_refl _, fun {X pins σ H s v u x} _ I h r => by
  have e : v = V.str x := h
  subst e
  obtain ⟨t, rfl⟩ := r
  exact .text x t⟩
theorem nall_map {R : Rp K α} (k : KeyR R) {X : Cx} {pins : List (Addr × Obj)} {σ : L2.St} {H : Hp} {s : Shared} (hK : X.K = K) (I : Inv X pins σ H s) : ∀ {vs : List V} {us : List Value} {xs : List α}, Paired (R.ok H) vs xs → Vals vs us → NestedAll s.heap (xs.map k.enc) us
  | _, _, _, .nil, .nil => .nil
  | _, _, _, .cons r t, .cons q z => .cons (k.is hK I r q) (nall_map k hK I t z)
theorem map_inj {α β : Type} {f : α → β} (h : ∀ x y, f x = f y → x = y) : ∀ xs ys : List α, xs.map f = ys.map f → xs = ys
  | [], [], _ => rfl
  | [], _ :: _, e => by cases e
  | _ :: _, [], e => by cases e
  | x :: xs, y :: ys, e => by
    rw [List.map_cons, List.map_cons] at e
    injection e with e1 e2
    rw [h _ _ e1, map_inj h _ _ e2]
theorem depthAll_map {R : Rp K α} (k : KeyR R) : ∀ xs : List α, NestedKey.depthAll (xs.map k.enc) ≤ k.dep
  | [] => Nat.zero_le _
  | x :: xs => by show max _ _ ≤ _; exact Nat.max_le.mpr ⟨k.dle x, depthAll_map k xs⟩
theorem nested_tup {X : Cx} {pins : List (Addr × Obj)} {σ : L2.St} {H : Hp} {s : Shared} {a : Addr} {vs : List V} {u : Value} {ks : List NestedKey} (I : Inv X pins σ H s) (h : SqT X.K H a vs) (hu : RelV (.ref a) u) (hk : ∀ us, Vals vs us → NestedAll s.heap ks us) : NestedIs s.heap (.tup ks) u := by
  obtain ⟨its, r, ⟨o, ho, hc, n, hd⟩, _⟩ := I.tuple h
  cases hu
  exact .tup ho hc hd (by simpa using hk its r)
def kU {R : Rp K α} (k : KeyR R) : KeyR (rU R) := ⟨fun xs => .tup (xs.map k.enc), fun x y h => by injection h with h; exact map_inj k.inj _ _ h, k.dep + 1, fun xs => Nat.succ_le_succ (depthAll_map k xs), fun {X pins σ H s v u x} hK I h r => by
  obtain ⟨a, vs, e, h2, h3, _⟩ := h
  subst e
  subst hK
  exact nested_tup I h2 r fun us q => nall_map k rfl I h3 q⟩
def kf1 {R : Rp K α} (k : KeyR R) : KeyF (fs1 R) := ⟨fun x => [k.enc x], fun x y h => by injection h with h _; exact k.inj _ _ h, k.dep, fun x => by show max _ 0 ≤ _; exact Nat.max_le.mpr ⟨k.dle x, Nat.zero_le _⟩, fun {X pins σ H s vs us x} hK I h r => by
  obtain ⟨v, e, q⟩ := h
  subst e
  cases r with
  | cons r t => cases t; exact .cons (k.is hK I q r) .nil⟩
def kfC {R : Rp K α} {F : Fs K β} (k : KeyR R) (f : KeyF F) : KeyF (fsC R F) := ⟨fun x => k.enc x.1 :: f.enc x.2, fun x y h => by injection h with h1 h2; exact Prod.ext (k.inj _ _ h1) (f.inj _ _ h2), max k.dep f.dep, fun x => by show max _ _ ≤ _; exact Nat.max_le.mpr ⟨Nat.le_trans (k.dle _) (Nat.le_max_left _ _), Nat.le_trans (f.dle _) (Nat.le_max_right _ _)⟩, fun {X pins σ H s vs us x} hK I h r => by
  obtain ⟨v, z, e, q, hz⟩ := h
  subst e
  cases r with
  | cons r t => exact .cons (k.is hK I q r) (f.is hK I hz t)⟩
def kT {F : Fs K α} (f : KeyF F) : KeyR (rT F) := ⟨fun x => .tup (f.enc x), fun x y h => by injection h with h; exact f.inj _ _ h, f.dep + 1, fun x => Nat.succ_le_succ (f.dle x), fun {X pins σ H s v u x} hK I h r => by
  obtain ⟨a, vs, e, h2, h3⟩ := h
  subst e
  subst hK
  exact nested_tup I h2 r fun us q => f.is rfl I h3 q⟩
end
/-! ### the object -/
abbrev NK : Type := List (NestedKey × Addr × V)
def NRow (ks : NK) (xs : List (NestedKey × Addr × Value)) : Prop := Paired (fun (p : NestedKey × Addr × V) (q : NestedKey × Addr × Value) => p.1 = q.1 ∧ p.2.1 = q.2.1 ∧ RelV p.2.2 q.2.2) ks xs
def NObj (P : Program) (w : World) (d : Addr) (ks : NK) (h : Heap) : Prop := (d == sysModules) = false ∧ ks.length ≤ sizeLine ∧ ∃ xs, NRow ks xs ∧ ∃ o es ep, h.get? d = some o ∧ o.ExactDict ∧ o.data = .dict es ep ∧ es.toList = xs.map (entryOfKey (nestedKind P w)) ∧ (xs.map (·.1)).Nodup
def DNo (P : Program) (w : World) (d : Addr) (ks : NK) : HO := .ext (NObj P w d ks)
theorem dno_ok {P : Program} {w : World} {H : Hp} {h : Heap} {d : Addr} {ks : NK} (n : NObj P w d ks h) : ObjOk P w H h d (DNo P w d ks) := by
  obtain ⟨n1, n2, xs, n3, o, es, ep, n4, n5⟩ := n
  refine ⟨⟨n1, n2, xs, n3, o, es, ep, n4, n5⟩, ⟨o, n4⟩, fun h1 h2 ⟨m1, m2, xs', m3, o', es', ep', m4, m5⟩ k => ⟨m1, m2, xs', m3, o', es', ep', k _ m4, m5⟩⟩
/-- a key in the heap -/
def KeyAt (K : PySem.W.Frag) (H : Hp) (k : NestedKey) (v : V) : Prop := k.depth ≤ 8 ∧ ∀ {X : Cx} {pins : List (Addr × Obj)} {σ : L2.St} {s : Shared} {u : Value}, X.K = K → Inv X pins σ H s → RelV v u → NestedIs s.heap k u
section
variable {X : Cx}
theorem dno_get {pins : List (Addr × Obj)} {σ : L2.St} {H : Hp} {s : Shared} {d : Addr} {ks : NK} (I : Inv X pins σ H s) (e : H d = some (DNo X.prog X.w d ks)) (hk : ∀ p ∈ ks, KeyAt X.K H p.1 (.ref p.2.1)) :
    (d == sysModules) = false ∧ ks.length ≤ sizeLine ∧ ∃ xs, NRow ks xs ∧ s.heap.DictOfH (nestedKind X.prog X.w) d xs := by
  obtain ⟨⟨n1, n2, xs, n3, o, es, ep, n4, n5, n6, n7, n8⟩, _⟩ := (show ObjOk X.prog X.w H s.heap d (DNo X.prog X.w d ks) from I.hok d _ e)
  refine ⟨n1, n2, xs, n3, o, es, ep, n4, n5, n6, n7, fun x hx => ?_, n8⟩
  obtain ⟨i, hi⟩ := List.getElem?_of_mem hx
  obtain ⟨p, hp, e1, e2, _⟩ := paired_get n3 hi
  have q := hk p (List.mem_of_getElem? hp)
  rw [← e1, ← e2]
  exact ⟨q.2 rfl I rfl, q.1⟩
theorem nrow_find {k : NestedKey} : ∀ {ks : NK} {xs : List (NestedKey × Addr × Value)}, NRow ks xs → (ks.find? (fun p => decide (p.1 = k)) = none ∧ atKey xs k = none) ∨ ∃ p q, ks.find? (fun p => decide (p.1 = k)) = some p ∧ atKey xs k = some q ∧ p.2.1 = q.1 ∧ RelV p.2.2 q.2
  | _, _, .nil => .inl ⟨rfl, rfl⟩
  | _, _, .cons (a := p) (b := q) ⟨e1, e2, r⟩ t => by
    by_cases z : p.1 = k
    · refine .inr ⟨p, q.2, ?_, ?_, e2, r⟩
      · rw [List.find?_cons_of_pos (by simpa using z)]
      · unfold atKey
        rw [List.find?_cons_of_pos (by simpa using e1 ▸ z)]
        rfl
    · have zq : ¬ q.1 = k := by rw [← e1]; exact z
      rcases nrow_find (k := k) t with ⟨h1, h2⟩ | ⟨p', q', h1, h2, h3⟩
      · refine .inl ⟨?_, ?_⟩
        · rw [List.find?_cons_of_neg (by simpa using z)]; exact h1
        · unfold atKey at h2 ⊢
          rw [List.find?_cons_of_neg (by simpa using zq)]; exact h2
      · refine .inr ⟨p', q', ?_, ?_, h3⟩
        · rw [List.find?_cons_of_neg (by simpa using z)]; exact h1
        · unfold atKey at h2 ⊢
          rw [List.find?_cons_of_neg (by simpa using zq)]; exact h2
/-- k in d -/
def rInN (K : PySem.W.Frag) (P : Program) (w : World) : R2 := fun x y H Q => ∃ (a d : Addr) (k : NestedKey) (ks : NK), x = .ref a ∧ y = .ref d ∧ H d = some (DNo P w d ks) ∧ KeyAt K H k (.ref a) ∧ (∀ p ∈ ks, KeyAt K H p.1 (.ref p.2.1)) ∧ Q (.bl (ks.find? fun p => decide (p.1 = k)).isSome) H
theorem op_inN (hu : X.A.units + 64 < cLine) : OpR X (compareOp .In) (rInN X.K X.prog X.w) := by
  intro pins s σ H x y v u Q I rx ry ⟨a, d, k, ks, e1, e2, hd, ha, hks, q⟩
  subst e1 e2
  cases rx
  cases ry
  obtain ⟨n1, n2, xs, n3, hm⟩ := dno_get I hd hks
  refine wpAny_in_heap (knd := nestedKind X.prog X.w) (show X.A.units + 1 + 8 < cLine by omega) ⟨ha.2 rfl I rfl, ha.1⟩ n1 hm ⟨.bl _, H, I.tok _, ?_, q⟩
  rcases nrow_find (k := k) n3 with ⟨h1, h2⟩ | ⟨p', q', h1, h2, _⟩
  · rw [h1, h2]; rfl
  · rw [h1, h2]; rfl
/-- d[k] -/
def rGetN (K : PySem.W.Frag) (P : Program) (w : World) : R2 := fun x y H Q => ∃ (a d : Addr) (k : NestedKey) (ks : NK) (p : NestedKey × Addr × V), x = .ref d ∧ y = .ref a ∧ H d = some (DNo P w d ks) ∧ KeyAt K H k (.ref a) ∧ (∀ p ∈ ks, KeyAt K H p.1 (.ref p.2.1)) ∧ ks.find? (fun p => decide (p.1 = k)) = some p ∧ Q p.2.2 H
theorem ix_N (hu : X.A.units + 64 < cLine) : IxR X (rGetN X.K X.prog X.w) := by
  intro value slice pins s σ H x y v u Q I rx ry ⟨a, d, k, ks, p, e1, e2, hd, ha, hks, hf, q⟩ hs
  subst e1 e2
  cases rx
  cases ry
  obtain ⟨n1, n2, xs, n3, hm⟩ := dno_get I hd hks
  rcases nrow_find (k := k) n3 with ⟨h1, h2⟩ | ⟨p', q', h1, h2, _, h4⟩
  · rw [hf] at h1; cases h1
  · rw [hf] at h1
    cases h1
    exact PyProof.Rows.subscriptTail_builtinR (x := q'.2) hm.typeIs slot_dict_getitem.lookup (wpAny_getItem_heap (knd := nestedKind X.prog X.w) (Q := fun r s' => r = q'.2 ∧ EP X pins σ Q r s') (show X.A.units + 1 + 8 < cLine by omega) ⟨ha.2 rfl I rfl, ha.1⟩ hm h2 ⟨rfl, ⟨p.2.2, H, I.tok _, h4, q⟩⟩) hs
/-- what d[k] = v leaves -/
def putN (ks : NK) (k : NestedKey) (a : Addr) (v : V) : NK := if (ks.find? fun p => decide (p.1 = k)).isSome = true then ks.map (fun p => if p.1 = k then (p.1, p.2.1, v) else p) else ks ++ [(k, a, v)]
theorem nrow_map {k : NestedKey} {v : V} {u : Value} (hv : RelV v u) : ∀ {ks : NK} {xs : List (NestedKey × Addr × Value)}, NRow ks xs → NRow (ks.map (fun p => if p.1 = k then (p.1, p.2.1, v) else p)) (xs.map (putAt k u))
  | _, _, .nil => .nil
  | _, _, .cons (a := p) (b := q) ⟨e1, e2, r⟩ t => by
    refine .cons ?_ (nrow_map hv t)
    unfold putAt
    dsimp only
    by_cases z : p.1 = k
    · rw [if_pos z, if_pos (by rw [← e1]; exact z)]
      exact ⟨e1, e2, hv⟩
    · rw [if_neg z, if_neg (by rw [← e1]; exact z)]
      exact ⟨e1, e2, r⟩
theorem nrow_put {k : NestedKey} {a : Addr} {v : V} {u : Value} (hv : RelV v u) {ks : NK} {xs : List (NestedKey × Addr × Value)} (n : NRow ks xs) : NRow (putN ks k a v) (storedH xs k a u) := by
  unfold putN
  rcases nrow_find (k := k) n with ⟨h1, h2⟩ | ⟨p, q, h1, h2, _⟩
  · rw [h1, storedH_new h2]
    rw [if_neg (by simp)]
    exact paired_app n (.cons ⟨rfl, rfl, hv⟩ .nil)
  · rw [h1, storedH_old h2]
    rw [if_pos (by simp)]
    exact nrow_map hv n
theorem putN_len (ks : NK) (k : NestedKey) (a : Addr) (v : V) : (putN ks k a v).length ≤ ks.length + 1 := by
  unfold putN
  split
  · rw [List.length_map]; omega
  · rw [List.length_append]; exact Nat.le_refl _
def rSetN (K : PySem.W.Frag) (P : Program) (w : World) : TSet := fun o i v H Q => ∃ (a d : Addr) (k : NestedKey) (ks : NK), o = .ref d ∧ i = .ref a ∧ H d = some (DNo P w d ks) ∧ KeyAt K H k (.ref a) ∧ (∀ p ∈ ks, KeyAt K H p.1 (.ref p.2.1)) ∧ ks.length < sizeLine ∧ Q (upd H d (DNo P w d (putN ks k a v)))
theorem set_N (hu : X.A.units + 64 < cLine) : PSet X (rSetN X.K X.prog X.w) := by
  intro pins s σ H o i v ov iv u Q I ro ri rv ⟨a, d, k, ks, e1, e2, hd, ha, hks, hl, q⟩
  subst e1 e2
  cases ro
  cases ri
  obtain ⟨n1, n2, xs, n3, hm⟩ := dno_get I hd hks
  refine wpAny_setItem_heap (knd := nestedKind X.prog X.w) (hsz := by rw [← paired_len n3]; exact n2) (show X.A.units + 1 + 8 < cLine by omega) ⟨ha.2 rfl I rfl, ha.1⟩ hm fun h' dd' hs => ?_
  obtain ⟨ob, es, ep, hq, h2, h3, h4, _, h5⟩ := dd'
  exact ⟨_, d_write I (by rw [hd]; exact True.intro) hs ⟨ob, hq⟩ (dno_ok ⟨n1, by have := putN_len ks k a v; omega, _, nrow_put rv n3, ob, es, ep, hq, h2, h3, h4, h5⟩), q⟩
/-- {} whose keys will be such tuples -/
def tNewN (P : Program) (w : World) : TE := fun _ H Q => ∀ d, H d = none → Q (.ref d) (upd H d (DNo P w d []))
theorem pe_newN {pos : Pos} : PE X (.Dict [] [] pos) (tNewN X.prog X.w) := ⟨fun pins s σ H Q I h => by
  refine wpAny_Dict_empty ⟨.ref s.heap.objs.size, _, I.laid (a := s.heap.objs.size) (o := DNo X.prog X.w s.heap.objs.size []) (t' := s.toks) (fun _ _ q => Heap.get?_push_of_some _ q) (Nat.le_refl _) (dno_ok ?_), rfl, h _ (I.hok.fresh (Nat.le_refl _))⟩
  refine ⟨beq_eq_false_iff_ne.mpr (Nat.ne_of_gt I.big), Nat.zero_le _, [], .nil, ?_⟩
  obtain ⟨o, es, ep, h1, h2, h3, h4, _, h5⟩ := Heap.DictOfH.new (knd := nestedKind X.prog X.w) s.heap
  exact ⟨o, es, ep, h1, h2, h3, h4, h5⟩⟩
end
end SS

set_option Elab.async false
set_option linter.all false
set_option maxRecDepth 100000
/-! SSP: own rules: a dict of one's own with nested tuple keys. Own work. -/
namespace SS
open PySem PySem.Spec L2
section
variable {K : PySem.W.Frag} {α β : Type}
def NPair {R : Rp K α} (k : KeyR R) (Rv : Rp K β) (G : Hp) (ks : NK) (m : List (α × β)) : Prop := Paired (fun (q : NestedKey × Addr × V) (p : α × β) => q.1 = k.enc p.1 ∧ R.ok G (.ref q.2.1) p.1 ∧ Rv.ok G q.2.2 p.2) ks m
theorem NPair.mono {R : Rp K α} {k : KeyR R} {Rv : Rp K β} {G G' : Hp} (e : Same G G') {ks : NK} {m : List (α × β)} (h : NPair k Rv G ks m) : NPair k Rv G' ks m := paired_mono2 (fun q p ⟨z1, z2, z3⟩ => ⟨z1, R.mono e z2, Rv.mono e z3⟩) h
def dictRg (P : Program) (w : World) {R : Rp K α} (k : KeyR R) (Rv : Rp K β) (d : Addr) (m : List (α × β)) : Rgn [d] := ⟨fun G H => ∃ ks, H d = some (DNo P w d ks) ∧ NPair k Rv G ks m, fun e h ⟨ks, h1, h2⟩ => ⟨ks, h d _ (by simp) h1, h2.mono e⟩⟩
/-- a frozen one -/
def rDN (P : Program) (w : World) {R : Rp K α} (k : KeyR R) (Rv : Rp K β) : Rp K (List (α × β)) := ⟨fun G v m => ∃ d ks, v = .ref d ∧ G d = some (DNo P w d ks) ∧ NPair k Rv G ks m, fun e ⟨d, ks, h1, h2, h3⟩ => ⟨d, ks, h1, e _ _ h2, h3.mono e⟩⟩
theorem keyAt_of {R : Rp K α} (k : KeyR R) (hd : k.dep ≤ 8) {G H : Hp} (s : Same G H) {v : V} {x : α} (h : R.ok G v x) : KeyAt K H (k.enc x) v := ⟨Nat.le_trans (k.dle x) hd, fun {X pins σ s' u} hK I r => k.is hK I (R.mono s h) r⟩
theorem npair_keys {R : Rp K α} {k : KeyR R} {Rv : Rp K β} (hd : k.dep ≤ 8) {G H : Hp} (s : Same G H) {ks : NK} {m : List (α × β)} (h : NPair k Rv G ks m) : ∀ p ∈ ks, KeyAt K H p.1 (.ref p.2.1) := fun p hp => by
  obtain ⟨i, hi⟩ := List.getElem?_of_mem hp
  obtain ⟨q, _, e1, e2, _⟩ := paired_get' h hi
  rw [e1]
  exact keyAt_of k hd s e2
def lookA [DecidableEq α] (m : List (α × β)) (x : α) : Option β := (m.find? fun p => decide (p.1 = x)).map (·.2)
def putA [DecidableEq α] (m : List (α × β)) (x : α) (y : β) : List (α × β) := if (lookA m x).isSome = true then m.map (fun p => if p.1 = x then (p.1, y) else p) else m ++ [(x, y)]
theorem npair_find [DecidableEq α] {R : Rp K α} {k : KeyR R} {Rv : Rp K β} {G : Hp} {x : α} : ∀ {ks : NK} {m : List (α × β)}, NPair k Rv G ks m →
    (ks.find? (fun p => decide (p.1 = k.enc x)) = none ∧ lookA m x = none) ∨ ∃ p y, ks.find? (fun p => decide (p.1 = k.enc x)) = some p ∧ lookA m x = some y ∧ Rv.ok G p.2.2 y
  | _, _, .nil => .inl ⟨rfl, rfl⟩
  | _, _, .cons (a := q) (b := p) ⟨e1, e2, e3⟩ t => by
    by_cases z : p.1 = x
    · refine .inr ⟨q, p.2, ?_, ?_, e3⟩
      · rw [List.find?_cons_of_pos (by simp [e1, z])]
      · unfold lookA; rw [List.find?_cons_of_pos (by simpa using z)]; rfl
    · have zq : ¬ q.1 = k.enc x := fun y => z (k.inj _ _ (e1.symm.trans y))
      rcases npair_find (x := x) t with ⟨h1, h2⟩ | ⟨p', y, h1, h2, h3⟩
      · refine .inl ⟨?_, ?_⟩
        · rw [List.find?_cons_of_neg (by simpa using zq)]; exact h1
        · unfold lookA at h2 ⊢; rw [List.find?_cons_of_neg (by simpa using z)]; exact h2
      · refine .inr ⟨p', y, ?_, ?_, h3⟩
        · rw [List.find?_cons_of_neg (by simpa using zq)]; exact h1
        · unfold lookA at h2 ⊢; rw [List.find?_cons_of_neg (by simpa using z)]; exact h2
theorem npair_map [DecidableEq α] {R : Rp K α} {k : KeyR R} {Rv : Rp K β} {G : Hp} {x : α} {v : V} {y : β} (hv : Rv.ok G v y) : ∀ {ks : NK} {m : List (α × β)}, NPair k Rv G ks m → NPair k Rv G (ks.map fun p => if p.1 = k.enc x then (p.1, p.2.1, v) else p) (m.map fun p => if p.1 = x then (p.1, y) else p)
  | _, _, .nil => .nil
  | _, _, .cons (a := q) (b := p) ⟨e1, e2, e3⟩ t => by
    refine .cons ?_ (npair_map hv t)
    dsimp only
    by_cases z : p.1 = x
    · rw [if_pos z, if_pos (by rw [e1, z])]; exact ⟨e1, e2, hv⟩
    · rw [if_neg z, if_neg (fun w => z (k.inj _ _ (e1.symm.trans w)))]; exact ⟨e1, e2, e3⟩
theorem npair_put [DecidableEq α] {R : Rp K α} {k : KeyR R} {Rv : Rp K β} {G : Hp} {a : Addr} {x : α} {v : V} {y : β} (ha : R.ok G (.ref a) x) (hv : Rv.ok G v y) {ks : NK} {m : List (α × β)} (h : NPair k Rv G ks m) : NPair k Rv G (putN ks (k.enc x) a v) (putA m x y) := by
  unfold putN putA
  rcases npair_find (x := x) h with ⟨h1, h2⟩ | ⟨p', y', h1, h2, h3⟩
  · rw [h1, h2, if_neg (by simp), if_neg (by simp)]
    exact paired_app h (.cons ⟨rfl, ha, hv⟩ .nil)
  · rw [h1, h2, if_pos (by simp), if_pos (by simp)]
    exact npair_map hv h
end
section
variable {X : Cx} {K : PySem.W.Frag} [HK X K] {τ ℓ α β γ δ : Type} {ρ : List (En K)} {post : τ → List (En K)} {lp : ℓ → List (En K)} {Rr : Rp K γ} {rest : List Stmt} {pos : Pos} {R : Rp K α} {k : KeyR R} {Rv : Rp K β}
theorem rg_get {i : Nat} {d : Addr} {m : List (α × β)} {P : Program} {w : World} (h : ρ[i]? = some (.rg d [] (dictRg P w k Rv d m))) {G H : Hp} {σ : L2.St} (ev : EnvOk ρ G H σ) : σ[i]? = some (some (.ref d)) ∧ G d = none ∧ (∃ ks, H d = some (DNo P w d ks) ∧ NPair k Rv G ks m) ∧ d ∈ adrs ρ := by
  obtain ⟨o, ho, e1, n1, h1⟩ := ev.ok i _ h
  subst e1
  exact ⟨ho, (n1 d (by simp)).1, h1, adrs_mem h (by simp [En.adr])⟩
/-- key in d, d of one's own -/
theorem pr_inOwnN [DecidableEq α] {i : Nat} {nm : Str} {pn : Pos} {d : Addr} {m : List (α × β)} {e : Expr} {wk : W α} (hu : X.A.units + 64 < cLine) (hk : k.dep ≤ 8) (href : ∀ G v x, R.ok G v x → ∃ a, v = .ref a) (hv : PE X (.Name nm pn) (tVar i)) (ho : ρ[i]? = some (.rg d [] (dictRg X.prog X.w k Rv d m))) (he : PE X e (TEx ρ R wk)) (hm : behindInMarks .In (.Name nm pn) = false := by rfl) :
    PE X (.Compare e [.In] [.Name nm pn] pos) (TEx ρ rB fun P => wk fun x => P (lookA m x).isSome) := by
  have hK : X.K = K := HK.eq
  subst hK
  refine pe_imp (pe_cmpR (op_inN hu) he hv hm) fun σ H Q ⟨G, P, s, ev, pp, c⟩ => ⟨G, _, s, ev, pp, fun G1 H1 v x st e1 px rx => ?_⟩
  obtain ⟨hσ, n1, ⟨ks, h1, h2⟩, _⟩ := rg_get ho e1
  obtain ⟨a, ea⟩ := href _ _ _ rx
  subst ea
  refine ⟨.ref d, hσ, a, d, k.enc x, ks, rfl, rfl, h1, keyAt_of k hk st.gh rx, npair_keys hk st.gh h2, ?_⟩
  refine c G1 H1 _ (lookA m x).isSome st e1 px ?_
  rcases npair_find (x := x) h2 with ⟨z1, z2⟩ | ⟨p, y, z1, z2, _⟩
  · rw [z1, z2]; rfl
  · rw [z1, z2]; rfl
/-- d[key], d of one's own -/
theorem pr_getOwnN [DecidableEq α] {i : Nat} {nm : Str} {pn : Pos} {d : Addr} {m : List (α × β)} {e : Expr} {wk : W α} (hu : X.A.units + 64 < cLine) (hk : k.dep ≤ 8) (href : ∀ G v x, R.ok G v x → ∃ a, v = .ref a) (hv : PE X (.Name nm pn) (tVar i)) (ho : ρ[i]? = some (.rg d [] (dictRg X.prog X.w k Rv d m))) (he : PE X e (TEx ρ R wk)) (hs : PlainIx e := by exact fun _ _ => rfl) :
    PE X (.Subscript (.Name nm pn) e pos) (TEx ρ Rv fun P => wk fun x => ∃ y, lookA m x = some y ∧ P y) := by
  have hK : X.K = K := HK.eq
  subst hK
  refine pe_imp (pe_ix (ix_N hu) hv he hs) fun σ H Q ⟨G, P, s, ev, pp, c⟩ => ?_
  obtain ⟨hσ, _⟩ := rg_get ho ev
  refine ⟨.ref d, hσ, G, _, s, ev, pp, fun G1 H1 v x st e1 ⟨y, hy, py⟩ rx => ?_⟩
  obtain ⟨_, n1, ⟨ks, h1, h2⟩, _⟩ := rg_get ho e1
  obtain ⟨a, ea⟩ := href _ _ _ rx
  subst ea
  rcases npair_find (x := x) h2 with ⟨_, z2⟩ | ⟨p, y', z1, z2, z3⟩
  · rw [z2] at hy; cases hy
  · rw [z2] at hy
    cases hy
    exact ⟨a, d, k.enc x, ks, p, rfl, rfl, h1, keyAt_of k hk st.gh rx, npair_keys hk st.gh h2, z1, c G1 H1 _ _ st e1 py z3⟩
theorem rg_pl {i : Nat} {d : Addr} {r : Rgn [d]} (h : ρ[i]? = some (.rg d [] r)) : (ρ.getD i .off).pl = [] := by
  have e : ρ.getD i .off = .rg d [] r := by rw [List.getD_eq_getElem?_getD, h]; rfl
  rw [e]; rfl
theorem rg_put {i : Nat} {d : Addr} {r r' : Rgn [d]} {o : HO} (h : ρ[i]? = some (.rg d [] r)) {G H : Hp} {σ : L2.St} (ev : EnvOk ρ G H σ) (s : Same G H) (hr : r'.φ G (upd H d o)) :
    Step (adrs ρ) G H G (upd H d o) ∧ EnvOk (ρ.set i (.rg d [] r')) G (upd H d o) σ := by
  obtain ⟨oo, ho, e1, n1, _⟩ := ev.ok i _ h
  subst e1
  have hm : d ∈ adrs ρ := adrs_mem h (by simp [En.adr])
  have nd : G d = none := (n1 d (by simp)).1
  have s1 : Step [d] G H G (upd H d o) := Step.put s (by simp) nd
  refine ⟨s1.wide fun a ha => by rw [mem1 ha]; exact hm, ⟨by rw [List.length_set, ev.len], fun j e' hj => ?_, (nodup_same (e' := .rg d [] r') ev.nd h (.inl rfl)).1⟩⟩
  by_cases hij : i = j
  · subst hij
    rw [List.getElem?_set_self (List.getElem?_eq_some_iff.mp h).1] at hj
    cases hj
    exact ⟨_, ho, rfl, fun b hb => by rw [mem1 hb]; exact ⟨nd, o, upd_same⟩, hr⟩
  · rw [List.getElem?_set_ne hij] at hj
    obtain ⟨o', ho', q⟩ := ev.ok j e' hj
    exact ⟨o', ho', En.step q s1 fun a ha z => nodup_apart ev.nd h hj hij (by rw [mem1 z]; simp [En.adr]) ha⟩
/-- name = {} -/
theorem b_newN {i : Nat} {nm : Str} {pn dp : Pos} {m : Addr → W (Out τ ℓ γ)} (k : KeyR R) (Rv : Rp K β) (hN : X.N.Nodup) (hi : X.N[i]? = some nm) (hx : Loc X.env.scope nm)
    (hr : ∀ d, PSs X rest (TBO (ρ.set i (.rg d [] (dictRg X.prog X.w k Rv d []))) post lp Rr (m d))) (hp : (ρ.getD i .off).pl = [] := by rfl) (hs : swapsWith (.Dict [] [] dp) (some (.Name nm pn)) pos.line X.env = pure false := by rfl)
    (hf : X.fn nm = true ∨ X.env.scope.names.lookup nm = some .local := by first | exact .inl rfl | exact .inr rfl | assumption) : PSs X (.Assign [.Name nm pn] (.Dict [] [] dp) pos :: rest) (TBO ρ post lp Rr fun P => ∀ d, m d P) := by
  refine pss_imp (pss_cons (ps_set hN hi hx pe_newN hs hf) (pss_fam hr)) fun D σ H ⟨G, P, s, ev, pp, c⟩ d hd => ?_
  have s1 : Step [] G H G (upd H d (DNo X.prog X.w d [])) := Step.lay s hd
  have e1 := ev.step0 s1
  refine ⟨d, G, P, s1.gh, e1.put ⟨rfl, fun b hb => by rw [mem1 hb]; exact ⟨s.free hd, _, upd_same⟩, [], upd_same, .nil⟩ (nodup_set e1.nd (by simp [En.adr]) fun a ha z => ev.fresh hd (by rw [← mem1 ha]; exact z)), pp d, c.step s1.of0 (fun b hb => (adrs_set hb).elim .inl fun z => .inr (by rw [mem1 z]; exact hd)) fun q hq => pls_set hp hq⟩
/-- d[key] = e -/
theorem b_setN [DecidableEq α] {i : Nat} {nm : Str} {pn sp : Pos} {d : Addr} {mm : List (α × β)} {ek e : Expr} {wk : W α} {wv : W β} {m : α → β → W (Out τ ℓ γ)} (hu : X.A.units + 64 < cLine) (hk : k.dep ≤ 8) (href : ∀ G v x, R.ok G v x → ∃ a, v = .ref a) (hv : PE X (.Name nm pn) (tVar i)) (ho : ρ[i]? = some (.rg d [] (dictRg X.prog X.w k Rv d mm))) (h : PE X e (TEx ρ Rv wv)) (hj : PE X ek (TEx ρ R wk))
    (hr : ∀ (x : α) (y : β), PSs X rest (TBO (ρ.set i (.rg d [] (dictRg X.prog X.w k Rv d (putA mm x y)))) post lp Rr (m x y)))
    (ha : ∀ v, assign (.Subscript (.Name nm pn) ek sp) X.env v = (do
      let ov ← holding [v] (eval (.Name nm pn) X.env)
      let iv ← holding [v, ov] (eval ek X.env)
      standAt sp
      holding [v, ov, iv] (setItem ov iv v)
      release [v, ov, iv] []) := by intro _; rfl)
    (hs : swapsWithSole [.Subscript (.Name nm pn) ek sp] e pos.line X.env = pure false := by rfl) (hw : swappedStores [.Subscript (.Name nm pn) ek sp] e X.env = pure none := by rfl) (h1 : (assignEach [.Subscript (.Name nm pn) ek sp] X.env).map (·.2) = [assign (.Subscript (.Name nm pn) ek sp) X.env] := by rfl) :
    PSs X (.Assign [.Subscript (.Name nm pn) ek sp] e pos :: rest) (TBO ρ post lp Rr fun P => wv fun y => wk fun x => mm.length < sizeLine ∧ m x y P) := by
  have hK : X.K = K := HK.eq
  subst hK
  refine pss_imp (pss_cons (ps_asg h (pg_sub hv hj (set_N hu) ha) hs hw h1) (pss_fam fun q : α × β => hr q.1 q.2)) fun D σ H ⟨G, P, s, ev, pp, c⟩ => ⟨G, _, s, ev, pp, fun G1 H1 v y st e1 pa ra => ?_⟩
  obtain ⟨hσ, _⟩ := rg_get ho e1
  refine ⟨.ref d, hσ, G1, _, st.gh, e1, pa, fun G2 H2 u x st2 e2 px rx => ?_⟩
  obtain ⟨_, n1, ⟨ks, g1, g2⟩, _⟩ := rg_get ho e2
  obtain ⟨a, ea⟩ := href _ _ _ rx
  subst ea
  obtain ⟨s3, e3⟩ := rg_put (o := DNo X.prog X.w d (putN ks (k.enc x) a v)) (r' := dictRg X.prog X.w k Rv d (putA mm x y)) ho e2 st2.gh ⟨_, upd_same, npair_put rx (Rv.mono st2.gg ra) g2⟩
  exact ⟨a, d, k.enc x, ks, rfl, rfl, g1, keyAt_of k hk st2.gh rx, npair_keys hk st2.gh g2, by rw [paired_len g2]; exact px.1, (x, y), G2, P, s3.gh, e3, px.2, c.step (((st.trans st2).wide fun a ha => padr_sub ha).trans s3) (fun b hb => (adrs_set hb).elim .inl fun z => .inl (adrs_mem ho z)) fun q hq => pls_set (rg_pl ho) hq⟩
/-- a dict of one's own is frozen -/
theorem b_frzN {sts : List Stmt} (i : Nat) {d : Addr} {mm : List (α × β)} {m : W (Out τ ℓ γ)} (h : ρ[i]? = some (.rg d [] (dictRg X.prog X.w k Rv d mm))) (hr : PSs X sts (TBO (ρ.set i (.fr (rDN X.prog X.w k Rv) mm)) post lp Rr m)) : PSs X sts (TBO ρ post lp Rr m) := by
  refine pss_imp hr fun D σ H ⟨G, P, s, ev, pp, c⟩ => ?_
  obtain ⟨ho, n1, ⟨ks, g1, g2⟩, hm⟩ := rg_get h ev
  have s2 : Step [d] G H (upd G d (DNo X.prog X.w d ks)) H := Step.freeze s (by simp) n1 g1
  have nf := nodup_fr (i := i) (e := (.fr (rDN X.prog X.w k Rv) mm : En K)) ev.nd rfl
  refine ⟨upd G d (DNo X.prog X.w d ks), P, s2.gh, ?_, pp, c.step (s2.wide fun a ha => by rw [mem1 ha]; exact hm) (fun b hb => .inl (nf.2 b hb)) fun q hq => pls_set (rg_pl h) hq⟩
  refine ⟨by rw [List.length_set, ev.len], fun j e' hj => ?_, nf.1⟩
  by_cases hij : i = j
  · subst hij
    rw [List.getElem?_set_self (List.getElem?_eq_some_iff.mp h).1] at hj
    cases hj
    exact ⟨_, ho, .ref d, rfl, d, ks, rfl, upd_same, g2.mono s2.gg⟩
  · rw [List.getElem?_set_ne hij] at hj
    obtain ⟨o', ho', q⟩ := ev.ok j e' hj
    exact ⟨o', ho', En.step q s2 fun a ha z => nodup_apart ev.nd h hj hij (by rw [mem1 z]; simp [En.adr]) ha⟩
/-- d[key] of a frozen dict -/
theorem pr_getN [DecidableEq α] {ed e : Expr} {wd : W (List (α × β))} {wk : W α} (hu : X.A.units + 64 < cLine) (hk : k.dep ≤ 8) (href : ∀ G v x, R.ok G v x → ∃ a, v = .ref a) (hd : PE X ed (TEx ρ (rDN X.prog X.w k Rv) wd)) (he : PE X e (TEx ρ R wk)) (hs : PlainIx e := by exact fun _ _ => rfl) :
    PE X (.Subscript ed e pos) (TEx ρ Rv fun P => wd fun m => wk fun x => ∃ y, lookA m x = some y ∧ P y) := by
  have hK : X.K = K := HK.eq
  subst hK
  refine pe_imp (pe_ix (ix_N hu) hd he hs) fun σ H Q ⟨G, P, s, ev, pp, c⟩ => ⟨G, _, s, ev, pp, fun G0 H0 u m st0 e0 p0 r0 => ⟨G0, _, st0.gh, e0, p0, fun G1 H1 v x st e1 ⟨y, hy, py⟩ rx => ?_⟩⟩
  obtain ⟨d, ks, ed, h1, h2⟩ := (rDN X.prog X.w k Rv).mono st.gg r0
  obtain ⟨a, ea⟩ := href _ _ _ rx
  subst ea ed
  rcases npair_find (x := x) h2 with ⟨_, z2⟩ | ⟨p, y', z1, z2, z3⟩
  · rw [z2] at hy; cases hy
  · rw [z2] at hy
    cases hy
    exact ⟨a, d, k.enc x, ks, p, rfl, rfl, st.gh _ _ h1, keyAt_of k hk st.gh rx, npair_keys hk st.gh h2, z1, c G1 H1 _ _ (st0.trans st) e1 py z3⟩
end
end SS

set_option Elab.async false
set_option linter.all false
set_option maxRecDepth 100000
/-! SSQ: own rules: a dict of one's own whose keys are whole numbers or texts. Own work. -/
namespace SS
open PySem PySem.Spec L2
structure KeyK {K : PySem.W.Frag} {α : Type} (R : Rp K α) where
  enc : α → Key
  inj : ∀ x y, enc x = enc y → x = y
  val : ∀ G v x, R.ok G v x → v = kV (enc x)
section
variable {K : PySem.W.Frag} {α β : Type}
def kkI : KeyK (rI : Rp K Int) := ⟨.inl, fun x y h => by cases h; rfl, fun G v x h => h⟩
def kkS : KeyK (rS : Rp K Str) := ⟨.inr, fun x y h => by cases h; rfl, fun G v x h => h⟩
def KPr {R : Rp K α} (k : KeyK R) (Rv : Rp K β) (G : Hp) (kvs : List (Key × V)) (m : List (α × β)) : Prop := Paired (fun (q : Key × V) (p : α × β) => q.1 = k.enc p.1 ∧ Rv.ok G q.2 p.2) kvs m
theorem KPr.mono {R : Rp K α} {k : KeyK R} {Rv : Rp K β} {G G' : Hp} (e : Same G G') {kvs : List (Key × V)} {m : List (α × β)} (h : KPr k Rv G kvs m) : KPr k Rv G' kvs m := paired_mono2 (fun q p ⟨z1, z2⟩ => ⟨z1, Rv.mono e z2⟩) h
def dictKRg {R : Rp K α} (k : KeyK R) (Rv : Rp K β) (d : Addr) (m : List (α × β)) : Rgn [d] := ⟨fun G H => ∃ kvs, H d = some (.dK kvs) ∧ KPr k Rv G kvs m, fun e h ⟨kvs, h1, h2⟩ => ⟨kvs, h d _ (by simp) h1, h2.mono e⟩⟩
def rDK {R : Rp K α} (k : KeyK R) (Rv : Rp K β) : Rp K (List (α × β)) := ⟨fun G v m => ∃ d kvs, v = .ref d ∧ G d = some (.dK kvs) ∧ KPr k Rv G kvs m, fun e ⟨d, kvs, h1, h2, h3⟩ => ⟨d, kvs, h1, e _ _ h2, h3.mono e⟩⟩
theorem kpr_find [DecidableEq α] {R : Rp K α} {k : KeyK R} {Rv : Rp K β} {G : Hp} {x : α} : ∀ {kvs : List (Key × V)} {m : List (α × β)}, KPr k Rv G kvs m →
    (valV kvs (k.enc x) = none ∧ lookA m x = none) ∨ ∃ v y, valV kvs (k.enc x) = some v ∧ lookA m x = some y ∧ Rv.ok G v y
  | _, _, .nil => .inl ⟨rfl, rfl⟩
  | _, _, .cons (a := q) (b := p) ⟨e1, e3⟩ t => by
    by_cases z : p.1 = x
    · refine .inr ⟨q.2, p.2, ?_, ?_, e3⟩
      · unfold valV; rw [List.find?_cons_of_pos (by simp [e1, z])]; rfl
      · unfold lookA; rw [List.find?_cons_of_pos (by simpa using z)]; rfl
    · have zq : ¬ q.1 = k.enc x := fun y => z (k.inj _ _ (e1.symm.trans y))
      rcases kpr_find (x := x) t with ⟨h1, h2⟩ | ⟨v, y, h1, h2, h3⟩
      · refine .inl ⟨?_, ?_⟩
        · unfold valV at h1 ⊢; rw [List.find?_cons_of_neg (by simpa using zq)]; exact h1
        · unfold lookA at h2 ⊢; rw [List.find?_cons_of_neg (by simpa using z)]; exact h2
      · refine .inr ⟨v, y, ?_, ?_, h3⟩
        · unfold valV at h1 ⊢; rw [List.find?_cons_of_neg (by simpa using zq)]; exact h1
        · unfold lookA at h2 ⊢; rw [List.find?_cons_of_neg (by simpa using z)]; exact h2
theorem any_val {kvs : List (Key × V)} {k : Key} : (kvs.any fun kv => decide (kv.1 = k)) = (valV kvs k).isSome := by
  unfold valV
  induction kvs with
  | nil => rfl
  | cons p r ih =>
    by_cases z : p.1 = k
    · rw [List.any_cons, List.find?_cons_of_pos (by simpa using z)]; simp [z]
    · rw [List.any_cons, List.find?_cons_of_neg (by simpa using z), decide_eq_false z, Bool.false_or]; exact ih
theorem kpr_map [DecidableEq α] {R : Rp K α} {k : KeyK R} {Rv : Rp K β} {G : Hp} {x : α} {v : V} {y : β} (hv : Rv.ok G v y) : ∀ {kvs : List (Key × V)} {m : List (α × β)}, KPr k Rv G kvs m → KPr k Rv G (kvs.map fun kv => if kv.1 = k.enc x then (kv.1, v) else kv) (m.map fun p => if p.1 = x then (p.1, y) else p)
  | _, _, .nil => .nil
  | _, _, .cons (a := q) (b := p) ⟨e1, e3⟩ t => by
    refine .cons ?_ (kpr_map hv t)
    dsimp only
    by_cases z : p.1 = x
    · rw [if_pos z, if_pos (by rw [e1, z])]; exact ⟨e1, hv⟩
    · rw [if_neg z, if_neg (fun w => z (k.inj _ _ (e1.symm.trans w)))]; exact ⟨e1, e3⟩
theorem kpr_put [DecidableEq α] {R : Rp K α} {k : KeyK R} {Rv : Rp K β} {G : Hp} {x : α} {v : V} {y : β} (hv : Rv.ok G v y) {kvs : List (Key × V)} {m : List (α × β)} (h : KPr k Rv G kvs m) : KPr k Rv G (putK kvs (k.enc x) v) (putA m x y) := by
  unfold putK putA
  rw [any_val]
  rcases kpr_find (x := x) h with ⟨h1, h2⟩ | ⟨v', y', h1, h2, h3⟩
  · rw [h1, h2, if_neg (by simp), if_neg (by simp)]
    exact paired_app h (.cons ⟨rfl, hv⟩ .nil)
  · rw [h1, h2, if_pos (by simp), if_pos (by simp)]
    exact kpr_map hv h
end
section
variable {X : Cx} {K : PySem.W.Frag} [HK X K] {τ ℓ α β γ δ : Type} {ρ : List (En K)} {post : τ → List (En K)} {lp : ℓ → List (En K)} {Rr : Rp K γ} {rest : List Stmt} {pos : Pos} {R : Rp K α} {k : KeyK R} {Rv : Rp K β}
theorem rgk_get {i : Nat} {d : Addr} {m : List (α × β)} (h : ρ[i]? = some (.rg d [] (dictKRg k Rv d m))) {G H : Hp} {σ : L2.St} (ev : EnvOk ρ G H σ) : σ[i]? = some (some (.ref d)) ∧ G d = none ∧ (∃ kvs, H d = some (.dK kvs) ∧ KPr k Rv G kvs m) ∧ d ∈ adrs ρ := by
  obtain ⟨o, ho, e1, n1, h1⟩ := ev.ok i _ h
  subst e1
  exact ⟨ho, (n1 d (by simp)).1, h1, adrs_mem h (by simp [En.adr])⟩
/-- name = {} -/
theorem b_newK {i : Nat} {nm : Str} {pn dp : Pos} {m : Addr → W (Out τ ℓ γ)} (k : KeyK R) (Rv : Rp K β) (hN : X.N.Nodup) (hi : X.N[i]? = some nm) (hx : Loc X.env.scope nm)
    (hr : ∀ d, PSs X rest (TBO (ρ.set i (.rg d [] (dictKRg k Rv d []))) post lp Rr (m d))) (hp : (ρ.getD i .off).pl = [] := by rfl) (hs : swapsWith (.Dict [] [] dp) (some (.Name nm pn)) pos.line X.env = pure false := by rfl)
    (hf : X.fn nm = true ∨ X.env.scope.names.lookup nm = some .local := by first | exact .inl rfl | exact .inr rfl | assumption) : PSs X (.Assign [.Name nm pn] (.Dict [] [] dp) pos :: rest) (TBO ρ post lp Rr fun P => ∀ d, m d P) := by
  refine pss_imp (pss_cons (ps_set hN hi hx pe_dnewK hs hf) (pss_fam hr)) fun D σ H ⟨G, P, s, ev, pp, c⟩ d hd => ?_
  have s1 : Step [] G H G (upd H d (.dK [])) := Step.lay s hd
  have e1 := ev.step0 s1
  refine ⟨d, G, P, s1.gh, e1.put ⟨rfl, fun b hb => by rw [mem1 hb]; exact ⟨s.free hd, _, upd_same⟩, [], upd_same, .nil⟩ (nodup_set e1.nd (by simp [En.adr]) fun a ha z => ev.fresh hd (by rw [← mem1 ha]; exact z)), pp d, c.step s1.of0 (fun b hb => (adrs_set hb).elim .inl fun z => .inr (by rw [mem1 z]; exact hd)) fun q hq => pls_set hp hq⟩
/-- d[key] = e -/
theorem b_setK [DecidableEq α] {i : Nat} {nm : Str} {pn sp : Pos} {d : Addr} {mm : List (α × β)} {ek e : Expr} {wk : W α} {wv : W β} {m : α → β → W (Out τ ℓ γ)} (hu : X.A.units + 1 < cLine) (hv : PE X (.Name nm pn) (tVar i)) (ho : ρ[i]? = some (.rg d [] (dictKRg k Rv d mm))) (h : PE X e (TEx ρ Rv wv)) (hj : PE X ek (TEx ρ R wk))
    (hr : ∀ (x : α) (y : β), PSs X rest (TBO (ρ.set i (.rg d [] (dictKRg k Rv d (putA mm x y)))) post lp Rr (m x y)))
    (ha : ∀ v, assign (.Subscript (.Name nm pn) ek sp) X.env v = (do
      let ov ← holding [v] (eval (.Name nm pn) X.env)
      let iv ← holding [v, ov] (eval ek X.env)
      standAt sp
      holding [v, ov, iv] (setItem ov iv v)
      release [v, ov, iv] []) := by intro _; rfl)
    (hs : swapsWithSole [.Subscript (.Name nm pn) ek sp] e pos.line X.env = pure false := by rfl) (hw : swappedStores [.Subscript (.Name nm pn) ek sp] e X.env = pure none := by rfl) (h1 : (assignEach [.Subscript (.Name nm pn) ek sp] X.env).map (·.2) = [assign (.Subscript (.Name nm pn) ek sp) X.env] := by rfl) :
    PSs X (.Assign [.Subscript (.Name nm pn) ek sp] e pos :: rest) (TBO ρ post lp Rr fun P => wv fun y => wk fun x => mm.length < sizeLine ∧ m x y P) := by
  refine pss_imp (pss_cons (ps_asg h (pg_sub hv hj (set_dict hu) ha) hs hw h1) (pss_fam fun q : α × β => hr q.1 q.2)) fun D σ H ⟨G, P, s, ev, pp, c⟩ => ⟨G, _, s, ev, pp, fun G1 H1 v y st e1 pa ra => ?_⟩
  obtain ⟨hσ, _⟩ := rgk_get ho e1
  refine ⟨.ref d, hσ, G1, _, st.gh, e1, pa, fun G2 H2 u x st2 e2 px rx => ?_⟩
  obtain ⟨_, n1, ⟨kvs, g1, g2⟩, _⟩ := rgk_get ho e2
  obtain ⟨s3, e3⟩ := rg_put (o := .dK (putK kvs (k.enc x) v)) (r' := dictKRg k Rv d (putA mm x y)) ho e2 st2.gh ⟨_, upd_same, kpr_put (Rv.mono st2.gg ra) g2⟩
  exact ⟨d, _, rfl, .inl ⟨kvs, k.enc x, g1, k.val _ _ _ rx, by rw [paired_len g2]; exact px.1, rfl⟩, (x, y), G2, P, s3.gh, e3, px.2, c.step (((st.trans st2).wide fun a ha => padr_sub ha).trans s3) (fun b hb => (adrs_set hb).elim .inl fun z => .inl (adrs_mem ho z)) fun q hq => pls_set (rg_pl ho) hq⟩
def rInDK (n : Bool) : R2 := fun y x H Q => ∃ a o, x = .ref a ∧ DGet H a y o ∧ Q (.bl (o.isSome != n)) H
theorem op_inDK (hu : X.A.units + 1 < cLine) : OpR X (compareOp .In) (rInDK false) := by
  intro pins s σ H y x v u Q I ry rx ⟨a, o, e, g, q⟩
  subst e
  cases rx
  exact d_in hu I g ry fun s' I' => ⟨.bl _, H, I', by cases o <;> rfl, q⟩
theorem op_ninDK (hu : X.A.units + 1 < cLine) : OpR X (compareOp .NotIn) (rInDK true) := by
  intro pins s σ H y x v u Q I ry rx ⟨a, o, e, g, q⟩
  subst e
  cases rx
  exact d_notIn hu I g ry fun s' I' => ⟨.bl _, H, I', by cases o <;> rfl, q⟩
/-- key in d, d frozen -/
theorem r2_inDK [DecidableEq α] {n : Bool} : R2Ok (rInDK n) R (rDK k Rv) (rB : Rp K Bool) (fun x m P => P ((lookA m x).isSome != n)) := fun G H v u x m P Q s h1 ⟨d, kvs, e, h2, h3⟩ p c => by
  subst e
  refine ⟨d, valV kvs (k.enc x), rfl, ?_, c G H _ _ (Step.refl s) p ?_⟩
  · rw [k.val _ _ _ h1]; exact .inl ⟨kvs, k.enc x, .inl (s _ _ h2), rfl, rfl⟩
  · rcases kpr_find (x := x) h3 with ⟨z1, z2⟩ | ⟨w, y, z1, z2, _⟩
    · rw [z1, z2]; rfl
    · rw [z1, z2]; rfl
/-- d[key], d frozen -/
theorem pr_getK [DecidableEq α] {ed e : Expr} {wd : W (List (α × β))} {wk : W α} (hu : X.A.units + 1 < cLine) (hd : PE X ed (TEx ρ (rDK k Rv) wd)) (he : PE X e (TEx ρ R wk)) (hs : NoSl e := by exact fun _ _ => rfl) :
    PE X (.Subscript ed e pos) (TEx ρ Rv fun P => wd fun m => wk fun x => ∃ y, lookA m x = some y ∧ P y) := by
  refine pe_imp (pe_dget hu hd he hs) fun σ H Q ⟨G, P, s, ev, pp, c⟩ => ⟨G, _, s, ev, pp, fun G0 H0 u m st0 e0 p0 r0 => ⟨G0, _, st0.gh, e0, p0, fun G1 H1 v x st e1 ⟨y, hy, py⟩ rx => ?_⟩⟩
  obtain ⟨d, kvs, ed, h1, h2⟩ := (rDK k Rv).mono st.gg r0
  subst ed
  rcases kpr_find (x := x) h2 with ⟨_, z2⟩ | ⟨w, y', z1, z2, z3⟩
  · rw [z2] at hy; cases hy
  · rw [z2] at hy
    cases hy
    refine ⟨d, w, rfl, ?_, c G1 H1 w _ (st0.trans st) e1 py z3⟩
    rw [k.val _ _ _ rx, ← z1]
    exact .inl ⟨kvs, k.enc x, .inl (st.gh _ _ h1), rfl, rfl⟩
/-- key in d, d of one's own -/
theorem pr_inOwnK [DecidableEq α] {i : Nat} {nm : Str} {pn : Pos} {d : Addr} {m : List (α × β)} {e : Expr} {wk : W α} (hu : X.A.units + 1 < cLine) (hv : PE X (.Name nm pn) (tVar i)) (ho : ρ[i]? = some (.rg d [] (dictKRg k Rv d m))) (he : PE X e (TEx ρ R wk)) (hm : behindInMarks .In (.Name nm pn) = false := by rfl) :
    PE X (.Compare e [.In] [.Name nm pn] pos) (TEx ρ rB fun P => wk fun x => P (lookA m x).isSome) := by
  refine pe_imp (pe_cmpR (op_inDK hu) he hv hm) fun σ H Q ⟨G, P, s, ev, pp, c⟩ => ⟨G, _, s, ev, pp, fun G1 H1 v x st e1 px rx => ?_⟩
  obtain ⟨hσ, n1, ⟨kvs, h1, h2⟩, _⟩ := rgk_get ho e1
  refine ⟨.ref d, hσ, d, valV kvs (k.enc x), rfl, ?_, c G1 H1 _ (lookA m x).isSome st e1 px ?_⟩
  · rw [k.val _ _ _ rx]; exact .inl ⟨kvs, k.enc x, .inl h1, rfl, rfl⟩
  · rcases kpr_find (x := x) h2 with ⟨z1, z2⟩ | ⟨w, y, z1, z2, _⟩
    · rw [z1, z2]; rfl
    · rw [z1, z2]; rfl
/-- a dict of one's own is frozen -/
theorem b_frzK {sts : List Stmt} (i : Nat) {d : Addr} {mm : List (α × β)} {m : W (Out τ ℓ γ)} (h : ρ[i]? = some (.rg d [] (dictKRg k Rv d mm))) (hr : PSs X sts (TBO (ρ.set i (.fr (rDK k Rv) mm)) post lp Rr m)) : PSs X sts (TBO ρ post lp Rr m) := by
  refine pss_imp hr fun D σ H ⟨G, P, s, ev, pp, c⟩ => ?_
  obtain ⟨ho, n1, ⟨kvs, g1, g2⟩, hm⟩ := rgk_get h ev
  have s2 : Step [d] G H (upd G d (.dK kvs)) H := Step.freeze s (by simp) n1 g1
  have nf := nodup_fr (i := i) (e := (.fr (rDK k Rv) mm : En K)) ev.nd rfl
  refine ⟨upd G d (.dK kvs), P, s2.gh, ?_, pp, c.step (s2.wide fun a ha => by rw [mem1 ha]; exact hm) (fun b hb => .inl (nf.2 b hb)) fun q hq => pls_set (rg_pl h) hq⟩
  refine ⟨by rw [List.length_set, ev.len], fun j e' hj => ?_, nf.1⟩
  by_cases hij : i = j
  · subst hij
    rw [List.getElem?_set_self (List.getElem?_eq_some_iff.mp h).1] at hj
    cases hj
    exact ⟨_, ho, .ref d, rfl, d, kvs, rfl, upd_same, g2.mono s2.gg⟩
  · rw [List.getElem?_set_ne hij] at hj
    obtain ⟨o', ho', q⟩ := ev.ok j e' hj
    exact ⟨o', ho', En.step q s2 fun a ha z => nodup_apart ev.nd h hj hij (by rw [mem1 z]; simp [En.adr]) ha⟩
end
end SS

set_option Elab.async false
set_option linter.all false
set_option maxRecDepth 100000
/-! SSR: own rules: tuples told as objects, dict of a tuple of pairs. Own work. -/
namespace SS
open PySem PySem.Spec L2
section
variable {X : Cx} {es : List Expr} {pos : Pos} {t : TA}
/-- a new tuple, told as an object without a dict of its own -/
def tTupF (t : TA) : TE := fun σ H Q => t σ H fun xs H1 => xs.length ≤ sizeLine ∧ ∀ p o, o.dict = none → H1 p = none → Q (.ref p) (upd H1 p (.frz o (.tup xs)))
theorem pe_tupF {x1} (h : PA X es t) : PE X (.Tuple es x1 pos) (tTupF t) := by
  refine ⟨fun pins s σ H Q I hq => wpAny_Tuple_spliced (thn (h.run pos pins s σ H _ I hq) fun us s1 ⟨xs, H1, I1, r, z, q⟩ => ⟨by rw [← r.length]; exact z, ?_⟩)⟩
  have free : H1 s1.heap.objs.size = none := I1.hok.fresh (Nat.le_refl _)
  exact ⟨.ref s1.heap.objs.size, _, I1.laid (o := .frz { cls := .type "tuple", data := .seq us.toArray } (.tup xs)) (t' := s1.toks) (fun b u e => Heap.get?_push_of_some _ e) (Nat.le_refl _) ⟨Heap.get?_push_size _ rfl, z, us, r, ⟨_, Heap.get?_push_size _ rfl, rfl, _, rfl⟩⟩, rfl, q _ _ rfl free⟩
end
section
variable {K : PySem.W.Frag} {α β : Type}
def rUf (R : Rp K α) : Rp K (List α) := ⟨fun G v xs => ∃ a o vs, v = .ref a ∧ G a = some (.frz o (.tup vs)) ∧ o.dict = none ∧ Paired (R.ok G) vs xs ∧ vs.length ≤ sizeLine, fun e ⟨a, o, vs, h1, h2, h3, h4, h5⟩ => ⟨a, o, vs, h1, e _ _ h2, h3, paired_mono (fun _ _ z => R.mono e z) h4, h5⟩⟩
theorem rUf_ok {R : Rp K α} {G : Hp} {v : V} {xs : List α} (h : (rUf R).ok G v xs) : (rU R).ok G v xs := by
  obtain ⟨a, o, vs, h1, h2, _, h4, h5⟩ := h
  exact ⟨a, vs, h1, .inl (.inr ⟨o, h2⟩), h4, h5⟩
def rTf (F : Fs K α) : Rp K α := ⟨fun G v x => ∃ a o vs, v = .ref a ∧ G a = some (.frz o (.tup vs)) ∧ o.dict = none ∧ F.ok G vs x, fun e ⟨a, o, vs, h1, h2, h3, h4⟩ => ⟨a, o, vs, h1, e _ _ h2, h3, F.mono e h4⟩⟩
theorem rTf_ok {F : Fs K α} {G : Hp} {v : V} {x : α} (h : (rTf F).ok G v x) : (rT F).ok G v x := by
  obtain ⟨a, o, vs, h1, h2, _, h4⟩ := h
  exact ⟨a, vs, h1, .inl (.inr ⟨o, h2⟩), h4⟩
end
section
variable {X : Cx} {K : PySem.W.Frag} [HK X K] {α β γ : Type} {ρ : List (En K)} {es : List Expr} {pos : Pos}
theorem pr_tupF {F : Fs K α} {k} {w : W α} (h : PA X es (TAx ρ F w)) (hn : F.n ≤ sizeLine := by exact Nat.le_of_ble_eq_true rfl) : PE X (.Tuple es k pos) (TEx ρ (rTf F) w) := by
  refine pe_imp (pe_tupF h) fun σ H Q ⟨G, P, s, e, h, c⟩ => ⟨G, P, s, e, h, fun G1 H1 vs x st1 e1 p1 r1 => ⟨by rw [F.len r1]; exact hn, fun p o ho hp => ?_⟩⟩
  have s2 := Step.new (M := []) (o := .frz o (.tup vs)) st1.gh hp
  exact c _ _ _ x (st1.trans s2.of0) (e1.step0 s2) p1 ⟨p, o, vs, rfl, upd_same, ho, F.mono s2.gg r1⟩
theorem pr_tupUF {R : Rp K α} {n : Nat} {k} {w : W (List α)} (h : PA X es (TAx ρ (fsR R n) w)) (hn : n ≤ sizeLine := by decide) : PE X (.Tuple es k pos) (TEx ρ (rUf R) w) := by
  refine pe_imp (pe_tupF h) fun σ H Q ⟨G, P, s, e, h, c⟩ => ⟨G, P, s, e, h, fun G1 H1 vs x st1 e1 p1 r1 => ?_⟩
  have hl : vs.length = n := r1.1
  refine ⟨by rw [hl]; exact hn, fun p o ho hp => ?_⟩
  have s2 := Step.new (M := []) (o := .frz o (.tup vs)) st1.gh hp
  exact c _ _ _ x (st1.trans s2.of0) (e1.step0 s2) p1 ⟨p, o, vs, rfl, upd_same, ho, paired_mono (fun _ _ z => R.mono s2.gg z) r1.2, by rw [hl]; exact hn⟩
def rCatF (K : PySem.W.Frag) : R2 := fun x y H Q => ∃ a b xs ys, x = .ref a ∧ y = .ref b ∧ SqT K H a xs ∧ SqT K H b ys ∧ xs.length + ys.length ≤ sizeLine ∧
  (xs = [] → Q (.ref b) H) ∧ (xs ≠ [] → ys = [] → Q (.ref a) H) ∧ (xs ≠ [] → ys ≠ [] → ∀ p o, o.dict = none → H p = none → Q (.ref p) (upd H p (.frz o (.tup (xs ++ ys)))))
theorem op_catF : OpR X (binaryOp .Add) (rCatF X.K) := by
  intro pins s σ H x y v u Q I rx ry ⟨a, b, xs, ys, e1, e2, ha, hb, hz, q0, q1, q2⟩
  subst e1 e2
  by_cases hx : xs = []
  · subst hx
    exact op_catA pins s σ H _ _ v u Q I rx ry ⟨a, b, [], ys, rfl, rfl, ha, hb, hz, fun _ => q0 rfl, fun z => absurd rfl z, fun z => absurd rfl z⟩
  · cases rx
    cases ry
    obtain ⟨its, r1, p1, _⟩ := I.tuple ha
    obtain ⟨its2, r2, p2, _⟩ := I.tuple hb
    refine HT.cat_tup p1 p2 (fun z => hx (r1.nil_iff.mp z)) (fun z => ⟨.ref a, H, I, rfl, q1 hx (r2.nil_iff.mp z)⟩) (fun z => ?_) (by rw [← r1.length, ← r2.length]; exact hz)
    exact ⟨.ref s.heap.objs.size, _, I.laid (t' := s.toks) (o := .frz { cls := .type "tuple", data := .seq (its ++ its2).toArray } (.tup (xs ++ ys))) (fun b ob q => Heap.get?_push_of_some _ q) (Nat.le_refl _) ⟨by simpa using Heap.get?_push_size _ rfl, by rw [List.length_append]; exact hz, _, r1.append r2, by simpa using PyProof.Rows.IsTup.new _ _⟩, rfl, q2 hx (fun w => z (r2.nil_iff.mpr w)) _ _ rfl (I.hok.fresh (Nat.le_refl _))⟩
theorem r2_catUF {R : Rp K α} : R2Ok (rCatF K) (rUf R) (rUf R) (rUf R) (fun xs ys P => xs.length + ys.length ≤ sizeLine ∧ P (xs ++ ys)) := fun G H v u xs ys P Q s ⟨a, o, vs, h1, h2, h0, h3, h4⟩ ⟨b, o', us, g1, g2, g0, g3, g4⟩ ⟨hz, p⟩ k => by
  have hz' : vs.length + us.length ≤ sizeLine := by rw [paired_len h3, paired_len g3]; exact hz
  have pr := paired_app h3 g3
  refine ⟨a, b, vs, us, h1, g1, .inl (.inr ⟨o, s _ _ h2⟩), .inl (.inr ⟨o', s _ _ g2⟩), hz', fun e => ?_, fun e1 e2 => ?_, fun e1 e2 q oq ho hq => ?_⟩
  · subst e
    cases h3
    exact k G H _ _ (Step.refl s) p ⟨b, o', us, rfl, g2, g0, g3, g4⟩
  · subst e2
    cases g3
    rw [List.append_nil] at p
    exact k G H _ _ (Step.refl s) p ⟨a, o, vs, rfl, h2, h0, h3, h4⟩
  · have s2 := Step.new (M := []) (o := .frz oq (.tup (vs ++ us))) s hq
    exact k _ _ _ _ s2 p ⟨q, oq, vs ++ us, rfl, upd_same, ho, paired_mono (fun _ _ z => R.mono s2.gg z) pr, by rw [List.length_append]; exact hz'⟩
theorem pairs2 {pins : List (Addr × Obj)} {σ : L2.St} {H : Hp} {s : Shared} (I : Inv X pins σ H s) : ∀ {ps : List Addr} {kvs : List (Key × V)}, Paired (fun p kv => SqT X.K H p [kV kv.1, kv.2]) ps kvs →
    ∃ (prs : List (Key × Value)) (kvl : List (Value × Value)), KV kvs prs ∧ prs.length = ps.length ∧ kvl.length = ps.length ∧ ∀ (j : Nat) (k v : Value), kvl[j]? = some (k, v) → ∃ b key, ps[j]? = some b ∧ PyProof.Rows.IsTup s.heap b #[k, v] ∧ prs[j]? = some (key, v) ∧ keyIs key k = true
  | _, _, .nil => ⟨[], [], .nil, rfl, rfl, fun j k v e => by simp at e⟩
  | _, _, .cons (a := p) (b := kv) h t => by
    obtain ⟨prs, kvl, r, l1, l2, hp⟩ := pairs2 I t
    obtain ⟨its, rv, ht, _⟩ := I.tuple h
    obtain ⟨u, y, ei, ru, ry⟩ := vals2 rv
    subst ei
    refine ⟨(kv.1, y) :: prs, (u, y) :: kvl, .cons ⟨rfl, ry⟩ r, by simp [l1], by simp [l2], fun j k v e => ?_⟩
    cases j with
    | zero =>
      simp at e
      obtain ⟨e1, e2⟩ := e
      subst e1 e2
      exact ⟨p, kv.1, rfl, ht, rfl, kV_is (P := X.prog) (w := X.w) ru⟩
    | succ j =>
      obtain ⟨b, key, g1, g2, g3, g4⟩ := hp j k v (by simpa using e)
      exact ⟨b, key, by simpa using g1, g2, by simpa using g3, g4⟩
/-- dict(t), t a tuple of pairs, told as an object -/
theorem call_dictTF (hc : X.calm = true) : CallR X (.type "dict") (fun xs H Q => ∃ (a : Addr) (o : Obj) (ps : List Addr) (kvs : List (Key × V)), xs = [.ref a] ∧ H a = some (.frz o (.tup (ps.map V.ref))) ∧ o.dict = none ∧ Paired (fun p kv => SqT X.K H p [kV kv.1, kv.2]) ps kvs ∧
    ∀ p, H p = none → Q (.ref p) (upd H p (.dK (mergeK [] kvs)))) := by
  intro pins s σ H xs us Q I r ⟨a, o, ps, kvs, ex, ha, ho, hp, q⟩
  subst ex
  obtain ⟨u, eu, rx⟩ := vals1 r
  subst eu
  cases rx
  obtain ⟨h1, hz, its, rv, o', h2, h3, n, h4⟩ := (show ObjOk X.prog X.w H s.heap a (.frz o (.tup (ps.map V.ref))) from I.hok a _ ha)
  rw [h1] at h2
  cases h2
  have ei := refs_at rv
  subst ei
  rw [List.length_map] at hz
  obtain ⟨prs, kvl, rel, l1, l2, hpr⟩ := pairs2 I hp
  refine call_dict_pairs (knd := mixKind X.prog X.w) (kvs := prs) (PairArg.tuple a (ps.map Value.ref).toArray (fun j => (ps[j]?).getD 0) kvl) (I.ok.hd hc) ⟨⟨o, n, h1, h3, ho, h4⟩, by simp [l2], fun j k v e => ?_⟩ ⟨by rw [l1, l2], fun i key v e => ?_⟩ (by rw [l2]; exact hz) fun h' tk hd' k => ?_
  · obtain ⟨b, key, g1, g2, _, _⟩ := hpr j k v e
    have g0 : (ps[j]?).getD 0 = b := by rw [g1]; rfl
    refine ⟨by simp [g1], ?_⟩
    show PairAt _ ((ps[j]?).getD 0) k v
    rw [g0]
    exact .inl g2
  · obtain ⟨b, key', _, _, g3, g4⟩ := hpr i key v e
    exact ⟨key', g3, g4⟩
  · have hm : (s.heap.objs.size == sysModules) = false := beq_eq_false_iff_ne.mpr (Nat.ne_of_gt I.big)
    have hlen : (mergeK [] kvs).length ≤ sizeLine := by
      refine Nat.le_trans (length_mergeK kvs []) ?_
      rw [List.length_nil, Nat.zero_add, rel.length, l1]
      exact hz
    exact ⟨.ref s.heap.objs.size, _, I.laid (o := .dK (mergeK [] kvs)) (t' := tk) (fun b ob e => k b ob (by simp) e) (Nat.le_refl _) (show ObjOk X.prog X.w _ _ _ (.dK (mergeK [] kvs)) from ⟨hlen, hm, merged [] prs, KV.merge rel .nil, hd'⟩), rfl, q _ (I.hok.fresh (Nat.le_refl _))⟩
end
end SS

set_option Elab.async false
set_option linter.all false
set_option maxRecDepth 100000
/-! SSS: own rules: len(d), d.get(key, e), d a dict with whole numbers or texts as keys. Own work. -/
namespace SS
open PySem PySem.Spec L2
section
variable {X : Cx} {K : PySem.W.Frag} [HK X K] {α β : Type} {ρ : List (En K)} {pos : Pos} {R : Rp K α} {k : KeyK R} {Rv : Rp K β}
def rLenDK : List V → Hp → VK → Prop := fun xs H Q => ∃ a kvs, xs = [V.ref a] ∧ H a = some (.dK kvs) ∧ Q (.int kvs.length) H
/-- len(d), d frozen -/
theorem rc_lenDK : RCOk rLenDK (fs1 (rDK k Rv)) (rI : Rp K Int) (fun m P => P (m.length : Int)) := fun G H vs x P Q s ⟨v, h, d, kvs, h1, h2, h3⟩ p c => by
  subst h; subst h1
  exact ⟨d, kvs, rfl, s _ _ h2, c G H _ _ (Step.refl s) p (by rw [paired_len h3]; rfl)⟩
/-- d.get(key, f), d frozen -/
theorem pr_dgetK [DecidableEq α] {ed e f : Expr} {apos cpos : Pos} {wd : W (List (α × β))} {wk : W α} {wf : W β} (hu : X.A.units + 1 < cLine) (hd : PE X ed (TEx ρ (rDK k Rv) wd)) (he : PE X e (TEx ρ R wk)) (hf : PE X f (TEx ρ Rv wf)) (m : M2 X ed "get" apos e f cpos) :
    PE X (.Call (.Attribute ed "get" apos) [e, f] [] cpos) (TEx ρ Rv fun P => wd fun m => wk fun x => wf fun y => P ((lookA m x).getD y)) := by
  refine pe_imp (pe_dget2 hu hd he hf m) fun σ H Q ⟨G, P, s, ev, pp, c⟩ => ⟨G, _, s, ev, pp, fun G0 H0 u m st0 e0 p0 ⟨d, kvs, ed, h1, h2⟩ => ?_⟩
  subst ed
  refine ⟨d, rfl, .inl ⟨kvs, .inl (st0.gh _ _ h1)⟩, G0, _, st0.gh, e0, p0, fun G1 H1 v x st1 e1 p1 rx => ⟨G1, _, st1.gh, e1, p1, fun G2 H2 z y st2 e2 p2 ry => ?_⟩⟩
  have h2' := h2.mono (st1.trans st2).gg
  have h1' := (st1.trans st2).gg _ _ h1
  refine ⟨valV kvs (k.enc x), ?_, ?_⟩
  · rw [k.val _ _ _ rx]; exact .inl ⟨kvs, k.enc x, .inl (st2.gh _ _ h1'), rfl, rfl⟩
  · rcases kpr_find (x := x) h2' with ⟨z1, z2⟩ | ⟨w, y', z1, z2, z3⟩
    · rw [z2] at p2; rw [z1]
      exact c G2 H2 z _ ((st0.trans st1).trans st2) e2 p2 ry
    · rw [z2] at p2; rw [z1]
      exact c G2 H2 w _ ((st0.trans st1).trans st2) e2 p2 z3
/-- d.get(key, f), d of one's own -/
theorem pr_dgetOwnK [DecidableEq α] {i : Nat} {nm : Str} {pn : Pos} {d : Addr} {mm : List (α × β)} {e f : Expr} {apos cpos : Pos} {wk : W α} {wf : W β} (hu : X.A.units + 1 < cLine) (hv : PE X (.Name nm pn) (tVar i)) (ho : ρ[i]? = some (.rg d [] (dictKRg k Rv d mm))) (he : PE X e (TEx ρ R wk)) (hf : PE X f (TEx ρ Rv wf)) (m : M2 X (.Name nm pn) "get" apos e f cpos) :
    PE X (.Call (.Attribute (.Name nm pn) "get" apos) [e, f] [] cpos) (TEx ρ Rv fun P => wk fun x => wf fun y => P ((lookA mm x).getD y)) := by
  refine pe_imp (pe_dget2 hu hv he hf m) fun σ H Q ⟨G, P, s, ev, pp, c⟩ => ?_
  obtain ⟨hσ, _, ⟨kvs0, h0, _⟩, _⟩ := rgk_get ho ev
  refine ⟨.ref d, hσ, d, rfl, .inl ⟨kvs0, .inl h0⟩, G, _, s, ev, pp, fun G1 H1 v x st1 e1 p1 rx => ⟨G1, _, st1.gh, e1, p1, fun G2 H2 z y st2 e2 p2 ry => ?_⟩⟩
  obtain ⟨_, n2, ⟨kvs, h1, h2⟩, _⟩ := rgk_get ho e2
  refine ⟨valV kvs (k.enc x), ?_, ?_⟩
  · rw [k.val _ _ _ rx]; exact .inl ⟨kvs, k.enc x, .inl h1, rfl, rfl⟩
  · rcases kpr_find (x := x) h2 with ⟨z1, z2⟩ | ⟨w, y', z1, z2, z3⟩
    · rw [z2] at p2; rw [z1]
      exact c G2 H2 z _ (st1.trans st2) e2 p2 ry
    · rw [z2] at p2; rw [z1]
      exact c G2 H2 w _ (st1.trans st2) e2 p2 z3
/-- len(d), d of one's own -/
theorem pr_lenOwnK {i : Nat} {nm x : Str} {pn p : Pos} {d : Addr} {mm : List (α × β)} (hv : PE X (.Name nm pn) (tVar i)) (ho : ρ[i]? = some (.rg d [] (dictKRg k Rv d mm))) (hm : X.mg "len" = none)
    (hvv : bootBuiltins "len" = some (.builtin "len")) (hg : Gl X "len" := by rfl)
    (he : starEach [.Name nm pn] X.env = (false, eval (.Name nm pn) X.env) :: starEach [] X.env := by rfl) (hpl : (backTo pos (starEach [] X.env)).any (·.1) = false := by rfl) : PE X (.Call (.Name "len" p) [.Name nm pn] [] pos) (TEx ρ (rI : Rp K Int) fun P => P (mm.length : Int)) := by
  refine pe_imp (pe_callB L2.call_lenD hg hm hvv (pa_cons hv pa_nil he) (by decide) (by decide) he hpl) fun σ H Q ⟨G, P, s, ev, pp, c⟩ => ?_
  obtain ⟨hσ, _, ⟨kvs, h1, h2⟩, _⟩ := rgk_get ho ev
  exact ⟨.ref d, hσ, d, kvs, rfl, h1, c G H _ _ (Step.refl s) ev pp (by rw [paired_len h2]; rfl)⟩
/-- key not in d, d of one's own -/
theorem pr_ninOwnK [DecidableEq α] {i : Nat} {nm : Str} {pn : Pos} {d : Addr} {m : List (α × β)} {e : Expr} {wk : W α} (hu : X.A.units + 1 < cLine) (hv : PE X (.Name nm pn) (tVar i)) (ho : ρ[i]? = some (.rg d [] (dictKRg k Rv d m))) (he : PE X e (TEx ρ R wk)) (hm : behindInMarks .NotIn (.Name nm pn) = false := by rfl) :
    PE X (.Compare e [.NotIn] [.Name nm pn] pos) (TEx ρ rB fun P => wk fun x => P (!(lookA m x).isSome)) := by
  refine pe_imp (pe_cmpR (op_ninDK hu) he hv hm) fun σ H Q ⟨G, P, s, ev, pp, c⟩ => ⟨G, _, s, ev, pp, fun G1 H1 v x st e1 px rx => ?_⟩
  obtain ⟨hσ, n1, ⟨kvs, h1, h2⟩, _⟩ := rgk_get ho e1
  refine ⟨.ref d, hσ, d, valV kvs (k.enc x), rfl, ?_, c G1 H1 _ (!(lookA m x).isSome) st e1 px ?_⟩
  · rw [k.val _ _ _ rx]; exact .inl ⟨kvs, k.enc x, .inl h1, rfl, rfl⟩
  · rcases kpr_find (x := x) h2 with ⟨z1, z2⟩ | ⟨w, y, z1, z2, _⟩
    · rw [z1, z2]; rfl
    · rw [z1, z2]; rfl
/-- d[key], d of one's own -/
theorem pr_getOwnK [DecidableEq α] {i : Nat} {nm : Str} {pn : Pos} {d : Addr} {mm : List (α × β)} {e : Expr} {wk : W α} (hu : X.A.units + 1 < cLine) (hv : PE X (.Name nm pn) (tVar i)) (ho : ρ[i]? = some (.rg d [] (dictKRg k Rv d mm))) (he : PE X e (TEx ρ R wk)) (hs : NoSl e := by exact fun _ _ => rfl) :
    PE X (.Subscript (.Name nm pn) e pos) (TEx ρ Rv fun P => wk fun x => ∃ y, lookA mm x = some y ∧ P y) := by
  refine pe_imp (pe_dget hu hv he hs) fun σ H Q ⟨G, P, s, ev, pp, c⟩ => ?_
  obtain ⟨hσ, _⟩ := rgk_get ho ev
  refine ⟨.ref d, hσ, G, _, s, ev, pp, fun G1 H1 v x st e1 ⟨y, hy, py⟩ rx => ?_⟩
  obtain ⟨_, _, ⟨kvs, h1, h2⟩, _⟩ := rgk_get ho e1
  rcases kpr_find (x := x) h2 with ⟨_, z2⟩ | ⟨w, y', z1, z2, z3⟩
  · rw [z2] at hy; cases hy
  · rw [z2] at hy
    cases hy
    refine ⟨d, w, rfl, ?_, c G1 H1 w _ st e1 py z3⟩
    rw [k.val _ _ _ rx, ← z1]
    exact .inl ⟨kvs, k.enc x, .inl h1, rfl, rfl⟩
end
end SS

set_option Elab.async false
set_option linter.all false
set_option maxRecDepth 100000
/-! SST: own rules: a region frozen as a whole; a list of one's own whose items are lists of one's own. Own work. -/
namespace SS
open PySem PySem.Spec L2

/-! ### a region is frozen as a whole -/
def addG (G H : Hp) (as : List Addr) : Hp := fun p => if p ∈ as then H p else G p
theorem addG_in {G H : Hp} {as : List Addr} {p : Addr} (h : p ∈ as) : addG G H as p = H p := if_pos h
theorem addG_out {G H : Hp} {as : List Addr} {p : Addr} (h : p ∉ as) : addG G H as p = G p := if_neg h
theorem step_addG {G H : Hp} {as : List Addr} (s : Same G H) (n : ∀ b ∈ as, G b = none) : Step as G H (addG G H as) H where
  gg := fun a o e => by
    by_cases z : a ∈ as
    · rw [n a z] at e; cases e
    · rw [addG_out z]; exact e
  gh := fun a o e => by
    by_cases z : a ∈ as
    · rw [addG_in z] at e; exact e
    · rw [addG_out z] at e; exact s a o e
  keep := fun a o e _ => e
  old := fun a o _ n z => by rw [addG_out z]; exact n
/-- what a region holds, once it is frozen -/
structure FzOk {K : PySem.W.Frag} {α : Type} (a : Addr) (as : List Addr) (r : Rgn (a :: as)) (R : Rp K α) (x : α) : Prop where
  fz : ∀ {G H : Hp}, Same G H → (∀ b ∈ a :: as, G b = none) → r.φ G H → R.ok (addG G H (a :: as)) (.ref a) x

section
variable {X : Cx} {K : PySem.W.Frag} [HK X K] {τ ℓ α β γ : Type} {ρ : List (En K)} {post : τ → List (En K)} {lp : ℓ → List (En K)} {Rr : Rp K γ} {rest : List Stmt} {pos : Pos} {e : Expr}
theorem rg_look {i : Nat} {a : Addr} {as : List Addr} {r : Rgn (a :: as)} (h : ρ[i]? = some (.rg a as r)) {G H : Hp} {σ : L2.St} (ev : EnvOk ρ G H σ) :
    σ[i]? = some (some (.ref a)) ∧ (∀ b ∈ a :: as, G b = none) ∧ (∀ b ∈ a :: as, ∃ u, H b = some u) ∧ r.φ G H ∧ (∀ b ∈ a :: as, b ∈ adrs ρ) ∧ (a :: as).Nodup := by
  obtain ⟨o, ho, e1, n, hr⟩ := ev.ok i _ h
  subst e1
  refine ⟨ho, fun b hb => (n b hb).1, fun b hb => (n b hb).2, hr, fun b hb => adrs_mem h hb, ?_⟩
  have : ∀ (ρ : List (En K)) (i : Nat), (adrs ρ).Nodup → ρ[i]? = some (.rg a as r) → (a :: as).Nodup := fun ρ => by
    induction ρ with
    | nil => intro i _ q; simp at q
    | cons x t ih =>
      intro i nd q
      obtain ⟨n1, n2, _⟩ := List.nodup_append.mp nd
      cases i with
      | zero => simp at q; subst q; exact n1
      | succ i => exact ih i n2 (by simpa using q)
  exact this ρ i ev.nd h
theorem rgG_pl {i : Nat} {a : Addr} {as : List Addr} {r : Rgn (a :: as)} (h : ρ[i]? = some (.rg a as r)) : (ρ.getD i .off).pl = [] := by
  have e : ρ.getD i .off = .rg a as r := by rw [List.getD_eq_getElem?_getD, h]; rfl
  rw [e]; rfl
/-- the others stand while the region's cells change -/
theorem rg_other {i : Nat} {a : Addr} {as : List Addr} {r : Rgn (a :: as)} (h : ρ[i]? = some (.rg a as r)) {M : List Addr} {G H G' H' : Hp} {σ : L2.St} (ev : EnvOk ρ G H σ) (s : Step M G H G' H') (hM : ∀ b ∈ M, b ∈ a :: as) {e : En K} (q : ∀ o, σ[i]? = some o → e.ok G' H' o) (nd : (adrs (ρ.set i e)).Nodup) : EnvOk (ρ.set i e) G' H' σ := by
  refine ⟨by rw [List.length_set, ev.len], fun j e' hj => ?_, nd⟩
  by_cases hij : i = j
  · subst hij
    have hl := (List.getElem?_eq_some_iff.mp h).1
    rw [List.getElem?_set_self hl] at hj
    cases hj
    obtain ⟨o, ho, _⟩ := ev.ok i _ h
    exact ⟨o, ho, q o ho⟩
  · rw [List.getElem?_set_ne hij] at hj
    obtain ⟨o', ho', q'⟩ := ev.ok j e' hj
    exact ⟨o', ho', En.step q' s fun b hb z => nodup_apart ev.nd h hj hij (by simpa [En.adr] using hM b z) hb⟩
/-- a region is frozen -/
theorem b_frzG {sts : List Stmt} (i : Nat) {a : Addr} {as : List Addr} {r : Rgn (a :: as)} {R : Rp K α} {x : α} {m : W (Out τ ℓ γ)} (fz : FzOk a as r R x) (h : ρ[i]? = some (.rg a as r)) (hr : PSs X sts (TBO (ρ.set i (.fr R x)) post lp Rr m)) : PSs X sts (TBO ρ post lp Rr m) := by
  refine pss_imp hr fun D σ H ⟨G, P, s, ev, pp, c⟩ => ?_
  obtain ⟨ho, n1, _, hφ, hm, _⟩ := rg_look h ev
  have s2 := step_addG s n1
  have nf := nodup_fr (i := i) (e := (.fr R x : En K)) ev.nd rfl
  refine ⟨_, P, s2.gh, rg_other h ev s2 (fun b hb => hb) (fun o ho' => ?_) nf.1, pp, c.step (s2.wide fun b hb => hm b hb) (fun b hb => .inl (nf.2 b hb)) fun q hq => pls_set (rgG_pl h) hq⟩
  rw [ho] at ho'
  cases ho'
  exact ⟨_, rfl, fz.fz s n1 hφ⟩
/-- a region, read as if frozen, where the answer holds nothing of it -/
theorem thaw_env {i : Nat} {a : Addr} {as : List Addr} {r : Rgn (a :: as)} {R : Rp K α} {x : α} (fz : FzOk a as r R x) (ho : ρ[i]? = some (.rg a as r)) {G H : Hp} {σ : L2.St} (s : Same G H) (ev : EnvOk ρ G H σ) : EnvOk ((ρ.map hide).set i (.fr R x)) (addG G H (a :: as)) H σ := by
  obtain ⟨hσ, n1, _, hφ, hm, _⟩ := rg_look ho ev
  have s1 := step_addG s n1
  have nd0 : (adrs (ρ.map hide)).Nodup := ev.nd.sublist (hide_adrs ρ)
  refine ⟨by simp [ev.len], fun j e' hj => ?_, (nodup_fr nd0 rfl).1⟩
  by_cases hij : i = j
  · subst hij
    have hl : i < (ρ.map hide).length := by rw [List.length_map]; exact (List.getElem?_eq_some_iff.mp ho).1
    rw [List.getElem?_set_self hl] at hj
    cases hj
    exact ⟨_, hσ, .ref a, rfl, fz.fz s n1 hφ⟩
  · rw [List.getElem?_set_ne hij, List.getElem?_map] at hj
    cases q : ρ[j]? with
    | none => rw [q] at hj; cases hj
    | some e0 =>
      rw [q] at hj
      obtain ⟨o, ho', q'⟩ := ev.ok j e0 q
      have ee : hide e0 = e' := by simpa using hj
      subst ee
      refine ⟨o, ho', ?_⟩
      have ap : ∀ b ∈ e0.adr, b ∉ a :: as := fun b hb z => nodup_apart ev.nd ho q hij (by simpa [En.adr] using z) hb
      cases e0 with
      | pool a b => trivial
      | off => trivial
      | fr R' x' => exact En.step (e := .fr R' x') q' s1 fun a ha => nomatch ha
      | own a' R' x' => exact En.step (e := .own a' R' x') q' s1 ap
      | obj a' C' x' => exact En.step (e := .obj a' C' x') q' s1 ap
      | rg a' C' x' => exact En.step (e := .rg a' C' x') q' s1 ap
/-- .. the ghost without the region -/
theorem thaw_back {as : List Addr} {G H G' H' : Hp} (n1 : ∀ b ∈ as, G b = none) (st0 : Step [] (addG G H as) H G' H') : Step [] G H (fun p => if p ∈ as then none else G' p) H' := by
  refine ⟨fun b o q => ?_, fun b o q => ?_, fun b o q _ => st0.keep b o q (by simp), fun b o q n _ => ?_⟩
  · have z : b ∉ as := fun z => by rw [n1 b z] at q; cases q
    show (if b ∈ as then none else G' b) = some o
    rw [if_neg z]
    exact st0.gg b o (by rw [addG_out z]; exact q)
  · have q : (if b ∈ as then none else G' b) = some o := q
    by_cases z : b ∈ as
    · rw [if_pos z] at q; cases q
    · rw [if_neg z] at q; exact st0.gh b o q
  · show (if b ∈ as then none else G' b) = none
    by_cases z : b ∈ as
    · rw [if_pos z]
    · rw [if_neg z]
      exact st0.old b o q (by rw [addG_out z]; exact n) (by simp)
theorem hide_pls0 {i : Nat} {R : Rp K α} {x : α} : padr ((ρ.map hide).set i (.fr R x : En K)) = [] := by
  unfold padr
  rw [pls_setoff (hide_pls ρ) rfl]
  rfl
theorem pr_thawG {i : Nat} {a : Addr} {as : List Addr} {r : Rgn (a :: as)} {R : Rp K α} {x : α} {Rb : Rp K γ} {w : W γ} (fz : FzOk a as r R x) (ho : ρ[i]? = some (.rg a as r)) (hf : Flat Rb) (h : PE X e (TEx ((ρ.map hide).set i (.fr R x)) Rb w)) : PE X e (TEx ρ Rb w) := by
  refine pe_imp h fun σ H Q ⟨G, P, s, ev, pp, c⟩ => ?_
  obtain ⟨hσ, n1, _, hφ, hm, _⟩ := rg_look ho ev
  refine ⟨_, P, (step_addG s n1).gh, thaw_env fz ho s ev, pp, fun G' H' v b st e' pb rb => ?_⟩
  rw [hide_pls0] at st
  have stf := thaw_back n1 st
  exact c _ H' v b stf.of0 (ev.step0 stf) pb (hf _ _ _ _ rb)
theorem pt_thawG {i : Nat} {a : Addr} {as : List Addr} {r : Rgn (a :: as)} {R : Rp K α} {x : α} {w : W Bool} (fz : FzOk a as r R x) (ho : ρ[i]? = some (.rg a as r)) (h : PT X e (TTx ((ρ.map hide).set i (.fr R x)) w)) : PT X e (TTx ρ w) := by
  refine pt_imp h fun σ H Q ⟨G, P, s, ev, pp, c⟩ => ?_
  obtain ⟨hσ, n1, _, hφ, hm, _⟩ := rg_look ho ev
  refine ⟨_, P, (step_addG s n1).gh, thaw_env fz ho s ev, pp, fun G' H' b st e' pb => ?_⟩
  rw [hide_pls0] at st
  have stf := thaw_back n1 st
  exact c _ H' b stf.of0 (ev.step0 stf) pb
end

/-! ### lists of lists -/
section
variable {K : PySem.W.Frag} {α β : Type}
theorem paired_memo {α β : Type} {F F' : α → β → Prop} : ∀ {as : List α} {xs : List β}, (∀ a x, a ∈ as → F a x → F' a x) → Paired F as xs → Paired F' as xs
  | _, _, _, .nil => .nil
  | _, _, h, .cons r t => .cons (h _ _ (by simp) r) (paired_memo (fun a x z => h a x (by simp [z])) t)
def llCell (R : Rp K α) (G H : Hp) (b : Addr) (xs : List α) : Prop := ∃ vs, H b = some (.lst vs) ∧ Paired (R.ok G) vs xs ∧ vs.length ≤ sizeLine
theorem llCell.mono {R : Rp K α} {G G' H H' : Hp} {b : Addr} {xs : List α} (e : Same G G') (k : ∀ o, H b = some o → H' b = some o) (h : llCell R G H b xs) : llCell R G' H' b xs :=
  let ⟨vs, h1, h2, h3⟩ := h; ⟨vs, k _ h1, paired_mono (fun _ _ z => R.mono e z) h2, h3⟩
def llRg (R : Rp K α) (a : Addr) (as : List Addr) (xss : List (List α)) : Rgn (a :: as) :=
  ⟨fun G H => H a = some (.lst (as.map V.ref)) ∧ Paired (llCell R G H) as xss ∧ as.length ≤ sizeLine, fun e k ⟨h1, h2, h3⟩ => ⟨k a _ (by simp) h1, paired_memo (fun b x hb z => z.mono e fun o q => k b o (by simp [hb]) q) h2, h3⟩⟩
theorem paired_mapL {α β γ : Type} {F : α → β → Prop} {f : γ → α} : ∀ {as : List γ} {xs : List β}, Paired (fun a x => F (f a) x) as xs → Paired F (as.map f) xs
  | _, _, .nil => .nil
  | _, _, .cons r t => .cons r (paired_mapL t)
theorem fz_ll {R : Rp K α} {a : Addr} {as : List Addr} {xss : List (List α)} : FzOk a as (llRg R a as xss) (rL (rL R)) xss where
  fz := fun {G H} s n ⟨h1, h2, h3⟩ => by
    have s2 := step_addG s n
    refine ⟨a, as.map V.ref, rfl, SqL.of (by rw [addG_in (by simp)]; exact h1), paired_mapL (paired_memo (fun b xs hb ⟨vs, k1, k2, k3⟩ => ?_) h2), by rw [List.length_map]; exact h3⟩
    exact ⟨b, vs, rfl, SqL.of (by rw [addG_in (by simp [hb])]; exact k1), paired_mono (fun _ _ z => R.mono s2.gg z) k2, k3⟩
theorem fz_dN {P : Program} {w : World} {R : Rp K α} {k : KeyR R} {Rv : Rp K β} {d : Addr} {m : List (α × β)} : FzOk d [] (dictRg P w k Rv d m) (rDN P w k Rv) m where
  fz := fun {G H} s n ⟨ks, h1, h2⟩ => ⟨d, ks, rfl, by rw [addG_in (by simp)]; exact h1, h2.mono (step_addG s n).gg⟩
theorem fz_dK {R : Rp K α} {k : KeyK R} {Rv : Rp K β} {d : Addr} {m : List (α × β)} : FzOk d [] (dictKRg k Rv d m) (rDK k Rv) m where
  fz := fun {G H} s n ⟨ks, h1, h2⟩ => ⟨d, ks, rfl, by rw [addG_in (by simp)]; exact h1, h2.mono (step_addG s n).gg⟩
theorem ll_setCell {R : Rp K α} {G H : Hp} {b : Addr} {us : List V} {ys : List α} : ∀ {as : List Addr} {xss : List (List α)} {k : Nat}, as.Nodup → as[k]? = some b → Paired (llCell R G H) as xss → Paired (R.ok G) us ys → us.length ≤ sizeLine → Paired (llCell R G (upd H b (.lst us))) as (xss.set k ys)
  | _, _, k, _, hb, .nil, _, _ => by simp at hb
  | _, _, 0, nd, hb, .cons r t, pr, hz => by
    simp at hb
    subst hb
    refine .cons ⟨us, upd_same, pr, hz⟩ (paired_memo (fun d x hd z => z.mono (Same.refl G) fun o q => ?_) t)
    rw [upd_ne (fun y => (List.nodup_cons.mp nd).1 (by rw [← y]; exact hd))]; exact q
  | _, _, k + 1, nd, hb, .cons r t, pr, hz => by
    obtain ⟨nc, nd'⟩ := List.nodup_cons.mp nd
    have hb' := by simpa using hb
    refine .cons (r.mono (Same.refl G) fun o q => ?_) (ll_setCell nd' hb' t pr hz)
    rw [upd_ne (fun y => nc (by rw [y]; exact List.mem_of_getElem? hb'))]; exact q
theorem ixN_lt {n : Nat} {z : Int} {k : Nat} (h : ixN n z = some k) : k < n := by
  unfold ixN at h
  split at h <;> (try split at h) <;> simp at h <;> omega
end
section
variable {X : Cx} {K : PySem.W.Frag} [HK X K] {τ ℓ α β γ : Type} {ρ : List (En K)} {post : τ → List (En K)} {lp : ℓ → List (En K)} {Rr : Rp K γ} {rest : List Stmt} {pos : Pos} {e : Expr} {R : Rp K α}
/-- the k-th inner list becomes ys -/
theorem ll_put {i : Nat} {a : Addr} {as : List Addr} {xss : List (List α)} (h : ρ[i]? = some (.rg a as (llRg R a as xss))) {G H : Hp} {σ : L2.St} (ev : EnvOk ρ G H σ) (s : Same G H) {k : Nat} {b : Addr} (hb : as[k]? = some b) {us : List V} {ys : List α} (pr : Paired (R.ok G) us ys) (hz : us.length ≤ sizeLine) :
    Step (adrs ρ) G H G (upd H b (.lst us)) ∧ EnvOk (ρ.set i (.rg a as (llRg R a as (xss.set k ys)))) G (upd H b (.lst us)) σ := by
  obtain ⟨ho, n1, n2, ⟨h1, h2, h3⟩, hm, nd⟩ := rg_look h ev
  have hbm : b ∈ as := List.mem_of_getElem? hb
  have s1 : Step [b] G H G (upd H b (.lst us)) := Step.put s (by simp) (n1 b (by simp [hbm]))
  have nab : a ≠ b := fun z => by subst z; exact (List.nodup_cons.mp nd).1 hbm
  refine ⟨s1.wide fun c hc => by rw [mem1 hc]; exact hm b (by simp [hbm]), rg_other h ev s1 (fun c hc => by rw [mem1 hc]; simp [hbm]) (fun o ho' => ?_) (nodup_same (e' := .rg a as (llRg R a as (xss.set k ys))) ev.nd h (.inl rfl)).1⟩
  rw [ho] at ho'
  cases ho'
  refine ⟨rfl, fun c hc => ⟨n1 c hc, ?_⟩, by rw [upd_ne nab]; exact h1, ?_, h3⟩
  · by_cases z : c = b
    · subst z; exact ⟨_, upd_same⟩
    · rw [upd_ne z]; exact n2 c hc
  · exact ll_setCell (List.nodup_cons.mp nd).2 hb h2 pr hz
theorem ll_get {i : Nat} {a : Addr} {as : List Addr} {xss : List (List α)} (h : ρ[i]? = some (.rg a as (llRg R a as xss))) {G H : Hp} {σ : L2.St} (ev : EnvOk ρ G H σ) :
    σ[i]? = some (some (.ref a)) ∧ H a = some (.lst (as.map V.ref)) ∧ as.length = xss.length ∧ ∀ k, k < xss.length → ∃ b vs, as[k]? = some b ∧ H b = some (.lst vs) ∧ Paired (R.ok G) vs (xss.getD k []) ∧ vs.length ≤ sizeLine := by
  obtain ⟨ho, _, _, ⟨h1, h2, h3⟩, _, _⟩ := rg_look h ev
  refine ⟨ho, h1, paired_len h2, fun k hk => ?_⟩
  obtain ⟨b, hb, vs, k1, k2, k3⟩ := paired_get h2 (List.getElem?_eq_getElem hk)
  exact ⟨b, vs, hb, k1, by rw [List.getD_eq_getElem?_getD, List.getElem?_eq_getElem hk]; exact k2, k3⟩
theorem ll_cts {D : Ends} {P : Out τ ℓ γ → Prop} {i : Nat} {a : Addr} {as : List Addr} {r r' : Rgn (a :: as)} {G H G' H' : Hp} (c : Cts D post lp Rr P ρ G H) (st : Step (adrs ρ) G H G' H') (h : ρ[i]? = some (.rg a as r)) : Cts D post lp Rr P (ρ.set i (.rg a as r')) G' H' :=
  c.step st (fun b hb => (adrs_set hb).elim .inl fun z => .inl (adrs_mem h z)) fun q hq => pls_set (rgG_pl h) hq
theorem atI_ix {as : List Addr} {n : Nat} {z : Int} {k : Nat} {b : Addr} (hn : as.length = n) (h : ixN n z = some k) (hb : as[k]? = some b) : atI (as.map V.ref) z = some (V.ref b) := by
  unfold atI
  rw [List.length_map, hn, h]
  simp [hb]
/-- x[j].append(e) -/
theorem b_llApp {i : Nat} {nm : Str} {pn sp ap cp : Pos} {a : Addr} {as : List Addr} {xss : List (List α)} {ej : Expr} {w : W α} {wj : W Int} {m : Nat → α → W (Out τ ℓ γ)} (hv : PE X (.Name nm pn) (tVar i)) (ho : ρ[i]? = some (.rg a as (llRg R a as xss))) (hj : PE X ej (TEx ρ rI wj)) (h : PE X e (TEx ρ R w))
    (hr : ∀ (k : Nat) (x : α), PSs X rest (TBO (ρ.set i (.rg a as (llRg R a as (xss.set k (xss.getD k [] ++ [x]))))) post lp Rr (m k x)))
    (hpx : PlainIx ej := by exact fun _ _ => rfl)
    (hbase : attributeBase (.Subscript (.Name nm pn) ej sp) "append" X.env (eval (.Subscript (.Name nm pn) ej sp) X.env) = eval (.Subscript (.Name nm pn) ej sp) X.env := by rfl)
    (hfew : ((backTo cp (starEach [e] X.env)).all (fun x => !x.1) && (backToKw cp (keywordEach [] X.env)).all (fun x => x.1.isSome)
      && decide ([e].length + ([] : List Keyword).length + (if ([] : List Keyword).isEmpty then 0 else 1) < 30)) = true := by rfl)
    (hline : (ap.endLine == cp.line) = true := by rfl) (hs : starEach [e] X.env = (false, eval e X.env) :: starEach [] X.env := by rfl) (hplain : (backTo cp (starEach [] X.env)).any (·.1) = false := by rfl)
    (hsw : swapsWith (.Call (.Attribute (.Subscript (.Name nm pn) ej sp) "append" ap) [e] [] cp) none pos.line X.env = pure false := by rfl) :
    PSs X (.Expr (.Call (.Attribute (.Subscript (.Name nm pn) ej sp) "append" ap) [e] [] cp) pos :: rest) (TBO ρ post lp Rr fun P => wj fun z => ∃ k, ixN xss.length z = some k ∧ w fun x => ((xss.getD k []).length ≤ sizeLine → (xss.getD k []).length < sizeLine) ∧ m k x P) := by
  have hK : X.K = K := HK.eq
  subst hK
  refine pss_imp (pss_cons (ps_expr (pe_bm PySem.F.plainAttrs_list PySem.F.slot_list_append PySem.F.type_list_append mt_append (pe_ix ix_list hv hj hpx) (pa_cons h pa_nil hs) hbase hfew hline hs hplain) hsw) (pss_fam fun q : Nat × α => hr q.1 q.2)) fun D σ H ⟨G, P, s, ev, pp, c⟩ => ?_
  obtain ⟨hσ, _⟩ := ll_get ho ev
  refine ⟨.ref a, hσ, G, _, s, ev, pp, fun G1 H1 v z st e1 ⟨k, hk, pk⟩ rz => ?_⟩
  have rz' : v = V.int z := rz
  subst rz'
  obtain ⟨_, h1, hl, hc⟩ := ll_get ho e1
  obtain ⟨b, vs, hb, k1, k2, k3⟩ := hc k (ixN_lt hk)
  refine ⟨a, as.map V.ref, z, .ref b, rfl, rfl, SqL.of h1, atI_ix hl hk hb, ?_⟩
  refine ⟨.inl ⟨rfl, vs, SqL.of k1⟩, G1, _, st.gh, e1, pk, fun G2 H2 u x st2 e2 px rx => ?_⟩
  obtain ⟨_, _, hl2, hc2⟩ := ll_get ho e2
  obtain ⟨b2, vs2, hb2, g1, g2, g3⟩ := hc2 k (ixN_lt hk)
  rw [hb] at hb2
  cases hb2
  have hlt := px.1 (by rw [← paired_len g2]; exact g3)
  obtain ⟨s3, e3⟩ := ll_put ho e2 st2.gh hb (paired_app g2 (.cons rx .nil)) (by rw [List.length_append, paired_len g2]; exact hlt)
  exact ⟨b, vs2, u, rfl, rfl, g1, by rw [paired_len g2]; exact hlt, (k, x), G2, P, s3.gh, e3, px.2, ll_cts c (((st.trans st2).wide fun a ha => padr_sub ha).trans s3) ho⟩
/-- x[j][l] = e -/
theorem b_llSet {i : Nat} {nm : Str} {pn sp sp2 : Pos} {a : Addr} {as : List Addr} {xss : List (List α)} {ej el : Expr} {w : W α} {wj wl : W Int} {m : Nat → Nat → α → W (Out τ ℓ γ)} (hv : PE X (.Name nm pn) (tVar i)) (ho : ρ[i]? = some (.rg a as (llRg R a as xss))) (h : PE X e (TEx ρ R w)) (hj : PE X ej (TEx ρ rI wj)) (hl' : PE X el (TEx ρ rI wl))
    (hr : ∀ (k l : Nat) (x : α), PSs X rest (TBO (ρ.set i (.rg a as (llRg R a as (xss.set k ((xss.getD k []).set l x))))) post lp Rr (m k l x)))
    (hpx : PlainIx ej := by exact fun _ _ => rfl)
    (ha : ∀ v, assign (.Subscript (.Subscript (.Name nm pn) ej sp) el sp2) X.env v = (do
      let ov ← holding [v] (eval (.Subscript (.Name nm pn) ej sp) X.env)
      let iv ← holding [v, ov] (eval el X.env)
      standAt sp2
      holding [v, ov, iv] (setItem ov iv v)
      release [v, ov, iv] []) := by intro _; rfl)
    (hs : swapsWithSole [.Subscript (.Subscript (.Name nm pn) ej sp) el sp2] e pos.line X.env = pure false := by rfl) (hw : swappedStores [.Subscript (.Subscript (.Name nm pn) ej sp) el sp2] e X.env = pure none := by rfl) (h1 : (assignEach [.Subscript (.Subscript (.Name nm pn) ej sp) el sp2] X.env).map (·.2) = [assign (.Subscript (.Subscript (.Name nm pn) ej sp) el sp2) X.env] := by rfl) :
    PSs X (.Assign [.Subscript (.Subscript (.Name nm pn) ej sp) el sp2] e pos :: rest) (TBO ρ post lp Rr fun P => w fun x => wj fun z => ∃ k, ixN xss.length z = some k ∧ wl fun y => ∃ l, ixN (xss.getD k []).length y = some l ∧ m k l x P) := by
  have hK : X.K = K := HK.eq
  subst hK
  refine pss_imp (pss_cons (ps_asg h (pg_sub (pe_ix ix_list hv hj hpx) hl' set_list ha) hs hw h1) (pss_fam fun q : Nat × Nat × α => hr q.1 q.2.1 q.2.2)) fun D σ H ⟨G, P, s, ev, pp, c⟩ => ⟨G, _, s, ev, pp, fun G1 H1 v x st e1 pa ra => ?_⟩
  obtain ⟨hσ, _⟩ := ll_get ho e1
  refine ⟨.ref a, hσ, G1, _, st.gh, e1, pa, fun G2 H2 u z st2 e2 ⟨k, hk, pk⟩ rz => ?_⟩
  have rz' : u = V.int z := rz
  subst rz'
  obtain ⟨_, h1, hl, hc⟩ := ll_get ho e2
  obtain ⟨b, vs, hb, k1, k2, k3⟩ := hc k (ixN_lt hk)
  refine ⟨a, as.map V.ref, z, .ref b, rfl, rfl, SqL.of h1, atI_ix hl hk hb, ?_⟩
  refine ⟨G2, _, st2.gh, e2, pk, fun G3 H3 u2 y st3 e3 ⟨l, hl3, pl⟩ ry => ?_⟩
  have ry' : u2 = V.int y := ry
  subst ry'
  obtain ⟨_, _, hl2, hc2⟩ := ll_get ho e3
  obtain ⟨b2, vs2, hb2, g1, g2, g3⟩ := hc2 k (ixN_lt hk)
  rw [hb] at hb2
  cases hb2
  obtain ⟨s4, e4⟩ := ll_put ho e3 st3.gh hb (paired_set (R.mono (st2.trans st3).gg ra) l g2) (by rw [List.length_set]; exact g3)
  exact ⟨b, vs2, y, l, rfl, rfl, g1, by rw [paired_len g2]; exact hl3, (k, l, x), G3, P, s4.gh, e4, pl, ll_cts c ((((st.trans st2).trans st3).wide fun a ha => padr_sub ha).trans s4) ho⟩
/-- row = x[j]: a name of an inner list -/
theorem b_llRow {i ir : Nat} {nm nr : Str} {pn sp pr : Pos} {a : Addr} {as : List Addr} {xss : List (List α)} {ej : Expr} {wj : W Int} {m : Nat → W (Out τ ℓ γ)} (hN : X.N.Nodup) (hir : X.N[ir]? = some nr) (hx : Loc X.env.scope nr) (hv : PE X (.Name nm pn) (tVar i)) (ho : ρ[i]? = some (.rg a as (llRg R a as xss))) (hj : PE X ej (TEx ρ rI wj))
    (hr : ∀ (k : Nat), PSs X rest (TBO (ρ.set ir (.fr (rV (.ref (as.getD k 0))) ())) post lp Rr (m k))) (hp : (ρ.getD ir .off).pl = [] := by rfl)
    (hpx : PlainIx ej := by exact fun _ _ => rfl) (hs : swapsWith (.Subscript (.Name nm pn) ej sp) (some (.Name nr pr)) pos.line X.env = pure false := by rfl)
    (hf : X.fn nr = true ∨ X.env.scope.names.lookup nr = some .local := by first | exact .inl rfl | exact .inr rfl | assumption) :
    PSs X (.Assign [.Name nr pr] (.Subscript (.Name nm pn) ej sp) pos :: rest) (TBO ρ post lp Rr fun P => wj fun z => ∃ k, ixN xss.length z = some k ∧ m k P) := by
  have hK : X.K = K := HK.eq
  subst hK
  refine pss_imp (pss_cons (ps_set hN hir hx (pe_ix ix_list hv hj hpx) hs hf) (pss_fam hr)) fun D σ H ⟨G, P, s, ev, pp, c⟩ => ?_
  obtain ⟨hσ, _⟩ := ll_get ho ev
  refine ⟨.ref a, hσ, G, _, s, ev, pp, fun G1 H1 v z st e1 ⟨k, hk, pk⟩ rz => ?_⟩
  have rz' : v = V.int z := rz
  subst rz'
  obtain ⟨_, h1, hl, hc⟩ := ll_get ho e1
  obtain ⟨b, vs, hb, k1, k2, k3⟩ := hc k (ixN_lt hk)
  refine ⟨a, as.map V.ref, z, .ref b, rfl, rfl, SqL.of h1, atI_ix hl hk hb, k, G1, P, st.gh, e1.putFr ?_, pk, c.step (st.wide fun a ha => padr_sub ha) (fun b hb => .inl ((nodup_fr ev.nd rfl).2 b hb)) fun q hq => pls_set hp hq⟩
  show V.ref b = V.ref (as.getD k 0)
  rw [List.getD_eq_getElem?_getD, hb]; rfl
/-- row[l] = e, row the k-th inner list -/
theorem b_llRowSet {i ir : Nat} {nr : Str} {pr sp : Pos} {a : Addr} {as : List Addr} {xss : List (List α)} {el : Expr} {w : W α} {wl : W Int} {k : Nat} {m : Nat → α → W (Out τ ℓ γ)} (hv : PE X (.Name nr pr) (tVar ir)) (hir : ρ[ir]? = some (.fr (rV (.ref (as.getD k 0))) ())) (ho : ρ[i]? = some (.rg a as (llRg R a as xss))) (h : PE X e (TEx ρ R w)) (hl' : PE X el (TEx ρ rI wl))
    (hr : ∀ (l : Nat) (x : α), PSs X rest (TBO (ρ.set i (.rg a as (llRg R a as (xss.set k ((xss.getD k []).set l x))))) post lp Rr (m l x)))
    (ha : ∀ v, assign (.Subscript (.Name nr pr) el sp) X.env v = (do
      let ov ← holding [v] (eval (.Name nr pr) X.env)
      let iv ← holding [v, ov] (eval el X.env)
      standAt sp
      holding [v, ov, iv] (setItem ov iv v)
      release [v, ov, iv] []) := by intro _; rfl)
    (hs : swapsWithSole [.Subscript (.Name nr pr) el sp] e pos.line X.env = pure false := by rfl) (hw : swappedStores [.Subscript (.Name nr pr) el sp] e X.env = pure none := by rfl) (h1 : (assignEach [.Subscript (.Name nr pr) el sp] X.env).map (·.2) = [assign (.Subscript (.Name nr pr) el sp) X.env] := by rfl) :
    PSs X (.Assign [.Subscript (.Name nr pr) el sp] e pos :: rest) (TBO ρ post lp Rr fun P => k < xss.length ∧ w fun x => wl fun y => ∃ l, ixN (xss.getD k []).length y = some l ∧ m l x P) := by
  have hK : X.K = K := HK.eq
  subst hK
  refine pss_imp (pss_cons (ps_asg h (pg_sub hv hl' set_list ha) hs hw h1) (pss_fam fun q : Nat × α => hr q.1 q.2)) fun D σ H ⟨G, P, s, ev, ⟨hk, pp⟩, c⟩ => ⟨G, _, s, ev, pp, fun G1 H1 v x st e1 pa ra => ?_⟩
  obtain ⟨oo, hoo, vv, hvv, er⟩ := e1.ok ir _ hir
  subst hvv
  have er' : vv = V.ref (as.getD k 0) := er
  subst er'
  refine ⟨_, hoo, G1, _, st.gh, e1, pa, fun G3 H3 u2 y st3 e3 ⟨l, hl3, pl⟩ ry => ?_⟩
  have ry' : u2 = V.int y := ry
  subst ry'
  obtain ⟨_, _, hl2, hc2⟩ := ll_get ho e3
  obtain ⟨b, vs2, hb, g1, g2, g3⟩ := hc2 k hk
  have eb : as.getD k 0 = b := by rw [List.getD_eq_getElem?_getD, hb]; rfl
  obtain ⟨s4, e4⟩ := ll_put ho e3 st3.gh hb (paired_set (R.mono st3.gg ra) l g2) (by rw [List.length_set]; exact g3)
  exact ⟨b, vs2, y, l, by rw [eb], rfl, g1, by rw [paired_len g2]; exact hl3, (l, x), G3, P, s4.gh, e4, pl, ll_cts c (((st.trans st3).wide fun a ha => padr_sub ha).trans s4) ho⟩
end
end SS

set_option Elab.async false
set_option linter.all false
set_option maxRecDepth 100000
/-! SSU: own rules: lists of lists are made; as a field of the instance that is made. Own work. -/
namespace SS
open PySem PySem.Spec L2
section
variable {K : PySem.W.Frag} {α β γ : Type}
/-- a new list of new lists, nothing frozen -/
def TELL (ρ : List (En K)) (R : Rp K α) (w : W (List (List α))) : TE := fun σ H Q => ∃ (G : Hp) (P : List (List α) → Prop), Same G H ∧ EnvOk ρ G H σ ∧ w P ∧
  ∀ G' H' p as xss, Step (padr ρ) G H G' H' → EnvOk ρ G' H' σ → P xss → (∀ b ∈ p :: as, H b = none ∧ G' b = none ∧ ∃ u, H' b = some u) → (p :: as).Nodup → (llRg R p as xss).φ G' H' → Q (.ref p) H'
end
section
variable {X : Cx} {K : PySem.W.Frag} [HK X K] {α β : Type} {ρ : List (En K)} {Ra : Rp K α} {R : Rp K β} {tg iter elt : Expr} {ifs : List Expr} {scope : Scope} {own : List (Str × Nat)} {pos : Pos} {wi : W (List α)} {ext : α → List (En K)} {is : List Nat} {t : α → W Bool} {f : α → W (List β)}
theorem tx_lcL (hsub : ∀ j ∈ is, j ∈ own.map (·.2)) (hpl : ∀ x, pls (ext x) = pls ρ) (hpw : pls (wipeE ρ (own.map (·.2))) = pls ρ) (hA : ∀ x, ∀ a ∈ adrs ρ, a ∈ adrs (ext x)) (σ : L2.St) (H : Hp) (Q : VK)
    (h : TELL ρ R (fun P => wi fun xs => lcW xs t f P) σ H Q) : tLc (TIx ρ Ra wi) (TGx (wipeE ρ (own.map (·.2))) Ra ext is) (ttf fun x => TTx (ext x) (t x)) (tef fun x => TEL (ext x) R (f x)) (own.map (·.2)) σ H Q := by
  obtain ⟨G, P, s, ev, p, c⟩ := h
  refine ⟨G, _, s, ev, p, fun G1 H1 J xs st1 e1 p1 wk D hD => ?_⟩
  have pe : ∀ x, padr (ext x) = padr ρ := fun x => by unfold padr; rw [hpl]
  have hD0 : H D = none := EnvOk.freshIn st1 e1 hD
  have hDr : D ∉ adrs ρ := e1.fresh hD
  have hDp : D ∉ padr ρ := fun z => hDr (padr_sub z)
  refine ⟨fun i m H' => m = xs.length - i ∧ i ≤ xs.length ∧ ∃ (G' : Hp) (as : List Addr) (ys : List (List β)), Step (padr ρ) G1 H1 G' H' ∧ EnvOk ρ G' H' σ ∧ G' D = none ∧ H' D = some (.lst (as.map V.ref)) ∧ Paired (llCell R G' H') as ys ∧ as.length ≤ i ∧
    (∀ b ∈ as, H1 b = none ∧ G' b = none) ∧ (D :: as).Nodup ∧
    lcW (xs.drop i) t f (fun zs => P (ys ++ zs)), ⟨xs.length, by simp, Nat.zero_le _, G1, [], [], ?_, ?_, st1.gh.free hD, upd_same, .nil, Nat.le_refl _, (fun b hb => nomatch hb), by simp, p1⟩, ?_⟩
  · exact Step.lay st1.gh hD
  · exact e1.step0 (Step.lay st1.gh hD)
  rintro i m H' ⟨rfl, hi, G', as, ys, st, ev', gD, hDl, pr, hlen, nw, nd, wl⟩
  have cell_keep : ∀ {Ga Ha Gb Hb : Hp} {as : List Addr} {ys : List (List β)}, Step (padr ρ) Ga Ha Gb Hb → (∀ b ∈ as, b ∉ padr ρ) → Paired (llCell R Ga Ha) as ys → Paired (llCell R Gb Hb) as ys := fun {Ga Ha Gb Hb as ys} sa hn hp =>
    paired_memo (fun b x hb z => z.mono sa.gg fun o q => sa.keep b o q (hn b hb)) hp
  by_cases hlt : i < xs.length
  · refine .inr ⟨wk.go i H' (st.gg.trans st.gh) hlt, fun H'' => i + 1 ≤ xs.length ∧ ∃ (G'' : Hp) (as : List Addr) (ys : List (List β)), Step (padr ρ) G1 H1 G'' H'' ∧ EnvOk ρ G'' H'' σ ∧ G'' D = none ∧ H'' D = some (.lst (as.map V.ref)) ∧ Paired (llCell R G'' H'') as ys ∧ as.length ≤ i + 1 ∧
      (∀ b ∈ as, H1 b = none ∧ G'' b = none) ∧ (D :: as).Nodup ∧
      lcW (xs.drop (i + 1)) t f (fun zs => P (ys ++ zs)), fun H'' ⟨q1, q2⟩ => ⟨xs.length - (i + 1), by omega, rfl, q1, q2⟩, fun v H2 hy => ?_⟩
    have hx : xs[i]? = some xs[i] := List.getElem?_eq_getElem hlt
    obtain ⟨G2, sy, rv⟩ := wk.yld i G' H' v H2 _ st.gg st.gh hx hy
    rw [List.drop_eq_getElem_cons hlt] at wl
    have ev2 := ev'.step0 sy
    have gD2 : G2 D = none := sy.old D _ hDl gD (by simp)
    have hD2 : H2 D = some (.lst (as.map V.ref)) := sy.keep D _ hDl (by simp)
    have stt : Step (padr ρ) G1 H1 G2 H2 := st.trans sy.of0
    have np : ∀ b ∈ as, b ∉ padr ρ := fun b hb z => e1.fresh (nw b hb).1 (padr_sub z)
    have there : ∀ b ∈ as, ∃ u, H' b = some u := fun b hb => by
      obtain ⟨k, hk, e⟩ := List.mem_iff_getElem.mp hb
      obtain ⟨x, _, vs, k1, _⟩ := paired_get' pr (by rw [List.getElem?_eq_getElem hk, e])
      exact ⟨_, k1⟩
    refine ⟨G2, xs[i], sy.gh, ev2.wipe _, rv, fun σ2 e2 hl2 hj2 => ⟨wipe_same (by rw [hl2, wipe_length]) hj2 hsub, ?_⟩⟩
    refine ⟨xs[i], G2, _, sy.gh, e2, wl, fun G3 H3 b st3 e3 p3 => ?_⟩
    rw [pe] at st3
    have gD3 : G3 D = none := st3.old D _ hD2 gD2 hDp
    have hD3 : H3 D = some (.lst (as.map V.ref)) := st3.keep D _ hD2 hDp
    have s03 : Step (padr ρ) G' H' G3 H3 := sy.of0.trans st3
    have pr3 : Paired (llCell R G3 H3) as ys := cell_keep s03 np pr
    have nw3 : ∀ b ∈ as, H1 b = none ∧ G3 b = none := fun b hb => by
      obtain ⟨u, hu⟩ := there b hb
      exact ⟨(nw b hb).1, s03.old b u hu (nw b hb).2 (np b hb)⟩
    cases b with
    | false => exact ⟨hlt, G3, as, ys, stt.trans st3, env_back ev2 st3 e3 (hpl _), gD3, hD3, pr3, by omega, nw3, nd, p3⟩
    | true =>
      refine ⟨xs[i], G3, _, st3.gh, e3, p3, fun G4 H4 q us zs st4 e4 p4 n1 n2 hq pr4 hz4 => ?_⟩
      rw [pe] at st4
      have gD4 : G4 D = none := st4.old D _ hD3 gD3 hDp
      have hD4 : H4 D = some (.lst (as.map V.ref)) := st4.keep D _ hD3 hDp
      have s34 := st3.trans st4
      have s04 := sy.of0.trans s34
      have zl := wk.len
      have there3 : ∀ b ∈ as, ∃ u, H3 b = some u := fun b hb => by
        obtain ⟨u, hu⟩ := there b hb
        exact ⟨u, s03.keep b u hu (np b hb)⟩
      have qas : q ∉ as := fun z => by obtain ⟨u, hu⟩ := there3 q z; rw [n1] at hu; cases hu
      have qD : q ≠ D := fun z => by rw [z] at n1; rw [hD3] at n1; cases n1
      have qH1 : H1 q = none := EnvOk.freshIn (stt.trans st3) (env_back ev2 st3 e3 (hpl _)) n1
      have nw4 : ∀ b ∈ as ++ [q], H1 b = none ∧ G4 b = none := fun b hb => by
        rcases List.mem_append.mp hb with z | z
        · obtain ⟨u, hu⟩ := there b z
          exact ⟨(nw b z).1, s04.old b u hu (nw b z).2 (np b z)⟩
        · rw [mem1 z]; exact ⟨qH1, n2⟩
      refine ⟨as.map V.ref, hD4, by rw [List.length_map]; omega, hlt, G4, as ++ [q], ys ++ [zs], ?_, ?_, gD4, by rw [upd_same, List.map_append]; rfl, ?_, by simp; omega, nw4, ?_, ?_⟩
      · exact (stt.trans s34).cut (Step.put (M := [D]) st4.gh (by simp) gD4) fun a ha => .inr (by rw [mem1 ha]; exact hD)
      · exact (env_back ev2 s34 e4 (hpl _)).step (Step.put (M := [D]) st4.gh (by simp) gD4) fun a ha z => hDr (by rw [← mem1 z]; exact ha)
      · have k : ∀ b, b ≠ D → ∀ o, H4 b = some o → (upd H4 D (.lst (as.map V.ref ++ [V.ref q]))) b = some o := fun b hb o e => by rw [upd_ne hb]; exact e
        refine paired_app (paired_memo (fun b x hb z => z.mono (Same.refl _) (k b fun y => ?_)) (cell_keep s04 np pr)) (.cons ⟨us, k q qD _ hq, pr4, hz4⟩ .nil)
        exact (List.nodup_cons.mp nd).1 (by rw [← y]; exact hb)
      · rw [← List.cons_append]
        exact List.nodup_append.mpr ⟨nd, by simp, fun a ha b hb e => by
          rw [mem1 hb] at e
          subst e
          rcases List.mem_cons.mp ha with z | z
          · exact qD z
          · exact qas z⟩
      · have eq : (fun ws => P (ys ++ [zs] ++ ws)) = fun ws => P (ys ++ zs :: ws) := by funext ws; rw [List.append_assoc]; rfl
        rw [eq]
        exact p4
  · have hi' : i = xs.length := by omega
    subst hi'
    refine .inl ⟨wk.stop H' (st.gg.trans st.gh), ?_⟩
    rw [List.drop_length] at wl
    have wl' : P (ys ++ []) := wl
    rw [List.append_nil] at wl'
    refine c G' H' D as ys (st1.trans st) ev' wl' (fun b hb => ?_) nd ⟨hDl, pr, by have := wk.len; omega⟩
    rcases List.mem_cons.mp hb with z | z
    · rw [z]; exact ⟨hD0, gD, _, hDl⟩
    · obtain ⟨k, hk, e⟩ := List.mem_iff_getElem.mp z
      obtain ⟨x, _, vs, k1, _⟩ := paired_get' pr (by rw [List.getElem?_eq_getElem hk, e])
      exact ⟨EnvOk.freshIn st1 e1 (nw b z).1, (nw b z).2, _, k1⟩
theorem pr_lcL (hN : X.N.Nodup) (ok : BlkOk X.N X.env.scope scope own) (hi : PI X tg iter (TIx ρ Ra wi))
    (hg : ∀ (s : Shared) (H : Hp) (C : Addr) (cl : List (Str × Addr)) (fp : List Addr), PG (BX X scope s H C cl fp) tg (TGx (wipeE ρ (own.map (·.2))) Ra ext is))
    (ht : ∀ (x : α) (s : Shared) (H : Hp) (C : Addr) (cl : List (Str × Addr)) (fp : List Addr), PTs (BX X scope s H C cl fp) ifs (TTx (ext x) (t x)))
    (he : ∀ (x : α) (s : Shared) (H : Hp) (C : Addr) (cl : List (Str × Addr)) (fp : List Addr), PE (BX X scope s H C cl fp) elt (TEL (ext x) R (f x)))
    (hc : X.calm = true := by rfl) (hsub : ∀ j ∈ is, j ∈ own.map (·.2) := by decide) (hpl : ∀ x, pls (ext x) = pls ρ := by intro _; rfl) (hpw : pls (wipeE ρ (own.map (·.2))) = pls ρ := by rfl) (hA : ∀ x, ∀ a ∈ adrs ρ, a ∈ adrs (ext x) := by intro _ _ h; exact h)
    (hs : ∀ x, foldedSetIterable iter X.env x = pure x := by intro _; rfl) : PE X (.ListComp elt [⟨tg, iter, ifs, 0⟩] scope pos) (TELL ρ R fun P => wi fun xs => lcW xs t f P) :=
  pe_imp (pe_lc hc hN hi ok hg (fun s H C cl fp => pts_fam fun x => ht x s H C cl fp) (fun s H C cl fp => pe_fam fun x => he x s H C cl fp) hs) (tx_lcL hsub hpl hpw hA)
end
section
variable {X : Cx} {K : PySem.W.Frag} [HK X K] {τ ℓ α β γ : Type} {ρ : List (En K)} {post : τ → List (En K)} {lp : ℓ → List (En K)} {Rr : Rp K γ} {rest : List Stmt} {pos : Pos} {e : Expr}
theorem EnvOk.putRg {i : Nat} {a : Addr} {as : List Addr} {r : Rgn (a :: as)} {G H : Hp} {σ : L2.St} (ev : EnvOk ρ G H σ) (n : ∀ b ∈ a :: as, G b = none ∧ ∃ u, H b = some u) (nd : (a :: as).Nodup) (hr : r.φ G H) (nw : ∀ b ∈ a :: as, b ∉ adrs ρ) :
    EnvOk (ρ.set i (.rg a as r)) G H (σ.set i (some (.ref a))) := ev.put ⟨rfl, n, hr⟩ (nodup_set ev.nd (by simpa [En.adr] using nd) (by simpa [En.adr] using nw))
theorem cts_rg {D : Ends} {P : Out τ ℓ γ → Prop} {i : Nat} {a : Addr} {as : List Addr} {r : Rgn (a :: as)} {G H G' H' : Hp} (c : Cts D post lp Rr P ρ G H) (st : Step (padr ρ) G H G' H') (hp : (ρ.getD i .off).pl = []) (np : ∀ b ∈ a :: as, H b = none) :
    Cts D post lp Rr P (ρ.set i (.rg a as r)) G' H' :=
  c.step (st.wide fun a ha => padr_sub ha) (fun b hb => (adrs_set hb).elim .inl fun z => .inr (np b (by simpa [En.adr] using z))) fun q hq => pls_set hp hq
/-- name = [[..] for ..], no swap -/
theorem b_asgLL {i : Nat} {nm : Str} {pn : Pos} {Ra : Rp K α} {w : W (List (List α))} {m : Addr → List Addr → List (List α) → W (Out τ ℓ γ)} (hN : X.N.Nodup) (hi : X.N[i]? = some nm) (hx : Loc X.env.scope nm) (h : PE X e (TELL ρ Ra w))
    (hr : ∀ (q : Addr) (as : List Addr) (z : List (List α)), PSs X rest (TBO (ρ.set i (.rg q as (llRg Ra q as z))) post lp Rr (m q as z))) (hp : (ρ.getD i .off).pl = [] := by rfl) (hs : swapsWith e (some (.Name nm pn)) pos.line X.env = pure false := by rfl)
    (hf : X.fn nm = true ∨ X.env.scope.names.lookup nm = some .local := by first | exact .inl rfl | exact .inr rfl | assumption) : PSs X (.Assign [.Name nm pn] e pos :: rest) (TBO ρ post lp Rr fun P => w fun xs => ∀ p as, m p as xs P) :=
  pss_imp (pss_cons (ps_set hN hi hx h hs hf) (pss_fam fun q : Addr × List Addr × List (List α) => hr q.1 q.2.1 q.2.2)) fun D σ H ⟨G, P, s, ev, p, c⟩ => ⟨G, _, s, ev, p, fun G' H' q as xs st e' pa n nd hφ => ⟨(q, as, xs), G', P, st.gh,
    e'.putRg (fun b hb => (n b hb).2) nd hφ (fun b hb => ev.fresh (n b hb).1), pa q as, cts_rg c st hp (fun b hb => (n b hb).1)⟩⟩
/-- .. a local name -/
theorem b_lcLT {i : Nat} {nm : Str} {pn : Pos} {Ra : Rp K α} {Rb : Rp K β} {tg iter elt : Expr} {ifs : List Expr} {scope : Scope} {own : List (Str × Nat)} {lpos : Pos} {wi : W (List α)} {ext : α → List (En K)} {is : List Nat} {t : α → W Bool} {f : α → W (List β)} {m : Addr → List Addr → List (List β) → W (Out τ ℓ γ)}
    (hN : X.N.Nodup) (hi : X.N[i]? = some nm) (hyl : X.env.scope.names.lookup nm = some .local) (hk : X.env.scope.kind = .function) (ha : (scope.names.any fun (n, k) => n == nm && (k == .local || k == .cell)) = false)
    (ok : BlkOk X.N X.env.scope scope own) (hit : PI X tg iter (TIx ρ Ra wi))
    (hg : ∀ (s : Shared) (H : Hp) (C : Addr) (cl : List (Str × Addr)) (fp : List Addr), PG (BX X scope s H C cl fp) tg (TGx (wipeE ρ (own.map (·.2))) Ra ext is))
    (ht : ∀ (x : α) (s : Shared) (H : Hp) (C : Addr) (cl : List (Str × Addr)) (fp : List Addr), PTs (BX X scope s H C cl fp) ifs (TTx (ext x) (t x)))
    (he : ∀ (x : α) (s : Shared) (H : Hp) (C : Addr) (cl : List (Str × Addr)) (fp : List Addr), PE (BX X scope s H C cl fp) elt (TEL (ext x) Rb (f x)))
    (hr : ∀ (q : Addr) (as : List Addr) (z : List (List β)), PSs X rest (TBO (ρ.set i (.rg q as (llRg Rb q as z))) post lp Rr (m q as z))) (hp : (ρ.getD i .off).pl = [] := by rfl)
    (hc : X.calm = true := by rfl) (hsub : ∀ j ∈ is, j ∈ own.map (·.2) := by decide) (hpl : ∀ x, pls (ext x) = pls ρ := by intro _; rfl) (hpw : pls (wipeE ρ (own.map (·.2))) = pls ρ := by rfl) (hA : ∀ x, ∀ a ∈ adrs ρ, a ∈ adrs (ext x) := by intro _ _ h; exact h)
    (hs : ∀ x, foldedSetIterable iter X.env x = pure x := by intro _; rfl) (hl : (pn.line == pos.line) = true := by rfl) :
    PSs X (.Assign [.Name nm pn] (.ListComp elt [⟨tg, iter, ifs, 0⟩] scope pos) lpos :: rest) (TBO ρ post lp Rr fun P => wi fun xs => lcW xs t f fun ys => ∀ p as, m p as ys P) :=
  pss_imp (pss_cons (ps_setLc hc hN hi hyl (sw_true hk hyl hl ha) hit ok hg (fun s H C cl fp => pts_fam fun x => ht x s H C cl fp) (fun s H C cl fp => pe_fam fun x => he x s H C cl fp) hs) (pss_fam fun q : Addr × List Addr × List (List β) => hr q.1 q.2.1 q.2.2))
    fun D σ H ⟨G, P, s, ev, p, c⟩ => tx_lcL hsub hpl hpw hA σ H (fun x H1 => tsf (fun q : Addr × List Addr × List (List β) => TBO (ρ.set i (.rg q.1 q.2.1 (llRg Rb q.1 q.2.1 q.2.2))) post lp Rr (m q.1 q.2.1 q.2.2)) D (σ.set i (some x)) H1)
      ⟨G, _, s, ev, p, fun G' H' q as xs st e' pa n nd hφ => ⟨(q, as, xs), G', P, st.gh, e'.putRg (fun b hb => (n b hb).2) nd hφ (fun b hb => ev.fresh (n b hb).1), pa q as, cts_rg c st hp (fun b hb => (n b hb).1)⟩⟩

/-! ### the instance that is made: its fields are read; a field that holds a list of lists of one's own, the last one -/
theorem pr_objfld {i : Nat} {nm : Str} {pn fp : Pos} {a C : Addr} {fs : List (Str × Mp)} {f : Str} {Rb : Rp K β} {y : β} {ks : List Str} (j : Nat) (hv : PE X (.Name nm pn) (tVar i)) (ho : ρ[i]? = some (.obj a C fs)) (hc : Cls K C) (hn : NoAttr K C f) (hk : fs.map (·.1) = ks) (hj : fs[j]? = some (f, Rb.mp y)) (hf : firstAt ks f j = true)
    (hb : attributeBase (.Name nm pn) f X.env (eval (.Name nm pn) X.env) = eval (.Name nm pn) X.env := by rfl) : PE X (.Attribute (.Name nm pn) f fp) (TEx ρ Rb fun P => P y) := by
  have hK : X.K = K := HK.eq
  subst hK
  refine pe_imp (pe_fld hv hb) fun σ H Q ⟨G, P, s, ev, pp, c⟩ => ?_
  obtain ⟨oo, hoo, eq, n1, dx, vs, k1, k2⟩ := ev.ok i _ ho
  subst eq
  obtain ⟨q, hq, e1, e2⟩ := paired_get k2 hj
  obtain ⟨q1, q2⟩ := q
  have e1' : q1 = f := e1
  subst e1'
  have hkv : vs.map (·.1) = ks := (kp_keys k2).trans hk
  exact ⟨.ref a, hoo, a, C, dx, vs, q2, rfl, k1, hc, hn, lookup_ix hq (by rw [hkv]; exact firstAt_ok hf), c G H q2 y (Step.refl s) ev pp e2⟩
def oLRg (C : Addr) (fs : List (Str × Mp)) (f : Str) (R : Rp K α) (a m : Addr) (as : List Addr) (xss : List (List α)) : Rgn (a :: m :: as) :=
  ⟨fun G H => (∃ dx vs, H a = some (.ins C dx (vs ++ [(f, .ref m)])) ∧ Paired (KP G) vs fs) ∧ (llRg R m as xss).φ G H, fun e k ⟨⟨dx, vs, h1, h2⟩, h3⟩ => ⟨⟨dx, vs, k a _ (by simp) h1, paired_mono2 (fun v x ⟨z1, z2⟩ => ⟨z1, x.2.2 _ _ _ e z2⟩) h2⟩, (llRg R m as xss).st e (fun b o hb q => k b o (List.mem_cons_of_mem _ hb) q) h3⟩⟩
/-- self.f = [[..] for ..] -/
theorem b_fldLL {i : Nat} {nm : Str} {pn fp : Pos} {a C : Addr} {fs : List (Str × Mp)} {f : Str} {Ra : Rp K α} {w : W (List (List α))} {m : Addr → List Addr → List (List α) → W (Out τ ℓ γ)} {ks : List Str} (hv : PE X (.Name nm pn) (tVar i)) (ho : ρ[i]? = some (.obj a C fs)) (hc : Cls K C) (hn : NoAttr K C f) (h : PE X e (TELL ρ Ra w))
    (hk : fs.map (·.1) = ks) (hf : (notIn ks f && decide (ks.length < 900)) = true) (hr : ∀ q as z, PSs X rest (TBO (ρ.set i (.rg a (q :: as) (oLRg C fs f Ra a q as z))) post lp Rr (m q as z)))
    (hs : swapsWith e (some (.Attribute (.Name nm pn) f fp)) pos.line X.env = pure false := by rfl) :
    PSs X (.Assign [.Attribute (.Name nm pn) f fp] e pos :: rest) (TBO ρ post lp Rr fun P => w fun xs => ∀ p as, m p as xs P) := by
  have hK : X.K = K := HK.eq
  subst hK
  obtain ⟨hf1, hf2⟩ := Bool.and_eq_true_iff.mp hf
  refine pss_imp (pss_cons (ps_fld hv h hs) (pss_fam fun q : Addr × List Addr × List (List α) => hr q.1 q.2.1 q.2.2)) fun D σ H ⟨G, P, s, ev, pp, c⟩ => ⟨G, _, s, ev, pp, fun G1 H1 q as xss st e1 px n nd hφ => ?_⟩
  obtain ⟨oo, hoo, eq, n1, dx, vs, k1, k2⟩ := e1.ok i _ ho
  subst eq
  have hkv : vs.map (·.1) = ks := (kp_keys k2).trans hk
  have hlen : vs.length = ks.length := by rw [← hkv, List.length_map]
  have hlt : ks.length < 900 := of_decide_eq_true hf2
  have hpf : putF f (.ref q) vs = vs ++ [(f, .ref q)] := putF_new (by rw [hkv]; exact notIn_ok hf1)
  refine ⟨.ref a, hoo, a, C, dx, vs, rfl, k1, hc, hn, by omega, ?_⟩
  rw [hpf]
  have s1 : Step [a] G1 H1 G1 (upd H1 a (.ins C dx (vs ++ [(f, .ref q)]))) := Step.put st.gh (by simp) n1
  have hm : a ∈ adrs ρ := adrs_mem ho (by simp [En.adr])
  have hpl : (ρ.getD i .off).pl = [] := by
    have e : ρ.getD i .off = .obj a C fs := by rw [List.getD_eq_getElem?_getD, ho]; rfl
    rw [e]; rfl
  have fr : ∀ b ∈ q :: as, b ∉ adrs ρ := fun b hb => ev.fresh (n b hb).1
  have na : ∀ b ∈ q :: as, b ≠ a := fun b hb z => fr b hb (by rw [z]; exact hm)
  refine ⟨(q, as, xss), G1, P, s1.gh, ?_, px q as, c.step ((st.wide fun a ha => padr_sub ha).trans (s1.wide fun b hb => by rw [mem1 hb]; exact hm)) (fun b hb => (adrs_set hb).elim .inl fun z => ?_) fun q hq => pls_set hpl hq⟩
  · refine ⟨by rw [List.length_set, e1.len], fun j e' hj => ?_, ?_⟩
    · by_cases hij : i = j
      · subst hij
        rw [List.getElem?_set_self (List.getElem?_eq_some_iff.mp ho).1] at hj
        cases hj
        refine ⟨_, hoo, rfl, fun b hb => ?_, ⟨dx, vs, upd_same, k2⟩, (llRg Ra q as xss).st (Same.refl _) (fun b o hb z => by rw [upd_ne (na b hb)]; exact z) hφ⟩
        rcases List.mem_cons.mp hb with z | z
        · rw [z]; exact ⟨n1, _, upd_same⟩
        · exact ⟨(n b z).2.1, by rw [upd_ne (na b z)]; exact (n b z).2.2⟩
      · rw [List.getElem?_set_ne hij] at hj
        obtain ⟨o', ho', q⟩ := e1.ok j e' hj
        exact ⟨o', ho', En.step q s1 fun b hb z => nodup_apart e1.nd ho hj hij (by rw [mem1 z]; simp [En.adr]) hb⟩
    · -- the addresses
      have key : ∀ (ρ : List (En X.K)) (i : Nat), (adrs ρ).Nodup → ρ[i]? = some (.obj a C fs) → (∀ b ∈ q :: as, b ∉ adrs ρ) → (adrs (ρ.set i (.rg a (q :: as) (oLRg C fs f Ra a q as xss)))).Nodup := fun ρ => by
        induction ρ with
        | nil => intro i _ q; simp at q
        | cons x t ih =>
          intro i nd0 q0 fr0
          obtain ⟨m1, m2, m3⟩ := List.nodup_append.mp nd0
          cases i with
          | zero =>
            simp at q0
            subst q0
            show ((a :: q :: as) ++ adrs t).Nodup
            rw [List.cons_append]
            refine List.nodup_cons.mpr ⟨fun z => ?_, List.nodup_append.mpr ⟨nd, m2, fun b hb b' hb' e => fr0 b hb (by rw [e]; exact List.mem_append_right _ hb')⟩⟩
            rcases List.mem_append.mp z with z | z
            · exact fr0 a z (List.mem_append_left _ (by simp [En.adr]))
            · exact m3 a (by simp [En.adr]) a z rfl
          | succ i =>
            have fr1 : ∀ b ∈ q :: as, b ∉ adrs t := fun b hb z => fr0 b hb (List.mem_append_right _ z)
            refine List.nodup_append.mpr ⟨m1, ih i m2 (by simpa using q0) fr1, fun b hb b' hb' e => ?_⟩
            rcases adrs_set hb' with z | z
            · exact m3 b hb b' z e
            · rcases List.mem_cons.mp (by simpa [En.adr] using z : b' ∈ a :: q :: as) with y | y
              · exact m3 b hb a (adrs_mem (by simpa using q0 : t[i]? = _) (by simp [En.adr])) (by rw [e, y])
              · exact fr0 b' y (List.mem_append_left _ (by rw [← e]; exact hb))
      exact key ρ i e1.nd ho (fun b hb => fr b hb)
  · rcases List.mem_cons.mp (by simpa [En.adr] using z : b ∈ a :: q :: as) with y | y
    · exact .inl (by rw [y]; exact hm)
    · exact .inr (n b y).1
theorem oL_look {i : Nat} {a q C : Addr} {as : List Addr} {fs : List (Str × Mp)} {f : Str} {R : Rp K α} {xss : List (List α)} (h : ρ[i]? = some (.rg a (q :: as) (oLRg C fs f R a q as xss))) {G H : Hp} {σ : L2.St} (ev : EnvOk ρ G H σ) :
    σ[i]? = some (some (.ref a)) ∧ (∃ dx vs, H a = some (.ins C dx (vs ++ [(f, .ref q)])) ∧ Paired (KP G) vs fs) ∧ H q = some (.lst (as.map V.ref)) ∧ as.length = xss.length ∧ ∀ k, k < xss.length → ∃ b vs, as[k]? = some b ∧ H b = some (.lst vs) ∧ Paired (R.ok G) vs (xss.getD k []) ∧ vs.length ≤ sizeLine := by
  obtain ⟨ho, _, _, ⟨h0, h1, h2, h3⟩, _, _⟩ := rg_look h ev
  refine ⟨ho, h0, h1, paired_len h2, fun k hk => ?_⟩
  obtain ⟨b, hb, vs, k1, k2, k3⟩ := paired_get h2 (List.getElem?_eq_getElem hk)
  exact ⟨b, vs, hb, k1, by rw [List.getD_eq_getElem?_getD, List.getElem?_eq_getElem hk]; exact k2, k3⟩
/-- self.g, another field -/
theorem pr_oLfld {i : Nat} {nm : Str} {pn fp : Pos} {a q C : Addr} {as : List Addr} {fs : List (Str × Mp)} {f g : Str} {R : Rp K α} {xss : List (List α)} {Rb : Rp K β} {y : β} {ks : List Str} (j : Nat) (hv : PE X (.Name nm pn) (tVar i)) (ho : ρ[i]? = some (.rg a (q :: as) (oLRg C fs f R a q as xss))) (hc : Cls K C) (hn : NoAttr K C g) (hk : fs.map (·.1) = ks) (hj : fs[j]? = some (g, Rb.mp y)) (hf : firstAt ks g j = true)
    (hb : attributeBase (.Name nm pn) g X.env (eval (.Name nm pn) X.env) = eval (.Name nm pn) X.env := by rfl) : PE X (.Attribute (.Name nm pn) g fp) (TEx ρ Rb fun P => P y) := by
  have hK : X.K = K := HK.eq
  subst hK
  refine pe_imp (pe_fld hv hb) fun σ H Q ⟨G, P, s, ev, pp, c⟩ => ?_
  obtain ⟨hσ, ⟨dx, vs, k1, k2⟩, _⟩ := oL_look ho ev
  obtain ⟨z, hq, e1, e2⟩ := paired_get k2 hj
  obtain ⟨q1, q2⟩ := z
  have e1' : q1 = g := e1
  subst e1'
  have hkv : vs.map (·.1) = ks := (kp_keys k2).trans hk
  have hl : vs.lookup q1 = some q2 := lookup_ix hq (by rw [hkv]; exact firstAt_ok hf)
  have hl2 : (vs ++ [(f, V.ref q)]).lookup q1 = some q2 := by
    clear hq k1 k2 hkv e2
    induction vs with
    | nil => cases hl
    | cons p t ih =>
      obtain ⟨p1, p2⟩ := p
      rw [List.cons_append, List.lookup]
      rw [List.lookup] at hl
      split
      · rename_i h; rw [h] at hl; exact hl
      · rename_i h; rw [h] at hl; exact ih hl
  exact ⟨.ref a, hσ, a, C, dx, _, q2, rfl, k1, hc, hn, hl2, c G H q2 y (Step.refl s) ev pp e2⟩
theorem lookup_last {f : Str} {u : V} : ∀ {vs : List (Str × V)}, f ∉ vs.map (·.1) → (vs ++ [(f, u)]).lookup f = some u
  | [], _ => by simp [List.lookup]
  | (k, w) :: t, h => by
    have hk : ¬ f = k := fun z => h (by simp [z])
    rw [List.cons_append, List.lookup, beq_eq_false_iff_ne.mpr hk]
    exact lookup_last fun z => h (by simpa using Or.inr (by simpa using z))
/-- self.f[j].append(e) -/
theorem b_oLApp {i : Nat} {nm : Str} {pn fp sp ap cp : Pos} {a q C : Addr} {as : List Addr} {fs : List (Str × Mp)} {f : Str} {R : Rp K α} {xss : List (List α)} {ej : Expr} {w : W α} {wj : W Int} {m : Nat → α → W (Out τ ℓ γ)} {ks : List Str} (hv : PE X (.Name nm pn) (tVar i)) (ho : ρ[i]? = some (.rg a (q :: as) (oLRg C fs f R a q as xss))) (hc : Cls K C) (hn : NoAttr K C f) (hk : fs.map (·.1) = ks) (hf : notIn ks f = true)
    (hj : PE X ej (TEx ρ rI wj)) (h : PE X e (TEx ρ R w))
    (hr : ∀ (k : Nat) (x : α), PSs X rest (TBO (ρ.set i (.rg a (q :: as) (oLRg C fs f R a q as (xss.set k (xss.getD k [] ++ [x]))))) post lp Rr (m k x)))
    (hpx : PlainIx ej := by exact fun _ _ => rfl) (hb : attributeBase (.Name nm pn) f X.env (eval (.Name nm pn) X.env) = eval (.Name nm pn) X.env := by rfl)
    (hbase : attributeBase (.Subscript (.Attribute (.Name nm pn) f fp) ej sp) "append" X.env (eval (.Subscript (.Attribute (.Name nm pn) f fp) ej sp) X.env) = eval (.Subscript (.Attribute (.Name nm pn) f fp) ej sp) X.env := by rfl)
    (hfew : ((backTo cp (starEach [e] X.env)).all (fun x => !x.1) && (backToKw cp (keywordEach [] X.env)).all (fun x => x.1.isSome)
      && decide ([e].length + ([] : List Keyword).length + (if ([] : List Keyword).isEmpty then 0 else 1) < 30)) = true := by rfl)
    (hline : (ap.endLine == cp.line) = true := by rfl) (hs : starEach [e] X.env = (false, eval e X.env) :: starEach [] X.env := by rfl) (hplain : (backTo cp (starEach [] X.env)).any (·.1) = false := by rfl)
    (hsw : swapsWith (.Call (.Attribute (.Subscript (.Attribute (.Name nm pn) f fp) ej sp) "append" ap) [e] [] cp) none pos.line X.env = pure false := by rfl) :
    PSs X (.Expr (.Call (.Attribute (.Subscript (.Attribute (.Name nm pn) f fp) ej sp) "append" ap) [e] [] cp) pos :: rest) (TBO ρ post lp Rr fun P => wj fun z => ∃ k, ixN xss.length z = some k ∧ w fun x => ((xss.getD k []).length ≤ sizeLine → (xss.getD k []).length < sizeLine) ∧ m k x P) := by
  have hK : X.K = K := HK.eq
  subst hK
  refine pss_imp (pss_cons (ps_expr (pe_bm PySem.F.plainAttrs_list PySem.F.slot_list_append PySem.F.type_list_append mt_append (pe_ix ix_list (pe_fld hv hb) hj hpx) (pa_cons h pa_nil hs) hbase hfew hline hs hplain) hsw) (pss_fam fun q : Nat × α => hr q.1 q.2)) fun D σ H ⟨G, P, s, ev, pp, c⟩ => ?_
  obtain ⟨hσ, ⟨dx, vs0, k0, k00⟩, _⟩ := oL_look ho ev
  have hl0 : (vs0 ++ [(f, V.ref q)]).lookup f = some (.ref q) := lookup_last (by rw [kp_keys k00, hk]; exact notIn_ok hf)
  refine ⟨.ref a, hσ, a, C, dx, _, .ref q, rfl, k0, hc, hn, hl0, G, _, s, ev, pp, fun G1 H1 v z st e1 ⟨k, hk, pk⟩ rz => ?_⟩
  have rz' : v = V.int z := rz
  subst rz'
  obtain ⟨_, _, h1, hl, hcl⟩ := oL_look ho e1
  obtain ⟨b, vs, hb, k1, k2, k3⟩ := hcl k (ixN_lt hk)
  refine ⟨q, as.map V.ref, z, .ref b, rfl, rfl, SqL.of h1, atI_ix hl hk hb, ?_⟩
  refine ⟨.inl ⟨rfl, vs, SqL.of k1⟩, G1, _, st.gh, e1, pk, fun G2 H2 u x st2 e2 px rx => ?_⟩
  obtain ⟨_, _, _, hl2, hc2⟩ := oL_look ho e2
  obtain ⟨b2, vs2, hb2, g1, g2, g3⟩ := hc2 k (ixN_lt hk)
  rw [hb] at hb2
  cases hb2
  have hlt := px.1 (by rw [← paired_len g2]; exact g3)
  -- the change
  obtain ⟨hσ2, n1, n2, ⟨⟨dx2, vs3, f1, f2⟩, f3, f4, f5⟩, hm, nd⟩ := rg_look ho e2
  have hbm : b ∈ as := List.mem_of_getElem? hb
  have hbin : b ∈ a :: q :: as := by simp [hbm]
  have s1 : Step [b] G2 H2 G2 (upd H2 b (.lst (vs2 ++ [u]))) := Step.put st2.gh (by simp) (n1 b hbin)
  obtain ⟨nd1, nd2⟩ := List.nodup_cons.mp nd
  obtain ⟨nd3, nd4⟩ := List.nodup_cons.mp nd2
  have nab : a ≠ b := fun z => nd1 (by rw [z]; simp [hbm])
  have nqb : q ≠ b := fun z => nd3 (by rw [z]; exact hbm)
  have hlen : (vs2 ++ [u]).length ≤ sizeLine := by rw [List.length_append, paired_len g2]; exact hlt
  have e3 : EnvOk (ρ.set i (.rg a (q :: as) (oLRg C fs f R a q as (xss.set k (xss.getD k [] ++ [x]))))) G2 (upd H2 b (.lst (vs2 ++ [u]))) σ := by
    refine rg_other ho e2 s1 (fun c hc => by rw [mem1 hc]; exact hbin) (fun o ho' => ?_) (nodup_same (e' := .rg a (q :: as) (oLRg C fs f R a q as (xss.set k (xss.getD k [] ++ [x])))) e2.nd ho (.inl rfl)).1
    rw [hσ2] at ho'
    cases ho'
    refine ⟨rfl, fun c hc => ⟨n1 c hc, ?_⟩, ⟨dx2, vs3, by rw [upd_ne nab]; exact f1, f2⟩, by rw [upd_ne nqb]; exact f3, ?_, f5⟩
    · by_cases z : c = b
      · subst z; exact ⟨_, upd_same⟩
      · rw [upd_ne z]; exact n2 c hc
    · exact ll_setCell nd4 hb f4 (paired_app g2 (.cons rx .nil)) hlen
  have s1' : Step (adrs ρ) G2 H2 G2 (upd H2 b (.lst (vs2 ++ [u]))) := s1.wide fun c hc => by rw [mem1 hc]; exact hm b hbin
  exact ⟨b, vs2, u, rfl, rfl, g1, by rw [paired_len g2]; exact hlt, (k, x), G2, P, s1.gh, e3, px.2, ll_cts c (((st.trans st2).wide fun a ha => padr_sub ha).trans s1') ho⟩
end
end SS

set_option Elab.async false
set_option linter.all false
set_option maxRecDepth 100000
/-! SSV: own rules: the made instance's list field frozen; pop, remove; list(range), tuple(list), list + list, sorted, in and index of data. Own work. -/
namespace SS
open PySem PySem.Spec L2
section
variable {X : Cx} {K : PySem.W.Frag} [HK X K] {τ ℓ α β γ : Type} {ρ : List (En K)} {post : τ → List (En K)} {lp : ℓ → List (En K)} {Rr : Rp K γ} {rest : List Stmt} {pos : Pos} {e : Expr}
/-- the whole instance as read -/
theorem fz_oL {C : Addr} {fs : List (Str × Mp)} {f : Str} {R : Rp K α} {a m : Addr} {as : List Addr} {xss : List (List α)} : FzOk (K := K) a (m :: as) (oLRg C fs f R a m as xss) (rIns (K := K) C (fun (_ : Unit) => fs ++ [(f, Rp.mp (K := K) (rL (rL R)) xss)])) () where
  fz := fun {G H} s n ⟨⟨dx, vs, h1, h2⟩, h3⟩ => by
    have s2 := step_addG s n
    refine ⟨a, dx, vs ++ [(f, .ref m)], rfl, by rw [addG_in (by simp)]; exact h1, paired_app (paired_mono2 (fun p q ⟨z1, z2⟩ => ⟨z1, q.2.2 _ _ _ s2.gg z2⟩) h2) (.cons ⟨rfl, ?_⟩ .nil)⟩
    have := (fz_ll (R := R) (a := m) (as := as) (xss := xss)).fz s (fun b hb => n b (List.mem_cons_of_mem _ hb)) h3
    refine (rL (rL R)).mono (fun p o e => ?_) this
    by_cases z : p ∈ m :: as
    · rw [addG_in z] at e; rw [addG_in (List.mem_cons_of_mem _ z)]; exact e
    · rw [addG_out z] at e
      by_cases y : p ∈ a :: m :: as
      · rw [n p y] at e; cases e
      · rw [addG_out y]; exact e
/-- the list field is frozen, the instance is still made -/
theorem b_frzOL {sts : List Stmt} (i : Nat) {C : Addr} {fs : List (Str × Mp)} {f : Str} {R : Rp K α} {a q : Addr} {as : List Addr} {xss : List (List α)} {m : W (Out τ ℓ γ)} (h : ρ[i]? = some (.rg a (q :: as) (oLRg C fs f R a q as xss)))
    (hr : PSs X sts (TBO (ρ.set i (.obj a C (fs ++ [(f, Rp.mp (rL (rL R)) xss)]))) post lp Rr m)) : PSs X sts (TBO ρ post lp Rr m) := by
  refine pss_imp hr fun D σ H ⟨G, P, s, ev, pp, c⟩ => ?_
  obtain ⟨ho, n1, _, hφ, hm, nd⟩ := rg_look h ev
  have n2 : ∀ b ∈ q :: as, G b = none := fun b hb => n1 b (List.mem_cons_of_mem _ hb)
  have s2 := step_addG (as := q :: as) s n2
  obtain ⟨⟨dx, vs, k1, k2⟩, k3⟩ := hφ
  have na : a ∉ q :: as := (List.nodup_cons.mp nd).1
  have sub : ∀ (ρ : List (En K)) (i : Nat), ρ[i]? = some (.rg a (q :: as) (oLRg C fs f R a q as xss)) → (adrs (ρ.set i (.obj a C (fs ++ [(f, Rp.mp (rL (rL R)) xss)])))).Sublist (adrs ρ) := fun ρ => by
    induction ρ with
    | nil => intro i z; simp at z
    | cons x t ih =>
      intro i z
      cases i with
      | zero =>
        simp at z
        subst z
        show ([a] ++ adrs t).Sublist ((a :: q :: as) ++ adrs t)
        exact List.Sublist.append ((List.nil_sublist _).cons₂ a) (List.Sublist.refl _)
      | succ i => exact List.Sublist.append (List.Sublist.refl _) (ih i (by simpa using z))
  refine ⟨_, P, s2.gh, rg_other h ev s2 (fun b hb => List.mem_cons_of_mem _ hb) (fun o ho' => ?_) (ev.nd.sublist (sub ρ i h)), pp, c.step (s2.wide fun b hb => hm b (List.mem_cons_of_mem _ hb)) (fun b hb => .inl ((sub ρ i h).subset hb)) fun x hx => pls_set (rgG_pl h) hx⟩
  rw [ho] at ho'
  cases ho'
  refine ⟨rfl, by rw [addG_out na]; exact n1 a (by simp), dx, _, k1, paired_app (paired_mono2 (fun p q ⟨z1, z2⟩ => ⟨z1, q.2.2 _ _ _ s2.gg z2⟩) k2) (.cons ⟨rfl, ?_⟩ .nil)⟩
  exact fz_ll.fz s n2 k3
/-! ### pop, remove -/
theorem paired_last {α β : Type} {F : α → β → Prop} {vs : List α} {xs : List β} (p : Paired F vs xs) {x : β} (h : xs.getLast? = some x) : ∃ v, vs[vs.length - 1]? = some v ∧ F v x := by
  rw [List.getLast?_eq_getElem?] at h
  rw [paired_len p]
  exact paired_get p h
theorem paired_dropLast {α β : Type} {F : α → β → Prop} : ∀ {vs : List α} {xs : List β}, Paired F vs xs → Paired F vs.dropLast xs.dropLast
  | _, _, .nil => .nil
  | _, _, .cons r .nil => .nil
  | _, _, .cons r (.cons r2 t) => .cons r (paired_dropLast (.cons r2 t))
theorem paired_erase {α β : Type} {F : α → β → Prop} : ∀ {vs : List α} {xs : List β} (k : Nat), Paired F vs xs → Paired F (vs.eraseIdx k) (xs.eraseIdx k)
  | _, _, _, .nil => .nil
  | _, _, 0, .cons r t => t
  | _, _, k + 1, .cons r t => .cons r (paired_erase k t)
/-- name = x.pop() -/
theorem b_pop {i iy : Nat} {nm ny : Str} {pn py ap cp : Pos} {p : Addr} {Ra : Rp K α} {xs : List α} {m : α → W (Out τ ℓ γ)} (hN : X.N.Nodup) (hiy : X.N[iy]? = some ny) (hx : Loc X.env.scope ny) (hv : PE X (.Name nm pn) (tVar i)) (ho : ρ[i]? = some (.own p Ra xs)) (hne : iy ≠ i)
    (hr : ∀ a, PSs X rest (TBO ((ρ.set i (.own p Ra xs.dropLast)).set iy (.fr Ra a)) post lp Rr (m a)))
    (hp : ((ρ.set i (.own p Ra xs.dropLast)).getD iy .off).pl = [] := by rfl)
    (hs : swapsWith (.Call (.Attribute (.Name nm pn) "pop" ap) [] [] cp) (some (.Name ny py)) pos.line X.env = pure false := by rfl)
    (hf : X.fn ny = true ∨ X.env.scope.names.lookup ny = some .local := by first | exact .inl rfl | exact .inr rfl | assumption)
    (hbase : attributeBase (.Name nm pn) "pop" X.env (eval (.Name nm pn) X.env) = eval (.Name nm pn) X.env := by rfl) (hline : (ap.endLine == cp.line) = true := by rfl) :
    PSs X (.Assign [.Name ny py] (.Call (.Attribute (.Name nm pn) "pop" ap) [] [] cp) pos :: rest) (TBO ρ post lp Rr fun P => ∃ x, xs.getLast? = some x ∧ m x P) := by
  refine pss_imp (pss_cons (ps_set hN hiy hx (pe_bm0 PySem.F.plainAttrs_list PySem.F.slot_list_pop PySem.F.type_list_pop mt_pop hv hbase hline) hs hf) (pss_fam hr)) fun D σ H ⟨G, P, s, ev, ⟨x, hl, pp⟩, c⟩ => ?_
  obtain ⟨hσ, n1, ⟨vs, h1, h2, h3⟩, hm⟩ := own_get ho ev
  obtain ⟨v, hvv, rv⟩ := paired_last h2 hl
  obtain ⟨s2, e2⟩ := own_put ho ev s (paired_dropLast h2) (by rw [List.length_dropLast]; omega)
  refine ⟨.ref p, hσ, .inl ⟨rfl, vs, SqL.of h1⟩, p, vs, v, rfl, rfl, h1, hvv, x, G, P, s2.gh, e2.putFr rv, pp, ?_⟩
  exact (own_cts c s2 ho).step (Step.refl s2.gh) (fun b hb => .inl ((nodup_fr e2.nd rfl).2 b hb)) fun q hq => pls_set hp hq
/-- y.append(x.pop(e)) -/
theorem b_appPop {i j : Nat} {nm ny : Str} {pn py ap cp ap2 cp2 : Pos} {p q : Addr} {Ra : Rp K α} {xs ys : List α} {wj : W Int} {m : Nat → α → W (Out τ ℓ γ)} (hv : PE X (.Name nm pn) (tVar i)) (ho : ρ[i]? = some (.own p Ra xs)) (hy : PE X (.Name ny py) (tVar j)) (hoy : ρ[j]? = some (.own q Ra ys)) (hne : i ≠ j)
    (he : PE X e (TEx ρ rI wj))
    (hr : ∀ k a, PSs X rest (TBO ((ρ.set i (.own p Ra (xs.eraseIdx k))).set j (.own q Ra (ys ++ [a]))) post lp Rr (m k a)))
    (hoy2 : ∀ k, (ρ.set i (.own p Ra (xs.eraseIdx k)))[j]? = some (.own q Ra ys) := by intro _; rfl)
    (hbase : attributeBase (.Name ny py) "append" X.env (eval (.Name ny py) X.env) = eval (.Name ny py) X.env := by rfl)
    (hbase2 : attributeBase (.Name nm pn) "pop" X.env (eval (.Name nm pn) X.env) = eval (.Name nm pn) X.env := by rfl)
    (hfew : ((backTo cp (starEach [.Call (.Attribute (.Name nm pn) "pop" ap2) [e] [] cp2] X.env)).all (fun x => !x.1) && (backToKw cp (keywordEach [] X.env)).all (fun x => x.1.isSome)
      && decide ([Expr.Call (.Attribute (.Name nm pn) "pop" ap2) [e] [] cp2].length + ([] : List Keyword).length + (if ([] : List Keyword).isEmpty then 0 else 1) < 30)) = true := by rfl)
    (hfew2 : ((backTo cp2 (starEach [e] X.env)).all (fun x => !x.1) && (backToKw cp2 (keywordEach [] X.env)).all (fun x => x.1.isSome)
      && decide ([e].length + ([] : List Keyword).length + (if ([] : List Keyword).isEmpty then 0 else 1) < 30)) = true := by rfl)
    (hline : (ap.endLine == cp.line) = true := by rfl) (hline2 : (ap2.endLine == cp2.line) = true := by rfl)
    (hs : starEach [.Call (.Attribute (.Name nm pn) "pop" ap2) [e] [] cp2] X.env = (false, eval (.Call (.Attribute (.Name nm pn) "pop" ap2) [e] [] cp2) X.env) :: starEach [] X.env := by rfl) (hs2 : starEach [e] X.env = (false, eval e X.env) :: starEach [] X.env := by rfl)
    (hplain : (backTo cp (starEach [] X.env)).any (·.1) = false := by rfl) (hplain2 : (backTo cp2 (starEach [] X.env)).any (·.1) = false := by rfl)
    (hsw : swapsWith (.Call (.Attribute (.Name ny py) "append" ap) [.Call (.Attribute (.Name nm pn) "pop" ap2) [e] [] cp2] [] cp) none pos.line X.env = pure false := by rfl) :
    PSs X (.Expr (.Call (.Attribute (.Name ny py) "append" ap) [.Call (.Attribute (.Name nm pn) "pop" ap2) [e] [] cp2] [] cp) pos :: rest)
      (TBO ρ post lp Rr fun P => wj fun z => ∃ (k : Nat) (x : α), (0 ≤ z ∧ z < 1000000 ∧ z = (k : Int)) ∧ xs[k]? = some x ∧ (ys.length ≤ sizeLine → ys.length < sizeLine) ∧ m k x P) := by
  refine pss_imp (pss_cons (ps_expr (pe_bm PySem.F.plainAttrs_list PySem.F.slot_list_append PySem.F.type_list_append mt_append hy (pa_cons (pe_bm PySem.F.plainAttrs_list PySem.F.slot_list_pop PySem.F.type_list_pop mt_popAt hv (pa_cons he pa_nil hs2) hbase2 hfew2 hline2 hs2 hplain2) pa_nil hs) hbase hfew hline hs hplain) hsw) (pss_fam fun q : Nat × α => hr q.1 q.2)) fun D σ H ⟨G, P, s, ev, pp, c⟩ => ?_
  obtain ⟨hσ, n1, ⟨vs, h1, h2, h3⟩, hm⟩ := own_get ho ev
  obtain ⟨hσy, ny1, ⟨us, g1, g2, g3⟩, hmy⟩ := own_get hoy ev
  refine ⟨.ref q, hσy, .inl ⟨rfl, us, SqL.of g1⟩, .ref p, hσ, .inl ⟨rfl, vs, SqL.of h1⟩, G, _, s, ev, pp, fun G1 H1 v z st e1 ⟨k, x, ⟨z0, z1, z2⟩, hk, hl, pz⟩ rz => ?_⟩
  have rz' : v = V.int z := rz
  subst rz'
  obtain ⟨_, _, ⟨vs1, k1, k2, k3⟩, _⟩ := own_get ho e1
  obtain ⟨y, hy1, ry⟩ := paired_get k2 hk
  obtain ⟨s2, e2⟩ := own_put ho e1 st.gh (paired_erase k k2) (Nat.le_trans (List.length_eraseIdx_le _ _) k3)
  have hkl : k < vs1.length := (List.getElem?_eq_some_iff.mp hy1).1
  have hix : seqIndex? z vs1.length = some k := by
    rw [z2]
    unfold seqIndex?
    simp
    omega
  refine ⟨p, vs1, z, k, y, rfl, rfl, k1, by omega, by omega, hix, hy1, ?_⟩
  obtain ⟨_, _, ⟨us1, f1, f2, f3⟩, _⟩ := own_get (hoy2 k) e2
  have hlt := hl (by rw [← paired_len f2]; exact f3)
  obtain ⟨s3, e3⟩ := own_put (hoy2 k) e2 s2.gh (paired_app f2 (.cons ry .nil)) (by rw [List.length_append, paired_len f2]; exact hlt)
  refine ⟨q, us1, y, rfl, rfl, f1, by rw [paired_len f2]; exact hlt, (k, x), G1, P, s3.gh, e3, pz, ?_⟩
  exact own_cts (own_cts c ((st.wide fun a ha => padr_sub ha).trans s2) ho) s3 (hoy2 k)
theorem map_erase {α β : Type} {f : α → β} : ∀ (xs : List α) (k : Nat), (xs.map f).eraseIdx k = (xs.eraseIdx k).map f
  | [], _ => rfl
  | x :: t, 0 => rfl
  | x :: t, k + 1 => by simp [List.eraseIdx, map_erase t k]
/-- x.remove(e), whole numbers -/
theorem b_rem {i : Nat} {nm : Str} {pn ap cp : Pos} {p : Addr} {xs : List Int} {w : W Int} {m : Nat → W (Out τ ℓ γ)} (hv : PE X (.Name nm pn) (tVar i)) (ho : ρ[i]? = some (.own p rI xs)) (h : PE X e (TEx ρ rI w))
    (hr : ∀ k, PSs X rest (TBO (ρ.set i (.own p rI (xs.eraseIdx k))) post lp Rr (m k)))
    (hbase : attributeBase (.Name nm pn) "remove" X.env (eval (.Name nm pn) X.env) = eval (.Name nm pn) X.env := by rfl)
    (hfew : ((backTo cp (starEach [e] X.env)).all (fun x => !x.1) && (backToKw cp (keywordEach [] X.env)).all (fun x => x.1.isSome)
      && decide ([e].length + ([] : List Keyword).length + (if ([] : List Keyword).isEmpty then 0 else 1) < 30)) = true := by rfl)
    (hline : (ap.endLine == cp.line) = true := by rfl) (hs : starEach [e] X.env = (false, eval e X.env) :: starEach [] X.env := by rfl) (hplain : (backTo cp (starEach [] X.env)).any (·.1) = false := by rfl)
    (hsw : swapsWith (.Call (.Attribute (.Name nm pn) "remove" ap) [e] [] cp) none pos.line X.env = pure false := by rfl) :
    PSs X (.Expr (.Call (.Attribute (.Name nm pn) "remove" ap) [e] [] cp) pos :: rest) (TBO ρ post lp Rr fun P => w fun a => ∃ k, xs[k]? = some a ∧ (∀ l : Nat, l < k → xs[l]? ≠ some a) ∧ m k P) := by
  refine pss_imp (pss_cons (ps_expr (pe_bm PySem.F.plainAttrs_list PySem.F.slot_list_remove PySem.F.type_list_remove mt_remove hv (pa_cons h pa_nil hs) hbase hfew hline hs hplain) hsw) (pss_fam hr)) fun D σ H ⟨G, P, s, ev, pp, c⟩ => ?_
  obtain ⟨hσ, n1, ⟨vs, h1, h2, h3⟩, hm⟩ := own_get ho ev
  refine ⟨.ref p, hσ, .inl ⟨rfl, vs, SqL.of h1⟩, G, _, s, ev, pp, fun G1 H1 v a st e1 ⟨k, hk, hno, pa⟩ ra => ?_⟩
  have ra' : v = V.int a := ra
  subst ra'
  obtain ⟨_, _, ⟨vs1, k1, k2, k3⟩, _⟩ := own_get ho e1
  have ev1 : vs1 = xs.map V.int := ints_of k2
  obtain ⟨s2, e2⟩ := own_put ho e1 st.gh (paired_erase k k2) (Nat.le_trans (List.length_eraseIdx_le _ _) k3)
  have em : vs1.eraseIdx k = (xs.eraseIdx k).map V.int := by rw [ev1, map_erase]
  rw [em] at s2 e2
  exact ⟨p, xs, a, k, rfl, rfl, by rw [← ev1]; exact k1, hk, hno, k, G1, P, s2.gh, e2, pa, own_cts c ((st.wide fun a ha => padr_sub ha).trans s2) ho⟩
end
/-! ### new lists, tuples -/
section
variable {X : Cx} {K : PySem.W.Frag} [HK X K] {α β γ : Type} {ρ : List (En K)} {pos : Pos} {e : Expr} {R : Rp K α}
theorem pair_rng (G : Hp) (a b : Int) : Paired ((rI : Rp K Int).ok G) (rgV a b) (rng a (b - a).toNat) := by
  unfold rgV rng
  generalize List.range (b - a).toNat = l
  induction l with
  | nil => exact .nil
  | cons x t ih => exact .cons rfl ih
/-- list(range(e)) -/
theorem pr_listRng1 {a : Expr} {p p2 : Pos} {w : W Int} (hm : X.mg "list" = none) (hm2 : X.mg "range" = none) (ha : PE X a (TEx ρ rI w)) (hc : X.calm = true := by rfl) (hg : Gl X "list" := by rfl) (hg2 : Gl X "range" := by rfl)
    (na : starEach [.Call (.Name "range" p2) [a] [] pos] X.env = (false, eval (.Call (.Name "range" p2) [a] [] pos) X.env) :: starEach [] X.env := by rfl) (na2 : starEach [a] X.env = (false, eval a X.env) :: starEach [] X.env := by rfl) {pos2 : Pos} :
    PE X (.Call (.Name "list" p) [.Call (.Name "range" p2) [a] [] pos] [] pos2) (TEL ρ rI fun P => w fun j => (j < 1000000 ∧ -1000000 < j) ∧ P (rng 0 j.toNat)) := by
  refine pe_imp (pe_listRg hc hg hm (prg_1 hg2 hm2 ha na2) na) fun σ H Q ⟨G, P, s, ev, pp, c⟩ => ⟨G, _, s, ev, pp, fun G1 H1 v j st e1 ⟨⟨b1, b2⟩, pj⟩ rj => ⟨j, rj, ⟨by omega, by omega, by omega, by omega, by omega⟩, fun q hq => ?_⟩⟩
  have s2 : Step [] G1 H1 G1 (upd H1 q (.lst (rgV 0 j))) := Step.lay st.gh hq
  have hz : (rgV 0 j).length ≤ sizeLine := by rw [rgV_length]; have := szl; omega
  have pr := pair_rng (K := K) G1 0 j
  rw [Int.sub_zero] at pr
  exact c G1 _ q _ _ (st.trans s2.of0) (e1.step0 s2) pj (EnvOk.freshIn st e1 hq) (st.gh.free hq) upd_same pr hz
/-- tuple(xs), told as an object -/
def rTupL (K : PySem.W.Frag) : List V → Hp → VK → Prop := fun xs H Q => ∃ p ys, xs = [.ref p] ∧ SqL K H p ys ∧ ∀ l o, o.dict = none → H l = none → Q (.ref l) (upd H l (.frz o (.tup ys)))
theorem call_tupleLF : CallR X (.type "tuple") (rTupL X.K) := by
  intro pins s σ H xs us Q I r h
  obtain ⟨p, ys, rfl, hq, q⟩ := h
  obtain ⟨u, rfl, rx⟩ := vals1 r
  cases rx
  obtain ⟨its, r', pl, hz⟩ := I.list hq
  have hlen := r'.length
  refine call_tuple_list pl.isList (fun h' kp => ?_) (by simp only [List.size_toArray] <;> omega)
  have I1 : Inv X pins σ H { s with heap := h' } := I.kept (t' := s.toks) kp
  have I2 : Inv X pins σ (upd H h'.objs.size (.frz { cls := .type "tuple", data := .seq its.toArray } (.tup ys))) { s with heap := h'.push { cls := .type "tuple", data := .seq its.toArray } } :=
    I1.laid (t' := s.toks) (fun b o e => Heap.get?_push_of_some _ e) (Nat.le_refl _) (show ObjOk X.prog X.w _ _ _ (.frz { cls := .type "tuple", data := .seq its.toArray } (.tup ys)) from ⟨Heap.get?_push_size _ rfl, hz, its, r', PyProof.Rows.IsTup.new _ _⟩)
  exact ⟨.ref h'.objs.size, _, I2, rfl, q _ _ rfl (I1.hok.fresh (Nat.le_refl _))⟩
theorem rc_tupF : RCOk (rTupL K) (fs1 (rL R)) (rUf R) (fun xs P => P xs) := fun G H vs xs P Q s ⟨v, h, a, us, h1, h2, h3, h4⟩ p k => by
  subst h; subst h1
  refine ⟨a, us, rfl, Same.seq s h2, fun l o ho hl => ?_⟩
  have s2 := Step.new (M := []) (o := .frz o (.tup us)) s hl
  exact k _ _ _ _ s2 p ⟨l, o, us, rfl, upd_same, ho, paired_mono (fun _ _ z => R.mono s2.gg z) h3, h4⟩
/-- xs + ys, any lists -/
theorem list_add_any (l : Addr) (items : Array Value) (n : Nat) (b : Addr) (items2 : Array Value) (n2 : Nat) (o1 o2 : Array (Option Value)) (hc0 : items.size + items2.size ≤ sizeLine) :
    Meets (Builtin.«list.__add__» ⟨[.ref l, .ref b], []⟩) (fun _ R s => s.heap.get? l = some { cls := .type "list", dict := none, data := .seq items n, slots := o1 } ∧ s.heap.get? b = some { cls := .type "list", dict := none, data := .seq items2 n2, slots := o2 } ∧ R (.ok (.ret (Value.ref s.heap.objs.size))) { s with heap := s.heap.push { cls := Value.type "list", data := Data.seq (items ++ items2) }, toks := s.toks }) :=
  .of_wp fun prog w A R s h => by
    obtain ⟨hp, g, d, tk, os⟩ := s; obtain ⟨hl, hb, h⟩ := h
    have f1 := AutoSeq1.idx_int; have f2 := AutoSeq1.sub_tuple_tuple; have f3 := AutoSeq1.sub_list_list; have f4 := AutoSeq1.sub_tuple_list; have f5 := AutoSeq1.sub_list_tuple
    wp_walk using AutoSeq1.wpAny_loadPart' hl, AutoSeq1.wpAny_loadPart' hb
    exact ⟨_, rfl, h⟩
def rCatA2 (K : PySem.W.Frag) : R2 := fun x y H Q => ∃ l b xs zs, x = .ref l ∧ y = .ref b ∧ SqL K H l xs ∧ SqL K H b zs ∧ xs.length + zs.length ≤ sizeLine ∧ ∀ p, H p = none → Q (.ref p) (upd H p (.lst (xs ++ zs)))
theorem op_catL : OpR X (binaryOp .Add) (rCatA2 X.K) := by
  intro pins s σ H x y v u Q I rx ry h
  obtain ⟨l, b, xs, zs, rfl, rfl, hH, hB, hz, q⟩ := h
  cases rx
  cases ry
  obtain ⟨its, r, ⟨⟨oc, od, dt, os⟩, n, e, c1, c2, c3⟩, hl⟩ := I.list hH
  obtain ⟨its2, r2, ⟨⟨oc2, od2, dt2, os2⟩, n2, e2, d1, d2, d3⟩, hl2⟩ := I.list hB
  simp only at c1 c2 c3 d1 d2 d3
  subst c1 c2 c3 d1 d2 d3
  refine concat_meets ⟨_, e, rfl⟩ ⟨_, e2, rfl⟩ noFill_list_add seq_list_add F.slot_list_add F.entry_list_add (F.args_list_add_2 _ _) (list_add_any l its.toArray n b its2.toArray n2 os os2 (by rw [List.size_toArray, List.size_toArray, ← r.length, ← r2.length]; omega)) ⟨e, e2, ?_⟩
  have ea : its.toArray ++ its2.toArray = (its ++ its2).toArray := by simp
  rw [ea]
  exact ⟨.ref _, _, I.lnew (t' := s.toks) (r.append r2) (by rw [List.length_append]; omega), rfl, q _ I.fresh⟩
theorem pr_catL {a b : Expr} {w1 w2 : W (List α)} (ha : PE X a (TEx ρ (rL R) w1)) (hb : PE X b (TEx ρ (rL R) w2)) : PE X (.BinOp a .Add b pos) (TEL ρ R fun P => w1 fun xs => w2 fun ys => xs.length + ys.length ≤ sizeLine ∧ P (xs ++ ys)) := by
  have hK : X.K = K := HK.eq
  subst hK
  refine pe_imp (pe_op op_catL ha hb) fun σ H Q ⟨G, P, s, ev, pp, c⟩ => ⟨G, _, s, ev, pp, fun G1 H1 v xs st e1 pa ra => ⟨G1, _, st.gh, e1, pa, fun G2 H2 u ys st2 e2 pb rb => ?_⟩⟩
  obtain ⟨a1, vs, h1, h2, h3, h4⟩ := (rL R).mono st2.gg ra
  obtain ⟨b1, us, g1, g2, g3, g4⟩ := rb
  have hz : vs.length + us.length ≤ sizeLine := by rw [paired_len h3, paired_len g3]; exact pb.1
  refine ⟨a1, b1, vs, us, h1, g1, Same.seq st2.gh h2, Same.seq st2.gh g2, hz, fun p hp => ?_⟩
  have s1 : Step [] G2 H2 G2 (upd H2 p (.lst (vs ++ us))) := Step.lay st2.gh hp
  exact c G2 _ p _ _ ((st.trans st2).trans s1.of0) (e2.step0 s1) pb.2 (EnvOk.freshIn (st.trans st2) e2 hp) (st2.gh.free hp) upd_same (paired_app h3 g3) (by rw [List.length_append]; exact hz)
theorem ints_pairG (G : Hp) : ∀ xs : List Int, Paired ((rI : Rp K Int).ok G) (xs.map V.int) xs
  | [] => .nil
  | x :: xs => .cons rfl (ints_pairG G xs)
/-- sorted(xs), whole numbers: a new list -/
theorem rcl_sortI : RCL (rSortedI K) (fs1 (rL (rI : Rp K Int))) (rI : Rp K Int) (fun xs P => ∀ ys : List Int, ys.Perm xs → ys.Pairwise (· ≤ ·) → P ys) := fun G H vs xs P Q s ⟨v, h, a, us, h1, h2, h3, h4⟩ p k => by
  have e : us = xs.map V.int := ints_of h3
  subst h; subst h1; subst e
  refine ⟨a, xs, rfl, Same.seq s h2, fun ys q pm pw hq => ?_⟩
  exact k _ q _ ys (Step.lay s hq) (p ys pm pw) hq upd_same (ints_pairG G ys) (by rw [List.length_map, pm.length_eq]; rw [List.length_map] at h4; exact h4)
/-- a built-in function that makes a new list -/
theorem pr_cbL {R3 : Rp K γ} {w1 : W α} {e : Expr} {es : List Expr} {x : Str} {p : Pos} {id : String} {r : List V → Hp → VK → Prop} {F : Fs K α} {f : α → W (List γ)} (hc : CallR X (.builtin id) r) (hr : RCL r F R3 f) (hm : X.mg x = none) (hv : bootBuiltins x = some (.builtin id)) (ha : PA X (e :: es) (TAx ρ F w1))
    (hg : Gl X x := by rfl) (hn : x ≠ "__name__" := by decide) (hdb : (x == ("__debug__" : Str)) = false := by decide)
    (he : starEach (e :: es) X.env = (false, eval e X.env) :: starEach es X.env := by rfl) (hpl : (backTo pos (starEach es X.env)).any (·.1) = false := by rfl) : PE X (.Call (.Name x p) (e :: es) [] pos) (TEL ρ R3 fun P => w1 fun x => f x P) :=
  pe_imp (pe_callB hc hg hm hv ha hn hdb he hpl) (tx_cbL hr)
end
/-! ### in, index, of data -/
section
variable {K : PySem.W.Frag} {α β : Type}
class EqCl {R : Rp K α} (e : Eqp R) : Prop where
  cl : ∀ x, (e.enc x).canLay0 = true
class EqFCl {F : Fs K α} (e : EqF F) : Prop where
  cl : ∀ x, PyData.canLayAll0 (e.enc x) = true
instance : EqCl (eqI : Eqp (rI : Rp K Int)) := ⟨fun _ => rfl⟩
instance : EqCl (eqB : Eqp (rB : Rp K Bool)) := ⟨fun _ => rfl⟩
theorem clAll {R : Rp K α} (e : Eqp R) [h : EqCl e] : ∀ xs : List α, PyData.canLayAll0 (xs.map e.enc) = true
  | [] => rfl
  | x :: xs => by show (PyData.canLay0 _ && PyData.canLayAll0 _) = true; rw [h.cl, clAll e xs]; rfl
instance {R : Rp K α} {e : Eqp R} [EqCl e] : EqCl (eqL e) := ⟨fun xs => clAll e xs⟩
instance {R : Rp K α} {e : Eqp R} [EqCl e] : EqCl (eqU e) := ⟨fun xs => clAll e xs⟩
instance {R : Rp K α} {e : Eqp R} [h : EqCl e] : EqFCl (eqf1 e) := ⟨fun x => by show (PyData.canLay0 _ && true) = true; rw [h.cl]; rfl⟩
instance {R : Rp K α} {F : Fs K β} {e : Eqp R} {f : EqF F} [h : EqCl e] [k : EqFCl f] : EqFCl (eqfC e f) := ⟨fun x => by show (PyData.canLay0 _ && PyData.canLayAll0 _) = true; rw [h.cl, k.cl]; rfl⟩
instance {F : Fs K α} {f : EqF F} [k : EqFCl f] : EqCl (eqT f) := ⟨fun x => k.cl x⟩
instance {R : Rp K α} {e : Eqp R} {n : EqNn e} [h : EqCl e] : EqCl (eqO e n) := ⟨fun o => by cases o with | none => rfl | some x => exact h.cl x⟩
def eqUf {R : Rp K α} (e : Eqp R) : Eqp (rUf R) := ⟨(eqU e).enc, (eqU e).dep, fun G v x h => (eqU e).dp G v x (rUf_ok h), (eqU e).pl, (eqU e).dle, (eqU e).eqv⟩
def eqTf {F : Fs K α} (f : EqF F) : Eqp (rTf F) := ⟨(eqT f).enc, (eqT f).dep, fun G v x h => (eqT f).dp G v x (rTf_ok h), (eqT f).pl, (eqT f).dle, (eqT f).eqv⟩
instance {R : Rp K α} {e : Eqp R} [EqCl e] : EqCl (eqUf e) := ⟨fun xs => clAll e xs⟩
instance {F : Fs K α} {f : EqF F} [k : EqFCl f] : EqCl (eqTf f) := ⟨fun x => k.cl x⟩
theorem shaped_of {R : Rp K α} (e : Eqp R) [h : EqCl e] (hd : e.dep ≤ 64) (x : α) : SeqAt.shaped (e.enc x) = true := by
  unfold SeqAt.shaped
  rw [h.cl, Bool.true_and]
  exact decide_eq_true (Nat.le_trans (e.dle x) hd)
theorem any_eqv [DecidableEq α] {R : Rp K α} (e : Eqp R) (x : α) : ∀ xs : List α, (xs.map e.enc).any (fun z => PyData.eqv z (e.enc x)) = decide (x ∈ xs)
  | [] => by simp
  | y :: ys => by
    have h : PyData.eqv (e.enc y) (e.enc x) = decide (y = x) := by rw [Bool.eq_iff_iff, e.eqv, decide_eq_true_iff]
    rw [List.map_cons, List.any_cons, any_eqv e x ys, h]
    by_cases z : y = x
    · subst z; simp
    · have z' : x ≠ y := fun q => z q.symm
      simp [z, z']
theorem r2_inD [DecidableEq α] {R : Rp K α} (e : Eqp R) [EqCl e] (hd : e.dep + 1 ≤ 64 := by exact Nat.le_of_ble_eq_true rfl) : R2Ok (rInD K) R (rL R) (rB : Rp K Bool) (fun x xs P => P (decide (x ∈ xs))) := fun G H v u x xs P Q s h1 h2 p k =>
  ⟨e.enc x, xs.map e.enc, Dp.same s _ (e.dp _ _ _ h1), Dp.same s _ ((eqL e).dp _ _ _ h2), shaped_of e (by omega) x, shaped_of (eqL e) hd xs, k G H _ _ (Step.refl s) p (by rw [any_eqv]; rfl)⟩
theorem r2_ninD [DecidableEq α] {R : Rp K α} (e : Eqp R) [EqCl e] (hd : e.dep + 1 ≤ 64 := by exact Nat.le_of_ble_eq_true rfl) : R2Ok (rNotInD K) R (rL R) (rB : Rp K Bool) (fun x xs P => P (!decide (x ∈ xs))) := fun G H v u x xs P Q s h1 h2 p k =>
  ⟨e.enc x, xs.map e.enc, Dp.same s _ (e.dp _ _ _ h1), Dp.same s _ ((eqL e).dp _ _ _ h2), shaped_of e (by omega) x, shaped_of (eqL e) hd xs, k G H _ _ (Step.refl s) p (by rw [any_eqv]; rfl)⟩
end
end SS

set_option Elab.async false
set_option linter.all false
set_option maxRecDepth 100000
/-! SSW: own rules: defs that change a list that is handed over; dict of pairs; records (dicts with written text keys); a module's tuples of whole numbers; setdefault in a test; keys that are tuples told as objects. Own work. -/
namespace SS
open PySem PySem.Spec L2
/-! ### a def that changes a list handed over -/
section
variable {K : PySem.W.Frag} {α β γ : Type}
def OwnAt (R : Rp K γ) (G H : Hp) (p : Addr) (xs : List γ) : Prop := G p = none ∧ ∃ ws, H p = some (.lst ws) ∧ Paired (R.ok G) ws xs ∧ ws.length ≤ sizeLine
def SpM (F1 : Fs K α) (R : Rp K γ) (F2 : Fs K β) (m : α × List γ × β → W (List γ)) : Sp := fun vs H Q _ => ∃ (G : Hp) (p : Addr) (us1 us2 : List V) (a : α) (xs : List γ) (b : β) (P : List γ → Prop), vs = us1 ++ .ref p :: us2 ∧ Same G H ∧ F1.ok G us1 a ∧ F2.ok G us2 b ∧ OwnAt R G H p xs ∧ m (a, xs, b) P ∧
  ∀ G' H' ys, Step [p] G H G' H' → P ys → OwnAt R G' H' p ys → Q .non H'
end
section
variable {X : Cx} {K : PySem.W.Frag} [HK X K] {τ ℓ α β γ δ : Type} {ρ : List (En K)} {post : τ → List (En K)} {lp : ℓ → List (En K)} {Rr : Rp K δ} {rest : List Stmt} {pos : Pos} {e : Expr} {es : List Expr}
/-- arguments with a list of one's own among them -/
def TAm (ρ : List (En K)) (p : Addr) (F1 : Fs K α) (F2 : Fs K β) (w : W (α × β)) : TA := fun σ H Q => ∃ (G : Hp) (P : α × β → Prop), Same G H ∧ EnvOk ρ G H σ ∧ w P ∧
  ∀ G' H' us1 us2 a b, Step (padr ρ) G H G' H' → EnvOk ρ G' H' σ → P (a, b) → F1.ok G' us1 a → F2.ok G' us2 b → Q (us1 ++ .ref p :: us2) H'
theorem pam_own {i : Nat} {nm : Str} {pn : Pos} {p : Addr} {Ra : Rp K γ} {xs : List γ} {F2 : Fs K β} {w2 : W β} (hv : PE X (.Name nm pn) (tVar i)) (ho : ρ[i]? = some (.own p Ra xs)) (ht : PA X es (TAx ρ F2 w2)) (hs : starEach (.Name nm pn :: es) X.env = (false, eval (.Name nm pn) X.env) :: starEach es X.env := by rfl) :
    PA X (.Name nm pn :: es) (TAm ρ p (fsN : Fs K Unit) F2 fun P => w2 fun y => P ((), y)) := by
  refine pa_imp (pa_cons hv ht hs) fun σ H Q ⟨G, P, s, ev, h, c⟩ => ?_
  obtain ⟨hσ, _⟩ := own_get ho ev
  exact ⟨.ref p, hσ, G, _, s, ev, h, fun G1 H1 us b st e1 pb rb => c G1 H1 [] us () b st e1 pb rfl rb⟩
theorem pam_cons {p : Addr} {R : Rp K γ} {F1 : Fs K α} {F2 : Fs K β} {w1 : W γ} {w2 : W (α × β)} (h : PE X e (TEx ρ R w1)) (ht : PA X es (TAm ρ p F1 F2 w2)) (hs : starEach (e :: es) X.env = (false, eval e X.env) :: starEach es X.env := by rfl) :
    PA X (e :: es) (TAm ρ p (fsC R F1) F2 fun P => w1 fun x => w2 fun y => P ((x, y.1), y.2)) := by
  refine pa_imp (pa_cons h ht hs) fun σ H Q ⟨G, P, s, ev, h, c⟩ => ⟨G, _, s, ev, h, fun G1 H1 v x st1 e1 p1 r1 => ⟨G1, _, st1.gh, e1, p1, fun G2 H2 us1 us2 a b st2 e2 p2 r2 r3 => ?_⟩⟩
  exact c G2 H2 (v :: us1) us2 (x, a) b (st1.trans st2) e2 p2 ⟨v, us1, rfl, R.mono st2.gg r1, r2⟩ r3
/-- f(.., xs, ..), a def that changes xs -/
theorem b_callM {i : Nat} {x : Str} {k : Nat} {ps : List Str} {fp : Pos} {cp : Pos} {p : Addr} {Ra : Rp K γ} {xs : List γ} {F1 : Fs K α} {F2 : Fs K β} {w : W (α × β)} {mf : α × List γ × β → W (List γ)} {m : List γ → W (Out τ ℓ δ)} (h : FnG X.prog X.w K X.mg X.base x k ps (SpM F1 Ra F2 mf)) (hr : Room k X.A) (ho : ρ[i]? = some (.own p Ra xs)) (ha : PA X (e :: es) (TAm ρ p F1 F2 w))
    (hrest : ∀ ys, PSs X rest (TBO (ρ.set i (.own p Ra ys)) post lp Rr (m ys)))
    (hg : Gl X x := by rfl) (hdb : (x == ("__debug__" : Str)) = false := by decide) (he : starEach (e :: es) X.env = (false, eval e X.env) :: starEach es X.env := by rfl) (hpl : (backTo cp (starEach es X.env)).any (·.1) = false := by rfl)
    (hsw : swapsWith (.Call (.Name x fp) (e :: es) [] cp) none pos.line X.env = pure false := by rfl) :
    PSs X (.Expr (.Call (.Name x fp) (e :: es) [] cp) pos :: rest) (TBO ρ post lp Rr fun P => w fun q => mf (q.1, xs, q.2) fun ys => m ys P) := by
  have hK : X.K = K := HK.eq
  subst hK
  obtain ⟨f, fd, h1, h2, h3, h4⟩ := h.ex
  refine pss_imp (pss_cons (ps_expr (pe_call h4 hr hg h1 h2 h3 .nil pass0 ha hdb he hpl) hsw) (pss_fam hrest)) fun D σ H ⟨G, P, s, ev, pp, c⟩ => ⟨G, _, s, ev, pp, fun G1 H1 us1 us2 a b st e1 pa ra rb => ?_⟩
  show SpM F1 Ra F2 mf ((us1 ++ .ref p :: us2) ++ []) H1 _ E0
  rw [List.append_nil]
  obtain ⟨hσ, n1, k1, hm⟩ := own_get ho e1
  refine ⟨G1, p, us1, us2, a, xs, b, _, rfl, st.gh, ra, rb, ⟨n1, k1⟩, pa, fun G2 H2 ys st2 py ⟨n2, k2⟩ => ?_⟩
  have st2' : Step (adrs ρ) G1 H1 G2 H2 := st2.wide fun a ha => by rw [mem1 ha]; exact hm
  have e2 : EnvOk (ρ.set i (.own p Ra ys)) G2 H2 σ := by
    refine ⟨by rw [List.length_set, e1.len], fun j e' hj => ?_, (nodup_same (e' := .own p Ra ys) e1.nd ho (.inl rfl)).1⟩
    by_cases hij : i = j
    · subst hij
      rw [List.getElem?_set_self (List.getElem?_eq_some_iff.mp ho).1] at hj
      cases hj
      exact ⟨_, hσ, rfl, n2, k2⟩
    · rw [List.getElem?_set_ne hij] at hj
      obtain ⟨o', ho', q⟩ := e1.ok j e' hj
      exact ⟨o', ho', En.step q st2 fun a ha z => nodup_apart e1.nd ho hj hij (by rw [mem1 z]; simp [En.adr]) ha⟩
  exact ⟨ys, G2, P, st2.gh, e2, py, own_cts c ((st.wide fun a ha => padr_sub ha).trans st2') ho⟩
end
section
variable {P : Program} {w : World} {K : PySem.W.Frag} {mg : Str → Option Value} {base : Heap} {x qual : Str} {params : Arguments} {body : List Stmt} {sc : Scope} {f : Addr} {fd : FuncData} {N ps : List Str} {k : Nat} {α β γ : Type}
theorem fs_cut {F1 : Fs K α} {G H : Hp} {env1 : α → List (En K)} (hE1 : FsE F1 env1) {us1 : List V} {a : α} (h : F1.ok G us1 a) : (env1 a).length = us1.length := by rw [hE1.len, F1.len h]
/-- the def: a list of one's own at place j, what follows it -/
theorem fnok_ofM {F1 : Fs K α} {R : Rp K γ} {F2 : Fs K β} {m : α × List γ × β → W (List γ)} {env1 : α → List (En K)} {env2 : β → List (En K)} {wb : Addr → α → List γ → β → W (Out (List γ) Empty Unit)} (D : FunD K x qual params body sc [] [] f fd) (S : FnScope N ps sc) (hn : F1.n + (F2.n + 1) = ps.length) (hl : ps.length ≤ N.length) (hE1 : FsE F1 env1) (hE2 : FsE F2 env2)
    (ρ0 : Addr → α → List γ → β → List (En K)) (h0 : ∀ p a xs b, env1 a ++ (.own p R xs :: (env2 b ++ List.replicate (N.length - ps.length) .off)) = ρ0 p a xs b) (post : Addr → List γ → List (En K)) (j : Nat) (hj : j = F1.n) (hpost : ∀ p ys, (post p ys)[j]? = some (.own p R ys))
    (hb : ∀ (p : Addr) (a : α) (xs : List γ) (b : β) cdv A outer s H E, Room k (A.deeper (PyProof.Rows.envOfC qual sc s.heap.objs.size f cdv)) → PSs (XC P w K mg base N qual sc f cdv A outer s H E) body (TBO (K := K) (ρ0 p a xs b) (post p) (fun z : Empty => nomatch z) rN (wb p a xs b)))
    (hm : ∀ p a xs b Q, m (a, xs, b) Q → wb p a xs b (fun o => match o with | .nx ys => Q ys | _ => False)) : FnOk P w K mg base CX0 (k + 1) f fd ps (SpM F1 R F2 m) := by
  refine D.ok S (fun vs H Q E ⟨G, p, us1, us2, a, xs, b, Pp, e, s, h1, h2, _⟩ => by rw [e, List.length_append, List.length_cons, F1.len h1, F2.len h2, hn]) fun cdv A outer s H vs Q E hr ⟨G, p, us1, us2, a, xs, b, Pp, e, sG, h1, h2, ho, hp, c⟩ => ⟨_, (hb p a xs b cdv A outer s H E hr).nox, ?_⟩
  subst e
  have e0 : adrs (ρ0 p a xs b) = [p] := by
    rw [← h0, adrs_app, hE1.no]
    show [p] ++ adrs (env2 b ++ _) = [p]
    rw [adrs_app, hE2.no, adrs_off_rep]; rfl
  have hl1 : (env1 a).length = us1.length := fs_cut (H := H) hE1 h1
  have hl2 : (env2 b).length = us2.length := fs_cut (H := H) hE2 h2
  have hn1 := F1.len h1
  have hn2 := F2.len h2
  have ev : EnvOk (ρ0 p a xs b) G H (L2.start N (us1 ++ .ref p :: us2)) := by
    rw [← h0]
    refine ⟨?_, fun i e hi => ?_, by rw [h0, e0]; simp⟩
    · unfold L2.start
      simp only [List.length_append, List.length_cons, List.length_map, List.length_replicate, hl1, hl2]
      omega
    · rw [start_get]
      by_cases c1 : i < us1.length
      · rw [List.getElem?_append_left (by omega)] at hi
        obtain ⟨v, k1, k2⟩ := hE1.ok G H us1 a h1 i e hi
        exact ⟨some v, by rw [if_pos (by rw [List.length_append]; omega), List.getElem?_append_left c1, k1]; rfl, k2⟩
      · rw [List.getElem?_append_right (by omega), hl1] at hi
        by_cases c2 : i = us1.length
        · subst c2
          simp at hi
          subst hi
          exact ⟨some (.ref p), by rw [if_pos (by simp), List.getElem?_append_right (Nat.le_refl _)]; simp, rfl, ho⟩
        · obtain ⟨d, hd⟩ : ∃ d, i = us1.length + 1 + d := ⟨i - us1.length - 1, by omega⟩
          subst hd
          rw [show us1.length + 1 + d - us1.length = d + 1 by omega, List.getElem?_cons_succ] at hi
          by_cases c3 : d < us2.length
          · rw [List.getElem?_append_left (by omega)] at hi
            obtain ⟨v, k1, k2⟩ := hE2.ok G H us2 b h2 d e hi
            refine ⟨some v, ?_, k2⟩
            rw [if_pos (by simp; omega), List.getElem?_append_right (by omega), show us1.length + 1 + d - us1.length = d + 1 by omega, List.getElem?_cons_succ, k1]; rfl
          · rw [List.getElem?_append_right (by omega)] at hi
            obtain ⟨hb', he'⟩ := List.getElem?_eq_some_iff.mp hi
            simp only [List.length_replicate] at hb'
            have : e = .off := by rw [← he']; simp
            subst this
            exact ⟨none, by rw [if_neg (by simp; omega), if_pos (by omega)], trivial⟩
  refine ⟨G, _, sG, ev, hm p a xs b Pp hp, ⟨fun ys G' H' σ' st e' z => ?_, fun t => (nomatch t), fun t => (nomatch t), fun b G' H' v st _ pb rb => pb.elim⟩⟩
  rw [e0] at st
  obtain ⟨o, ho', e1, n1, k1⟩ := e'.ok j _ (hpost p ys)
  exact c G' H' ys st z ⟨n1, k1⟩
end
/-! ### dict(..) of pairs -/
section
variable {X : Cx} {K : PySem.W.Frag} [HK X K] {α β γ : Type} {ρ : List (En K)} {pos : Pos} {e : Expr} {R : Rp K α} {k : KeyK R} {Rv : Rp K β}
def mergeA [DecidableEq α] (m : List (α × β)) (xs : List (α × β)) : List (α × β) := xs.foldl (fun acc p => putA acc p.1 p.2) m
theorem kpr_merge [DecidableEq α] {G : Hp} : ∀ {us : List (Key × V)} {xs : List (α × β)}, KPr k Rv G us xs → ∀ {kvs : List (Key × V)} {m : List (α × β)}, KPr k Rv G kvs m → KPr k Rv G (mergeK kvs us) (mergeA m xs)
  | _, _, .nil, _, _, h => h
  | _, _, .cons (a := q) (b := p) ⟨e1, e2⟩ t, kvs, m, h => by
    show KPr k Rv G (mergeK (putK kvs q.1 q.2) _) (mergeA (putA m p.1 p.2) _)
    exact kpr_merge t (by rw [e1]; exact kpr_put e2 h)
theorem pairs_dict {G : Hp} : ∀ {vs : List V} {xs : List (α × β)}, Paired ((rT (fsC R (fs1 Rv))).ok G) vs xs → ∃ (ps : List Addr) (kvs : List (Key × V)), vs = ps.map V.ref ∧ Paired (fun p kv => SqT K G p [kV kv.1, kv.2]) ps kvs ∧ KPr k Rv G kvs xs
  | _, _, .nil => ⟨[], [], rfl, .nil, .nil⟩
  | _, _, .cons (a := v) (b := x) ⟨a, us, h1, h2, u, r, h3, h4, w, h5, h6⟩ t => by
    obtain ⟨ps, kvs, e1, e2, e3⟩ := pairs_dict t
    subst h5
    subst h3
    refine ⟨a :: ps, (k.enc x.1, w) :: kvs, by rw [h1, e1]; rfl, .cons ?_ e2, .cons ⟨rfl, h6⟩ e3⟩
    rw [← k.val _ _ _ h4]
    exact h2
theorem paired_addr {F F' : Addr → Key × V → Prop} (h : ∀ p q, F p q → F' p q) : ∀ {ps : List Addr} {ks : List (Key × V)}, Paired F ps ks → Paired F' ps ks
  | _, _, .nil => .nil
  | _, _, .cons r t => .cons (h _ _ r) (paired_addr h t)
/-- dict(t), t a tuple of pairs -/
theorem pr_dictF [DecidableEq α] {p : Pos} {w : W (List (α × β))} (hm : X.mg "dict" = none) (ha : PE X e (TEx ρ (rUf (rT (fsC R (fs1 Rv)))) w)) (hc : X.calm = true := by rfl) (hg : Gl X "dict" := by rfl)
    (he : starEach [e] X.env = (false, eval e X.env) :: starEach [] X.env := by rfl) (hpl : (backTo pos (starEach [] X.env)).any (·.1) = false := by rfl) :
    PE X (.Call (.Name "dict" p) [e] [] pos) (TEx ρ (rDK k Rv) fun P => w fun xs => P (mergeA [] xs)) := by
  have hK : X.K = K := HK.eq
  subst hK
  refine pe_imp (pe_callTy (call_dictTF hc) hg hm (by decide +kernel) (pa_cons ha pa_nil he) (by decide) (by decide) he hpl) fun σ H Q ⟨G, P, s, ev, h, c⟩ => ⟨G, _, s, ev, h, fun G1 H1 v xs st e1 px ⟨a, o, vs, h1, h2, h3, h4, h5⟩ => ?_⟩
  obtain ⟨ps, kvs, e2, e3, e4⟩ := pairs_dict (k := k) h4
  subst h1 e2
  refine ⟨a, o, ps, kvs, rfl, st.gh _ _ h2, h3, paired_addr (fun p q z => same_t st.gh z) e3, fun d hd => ?_⟩
  have s2 := Step.new (M := []) (o := .dK (mergeK [] kvs)) st.gh hd
  exact c _ _ _ _ (st.trans s2.of0) (e1.step0 s2) px ⟨d, _, rfl, upd_same, kpr_merge (e4.mono s2.gg) .nil⟩
end
/-! ### records: dicts with written text keys -/
section
variable {K : PySem.W.Frag} {α β γ : Type}
def recKV (ks : List Str) (vs : List V) : List (Key × V) := (ks.zip vs).map fun q => (.inr q.1, q.2)
def rRec (ks : List Str) (F : Fs K α) : Rp K α := ⟨fun G v x => ∃ d vs, v = .ref d ∧ G d = some (.dK (recKV ks vs)) ∧ F.ok G vs x, fun e ⟨d, vs, h1, h2, h3⟩ => ⟨d, vs, h1, e _ _ h2, F.mono e h3⟩⟩
theorem recKV_keys : ∀ (ks : List Str) (vs : List V), vs.length = ks.length → (recKV ks vs).map (·.1) = ks.map Sum.inr
  | [], _, _ => rfl
  | k :: ks, [], h => by simp at h
  | k :: ks, v :: vs, h => by
    show Sum.inr k :: (recKV ks vs).map (·.1) = _
    rw [recKV_keys ks vs (by simpa using h)]
    rfl
theorem recKV_get {ks : List Str} {vs : List V} {j : Nat} {f : Str} {v : V} (h : vs[j]? = some v) (hk : firstAt ks f j = true) : valV (recKV ks vs) (.inr f) = some v := by
  induction ks generalizing vs j with
  | nil => cases j <;> simp [firstAt] at hk
  | cons k ks ih =>
    obtain ⟨h1, h2⟩ := Bool.and_eq_true_iff.mp hk
    cases vs with
    | nil => simp at h
    | cons u us =>
      cases j with
      | zero =>
        have e1 : k = f := by simpa using h1
        have e2 : u = v := by simpa using h
        subst e1 e2
        show valV ((.inr k, u) :: recKV ks us) (.inr k) = _
        exact valV_pos rfl
      | succ j =>
        have hne : ¬ k = f := by
          rw [List.take_succ_cons, List.all_cons] at h2
          have := (Bool.and_eq_true_iff.mp h2).1
          simpa using this
        show valV ((.inr k, u) :: recKV ks us) (.inr f) = _
        rw [valV_neg (fun z => hne (by cases z; rfl))]
        refine ih (by simpa using h) (Bool.and_eq_true_iff.mpr ⟨by simpa using h1, ?_⟩)
        rw [List.take_succ_cons, List.all_cons] at h2
        exact (Bool.and_eq_true_iff.mp h2).2
end
section
variable {X : Cx} {K : PySem.W.Frag} [HK X K] {α β γ : Type} {ρ : List (En K)} {pos : Pos} {e : Expr}
/-- e["f"], a record -/
theorem pr_rget {ks : List Str} {F : Fs K α} {w : W α} {Rb : Rp K β} {g : α → β} {f : Str} {i : Nat} {p2 : Pos} (j : Nat) (hu : X.A.units + 1 < cLine) (h : PE X e (TEx ρ (rRec ks F) w)) (hj : FsAt F j Rb g) (hf : firstAt ks f j = true) (hs : NoSl (.Constant (.str f) i p2) := by exact fun _ _ => rfl) :
    PE X (.Subscript e (.Constant (.str f) i p2) pos) (TEx ρ Rb fun P => w fun x => P (g x)) := by
  refine pe_imp (pe_dget hu h pe_str hs) fun σ H Q ⟨G, P, s, ev, pp, c⟩ => ⟨G, _, s, ev, pp, fun G1 H1 v x st e1 px ⟨d, vs, h1, h2, h3⟩ => ?_⟩
  obtain ⟨u, hu1, ru⟩ := hj.get G1 vs x h3
  exact ⟨d, u, h1, .inl ⟨_, .inr f, .inl (st.gh _ _ h2), rfl, (recKV_get hu1 hf).symm⟩, c G1 H1 u (g x) st e1 px ru⟩
/-- the pairs of a display -/
structure PRx (X : Cx) (pos : Pos) (ρ : List (En K)) (keys : List (Option Expr)) (values : List Expr) (ks : List Str) (F : Fs K α) (w : W α) : Prop where
  ex : ∃ trs, PPs X pos keys values trs ∧ ∀ σ H Q, (∃ (G : Hp) (P : α → Prop), Same G H ∧ EnvOk ρ G H σ ∧ w P ∧ ∀ G' H' vs a, Step (padr ρ) G H G' H' → EnvOk ρ G' H' σ → P a → F.ok G' vs a → vs.length = ks.length → Q ((ks.zip vs).map fun q => (V.str q.1, q.2)) H') → tPairs trs σ H Q
theorem prx_nil : PRx X pos ρ [] [] [] (fsN : Fs K Unit) fun P => P () := ⟨[], pps_nil, fun σ H Q ⟨G, P, s, ev, h, c⟩ => c G H [] () (Step.refl s) ev h rfl rfl⟩
theorem prx_one {f : Str} {i : Nat} {p2 : Pos} {R : Rp K β} {w1 : W β} (h : PE X e (TEx ρ R w1)) :
    PRx X pos ρ [some (.Constant (.str f) i p2)] [e] [f] (fs1 R) w1 := by
  refine ⟨_, pps_cons pe_str h pps_nil, fun σ H Q ⟨G, P, s, ev, h, c⟩ => ?_⟩
  exact ⟨G, _, s, ev, h, fun G1 H1 v x st e1 px rx => c G1 H1 [v] x st e1 px ⟨v, rfl, rx⟩ rfl⟩
theorem prx_cons {f : Str} {i : Nat} {p2 : Pos} {R : Rp K β} {w1 : W β} {keys : List (Option Expr)} {values : List Expr} {ks : List Str} {F : Fs K α} {w2 : W α} (h : PE X e (TEx ρ R w1)) (ht : PRx X pos ρ keys values ks F w2) :
    PRx X pos ρ (some (.Constant (.str f) i p2) :: keys) (e :: values) (f :: ks) (fsC R F) fun P => w1 fun x => w2 fun y => P (x, y) := by
  obtain ⟨trs, h1, h2⟩ := ht.ex
  refine ⟨_, pps_cons pe_str h h1, fun σ H Q ⟨G, P, s, ev, h, c⟩ => ?_⟩
  refine ⟨G, _, s, ev, h, fun G1 H1 v x st e1 px rx => h2 _ _ _ ⟨G1, _, st.gh, e1, px, fun G2 H2 vs a st2 e2 pa ra hl => ?_⟩⟩
  exact c G2 H2 (v :: vs) (x, a) (st.trans st2) e2 pa ⟨v, vs, rfl, R.mono st2.gg rx, ra⟩ (by simp [hl])
theorem putK_new {kvs : List (Key × V)} {k : Key} {v : V} (h : k ∉ kvs.map (·.1)) : putK kvs k v = kvs ++ [(k, v)] := by
  unfold putK
  rw [if_neg]
  intro z
  obtain ⟨q, hq, e⟩ := List.any_eq_true.mp z
  exact h (List.mem_map.mpr ⟨q, hq, of_decide_eq_true e⟩)
theorem mergeK_new : ∀ (more kvs : List (Key × V)), ((kvs ++ more).map (·.1)).Nodup → mergeK kvs more = kvs ++ more
  | [], kvs, _ => by simp [mergeK]
  | p :: more, kvs, h => by
    show mergeK (putK kvs p.1 p.2) more = _
    have h' : p.1 ∉ kvs.map (·.1) := fun z => by
      rw [List.map_append, List.map_cons] at h
      exact (List.nodup_append.mp h).2.2 p.1 z p.1 (by simp) rfl
    rw [putK_new h', mergeK_new more _ (by simpa using h)]
    simp
/-- {"f": e, ..} with keys written -/
theorem pr_rec {keys : List (Option Expr)} {values : List Expr} {ks : List Str} {F : Fs K α} {w : W α} (h : PRx X pos ρ keys values ks F w) (hall : keys.all (·.isSome) = true := by rfl) (hl : keys.length = values.length := by rfl) (h0 : keys ≠ [] := by simp) (h15 : keys.length ≤ 15 := by decide) (hks : ks.length ≤ 15 := by decide) (hnd : ks.Nodup := by decide +kernel) :
    PE X (.Dict keys values pos) (TEx ρ (rRec ks F) w) := by
  obtain ⟨trs, h1, h2⟩ := h.ex
  refine pe_imp (pe_disp h1 hall hl h0 h15) fun σ H Q ⟨G, P, s, ev, pp, c⟩ => fun d hd => h2 _ _ _ ?_
  have s1 : Step [] G H G (upd H d (.dK [])) := Step.lay s hd
  refine ⟨G, P, s1.gh, ev.step0 s1, pp, fun G1 H1 vs a st e1 pa ra hlen => ?_⟩
  have hdp : d ∉ padr ρ := fun z => ev.fresh hd (padr_sub z)
  have hD : H1 d = some (.dK []) := st.keep d _ upd_same hdp
  have gD : G1 d = none := st.old d _ upd_same (s.free hd) hdp
  have key : (ks.zip vs).map (fun q => (V.str q.1, q.2)) = (recKV ks vs).map (fun kv => (kV kv.1, kv.2)) := by unfold recKV; rw [List.map_map]; rfl
  have hmap : (recKV ks vs).map (·.1) = ks.map Sum.inr := recKV_keys ks vs hlen
  have hm : mergeK [] (recKV ks vs) = recKV ks vs := by
    have := mergeK_new (recKV ks vs) [] (by rw [List.nil_append, hmap]; exact List.pairwise_map.mpr (hnd.imp fun h e => h (by cases e; rfl)))
    simpa using this
  refine ⟨hD, recKV ks vs, key, by have : (recKV ks vs).length = ks.length := by unfold recKV; simp [hlen]
                                   omega, ?_⟩
  rw [hm]
  have s2 : Step [d] G1 H1 (upd G1 d (.dK (recKV ks vs))) (upd H1 d (.dK (recKV ks vs))) := by
    refine ⟨fun a u e => by rw [upd_ne (ne_of_none e gD)]; exact e, fun a u e => ?_, fun a u e n => by rw [upd_ne (fun z : a = d => n (by rw [z]; simp))]; exact e, fun a u e n z => by rw [upd_ne (fun y : a = d => z (by rw [y]; simp))]; exact n⟩
    by_cases q : a = d
    · subst q; rw [upd_same] at e ⊢; exact e
    · rw [upd_ne q] at e ⊢; exact st.gh a u e
  have hd0 : d ∉ adrs ρ := ev.fresh hd
  refine c _ _ _ a ((s1.of0.trans st).cut s2 fun b hb => .inr (by rw [mem1 hb]; exact hd)) (e1.step s2 fun b hb z => hd0 (by rw [← mem1 z]; exact hb)) pa ⟨d, vs, rfl, upd_same, F.mono s2.gg ra⟩
end
/-! ### a module's tuple of whole numbers -/
section
variable {X : Cx} {K : PySem.W.Frag} [HK X K] {ρ : List (En K)} {pos : Pos}
theorem pr_gtup {x : Str} {is : List Int} (hg : Gl X x) (hm : X.mg x = some (.ref (He.ga K x))) (ht : ∀ H, SqT K H (He.ga K x) (is.map V.int)) (hz : is.length ≤ 1000 := by decide) (hd : (x == ("__debug__" : Str)) = false := by decide) : PE X (.Name x pos) (TEx ρ (rU rI) fun P => P is) :=
  pr_const (v := .ref (He.ga K x)) (pe_glob hg hm rfl hd) fun G => ⟨_, _, rfl, ht G, ints_pairG G is, by rw [List.length_map]; have := szl; omega⟩
end
/-! ### keys told as objects -/
section
variable {K : PySem.W.Frag} {α β : Type}
def kUf {R : Rp K α} (k : KeyR R) : KeyR (rUf R) := ⟨(kU k).enc, (kU k).inj, (kU k).dep, (kU k).dle, fun {X pins σ H s v u x} hK I h r => (kU k).is hK I (rUf_ok h) r⟩
def kTf {F : Fs K α} (f : KeyF F) : KeyR (rTf F) := ⟨(kT f).enc, (kT f).inj, (kT f).dep, (kT f).dle, fun {X pins σ H s v u x} hK I h r => (kT f).is hK I (rTf_ok h) r⟩
theorem href_Uf {R : Rp K α} : ∀ (G : Hp) (v : V) (x : List α), (rUf R).ok G v x → ∃ a, v = .ref a := fun G v x ⟨a, _, _, h, _⟩ => ⟨a, h⟩
theorem href_U {R : Rp K α} : ∀ (G : Hp) (v : V) (x : List α), (rU R).ok G v x → ∃ a, v = .ref a := fun G v x ⟨a, _, h, _⟩ => ⟨a, h⟩
theorem href_T {F : Fs K α} : ∀ (G : Hp) (v : V) (x : α), (rT F).ok G v x → ∃ a, v = .ref a := fun G v x ⟨a, _, h, _⟩ => ⟨a, h⟩
end
end SS

set_option Elab.async false
set_option linter.all false
set_option maxRecDepth 100000
/-! SSX: own rules: the head's facts with tuples; setdefault in a test; items of dicts; room. Own work. -/
namespace SS
open PySem PySem.Spec L2
/-! ### the head -/
theorem adrs_set_eq {K : PySem.W.Frag} : ∀ {ρ : List (En K)} {i : Nat} {e e' : En K}, ρ[i]? = some e → e'.adr = e.adr → adrs (ρ.set i e') = adrs ρ
  | [], _, _, _, h, _ => by simp at h
  | x :: t, 0, _, _, h, q => by simp at h; subst h; show _ ++ _ = _ ++ _; rw [q]
  | x :: t, i + 1, _, _, h, q => by show _ ++ _ = _ ++ _; rw [adrs_set_eq (i := i) (by simpa using h) q]
theorem pls_set_eq {K : PySem.W.Frag} : ∀ {ρ : List (En K)} {i : Nat} {e e' : En K}, ρ[i]? = some e → e'.pl = e.pl → pls (ρ.set i e') = pls ρ
  | [], _, _, _, h, _ => by simp at h
  | x :: t, 0, _, _, h, q => by simp at h; subst h; show _ ++ _ = _ ++ _; rw [q]
  | x :: t, i + 1, _, _, h, q => by show _ ++ _ = _ ++ _; rw [pls_set_eq (i := i) (by simpa using h) q]
theorem list_set_same {α : Type _} : ∀ {l : List α} {i : Nat} {e : α}, l[i]? = some e → l.set i e = l
  | [], _, _, h => by simp at h
  | x :: t, 0, _, h => by simp at h; subst h; rfl
  | x :: t, i + 1, _, h => by show x :: _ = _; rw [list_set_same (by simpa using h)]
theorem _root_.L2.Room.u65 {k : Nat} {A : Around} (r : Room k A) : A.units + 65 < cLine := by have := r.un; omega
section
variable {X : Cx} {K : PySem.W.Frag} [HK X K] {τ τ1 ℓ α β γ δ : Type} {ρ : List (En K)} {post : τ → List (En K)} {lp : ℓ → List (En K)} {Rr : Rp K γ} {rest : List Stmt} {pos : Pos} {R : Rp K α} {k : KeyK R} {Rv : Rp K β}
/-- if d.setdefault(key, e) != f and t: .. -/
def setA [DecidableEq α] (m : List (α × β)) (x : α) (y : β) : List (α × β) := if (lookA m x).isSome = true then m else m ++ [(x, y)]
theorem b_ifSetd [DecidableEq α] [DecidableEq β] (eq : Eqp Rv) {i : Nat} {nm : Str} {pn p2 p3 : Pos} {d : Addr} {mm : List (α × β)} {ek ev e2 t : Expr} {apos cpos : Pos} {body : List Stmt} {wk : W α} {wv : W β} {w2 : α → β → W β} {wt : α → β → W Bool} {m1 : α → β → W (Out τ1 ℓ γ)} {m : τ1 → W (Out τ ℓ γ)}
    (post1 : τ1 → List (En K)) (t0 : α → β → τ1)
    (hu : X.A.units + 64 < cLine) (hv : PE X (.Name nm pn) (tVar i)) (ho : ρ[i]? = some (.rg d [] (dictKRg k Rv d mm))) (hk : PE X ek (TEx ρ R wk)) (hev : PE X ev (TEx ρ Rv wv))
    (h2 : ∀ x y, PE X e2 (TEx (ρ.set i (.rg d [] (dictKRg k Rv d (setA mm x y)))) Rv (w2 x y))) (ht : ∀ x y, PT X t (TTx (ρ.set i (.rg d [] (dictKRg k Rv d (setA mm x y)))) (wt x y)))
    (hb : ∀ x y, PSs X body (TBO (ρ.set i (.rg d [] (dictKRg k Rv d (setA mm x y)))) post1 lp Rr (m1 x y))) (h0 : ∀ x y, Ent (ρ.set i (.rg d [] (dictKRg k Rv d (setA mm x y)))) (post1 (t0 x y)))
    (hr : ∀ s, PSs X rest (TBO (post1 s) post lp Rr (m s))) (had : ∀ s, ∀ a ∈ adrs (post1 s), a ∈ adrs ρ := by intro _ _ h; exact h) (hpl : ∀ s, pls (post1 s) = pls ρ := by intro _; rfl)
    (M : M2 X (.Name nm pn) "setdefault" apos ek ev cpos := by exact ⟨by rfl, by rfl, by rfl, by rfl⟩) (hm : behindInMarks .NotEq e2 = false := by exact nomark _) (hd : eq.dep ≤ 64 := by exact Nat.le_of_ble_eq_true rfl) :
    PSs X (.If (.BoolOp .And [.Compare (.Call (.Attribute (.Name nm pn) "setdefault" apos) [ek, ev] [] cpos) [.NotEq] [e2] p2, t] p3) body [] pos :: rest) (TBO ρ post lp Rr fun P => wk fun x => wv fun y => mm.length < sizeLine ∧ w2 x y fun z =>
      if (!decide ((lookA mm x).getD y = z)) = true then wt x y fun b => if b = true then m1 x y (onx m P) else m (t0 x y) P else m (t0 x y) P) := by
  have hK : X.K = K := HK.eq
  subst hK
  refine pss_imp (pss_cons (ps_if (PW.pt (pw_and (pt_cmpR (op_neP hu) (pe_dsetd hv hk hev M) (pe_fam fun q : α × β => h2 q.1 q.2) hm) (pw_and1 (pt_fam fun q : α × β => ht q.1 q.2)))) (pss_fam fun q : α × β => hb q.1 q.2) pss_nil) (pss_fam hr)) fun D σ H ⟨G, P, s, evn, pp, c⟩ => ?_
  obtain ⟨hσ, _, ⟨kvs0, g0, _⟩, hm0⟩ := rgk_get ho evn
  refine ⟨.ref d, hσ, d, rfl, .inl ⟨kvs0, .inl g0⟩, G, _, s, evn, pp, fun G1 H1 v x st e1 p1 rx => ⟨G1, _, st.gh, e1, p1, fun G2 H2 u y st2 e2' ⟨hlen, p2⟩ ry => ?_⟩⟩
  obtain ⟨_, n2, ⟨kvs, g1, g2⟩, _⟩ := rgk_get ho e2'
  have st12 := st.trans st2
  have c2 : Cts D post lp Rr P ρ G2 H2 := c.step (st12.wide fun a ha => padr_sub ha) (fun a ha => .inl ha) fun q hq => hq
  -- what follows, the value w, the dict m'
  have go : ∀ (H3 : Hp) (w : V), Step (adrs ρ) G2 H2 G2 H3 → EnvOk (ρ.set i (.rg d [] (dictKRg k Rv d (setA mm x y)))) G2 H3 σ → Rv.ok G2 w ((lookA mm x).getD y) →
      (tef fun q : α × β => TEx (ρ.set i (.rg d [] (dictKRg k Rv d (setA mm q.1 q.2)))) Rv (w2 q.1 q.2)) σ H3 fun u H4 => rNeP X.K w u H4 fun v H5 => ∃ b, v = .bl b ∧
        (if b = true then (ttf fun q : α × β => TTx (ρ.set i (.rg d [] (dictKRg k Rv d (setA mm q.1 q.2)))) (wt q.1 q.2)) σ H5 fun b H6 => if b = true then (tsf fun q : α × β => TBO (ρ.set i (.rg d [] (dictKRg k Rv d (setA mm q.1 q.2)))) post1 lp Rr (m1 q.1 q.2)) { D with nx := tsf (fun s => TBO (post1 s) post lp Rr (m s)) D } σ H6 else (tsf (fun s => TBO (post1 s) post lp Rr (m s)) D) σ H6
          else (tsf (fun s => TBO (post1 s) post lp Rr (m s)) D) σ H5) := fun H3 w s3 e3 rw_ => by
    have c3 : Cts D post lp Rr P (ρ.set i (.rg d [] (dictKRg k Rv d (setA mm x y)))) G2 H3 := c2.step s3 (fun b hb => (adrs_set hb).elim .inl fun z => .inl (adrs_mem ho z)) fun q hq => pls_set (rg_pl ho) hq
    have sub : ∀ s, ∀ a ∈ adrs (post1 s), a ∈ adrs (ρ.set i (.rg d [] (dictKRg k Rv d (setA mm x y)))) := fun s a ha => by
      have h1 := had s a ha
      have : adrs (ρ.set i (.rg d [] (dictKRg k Rv d (setA mm x y)))) = adrs ρ := adrs_set_eq ho rfl
      rw [this]; exact h1
    have plx : pls (ρ.set i (.rg d [] (dictKRg k Rv d (setA mm x y)))) = pls ρ := pls_set_eq ho rfl
    refine ⟨(x, y), G2, _, s3.gh, e3, p2, fun G4 H4 u z st4 e4 p4 rz => ?_⟩
    refine (r2_ne eq hd) G4 H4 w u _ z (fun b => if b = true then wt x y fun b => if b = true then m1 x y (onx m P) else m (t0 x y) P else m (t0 x y) P) _ st4.gh (Rv.mono st4.gg rw_) rz p4 fun G5 H5 v b st5 pb rb => ⟨b, rb, ?_⟩
    have st45 := st4.trans st5.of0
    have e5 := e4.step0 st5
    have c5 := c3.step (st45.wide fun a ha => padr_sub ha) (fun a ha => .inl ha) fun q hq => hq
    have fall : ∀ {G6 H6 : Hp}, Step (padr (ρ.set i (.rg d [] (dictKRg k Rv d (setA mm x y))))) G5 H5 G6 H6 → EnvOk (ρ.set i (.rg d [] (dictKRg k Rv d (setA mm x y)))) G6 H6 σ → m (t0 x y) P → (tsf (fun s => TBO (post1 s) post lp Rr (m s)) D) σ H6 := fun {G6 H6} s6 e6 p6 =>
      ⟨t0 x y, G6, P, s6.gh, e6.ent (h0 x y), p6, c5.step (s6.wide fun a ha => padr_sub ha) (fun a ha => .inl (sub _ a ha)) fun q hq => by rw [hpl, ← plx]; exact hq⟩
    cases b with
    | false => exact fall (Step.refl st5.gh) e5 pb
    | true =>
      refine ⟨(x, y), G5, _, st5.gh, e5, pb, fun G6 H6 b6 st6 e6 p6 => ?_⟩
      cases b6 with
      | false => exact fall st6 e6 p6
      | true =>
        have c6 := c5.step (st6.wide fun a ha => padr_sub ha) (fun a ha => .inl ha) fun q hq => hq
        exact ⟨(x, y), G6, _, st6.gh, e6, p6, ⟨fun t G7 H7 σ' s7 e7 p7 => ⟨t, G7, P, s7.gh, e7, p7, c6.step s7 (fun a ha => .inl (sub t a ha)) fun q hq => by rw [hpl, ← plx]; exact hq⟩, c6.ct, c6.bk, c6.rt⟩⟩
  refine ⟨kvs, k.enc x, g1, k.val _ _ _ rx, by rw [paired_len g2]; exact hlen, fun w hw => ?_, fun hn => ?_⟩
  · rcases kpr_find (x := x) g2 with ⟨z1, _⟩ | ⟨w', y', z1, z2, z3⟩
    · rw [z1] at hw; cases hw
    · rw [z1] at hw
      cases hw
      have e : setA mm x y = mm := by unfold setA; rw [z2]; rfl
      refine go H2 w (Step.refl st2.gh) ?_ (by rw [z2]; exact z3)
      rw [e, list_set_same ho]
      exact e2'
  · rcases kpr_find (x := x) g2 with ⟨_, z2⟩ | ⟨w', y', z1, z2, z3⟩
    · have e : setA mm x y = putA mm x y := by unfold setA putA; rw [z2]; rfl
      obtain ⟨s3, e3⟩ := rg_put (o := .dK (putK kvs (k.enc x) u)) (r' := dictKRg k Rv d (putA mm x y)) ho e2' st2.gh ⟨_, upd_same, kpr_put ry g2⟩
      exact go _ u s3 (by rw [e]; exact e3) (by rw [z2]; exact ry)
    · rw [z1] at hn; cases hn
end
end SS

set_option Elab.async false
set_option linter.all false
set_option maxRecDepth 100000
/-! SSY: own rules: index, sorted pairs, dicts with nested keys (not in, len), slices, fields. Own work. -/
namespace SS
open PySem PySem.Spec L2
theorem flat_O {K : PySem.W.Frag} {α : Type} {R : Rp K α} (h : Flat R) : Flat (rO R) := fun G G' v o r => by
  cases o with
  | none => exact r
  | some x => exact h G G' v x r
theorem nn_C {K : PySem.W.Frag} {α : Type} {C : Addr} {F : α → List (Str × Mp)} : Nn (rIns (K := K) C F) := fun G v x ⟨a, _, _, h, _⟩ z => by rw [h] at z; cases z
section
variable {X : Cx} {K : PySem.W.Frag} [HK X K] {α β γ : Type} {ρ : List (En K)} {pos : Pos} {e e2 : Expr} {R : Rp K α}
/-- xs.index(x) -/
theorem pr_index [DecidableEq α] (eq : Eqp R) [EqCl eq] {ap : Pos} {w1 : W (List α)} {w2 : W α} (hu : X.A.units + 65 < cLine) (hl : PE X e (TEx ρ (rL R) w1)) (h2 : PE X e2 (TEx ρ R w2)) (hd : eq.dep + 1 ≤ 64 := by exact Nat.le_of_ble_eq_true rfl)
    (hbase : attributeBase e "index" X.env (eval e X.env) = eval e X.env := by rfl)
    (hfew : ((backTo pos (starEach [e2] X.env)).all (fun x => !x.1) && (backToKw pos (keywordEach [] X.env)).all (fun x => x.1.isSome)
      && decide ([e2].length + ([] : List Keyword).length + (if ([] : List Keyword).isEmpty then 0 else 1) < 30)) = true := by rfl)
    (hline : (ap.endLine == pos.line) = true := by rfl) (hs : starEach [e2] X.env = (false, eval e2 X.env) :: starEach [] X.env := by rfl) (hplain : (backTo pos (starEach [] X.env)).any (·.1) = false := by rfl) :
    PE X (.Call (.Attribute e "index" ap) [e2] [] pos) (TEx ρ rI fun P => w1 fun xs => w2 fun x => ∃ j : Nat, xs[j]? = some x ∧ (∀ m : Nat, m < j → xs[m]? ≠ some x) ∧ P (j : Int)) := by
  have hK : X.K = K := HK.eq
  subst hK
  refine pe_imp (pe_bm PySem.F.plainAttrs_list PySem.F.slot_list_index PySem.F.type_list_index (mt_indexD hu) hl (pa_cons h2 pa_nil hs) hbase hfew hline hs hplain) fun σ H Q ⟨G, P, s, ev, pp, c⟩ => ⟨G, _, s, ev, pp, fun G1 H1 v xs st e1 px rx => ?_⟩
  obtain ⟨a, vs, h1, h2', h3, h4⟩ := rx
  subst h1
  refine ⟨.inl ⟨rfl, vs, Same.seq st.gh h2'⟩, G1, _, st.gh, e1, px, fun G2 H2 u x st2 e2' ⟨j, hj, hno, pj⟩ ru => ?_⟩
  have dl : Dp X.K H2 (V.ref a) (.list (xs.map eq.enc)) := Dp.same (st2.gg.trans st2.gh) _ ((eqL eq).dp G1 (.ref a) xs ⟨a, vs, rfl, h2', h3, h4⟩)
  refine ⟨a, u, eq.enc x, xs.map eq.enc, j, eq.enc x, rfl, rfl, dl, Dp.same st2.gh _ (eq.dp _ _ _ ru), shaped_of (eqL eq) hd xs, shaped_of eq (by omega) x, by rw [List.getElem?_map, hj]; rfl, (eq.eqv x x).mpr rfl, fun m z hm hz => ?_, c G2 H2 _ _ (st.trans st2) e2' pj rfl⟩
  rw [List.getElem?_map] at hz
  cases q : xs[m]? with
  | none => rw [q] at hz; cases hz
  | some y =>
    rw [q] at hz
    have ez : eq.enc y = z := by simpa using hz
    rw [← ez]
    cases hb : PyData.eqv (eq.enc y) (eq.enc x) with
    | false => rfl
    | true => rw [(eq.eqv y x).mp hb] at q; exact absurd q (hno m hm)
end
theorem paired_perm {α β : Type} {us vs : List α} (h : us.Perm vs) : ∀ {xs : List β}, vs.length = xs.length → ∃ ys : List β, ys.Perm xs ∧ ∀ F : α → β → Prop, Paired F vs xs → Paired F us ys := by
  induction h with
  | nil => intro xs p; exact ⟨xs, .refl _, fun F h => h⟩
  | cons a _ ih =>
    intro xs p
    cases xs with
    | nil => simp at p
    | cons x xs =>
      obtain ⟨ys, q1, q2⟩ := ih (xs := xs) (by simpa using p)
      exact ⟨x :: ys, q1.cons _, fun F h => by cases h with | cons r t => exact .cons r (q2 F t)⟩
  | swap a b l =>
    intro xs p
    match xs, p with
    | x :: y :: xs, _ => exact ⟨y :: x :: xs, .swap _ _ _, fun F h => by cases h with | cons r t => cases t with | cons r2 t => exact .cons r2 (.cons r t)⟩
  | trans h1 h2 ih1 ih2 =>
    intro xs p
    obtain ⟨ys, q1, q2⟩ := ih2 p
    obtain ⟨zs, q3, q4⟩ := ih1 (by rw [h2.length_eq, p, q1.length_eq])
    exact ⟨zs, q3.trans q1, fun F h => q4 F (q2 F h)⟩
/-- by the first, then by the second -/
def leP (x y : Int × Int) : Prop := x.1 < y.1 ∨ x.1 = y.1 ∧ x.2 ≤ y.2
section
variable {X : Cx} {K : PySem.W.Frag} {α β γ : Type}
def PairAt (K : PySem.W.Frag) (H : Hp) (x : V) (p : Int × Int) : Prop := ∃ t, x = V.ref t ∧ SqT K H t [.int p.1, .int p.2]
/-- sorted(xs), pairs of whole numbers -/
def rSortPT (K : PySem.W.Frag) : List V → Hp → VK → Prop := fun vs H Q => ∃ (a : Addr) (us : List V) (xs : List (Int × Int)), vs = [V.ref a] ∧ SqL K H a us ∧ Paired (PairAt K H) us xs ∧
  ∀ (ws : List V) (ys : List (Int × Int)) p, ws.Perm us → ys.Perm xs → (∀ F : V → Int × Int → Prop, Paired F us xs → Paired F ws ys) → ys.Pairwise leP → H p = none → Q (.ref p) (upd H p (.lst ws))
open Classical in
noncomputable def pairOf (K : PySem.W.Frag) (H : Hp) (v : V) : Int × Int := if h : ∃ p : Int × Int, PairAt K H v p then Classical.choose h else (0, 0)
theorem cr_sortedPT : CallR X (.builtin "sorted") (rSortPT X.K) := by
  intro pins s σ H vs us0 Q I r h
  obtain ⟨a, us, xs, rfl, hs, hx, q⟩ := h
  have key : ∀ {u : V} {x : Int × Int}, PairAt X.K H u x → pairOf X.K H u = x := fun {u x} ⟨t, g1, g2⟩ => by
    have hh : ∃ p : Int × Int, PairAt X.K H u p := ⟨x, t, g1, g2⟩
    have e3 : pairOf X.K H u = Classical.choose hh := by unfold pairOf; rw [dif_pos hh]
    obtain ⟨t', q1, q2⟩ := Classical.choose_spec hh
    have e4 := I.tuple_inj g2 (by rw [g1] at q1; cases q1; exact q2)
    rw [e3]
    injection e4 with z1 z2
    injection z2 with z2 _
    injection z1 with z1
    injection z2 with z2
    exact Prod.ext z1.symm z2.symm
  have back : ∀ {u : V}, u ∈ us → PairAt X.K H u (pairOf X.K H u) := fun {u} hu => by
    obtain ⟨j, hj, e⟩ := List.mem_iff_getElem.mp hu
    obtain ⟨y, _, ry⟩ := paired_get' hx (by rw [List.getElem?_eq_getElem hj, e])
    rw [key ry]; exact ry
  obtain ⟨its, rv, hl, hz⟩ := I.list hs
  obtain ⟨u, rfl, ru⟩ := vals1 r
  obtain rfl : u = Value.ref a := ru
  obtain ⟨e1, e2⟩ := refs_back rv fun x m => by
    obtain ⟨t, e, _⟩ := back m
    exact ⟨t, e⟩
  refine SrtO.sorted_pairsO (k := fun u => pairOf X.K H (backV u)) hl.isList (by rw [← rv.length]; exact hz) (fun v hv => ?_) fun h' d out h1 h2 kp hd hn => ?_
  · obtain ⟨t, rfl⟩ := e2 v hv
    have hm : V.ref t ∈ us := by rw [e1]; exact List.mem_map.mpr ⟨_, hv, rfl⟩
    obtain ⟨t', e, ht⟩ := back hm
    cases e
    obtain ⟨its2, r2, ⟨o, ho, hc, n, hd⟩, _⟩ := I.tuple ht
    obtain ⟨u1, u2, rfl, ri, rj⟩ := vals2 r2
    obtain ⟨t1, rfl⟩ := ri
    obtain ⟨t2, rfl⟩ := rj
    exact ⟨t, o, t1, t2, n, rfl, ho, hc, hd⟩
  · have h3 : ∀ u ∈ out, ∃ a, u = Value.ref a := fun u hu => e2 u (h2.perm.mem_iff.mp hu)
    obtain ⟨n, hn⟩ := hn
    have hb : SrtO.Stb (ltP (pairOf X.K H)) (out.map backV) us := by
      rw [e1]
      exact SrtO.Stb.map (ltP_swo _) backV h2
    have srt : SrtO.Srtd (ltP (pairOf X.K H)) (out.map backV) := SrtO.srtd_map h1
    obtain ⟨zs, q2, q0⟩ := paired_perm hb.perm (paired_len hx)
    have q1 := q0 _ hx
    have pw : ∀ {ys : List V} {zs : List (Int × Int)}, Paired (PairAt X.K H) ys zs → SrtO.Srtd (ltP (pairOf X.K H)) ys → zs.Pairwise leP := fun {ys zs} pr => by
      induction pr with
      | nil => intro _; exact .nil
      | @cons y z ys zs r t ih =>
        intro sr
        obtain ⟨s1, s2⟩ := List.pairwise_cons.mp sr
        refine List.pairwise_cons.mpr ⟨fun b hb => ?_, ih s2⟩
        obtain ⟨j, hj, e⟩ := List.mem_iff_getElem.mp hb
        obtain ⟨u, hu, ru⟩ := paired_get t (by rw [List.getElem?_eq_getElem hj, e])
        have h1 := s1 u (List.mem_of_getElem? hu)
        have h2 := SrtO.lexB_no.mp h1
        rw [key r, key ru] at h2
        unfold leP
        omega
    refine ⟨.ref d, upd H d (.lst (out.map backV)), I.laid (t' := s.toks) kp hd ⟨?_, out, n, L2.vals_back h3, hn⟩, rfl, q _ zs d hb.perm q2 q0 (pw q1 srt) (I.hok.fresh hd)⟩
    rw [hb.len]
    exact hz
theorem rcl_sortP : RCL (rSortPT K) (fs1 (rL (rT (fsC (rI : Rp K Int) (fs1 rI))))) (rT (fsC rI (fs1 rI))) (fun xs P => ∀ ys : List (Int × Int), ys.Perm xs → ys.Pairwise leP → P ys) := fun G H vs xs P Q s ⟨v, h, a, us, h1, h2, h3, h4⟩ p k => by
  subst h; subst h1
  have to : ∀ {u : V} {x : Int × Int}, (rT (fsC (rI : Rp K Int) (fs1 rI))).ok G u x → PairAt K H u x := fun {u x} ⟨t, ws, g1, g2, v1, r, g3, g4, w, g5, g6⟩ => by
    have e1 : v1 = V.int x.1 := g4
    have e2 : w = V.int x.2 := g6
    subst g5 g3 e1 e2
    exact ⟨t, g1, same_t s g2⟩
  refine ⟨a, us, xs, rfl, Same.seq s h2, paired_mono2 (fun _ _ z => to z) h3, fun ws ys q pm1 pm2 pr pw hq => ?_⟩
  exact k _ q ws ys (Step.lay s hq) (p ys pm2 pw) hq upd_same (pr _ h3) (by rw [pm1.length_eq]; exact h4)
end
/-! ### dicts with nested keys, one's own: not in, len -/
section
variable {X : Cx} {K : PySem.W.Frag} [HK X K] {α β γ : Type} {ρ : List (En K)} {pos : Pos} {R : Rp K α} {k : KeyR R} {Rv : Rp K β}
theorem op_ninN (hu : X.A.units + 64 < cLine) : OpR X (compareOp .NotIn) (fun x y H Q => ∃ (a d : Addr) (k : NestedKey) (ks : NK), x = .ref a ∧ y = .ref d ∧ H d = some (DNo X.prog X.w d ks) ∧ KeyAt X.K H k (.ref a) ∧ (∀ p ∈ ks, KeyAt X.K H p.1 (.ref p.2.1)) ∧ Q (.bl (!(ks.find? fun p => decide (p.1 = k)).isSome)) H) := by
  intro pins s σ H x y v u Q I rx ry ⟨a, d, k, ks, e1, e2, hd, ha, hks, q⟩
  subst e1 e2
  cases rx
  cases ry
  obtain ⟨n1, n2, xs, n3, hm⟩ := dno_get I hd hks
  refine PyProof.Rows.wpAny_notIn_heap (knd := nestedKind X.prog X.w) (show X.A.units + 1 + 8 < cLine by omega) ⟨ha.2 rfl I rfl, ha.1⟩ n1 hm ⟨.bl _, H, I.tok _, ?_, q⟩
  rcases nrow_find (k := k) n3 with ⟨h1, h2⟩ | ⟨p', q', h1, h2, _⟩
  · rw [h1, h2]; rfl
  · rw [h1, h2]; rfl
theorem pr_ninOwnN [DecidableEq α] {i : Nat} {nm : Str} {pn : Pos} {d : Addr} {m : List (α × β)} {e : Expr} {wk : W α} (hu : X.A.units + 64 < cLine) (hk : k.dep ≤ 8) (href : ∀ G v x, R.ok G v x → ∃ a, v = .ref a) (hv : PE X (.Name nm pn) (tVar i)) (ho : ρ[i]? = some (.rg d [] (dictRg X.prog X.w k Rv d m))) (he : PE X e (TEx ρ R wk)) (hm : behindInMarks .NotIn (.Name nm pn) = false := by rfl) :
    PE X (.Compare e [.NotIn] [.Name nm pn] pos) (TEx ρ rB fun P => wk fun x => P (!(lookA m x).isSome)) := by
  have hK : X.K = K := HK.eq
  subst hK
  refine pe_imp (pe_cmpR (op_ninN hu) he hv hm) fun σ H Q ⟨G, P, s, ev, pp, c⟩ => ⟨G, _, s, ev, pp, fun G1 H1 v x st e1 px rx => ?_⟩
  obtain ⟨hσ, n1, ⟨ks, h1, h2⟩, _⟩ := rg_get ho e1
  obtain ⟨a, ea⟩ := href _ _ _ rx
  subst ea
  refine ⟨.ref d, hσ, a, d, k.enc x, ks, rfl, rfl, h1, keyAt_of k hk st.gh rx, npair_keys hk st.gh h2, ?_⟩
  refine c G1 H1 _ (!(lookA m x).isSome) st e1 px ?_
  rcases npair_find (x := x) h2 with ⟨z1, z2⟩ | ⟨p, y, z1, z2, _⟩
  · rw [z1, z2]; rfl
  · rw [z1, z2]; rfl
theorem op_lenN : CallR X (.builtin "len") (fun xs H Q => ∃ (d : Addr) (ks : NK), xs = [.ref d] ∧ H d = some (DNo X.prog X.w d ks) ∧ Q (.int ks.length) H) := by
  intro pins s σ H xs us Q I r ⟨d, ks, e, hd, q⟩
  subst e
  obtain ⟨u, rfl, ru⟩ := vals1 r
  cases ru
  obtain ⟨⟨n1, n2, xs, n3, o, es, ep, n4, n5, n6, n7, n8⟩, _⟩ := (show ObjOk X.prog X.w H s.heap d (DNo X.prog X.w d ks) from I.hok d _ hd)
  have hl : es.size = ks.length := by rw [← Array.length_toList, n7, List.length_map, paired_len n3]
  have hraw : s.heap.DictRaw d es ep := ⟨o, n4, n5, n6⟩
  refine PyProof.Rows.call_len_slot (n := es.size) hraw.typeIs F.slot_dict_len (fun Q' hq => call_len_raw n1 hraw hq) (by omega) (by rw [sizeLine_eq] at n2; omega) ?_
  exact ⟨.int ks.length, H, I.tok _, ⟨_, by rw [hl]⟩, q⟩
/-- len(d), d of one's own -/
theorem pr_lenOwnN {i : Nat} {nm : Str} {pn p : Pos} {d : Addr} {mm : List (α × β)} (hv : PE X (.Name nm pn) (tVar i)) (ho : ρ[i]? = some (.rg d [] (dictRg X.prog X.w k Rv d mm))) (hm : X.mg "len" = none)
    (hvv : bootBuiltins "len" = some (.builtin "len")) (hg : Gl X "len" := by rfl)
    (he : starEach [.Name nm pn] X.env = (false, eval (.Name nm pn) X.env) :: starEach [] X.env := by rfl) (hpl : (backTo pos (starEach [] X.env)).any (·.1) = false := by rfl) : PE X (.Call (.Name "len" p) [.Name nm pn] [] pos) (TEx ρ (rI : Rp K Int) fun P => P (mm.length : Int)) := by
  have hK : X.K = K := HK.eq
  subst hK
  refine pe_imp (pe_callB op_lenN hg hm hvv (pa_cons hv pa_nil he) (by decide) (by decide) he hpl) fun σ H Q ⟨G, P, s, ev, pp, c⟩ => ?_
  obtain ⟨hσ, _, ⟨ks, h1, h2⟩, _⟩ := rg_get ho ev
  exact ⟨.ref d, hσ, d, ks, rfl, h1, c G H _ _ (Step.refl s) ev pp (by rw [paired_len h2]; rfl)⟩
theorem nrow_refs : ∀ {ks : NK} {xs : List (NestedKey × Addr × Value)}, NRow ks xs → (xs.map fun x => Value.ref x.2.1) = (ks.map fun q => q.2.1).map Value.ref
  | _, _, .nil => rfl
  | _, _, .cons r t => by rw [List.map_cons, List.map_cons, List.map_cons, nrow_refs t, r.2.1]
theorem npair_refs {G : Hp} : ∀ {ks : NK} {m : List (α × β)}, NPair k Rv G ks m → Paired (R.ok G) (ks.map fun q => V.ref q.2.1) (m.map (·.1))
  | _, _, .nil => .nil
  | _, _, .cons r t => .cons r.2.1 (npair_refs t)
/-- list(d), d frozen: its keys -/
theorem call_listN (hc : X.calm = true) : CallR X (.type "list") (fun xs H Q => ∃ (d : Addr) (ks : NK), xs = [.ref d] ∧ H d = some (DNo X.prog X.w d ks) ∧ ∀ p, H p = none → Q (.ref p) (upd H p (.lst (ks.map fun q => V.ref q.2.1)))) := by
  intro pins s σ H xs us Q I r ⟨d, ks, e, hd, q⟩
  subst e
  obtain ⟨u, rfl, rx⟩ := vals1 r
  cases rx
  obtain ⟨⟨n1, n2, xs, n3, o, es, ep, n4, n5, n6, n7, n8⟩, _⟩ := (show ObjOk X.prog X.w H s.heap d (DNo X.prog X.w d ks) from I.hok d _ hd)
  have l1 : es.size = xs.length := by rw [← Array.length_toList, n7, List.length_map]
  have l2 : ks.length = xs.length := paired_len n3
  refine PySem.W.kdl_call (kdl_raw n1 n5 n6) (I.ok.hd hc) n4 (by omega) fun h' tk acc' c' kp e it => ?_
  have ea : acc'.toList = xs.map fun x => Value.ref x.2.1 := by
    have hl : acc'.toList.length = xs.length := by rw [Array.length_toList, it.1]; exact l1
    apply List.ext_getElem?
    intro j
    rw [List.getElem?_map]
    cases hj : acc'.toList[j]? with
    | none =>
      have h1 := List.getElem?_eq_none_iff.mp hj
      rw [List.getElem?_eq_none (by omega)]
      rfl
    | some v =>
      obtain ⟨en, hen, hv⟩ := it.2 j v (by rw [← Array.getElem?_toList]; exact hj)
      have qe := entry_at (knd := nestedKind X.prog X.w) n7 j
      rw [hen] at qe
      cases hb : xs[j]? with
      | none =>
        rw [hb] at qe
        exact nomatch (show some en = none from qe)
      | some b =>
        rw [hb] at qe
        have e2 : en = entryOfKey (nestedKind X.prog X.w) b := Option.some.inj qe
        rw [hv, e2]
        rfl
  have eb : acc'.toList = (ks.map fun q => q.2.1).map Value.ref := by rw [ea, nrow_refs n3]
  have rv : Vals ((ks.map fun q => q.2.1).map V.ref) acc'.toList := by rw [eb]; exact vals_refs _
  have hz : ((ks.map fun q => q.2.1).map V.ref).length ≤ sizeLine := by rw [List.length_map, List.length_map]; exact n2
  have em : (ks.map fun q => V.ref q.2.1) = (ks.map fun q => q.2.1).map V.ref := by rw [List.map_map]; rfl
  refine ⟨.ref s.heap.objs.size, _, I.laid (t' := tk) (o := .lst ((ks.map fun q => q.2.1).map V.ref)) kp (Nat.le_refl _) ?_, rfl, by rw [← em]; exact q _ (I.hok.fresh (Nat.le_refl _))⟩
  exact ⟨hz, acc'.toList, c', rv, by rw [Array.toArray_toList]; exact e⟩
theorem rcl_listN {P : Program} {w : World} : RCL (fun xs H Q => ∃ (d : Addr) (ks : NK), xs = [.ref d] ∧ H d = some (DNo P w d ks) ∧ ∀ p, H p = none → Q (.ref p) (upd H p (.lst (ks.map fun q => V.ref q.2.1)))) (fs1 (rDN P w k Rv)) R (fun m P => m.length ≤ sizeLine ∧ P (m.map (·.1))) := fun G H vs m P Q s ⟨v, h, d, ks, h1, h2, h3⟩ ⟨hz, p⟩ c => by
  subst h; subst h1
  refine ⟨d, ks, rfl, s _ _ h2, fun q hq => ?_⟩
  have pr := npair_refs h3
  exact c _ q _ _ (Step.lay s hq) p hq upd_same pr (by rw [List.length_map, paired_len h3]; exact hz)
end
end SS

set_option Elab.async false
set_option linter.all false
set_option maxRecDepth 100000
/-! SSZ: own rules: tests on dicts of one's own; further small ones. Own work. -/
namespace SS
open PySem PySem.Spec L2
section
variable {X : Cx} {K : PySem.W.Frag} [HK X K] {α β γ : Type} {ρ : List (En K)} {pos : Pos} {R : Rp K α} {k : KeyK R} {kn : KeyR R} {Rv : Rp K β}
theorem pt_inOwnK [DecidableEq α] {i : Nat} {nm : Str} {pn : Pos} {d : Addr} {m : List (α × β)} {e : Expr} {wk : W α} (hu : X.A.units + 1 < cLine) (hv : PE X (.Name nm pn) (tVar i)) (ho : ρ[i]? = some (.rg d [] (dictKRg k Rv d m))) (he : PE X e (TEx ρ R wk)) (hm : behindInMarks .In (.Name nm pn) = false := by rfl) :
    PT X (.Compare e [.In] [.Name nm pn] pos) (TTx ρ fun P => wk fun x => P (lookA m x).isSome) := by
  refine pt_imp (pt_cmpR (op_inDK hu) he hv hm) fun σ H Q ⟨G, P, s, ev, pp, c⟩ => ⟨G, _, s, ev, pp, fun G1 H1 v x st e1 px rx => ?_⟩
  obtain ⟨hσ, n1, ⟨kvs, h1, h2⟩, _⟩ := rgk_get ho e1
  have e : ((valV kvs (k.enc x)).isSome != false) = (lookA m x).isSome := by
    rcases kpr_find (x := x) h2 with ⟨z1, z2⟩ | ⟨w, y, z1, z2, _⟩
    · rw [z1, z2]; rfl
    · rw [z1, z2]; rfl
  refine ⟨.ref d, hσ, d, valV kvs (k.enc x), rfl, ?_, _, rfl, c G1 H1 _ st e1 (by rw [e]; exact px)⟩
  rw [k.val _ _ _ rx]; exact .inl ⟨kvs, k.enc x, .inl h1, rfl, rfl⟩
theorem pt_ninOwnK [DecidableEq α] {i : Nat} {nm : Str} {pn : Pos} {d : Addr} {m : List (α × β)} {e : Expr} {wk : W α} (hu : X.A.units + 1 < cLine) (hv : PE X (.Name nm pn) (tVar i)) (ho : ρ[i]? = some (.rg d [] (dictKRg k Rv d m))) (he : PE X e (TEx ρ R wk)) (hm : behindInMarks .NotIn (.Name nm pn) = false := by rfl) :
    PT X (.Compare e [.NotIn] [.Name nm pn] pos) (TTx ρ fun P => wk fun x => P (!(lookA m x).isSome)) := by
  refine pt_imp (pt_cmpR (op_ninDK hu) he hv hm) fun σ H Q ⟨G, P, s, ev, pp, c⟩ => ⟨G, _, s, ev, pp, fun G1 H1 v x st e1 px rx => ?_⟩
  obtain ⟨hσ, n1, ⟨kvs, h1, h2⟩, _⟩ := rgk_get ho e1
  have e : ((valV kvs (k.enc x)).isSome != true) = !(lookA m x).isSome := by
    rcases kpr_find (x := x) h2 with ⟨z1, z2⟩ | ⟨w, y, z1, z2, _⟩
    · rw [z1, z2]; rfl
    · rw [z1, z2]; rfl
  refine ⟨.ref d, hσ, d, valV kvs (k.enc x), rfl, ?_, _, rfl, c G1 H1 _ st e1 (by rw [e]; exact px)⟩
  rw [k.val _ _ _ rx]; exact .inl ⟨kvs, k.enc x, .inl h1, rfl, rfl⟩
theorem pt_inOwnN [DecidableEq α] {i : Nat} {nm : Str} {pn : Pos} {d : Addr} {m : List (α × β)} {e : Expr} {wk : W α} (hu : X.A.units + 64 < cLine) (hk : kn.dep ≤ 8) (href : ∀ G v x, R.ok G v x → ∃ a, v = .ref a) (hv : PE X (.Name nm pn) (tVar i)) (ho : ρ[i]? = some (.rg d [] (dictRg X.prog X.w kn Rv d m))) (he : PE X e (TEx ρ R wk)) (hm : behindInMarks .In (.Name nm pn) = false := by rfl) :
    PT X (.Compare e [.In] [.Name nm pn] pos) (TTx ρ fun P => wk fun x => P (lookA m x).isSome) := by
  have hK : X.K = K := HK.eq
  subst hK
  refine pt_imp (pt_cmpR (op_inN hu) he hv hm) fun σ H Q ⟨G, P, s, ev, pp, c⟩ => ⟨G, _, s, ev, pp, fun G1 H1 v x st e1 px rx => ?_⟩
  obtain ⟨hσ, n1, ⟨ks, h1, h2⟩, _⟩ := rg_get ho e1
  obtain ⟨a, ea⟩ := href _ _ _ rx
  subst ea
  have e : (ks.find? fun p => decide (p.1 = kn.enc x)).isSome = (lookA m x).isSome := by
    rcases npair_find (x := x) h2 with ⟨z1, z2⟩ | ⟨p, y, z1, z2, _⟩
    · rw [z1, z2]; rfl
    · rw [z1, z2]; rfl
  exact ⟨.ref d, hσ, a, d, kn.enc x, ks, rfl, rfl, h1, keyAt_of kn hk st.gh rx, npair_keys hk st.gh h2, _, rfl, c G1 H1 _ st e1 (by rw [e]; exact px)⟩
theorem pt_ninOwnN [DecidableEq α] {i : Nat} {nm : Str} {pn : Pos} {d : Addr} {m : List (α × β)} {e : Expr} {wk : W α} (hu : X.A.units + 64 < cLine) (hk : kn.dep ≤ 8) (href : ∀ G v x, R.ok G v x → ∃ a, v = .ref a) (hv : PE X (.Name nm pn) (tVar i)) (ho : ρ[i]? = some (.rg d [] (dictRg X.prog X.w kn Rv d m))) (he : PE X e (TEx ρ R wk)) (hm : behindInMarks .NotIn (.Name nm pn) = false := by rfl) :
    PT X (.Compare e [.NotIn] [.Name nm pn] pos) (TTx ρ fun P => wk fun x => P (!(lookA m x).isSome)) := by
  have hK : X.K = K := HK.eq
  subst hK
  refine pt_imp (pt_cmpR (op_ninN hu) he hv hm) fun σ H Q ⟨G, P, s, ev, pp, c⟩ => ⟨G, _, s, ev, pp, fun G1 H1 v x st e1 px rx => ?_⟩
  obtain ⟨hσ, n1, ⟨ks, h1, h2⟩, _⟩ := rg_get ho e1
  obtain ⟨a, ea⟩ := href _ _ _ rx
  subst ea
  have e : (ks.find? fun p => decide (p.1 = kn.enc x)).isSome = (lookA m x).isSome := by
    rcases npair_find (x := x) h2 with ⟨z1, z2⟩ | ⟨p, y, z1, z2, _⟩
    · rw [z1, z2]; rfl
    · rw [z1, z2]; rfl
  exact ⟨.ref d, hσ, a, d, kn.enc x, ks, rfl, rfl, h1, keyAt_of kn hk st.gh rx, npair_keys hk st.gh h2, _, rfl, c G1 H1 _ st e1 (by rw [e]; exact px)⟩
end
section
variable {K : PySem.W.Frag} {α β : Type}
theorem rc_intB : RCOk (fun xs H Q => (∃ i, xs = [.int i] ∧ Q (.int i) H) ∨ ∃ k, xs = [.bl k] ∧ Q (.int (if k then 1 else 0)) H) (fs1 (rB : Rp K Bool)) (rI : Rp K Int) (fun x P => P (if x = true then 1 else 0)) := fun G H vs x P Q s ⟨v, h, q⟩ p k => by
  have e : v = V.bl x := q
  subst e
  exact .inr ⟨x, h, k G H _ _ (Step.refl s) p rfl⟩
theorem rc_tupT {R : Rp K α} : RCOk (fun xs H Q => ∃ a ys, xs = [.ref a] ∧ SqT K H a ys ∧ Q (.ref a) H) (fs1 (rU R)) (rU R) (fun xs P => P xs) := fun G H vs xs P Q s ⟨v, h, a, us, h1, h2, h3, h4⟩ p k => by
  subst h; subst h1
  exact ⟨a, us, rfl, same_t s h2, k G H _ _ (Step.refl s) p ⟨a, us, rfl, h2, h3, h4⟩⟩
theorem rc_tupTf {R : Rp K α} : RCOk (fun xs H Q => ∃ a ys, xs = [.ref a] ∧ SqT K H a ys ∧ Q (.ref a) H) (fs1 (rUf R)) (rUf R) (fun xs P => P xs) := fun G H vs xs P Q s ⟨v, h, r⟩ p k => by
  obtain ⟨a, us, h1, h2, h3, h4⟩ := rUf_ok r
  subst h; subst h1
  exact ⟨a, us, rfl, same_t s h2, k G H _ _ (Step.refl s) p r⟩
theorem r2_inU [DecidableEq α] {R : Rp K α} (f : FlatR R) : R2Ok (rIn K false) R (rU R) (rB : Rp K Bool) (fun x xs P => P (decide (x ∈ xs))) := fun G H v u x xs P Q s h1 ⟨a, vs, h2, h3, h4, _⟩ p k => by
  obtain ⟨e1, e2⟩ := inV_of f h1 h4
  exact ⟨a, vs, h2, .inr (same_t s h3), f.flat _ _ _ h1, e1, k G H _ _ (Step.refl s) p (by show V.bl _ = _; rw [e2]; rfl)⟩
theorem r2_ninU [DecidableEq α] {R : Rp K α} (f : FlatR R) : R2Ok (rIn K true) R (rU R) (rB : Rp K Bool) (fun x xs P => P (!decide (x ∈ xs))) := fun G H v u x xs P Q s h1 ⟨a, vs, h2, h3, h4, _⟩ p k => by
  obtain ⟨e1, e2⟩ := inV_of f h1 h4
  exact ⟨a, vs, h2, .inr (same_t s h3), f.flat _ _ _ h1, e1, k G H _ _ (Step.refl s) p (by show V.bl _ = _; rw [e2]; rfl)⟩
end
end SS
namespace SS
open PySem PySem.Spec L2
theorem relabel_free {env : Env} {y : Str} : ∀ {ns : List (Str × NameKind)}, ns.lookup y = some .cell ∨ ns.lookup y = some .free →
    (ns.map fun (n, k) => if (k == NameKind.free && env.scope.kind == .function && env.kindOf n == some .cell) then (n, NameKind.cell) else (n, k)).lookup y = some .cell ∨
    (ns.map fun (n, k) => if (k == NameKind.free && env.scope.kind == .function && env.kindOf n == some .cell) then (n, NameKind.cell) else (n, k)).lookup y = some .free
  | [], h => by simp at h
  | (n, k) :: r, h => by
    rw [List.map_cons]
    by_cases e : y = n
    · subst e
      rw [List.lookup_cons_self] at h
      dsimp only
      split
      · left; rw [List.lookup_cons_self]
      · rcases h with h | h
        · left; rw [List.lookup_cons_self]; exact h
        · right; rw [List.lookup_cons_self]; exact h
    · have e' : (y == n) = false := beq_eq_false_iff_ne.mpr e
      have h' : r.lookup y = some .cell ∨ r.lookup y = some .free := by
        rw [List.lookup_cons, e'] at h; exact h
      have ih := relabel_free (env := env) h'
      dsimp only
      split
      · rw [List.lookup_cons, e']; exact ih
      · rw [List.lookup_cons, e']; exact ih
theorem blkOk_BX {X : Cx} {sc scope : Scope} {s : Shared} {H : Hp} {C : Addr} {cl : List (Str × Addr)} {fp : List Addr} {own : List (Str × Nat)} (h : BlkOk X.N sc scope own) : BlkOk (BX X sc s H C cl fp).N (BX X sc s H C cl fp).env.scope scope own :=
  ⟨h.kind, h.uniq, h.ix, fun y hy e => relabel_free (h.free y hy e), h.own⟩
end SS

set_option Elab.async false
set_option linter.all false
set_option maxRecDepth 100000
/-! WM: the world of a book in plain Lean: numbers, lines, boxes, files; facts of the small spaces. Own work. -/
namespace WM
open PySem PySem.Spec L2 SS MM
abbrev File : Type := List (Int × Int)
def dueN (dues : List Int) (m : Int) : Int := dues.getD m.toNat 0
def szN (s : List Int) (i : Int) : Int := s.getD i.toNat 0
def stN (s : List Int) (i : Int) : Int := (steps s).getD i.toNat 0
def dig (s : List Int) (m i : Int) : Int := (m.fdiv (stN s i)).fmod (szN s i)
def low (s : List Int) (m i : Int) : Int := m - dig s m i * stN s i
def lineN (s : List Int) (m i : Int) : List Int := (rng 0 (szN s i).toNat).map fun v => low s m i + v * stN s i
def sameN (dues : List Int) (ks : List Int) : Bool := ks.all fun k => decide (dueN dues k = dueN dues (ks.getD 0 0))
def loudN (s dues : List Int) (m i : Int) : Bool := !sameN dues (lineN s m i)
def fld (s : List Int) : List Int := rng 0 s.length
def nums (s : List Int) : List Int := rng 0 (forms s).length
def loudT (s dues : List Int) : List (List Bool) := (nums s).map fun m => (fld s).map fun i => loudN s dues m i
def needT (s dues : List Int) : List (List Int) := (nums s).map fun m => (fld s).filter fun i => loudN s dues m i
def valsN (s : List Int) (f : File) (i : Int) : List Int := match lookA f i with
  | some v => [v]
  | none => rng 0 (szN s i).toNat
def boxStep (s : List Int) (f : File) (ns : List Int) (i : Int) : List Int := ns.flatMap fun a => (valsN s f i).map fun v => a + v * stN s i
def boxN (s : List Int) (f : File) : List Int := (fld s).foldl (boxStep s f) [0]
def fileStep (s : List Int) (fs : List File) (i : Int) : List File := fs ++ fs.flatMap fun f => (rng 0 (szN s i).toNat).map fun v => f ++ [(i, v)]
def files (s : List Int) : List File := (fld s).foldl (fileStep s) [[]]
def hangF (s dues : List Int) (f : File) (i : Int) : Bool := (boxN s f).any fun m => loudN s dues m i
def settledN (s dues : List Int) (f : File) : List Int := (fld s).filter fun i => decide (i ∈ f.map (·.1)) || !hangF s dues f i
abbrev Wld : Type := List Int × List Form × List Int × List Int × List (List Bool) × List (File × List Int)
def world (s dues : List Int) : Wld := (s, forms s, steps s, dues, loudT s dues, (files s).map fun f => (f, settledN s dues f))
/-- the fields of a set, ascending -/
def fl (n : Nat) (K : List Int) : List Int := (rng 0 n).filter fun i => decide (i ∈ K)
def vx (x : Form) (i : Int) : Int := x.getD i.toNat 0
def fileOf (n : Nat) (t : Form) (K : List Int) : File := (fl n K).map fun i => (i, vx t i)
/-- masks -/
def BT : List Int := [1, 2, 4, 8, 16, 32, 64, 128]
def bitN (i : Int) : Int := BT.getD i.toNat 0
def maskOf (K : List Int) : Int := K.foldl (fun m i => Builtin.bitOr m (bitN i)) 0
def subl : List Int → List (List Int)
  | [] => [[]]
  | x :: xs => subl xs ++ (subl xs).map (x :: ·)
theorem filter_subl (p : Int → Bool) : ∀ xs : List Int, xs.filter p ∈ subl xs
  | [] => by simp [subl]
  | x :: xs => by
    have ih := filter_subl p xs
    unfold subl
    rw [List.filter_cons]
    split
    · exact List.mem_append_right _ (List.mem_map.mpr ⟨_, ih, rfl⟩)
    · exact List.mem_append_left _ ih
theorem fl_subl (n : Nat) (K : List Int) : fl n K ∈ subl (rng 0 n) := filter_subl _ _
/-! ### facts of the small spaces -/
def agrB (f : File) (x : Form) : Bool := f.all fun p => decide (vx x p.1 = p.2)
theorem fc_line : ∀ s ∈ SZ, ∀ x ∈ forms s, ∀ i ∈ fld s, lineN s (num s x) i = (rng 0 (szN s i).toNat).map (fun v => num s (x.set i.toNat v)) ∧ dig s (num s x) i = vx x i := by decide +kernel
theorem fc_set : ∀ s ∈ SZ, ∀ x ∈ forms s, ∀ i ∈ fld s, ∀ v ∈ rng 0 (szN s i).toNat, x.set i.toNat v ∈ forms s := by decide +kernel
theorem fc_box : ∀ s ∈ SZ, ∀ f ∈ files s, boxN s f = ((forms s).filter (agrB f)).map (num s) := by decide +kernel
theorem fc_low : ∀ s ∈ SZ, ∀ m ∈ nums s, ∀ i ∈ fld s, (0 ≤ low s m i ∧ low s m i ≤ m ∧ dig s (low s m i) i = 0 ∧ lineN s (low s m i) i = lineN s m i ∧ m ∈ lineN s m i) ∧ (lineN s m i).Nodup ∧ ∀ k ∈ lineN s m i, k ∈ nums s ∧ low s k i = low s m i := by decide +kernel
theorem fc_num : ∀ s ∈ SZ, (forms s).map (num s) = nums s := by decide +kernel
theorem fc_file : ∀ s ∈ SZ, ∀ t ∈ forms s, ∀ L ∈ subl (fld s), L.map (fun i => (i, vx t i)) ∈ files s := by decide +kernel
theorem fc_files : ∀ s ∈ SZ, (files s).Nodup ∧ (files s).length ≤ 81 ∧ ∀ f ∈ files s, (f.map (·.1)).Nodup ∧ f.map (·.1) ∈ subl (fld s) ∧ ∀ p ∈ f, p.1 ∈ fld s ∧ 0 ≤ p.2 ∧ p.2 < szN s p.1 := by decide +kernel
theorem fc_small : ∀ s ∈ SZ, (2 ≤ s.length ∧ s.length ≤ 4) ∧ (4 ≤ (forms s).length ∧ (forms s).length ≤ 27) ∧ (forms s).Nodup ∧ (steps s).length = s.length ∧ ∀ i ∈ fld s, (2 ≤ szN s i ∧ szN s i ≤ 3) ∧ 1 ≤ stN s i ∧ stN s i ≤ 27 := by decide +kernel
/-- masks of up to four fields -/
theorem fm_or : ∀ n : Fin 5, ∀ L ∈ subl (rng 0 n), ∀ i ∈ rng 0 n, Builtin.bitOr (maskOf L) (bitN i) = maskOf (fl n (L ++ [i])) := by decide +kernel
theorem fm_and : ∀ n : Fin 5, ∀ L ∈ subl (rng 0 n), ∀ A ∈ subl (rng 0 n), decide (Builtin.bitAnd (maskOf L) (maskOf A) = maskOf L) = L.all fun i => decide (i ∈ A) := by decide +kernel
theorem fm_bit : ∀ n : Fin 5, ∀ L ∈ subl (rng 0 n), ∀ i ∈ rng 0 n, decide (Builtin.bitAnd (maskOf L) (bitN i) = 0) = decide (i ∉ L) := by decide +kernel
theorem fm_all : ∀ n : Fin 5, ∀ L ∈ subl (rng 0 n), n.1 ≠ 0 → (decide (maskOf L = bitN ((n : Nat) - 1 : Int) * 2 - 1) = decide (L = rng 0 n)) ∧ 0 ≤ maskOf L ∧ maskOf L < 256 := by decide +kernel
end WM

set_option Elab.async false
set_option linter.all false
set_option maxRecDepth 100000
/-! WT: lines, boxes, what is settled: the theory, form by form. Own work. -/
namespace WM
open PySem PySem.Spec L2 SS MM
/-! ### small lists -/
theorem mem_rng {n : Nat} {i : Int} : i ∈ rng 0 n ↔ 0 ≤ i ∧ i < n := by
  refine ⟨fun h => by have := rng_in h; omega, fun h => ?_⟩
  unfold rng
  exact List.mem_map.mpr ⟨i.toNat, List.mem_range.mpr (by omega), by omega⟩
theorem mem_fl {n : Nat} {K : List Int} {i : Int} : i ∈ fl n K ↔ (0 ≤ i ∧ i < n) ∧ i ∈ K := by
  unfold fl
  rw [List.mem_filter, mem_rng, decide_eq_true_iff]
theorem rng_nodup (n : Nat) : (rng 0 n).Nodup := by
  unfold rng
  exact List.pairwise_map.mpr ((List.nodup_range).imp fun h e => h (by omega))
theorem rng_sorted (n : Nat) : (rng 0 n).Pairwise (· < ·) := by
  unfold rng
  exact List.pairwise_map.mpr ((List.pairwise_lt_range).imp fun h => by omega)
theorem fl_sorted (n : Nat) (K : List Int) : (fl n K).Pairwise (· < ·) := (rng_sorted n).filter _
theorem fl_congr {n : Nat} {K L : List Int} (h : ∀ i : Int, 0 ≤ i → i < n → (i ∈ K ↔ i ∈ L)) : fl n K = fl n L := by
  unfold fl
  refine List.filter_congr fun i hi => ?_
  obtain ⟨a, b⟩ := mem_rng.mp hi
  rw [decide_eq_decide]
  exact h i a b
theorem fl_fl {n : Nat} {K : List Int} (L : List Int) : fl n (fl n K ++ L) = fl n (K ++ L) := fl_congr fun i a b => by
  rw [List.mem_append, List.mem_append, mem_fl]
  constructor
  · rintro (h | h)
    · exact .inl h.2
    · exact .inr h
  · rintro (h | h)
    · exact .inl ⟨⟨a, b⟩, h⟩
    · exact .inr h
theorem sorted_uniq : ∀ {xs ys : List Int}, xs.Pairwise (· < ·) → ys.Pairwise (· < ·) → (∀ x, x ∈ xs ↔ x ∈ ys) → xs = ys
  | [], [], _, _, _ => rfl
  | [], y :: ys, _, _, h => by have := (h y).mpr (by simp); cases this
  | x :: xs, [], _, _, h => by have := (h x).mp (by simp); cases this
  | x :: xs, y :: ys, hx, hy, h => by
    obtain ⟨x1, x2⟩ := List.pairwise_cons.mp hx
    obtain ⟨y1, y2⟩ := List.pairwise_cons.mp hy
    have e : x = y := by
      have a := (h x).mp (by simp)
      have b := (h y).mpr (by simp)
      rcases List.mem_cons.mp a with a | a
      · exact a
      · rcases List.mem_cons.mp b with b | b
        · exact b.symm
        · have := x1 y b
          have := y1 x a
          omega
    subst e
    refine congrArg (x :: ·) (sorted_uniq x2 y2 fun z => ⟨fun hz => ?_, fun hz => ?_⟩)
    · rcases List.mem_cons.mp ((h z).mp (by simp [hz])) with e | e
      · have := x1 z hz; omega
      · exact e
    · rcases List.mem_cons.mp ((h z).mpr (by simp [hz])) with e | e
      · have := y1 z hz; omega
      · exact e
theorem le_lt_of_nodup : ∀ {xs : List Int}, xs.Pairwise (· ≤ ·) → xs.Nodup → xs.Pairwise (· < ·)
  | [], _, _ => .nil
  | x :: xs, h, n => by
    obtain ⟨h1, h2⟩ := List.pairwise_cons.mp h
    obtain ⟨n1, n2⟩ := List.nodup_cons.mp n
    refine List.pairwise_cons.mpr ⟨fun y hy => ?_, le_lt_of_nodup h2 n2⟩
    have := h1 y hy
    have : x ≠ y := fun e => n1 (by rw [e]; exact hy)
    omega
/-- sorted of distinct fields -/
theorem sorted_fl {n : Nat} {K ys : List Int} (hp : ys.Perm K) (hs : ys.Pairwise (· ≤ ·)) (hn : K.Nodup) (hK : ∀ i ∈ K, 0 ≤ i ∧ i < n) : ys = fl n K :=
  sorted_uniq (le_lt_of_nodup hs (hp.nodup_iff.mpr hn)) (fl_sorted _ _) fun x => by
    rw [hp.mem_iff, mem_fl]
    exact ⟨fun h => ⟨hK x h, h⟩, fun h => h.2⟩
/-! ### one form -/
structure Sp (s : List Int) : Prop where
  sz : s ∈ SZ
theorem inF {s : List Int} (hs : s ∈ SZ) {x : Form} (hx : x ∈ forms s) : x.length = s.length ∧ ∀ i : Int, 0 ≤ i → i < s.length → 0 ≤ vx x i ∧ vx x i < szN s i := by
  refine ⟨forms_len s hs x hx, fun i a b => ?_⟩
  have hn := (fc_small s hs).1.2
  have := forms_in s hs x hx ⟨i.toNat, by omega⟩ (by show i.toNat < s.length; omega)
  exact this
theorem set_in {s : List Int} (hs : s ∈ SZ) {x : Form} (hx : x ∈ forms s) {i v : Int} (i0 : 0 ≤ i) (i1 : i < s.length) (v0 : 0 ≤ v) (v1 : v < szN s i) : x.set i.toNat v ∈ forms s :=
  fc_set s hs x hx i (mem_rng.mpr ⟨i0, i1⟩) v (mem_rng.mpr ⟨v0, by omega⟩)
theorem vx_same {x : Form} {i v : Int} (i0 : 0 ≤ i) (i1 : i < x.length) : vx (x.set i.toNat v) i = v := by
  unfold vx
  rw [List.getD_eq_getElem?_getD, List.getElem?_set_self (by omega)]
  rfl
theorem vx_other {x : Form} {i j v : Int} (i0 : 0 ≤ i) (j0 : 0 ≤ j) (h : i ≠ j) : vx (x.set i.toNat v) j = vx x j := by
  unfold vx
  rw [List.getD_eq_getElem?_getD, List.getElem?_set_ne (by omega), ← List.getD_eq_getElem?_getD]
theorem set_back {x : Form} {i : Int} (i0 : 0 ≤ i) (i1 : i < x.length) : x.set i.toNat (vx x i) = x := by
  unfold vx
  rw [List.getD_eq_getElem?_getD, List.getElem?_eq_getElem (by omega)]
  simp
theorem form_ext {x y : Form} (hl : x.length = y.length) (h : ∀ i : Int, 0 ≤ i → i < x.length → vx x i = vx y i) : x = y := by
  apply List.ext_getElem hl
  intro k h1 h2
  have := h k (by omega) (by omega)
  unfold vx at this
  simpa [List.getD_eq_getElem?_getD, h1, h2] using this
/-! ### lines -/
def Dm (s dues : List Int) (x : Form) : Int := dueN dues (num s x)
def LoudF (s dues : List Int) (x : Form) (i : Int) : Prop := ∃ v, 0 ≤ v ∧ v < szN s i ∧ Dm s dues (x.set i.toNat v) ≠ Dm s dues x
theorem loud_iff {s : List Int} (hs : s ∈ SZ) (dues : List Int) {x : Form} (hx : x ∈ forms s) {i : Int} (i0 : 0 ≤ i) (i1 : i < s.length) : loudN s dues (num s x) i = true ↔ LoudF s dues x i := by
  have hi := mem_rng.mpr ⟨i0, i1⟩
  obtain ⟨e, _⟩ := fc_line s hs x hx i hi
  obtain ⟨hl, hin⟩ := inF hs hx
  obtain ⟨_, _, _, _, h5⟩ := fc_small s hs
  obtain ⟨⟨z0, z1⟩, _, _⟩ := h5 i hi
  obtain ⟨w0, w1⟩ := hin i i0 i1
  have hhead : (lineN s (num s x) i).getD 0 0 = num s (x.set i.toNat 0) := by
    rw [e]
    have : (rng 0 (szN s i).toNat) = 0 :: rng 1 ((szN s i).toNat - 1) := by
      conv => lhs; rw [show (szN s i).toNat = ((szN s i).toNat - 1) + 1 by omega, rng_cons]
      rfl
    rw [this]; rfl
  unfold loudN sameN
  rw [Bool.not_eq_true', ← Bool.not_eq_true, List.all_eq_true]
  constructor
  · intro h
    refine Classical.byContradiction fun hc => h fun k hk => ?_
    have q : ∀ v : Int, 0 ≤ v → v < szN s i → Dm s dues (x.set i.toNat v) = Dm s dues x := fun v a b => Classical.byContradiction fun z => hc ⟨v, a, b, z⟩
    rw [e] at hk
    obtain ⟨v, hv, ek⟩ := List.mem_map.mp hk
    obtain ⟨a, b⟩ := mem_rng.mp hv
    rw [hhead, decide_eq_true_iff, ← ek]
    exact (q v a (by omega)).trans (q 0 (by omega) (by omega)).symm
  · rintro ⟨v, a, b, hv⟩ h
    have g : ∀ v : Int, 0 ≤ v → v < szN s i → Dm s dues (x.set i.toNat v) = Dm s dues (x.set i.toNat 0) := fun v a b => by
      have := h (num s (x.set i.toNat v)) (by rw [e]; exact List.mem_map.mpr ⟨v, mem_rng.mpr ⟨a, by omega⟩, rfl⟩)
      rw [hhead, decide_eq_true_iff] at this
      exact this
    have g1 := g v a b
    have g2 := g (vx x i) w0 w1
    rw [set_back i0 (by omega)] at g2
    exact hv (g1.trans g2.symm)
/-! ### boxes -/
def agr (t x : Form) (K : List Int) : Prop := ∀ j ∈ K, 0 ≤ j → vx x j = vx t j
theorem box_iff {s : List Int} (hs : s ∈ SZ) {t : Form} (ht : t ∈ forms s) {K : List Int} {m : Int} : m ∈ boxN s (fileOf s.length t K) ↔ ∃ x ∈ forms s, num s x = m ∧ ∀ j ∈ K, 0 ≤ j → j < s.length → vx x j = vx t j := by
  unfold fileOf
  rw [fc_box s hs _ (fc_file s hs t ht _ (fl_subl _ _)), List.mem_map]
  refine ⟨fun ⟨x, h1, h2⟩ => ?_, fun ⟨x, h1, h2, h3⟩ => ⟨x, List.mem_filter.mpr ⟨h1, ?_⟩, h2⟩⟩
  · obtain ⟨h1, h3⟩ := List.mem_filter.mp h1
    refine ⟨x, h1, h2, fun j hj a b => ?_⟩
    have := List.all_eq_true.mp h3 (j, vx t j) (List.mem_map.mpr ⟨j, mem_fl.mpr ⟨⟨a, b⟩, hj⟩, rfl⟩)
    simpa using this
  · refine List.all_eq_true.mpr fun p hp => ?_
    obtain ⟨j, hj, e⟩ := List.mem_map.mp hp
    obtain ⟨⟨a, b⟩, c⟩ := mem_fl.mp hj
    subst e
    exact decide_eq_true (h3 j c a b)
def InB (s : List Int) (t x : Form) (K : List Int) : Prop := x ∈ forms s ∧ ∀ j ∈ K, 0 ≤ j → j < s.length → vx x j = vx t j
def Hang (s dues : List Int) (t : Form) (K : List Int) (i : Int) : Prop := ∃ x, InB s t x K ∧ LoudF s dues x i
def hangB (s dues : List Int) (t : Form) (K : List Int) (i : Int) : Bool := hangF s dues (fileOf s.length t K) i
theorem hang_iff {s : List Int} (hs : s ∈ SZ) {dues : List Int} {t : Form} (ht : t ∈ forms s) {K : List Int} {i : Int} (i0 : 0 ≤ i) (i1 : i < s.length) : hangB s dues t K i = true ↔ Hang s dues t K i := by
  unfold hangB hangF
  rw [List.any_eq_true]
  constructor
  · rintro ⟨m, hm, hl⟩
    obtain ⟨x, h1, h2, h3⟩ := (box_iff hs ht).mp hm
    subst h2
    exact ⟨x, ⟨h1, h3⟩, (loud_iff hs dues h1 i0 i1).mp hl⟩
  · rintro ⟨x, ⟨h1, h3⟩, hl⟩
    exact ⟨num s x, (box_iff hs ht).mpr ⟨x, h1, rfl, h3⟩, (loud_iff hs dues h1 i0 i1).mpr hl⟩
/-- settled: known or hanging nowhere -/
def Stl (s dues : List Int) (t : Form) (K : List Int) (i : Int) : Prop := i ∈ K ∨ ¬ Hang s dues t K i
theorem Hang.less {s dues : List Int} {t : Form} {K L : List Int} {i : Int} (h : Hang s dues t L i) (hs : ∀ j ∈ K, 0 ≤ j → j < s.length → j ∈ L) : Hang s dues t K i :=
  let ⟨x, ⟨h1, h2⟩, h3⟩ := h; ⟨x, ⟨h1, fun j hj a b => h2 j (hs j hj a b) a b⟩, h3⟩
theorem quiet_of {s dues : List Int} {t x : Form} {K : List Int} {j v : Int} (h : ¬ Hang s dues t K j) (hx : InB s t x K) (v0 : 0 ≤ v) (v1 : v < szN s j) : Dm s dues (x.set j.toNat v) = Dm s dues x :=
  Classical.byContradiction fun z => h ⟨x, hx, v, v0, v1, z⟩
theorem InB.set {s : List Int} (hs : s ∈ SZ) {t x : Form} {K : List Int} (h : InB s t x K) {j v : Int} (j0 : 0 ≤ j) (j1 : j < s.length) (v0 : 0 ≤ v) (v1 : v < szN s j) (hK : j ∈ K → v = vx t j) : InB s t (x.set j.toNat v) K :=
  ⟨set_in hs h.1 j0 j1 v0 v1, fun i hi a b => by
    by_cases e : j = i
    · subst e
      rw [vx_same j0 (by rw [(inF hs h.1).1]; exact j1)]; exact hK hi
    · rw [vx_other j0 a e]; exact h.2 i hi a b⟩
/-- in a plane: a line stays loud along quiet lines -/
theorem loud_move {s : List Int} (hs : s ∈ SZ) {dues : List Int} {t x : Form} {K : List Int} {i j v : Int} (hx : InB s t x K) (hi : i ∉ K) (i0 : 0 ≤ i) (i1 : i < s.length) (j0 : 0 ≤ j) (j1 : j < s.length) (ne : i ≠ j) (hq : ¬ Hang s dues t K j) (v0 : 0 ≤ v) (v1 : v < szN s j) (hl : LoudF s dues x i) : LoudF s dues (x.set j.toNat v) i := by
  obtain ⟨u, u0, u1, hu⟩ := hl
  refine ⟨u, u0, u1, ?_⟩
  have c : (x.set j.toNat v).set i.toNat u = (x.set i.toNat u).set j.toNat v := List.set_comm _ _ (by omega)
  rw [c, quiet_of hq (hx.set hs i0 i1 u0 u1 fun z => absurd z hi) v0 v1, quiet_of hq hx v0 v1]
  exact hu
/-- coordinates of S are set to t's -/
def toT (t : Form) (S : List Int) (x : Form) : Form := S.foldl (fun x j => x.set j.toNat (vx t j)) x
theorem toT_vx {t : Form} : ∀ (S : List Int) (x : Form) (i : Int), (∀ j ∈ S, 0 ≤ j) → 0 ≤ i → i < x.length → vx (toT t S x) i = if i ∈ S then vx t i else vx x i
  | [], x, i, _, _, _ => by simp [toT]
  | j :: S, x, i, h, i0, i1 => by
    have j0 := h j (by simp)
    show vx (toT t S (x.set j.toNat (vx t j))) i = _
    rw [toT_vx S _ i (fun k hk => h k (by simp [hk])) i0 (by rw [List.length_set]; exact i1)]
    by_cases e : i ∈ S
    · rw [if_pos e, if_pos (by simp [e])]
    · rw [if_neg e]
      by_cases e2 : j = i
      · subst e2
        rw [vx_same j0 i1, if_pos (by simp)]
      · rw [vx_other j0 i0 e2, if_neg (by simp [e, Ne.symm e2])]
/-- what the opened fields settle, the whole set settles (and the other way round) -/
theorem stl_less {s : List Int} (hs : s ∈ SZ) {dues : List Int} {t : Form} (ht : t ∈ forms s) {O S : List Int} (hS : ∀ i ∈ S, 0 ≤ i ∧ i < s.length) (hst : ∀ i ∈ S, Stl s dues t O i) {i : Int} (i0 : 0 ≤ i) (i1 : i < s.length) (h : Stl s dues t S i) : Stl s dues t O i := by
  refine Classical.byContradiction fun hc => ?_
  have hi : i ∉ O := fun z => hc (.inl z)
  have hiS : i ∉ S := fun z => hc (hst i z)
  have hh : Hang s dues t O i := Classical.byContradiction fun z => hc (.inr z)
  obtain ⟨x, hx, hl⟩ := hh
  have key : ∀ (S' : List Int), (∀ j ∈ S', j ∈ S) → ∀ x, InB s t x O → LoudF s dues x i → InB s t (toT t S' x) O ∧ LoudF s dues (toT t S' x) i := fun S' => by
    induction S' with
    | nil => intro _ x hx hl; exact ⟨hx, hl⟩
    | cons j S' ih =>
      intro hsub x hx hl
      obtain ⟨j0, j1⟩ := hS j (hsub j (by simp))
      obtain ⟨w0, w1⟩ := (inF hs ht).2 j j0 j1
      have hne : i ≠ j := fun e => hiS (by rw [e]; exact hsub j (by simp))
      have hx' := hx.set hs j0 j1 w0 w1 fun _ => rfl
      refine ih (fun k hk => hsub k (by simp [hk])) (x.set j.toNat (vx t j)) hx' ?_
      rcases hst j (hsub j (by simp)) with hj | hj
      · rw [← hx.2 j hj j0 j1, set_back j0 (by rw [(inF hs hx.1).1]; exact j1)]; exact hl
      · exact loud_move hs hx hi i0 i1 j0 j1 hne hj w0 w1 hl
  obtain ⟨k1, k2⟩ := key S (fun _ h => h) x hx hl
  rcases h with h | h
  · exact hiS h
  · refine h ⟨_, ⟨k1.1, fun j hj a b => ?_⟩, k2⟩
    rw [toT_vx S x j (fun k hk => (hS k hk).1) a (by rw [(inF hs hx.1).1]; exact b), if_pos hj]
/-- all settled: one due in the box -/
theorem stl_all {s : List Int} (hs : s ∈ SZ) {dues : List Int} {t : Form} (ht : t ∈ forms s) {K : List Int} : (∀ i : Int, 0 ≤ i → i < s.length → Stl s dues t K i) ↔ ∀ x, InB s t x K → Dm s dues x = Dm s dues t := by
  constructor
  · intro h x hx
    have key : ∀ (S : List Int), (∀ j ∈ S, 0 ≤ j ∧ j < s.length) → ∀ x, InB s t x K → InB s t (toT t S x) K ∧ Dm s dues (toT t S x) = Dm s dues x := fun S => by
      induction S with
      | nil => intro _ x hx; exact ⟨hx, rfl⟩
      | cons j S ih =>
        intro hsub x hx
        obtain ⟨j0, j1⟩ := hsub j (by simp)
        obtain ⟨w0, w1⟩ := (inF hs ht).2 j j0 j1
        have hx' := hx.set hs j0 j1 w0 w1 fun _ => rfl
        obtain ⟨q1, q2⟩ := ih (fun k hk => hsub k (by simp [hk])) _ hx'
        refine ⟨q1, q2.trans ?_⟩
        rcases h j j0 j1 with hj | hj
        · rw [← hx.2 j hj j0 j1, set_back j0 (by rw [(inF hs hx.1).1]; exact j1)]
        · exact quiet_of hj hx w0 w1
    obtain ⟨q1, q2⟩ := key (fld s) (fun j hj => mem_rng.mp hj) x hx
    have e : toT t (fld s) x = t := by
      have hl1 := (inF hs q1.1).1
      have hl2 := (inF hs ht).1
      refine form_ext (by omega) fun i a b => ?_
      have hb : i < s.length := by omega
      rw [toT_vx (fld s) x i (fun j hj => (mem_rng.mp hj).1) a (by rw [(inF hs hx.1).1]; exact hb), if_pos (show i ∈ fld s from mem_rng.mpr ⟨a, hb⟩)]
    rw [← q2, e]
  · intro h i i0 i1
    by_cases hi : i ∈ K
    · exact .inl hi
    · refine .inr fun ⟨x, hx, v, v0, v1, hv⟩ => hv ?_
      rw [h _ (hx.set hs i0 i1 v0 v1 fun z => absurd z hi), h x hx]
/-! ### opened -/
def opStep (s dues : List Int) (t : Form) (K : List Int) (i : Int) : List Int := if hangB s dues t K i = true ∧ i ∉ K then K ++ [i] else K
def opnd (s dues : List Int) (t : Form) (row : List Int) : List Int := row.foldl (opStep s dues t) []
theorem opnd_snoc (s dues : List Int) (t : Form) (row : List Int) (i : Int) : opnd s dues t (row ++ [i]) = opStep s dues t (opnd s dues t row) i := by unfold opnd; rw [List.foldl_append]; rfl
theorem opnd_sub (s dues : List Int) (t : Form) (row : List Int) : (opnd s dues t row).Sublist row ∨ True := .inr trivial
theorem op_ext {s dues : List Int} {t : Form} : ∀ (row K : List Int), ∃ E, row.foldl (opStep s dues t) K = K ++ E ∧ E.Sublist row
  | [], K => ⟨[], by simp, .refl _⟩
  | i :: row, K => by
    show ∃ E, row.foldl (opStep s dues t) (opStep s dues t K i) = K ++ E ∧ E.Sublist (i :: row)
    by_cases h : hangB s dues t K i = true ∧ i ∉ K
    · obtain ⟨E, h1, h2⟩ := op_ext row (K ++ [i])
      refine ⟨i :: E, ?_, h2.cons₂ i⟩
      unfold opStep at h1 ⊢
      rw [if_pos h, h1]; simp
    · obtain ⟨E, h1, h2⟩ := op_ext row K
      refine ⟨E, ?_, h2.cons i⟩
      unfold opStep at h1 ⊢
      rw [if_neg h, h1]
theorem opnd_sl (s dues : List Int) (t : Form) (row : List Int) : (opnd s dues t row).Sublist row := by
  obtain ⟨E, h1, h2⟩ := op_ext (s := s) (dues := dues) (t := t) row []
  unfold opnd
  rw [h1]; exact h2
theorem opnd_stl {s : List Int} (hs : s ∈ SZ) {dues : List Int} {t : Form} (ht : t ∈ forms s) {row : List Int} (hr : ∀ i ∈ row, 0 ≤ i ∧ i < s.length) : ∀ i ∈ row, Stl s dues t (opnd s dues t row) i := by
  have key : ∀ (row K : List Int), (∀ i ∈ row, 0 ≤ i ∧ i < s.length) → ∀ i ∈ row, Stl s dues t (row.foldl (opStep s dues t) K) i := fun row => by
    induction row with
    | nil => intro K _ i hi; cases hi
    | cons j row ih =>
      intro K hr i hi
      rcases List.mem_cons.mp hi with e | hi
      · subst e
        obtain ⟨i0, i1⟩ := hr i (by simp)
        obtain ⟨E, h1, _⟩ := op_ext (s := s) (dues := dues) (t := t) row (opStep s dues t K i)
        show Stl s dues t (row.foldl (opStep s dues t) (opStep s dues t K i)) i
        rw [h1]
        unfold opStep
        by_cases hh : hangB s dues t K i = true ∧ i ∉ K
        · rw [if_pos hh]; exact .inl (by simp)
        · rw [if_neg hh]
          by_cases hk : i ∈ K
          · exact .inl (by simp [hk])
          · refine .inr fun z => hh ⟨(hang_iff hs ht i0 i1).mpr (z.less fun j hj _ _ => by simp [hj]), hk⟩
      · exact ih _ (fun k hk => hr k (by simp [hk])) i hi
  exact key row [] hr
/-- what is opened settles what the whole row settles -/
theorem opnd_same {s : List Int} (hs : s ∈ SZ) {dues : List Int} {t : Form} (ht : t ∈ forms s) {row : List Int} (hr : ∀ i ∈ row, 0 ≤ i ∧ i < s.length) {i : Int} (i0 : 0 ≤ i) (i1 : i < s.length) : Stl s dues t (opnd s dues t row) i ↔ Stl s dues t row i := by
  refine ⟨fun h => ?_, fun h => stl_less hs ht hr (opnd_stl hs ht hr) i0 i1 h⟩
  rcases h with h | h
  · exact .inl ((opnd_sl s dues t row).subset h)
  · by_cases hk : i ∈ row
    · exact .inl hk
    · exact .inr fun z => h (z.less fun j hj _ _ => (opnd_sl s dues t row).subset hj)
theorem stlN_iff {s : List Int} (hs : s ∈ SZ) {dues : List Int} {t : Form} (ht : t ∈ forms s) {K : List Int} {i : Int} : i ∈ settledN s dues (fileOf s.length t K) ↔ (0 ≤ i ∧ i < s.length) ∧ Stl s dues t K i := by
  unfold settledN fld
  rw [List.mem_filter, mem_rng]
  refine and_congr_right fun ⟨i0, i1⟩ => ?_
  have e : i ∈ (fileOf s.length t K).map (·.1) ↔ i ∈ K := by
    unfold fileOf
    rw [List.map_map]
    have : ((fun x : Int × Int => x.1) ∘ fun i => (i, vx t i)) = id := rfl
    rw [this, List.map_id, mem_fl]
    exact ⟨fun h => h.2, fun h => ⟨⟨i0, i1⟩, h⟩⟩
  rw [Bool.or_eq_true, decide_eq_true_iff, e, Bool.not_eq_true', ← Bool.not_eq_true]
  show _ ∨ ¬ hangB s dues t K i = true ↔ _
  rw [hang_iff hs ht i0 i1]
  exact Iff.rfl
theorem filter_eq {p q : Int → Bool} {xs : List Int} (h : ∀ i ∈ xs, (p i = true ↔ q i = true)) : xs.filter p = xs.filter q := List.filter_congr fun i hi => Bool.eq_iff_iff.mpr (h i hi)
theorem settled_ext {s : List Int} (hs : s ∈ SZ) {dues : List Int} {t : Form} (ht : t ∈ forms s) {K L : List Int} (h : ∀ i : Int, 0 ≤ i → i < s.length → (Stl s dues t K i ↔ Stl s dues t L i)) : settledN s dues (fileOf s.length t K) = settledN s dues (fileOf s.length t L) := by
  refine sorted_uniq ((rng_sorted _).filter _) ((rng_sorted _).filter _) fun i => ?_
  show i ∈ settledN s dues (fileOf s.length t K) ↔ i ∈ settledN s dues (fileOf s.length t L)
  rw [stlN_iff hs ht, stlN_iff hs ht]
  exact and_congr_right fun ⟨a, b⟩ => h i a b
end WM
namespace WM
open PySem PySem.Spec L2 SS MM
def Mid (x : Int) : Prop := -1000000 ≤ x ∧ x ≤ 1000000
/-- near masks of a view -/
def nearM (s : List Int) (t x : Form) (i : Int) : Int := Builtin.bitOr (maskOf ((fld s).filter fun j => decide (vx x j = vx t j))) (bitN i)
structure ViewOk (s dues : List Int) (t : Form) (v : Int × List (List Int)) : Prop where
  w : v.1 = (s.length : Int)
  l : v.2.length = s.length
  m : ∀ i : Int, 0 ≤ i → i < s.length → ∀ k, k ∈ v.2.getD i.toNat [] ↔ ∃ x ∈ forms s, loudN s dues (num s x) i = true ∧ k = nearM s t x i
  few : ∀ i : Int, 0 ≤ i → i < s.length → (v.2.getD i.toNat []).length ≤ 1000
/-- a line that is loud, beside the field itself -/
def hangM (s dues : List Int) (t : Form) (K : List Int) (i : Int) : Bool := (forms s).any fun x => loudN s dues (num s x) i && (fl s.length K).all fun j => decide (j = i) || decide (vx x j = vx t j)
def mattersN (s dues : List Int) (f : File) : List Int := (fld s).filter fun i => decide (i ∉ f.map (·.1)) && hangF s dues f i
def sureD (s dues : List Int) (f : File) : PyData := if sameN dues (boxN s f) = true then .tuple [.str "due", .int (dueN dues ((boxN s f).getD 0 0))] else .tuple [.str "not sure"]
def sureAt (s dues : List Int) (t : Form) (K : List Int) : Bool := decide (settledN s dues (fileOf s.length t K) = fld s)
/-- the least number of fields of the order that settle all -/
def firstSure (s dues : List Int) (t : Form) (order : List Int) : Int := (((List.range (order.length + 1)).find? fun k => sureAt s dues t (order.take k)).getD order.length : Nat)
def wideOrd (os : List (List Int)) (n : Int) : List (List Int) := os.flatMap fun o => ((rng 0 n.toNat).filter fun i => decide (i ∉ o)).map fun i => o ++ [i]
def orders (n : Int) : List (List Int) := (List.range n.toNat).foldl (fun os _ => wideOrd os n) [[]]
end WM

set_option Elab.async false
set_option linter.all false
set_option maxRecDepth 100000
/-! WV: helps for the conditions of the world's defs. Own work. -/
namespace WM
open PySem PySem.Spec L2 SS MM
/-! ### ways of a test -/
section
variable {p A B : Prop}
theorem iT {i : Decidable p} {j : Decidable (@decide p i = true)} (hp : p) (h : A) : @ite Prop (@decide p i = true) j A B := by rw [if_pos (decide_eq_true hp)]; exact h
theorem iF {i : Decidable p} {j : Decidable (@decide p i = true)} (hp : ¬ p) (h : B) : @ite Prop (@decide p i = true) j A B := by rw [if_neg (by rw [decide_eq_false hp]; decide)]; exact h
theorem nT {i : Decidable p} {j : Decidable ((!@decide p i) = true)} (hp : ¬ p) (h : A) : @ite Prop ((!@decide p i) = true) j A B := by rw [if_pos (by rw [decide_eq_false hp]; rfl)]; exact h
theorem nF {i : Decidable p} {j : Decidable ((!@decide p i) = true)} (hp : p) (h : B) : @ite Prop ((!@decide p i) = true) j A B := by rw [if_neg (by rw [decide_eq_true hp]; decide)]; exact h
theorem bT {b : Bool} {j : Decidable (b = true)} (hb : b = true) (h : A) : @ite Prop (b = true) j A B := by rw [if_pos hb]; exact h
theorem bF {b : Bool} {j : Decidable (b = true)} (hb : b = false) (h : B) : @ite Prop (b = true) j A B := by rw [if_neg (by rw [hb]; decide)]; exact h
theorem nbT {b : Bool} {j : Decidable ((!b) = true)} (hb : b = false) (h : A) : @ite Prop ((!b) = true) j A B := by rw [if_pos (by rw [hb]; rfl)]; exact h
theorem nbF {b : Bool} {j : Decidable ((!b) = true)} (hb : b = true) (h : B) : @ite Prop ((!b) = true) j A B := by rw [if_neg (by rw [hb]; decide)]; exact h
end
/-! ### look-ups -/
section
variable {α β : Type} [DecidableEq α]
theorem look_some_iff {m : List (α × β)} {x : α} : (lookA m x).isSome = decide (x ∈ m.map (·.1)) := by
  unfold lookA
  induction m with
  | nil => simp
  | cons p r ih =>
    by_cases e : p.1 = x
    · rw [List.find?_cons_of_pos (by simpa using e)]; simp [e]
    · rw [List.find?_cons_of_neg (by simpa using e), ih, List.map_cons]
      simp [Ne.symm e]
theorem put_new {m : List (α × β)} {x : α} {y : β} (h : x ∉ m.map (·.1)) : putA m x y = m ++ [(x, y)] := by
  unfold putA
  rw [look_some_iff, if_neg (by simpa using h)]
theorem merge_new : ∀ (xs m : List (α × β)), ((m ++ xs).map (·.1)).Nodup → mergeA m xs = m ++ xs
  | [], m, _ => by simp [mergeA]
  | p :: xs, m, h => by
    show mergeA (putA m p.1 p.2) xs = _
    have h' : p.1 ∉ m.map (·.1) := fun z => by
      rw [List.map_append, List.map_cons] at h
      exact (List.nodup_append.mp h).2.2 p.1 z p.1 (by simp) rfl
    rw [put_new h', merge_new xs _ (by simpa using h)]
    simp
theorem merge_id {xs : List (α × β)} (h : (xs.map (·.1)).Nodup) : mergeA [] xs = xs := by
  have := merge_new xs [] (by simpa using h)
  simpa using this
theorem look_map {g : α → β} {xs : List α} {x : α} (h : x ∈ xs) : lookA (xs.map fun f => (f, g f)) x = some (g x) := by
  unfold lookA
  induction xs with
  | nil => cases h
  | cons y r ih =>
    rw [List.map_cons]
    by_cases e : y = x
    · subst e; rw [List.find?_cons_of_pos (by simp)]; rfl
    · rw [List.find?_cons_of_neg (by simpa using e)]
      exact ih (by rcases List.mem_cons.mp h with z | z; exact absurd z.symm e; exact z)
theorem look_mem {m : List (α × β)} (hn : (m.map (·.1)).Nodup) {p : α × β} (h : p ∈ m) : lookA m p.1 = some p.2 := by
  unfold lookA
  induction m with
  | nil => cases h
  | cons q r ih =>
    obtain ⟨n1, n2⟩ := List.nodup_cons.mp hn
    rcases List.mem_cons.mp h with e | h
    · subst e; rw [List.find?_cons_of_pos (by simp)]; rfl
    · have ne : ¬ q.1 = p.1 := fun e => n1 (List.mem_map.mpr ⟨p, h, e.symm⟩)
      rw [List.find?_cons_of_neg (by simpa using ne)]
      exact ih n2 h
end
/-! ### tables -/
section
variable {α : Type}
def tab (N : Nat) (T : Int → α) : List α := (rng 0 N).map T
theorem tab_len (N : Nat) (T : Int → α) : (tab N T).length = N := by unfold tab; rw [List.length_map, rng_len]
theorem tab_at {N : Nat} {T : Int → α} {k : Int} (h0 : 0 ≤ k) (h1 : k < N) : (tab N T)[k.toNat]? = some (T k) := by
  unfold tab rng
  rw [List.map_map, List.getElem?_map, List.getElem?_range (by omega)]
  show some (T (0 + (k.toNat : Int))) = _
  rw [show (0 : Int) + (k.toNat : Int) = k by omega]
theorem tab_get {N : Nat} {T : Int → α} {k : Int} (d : α) (h0 : 0 ≤ k) (h1 : k < N) : (tab N T).getD k.toNat d = T k := by rw [List.getD_eq_getElem?_getD, tab_at h0 h1]; rfl
theorem tab_atI {N : Nat} {T : Int → α} {k : Int} (h0 : 0 ≤ k) (h1 : k < N) : atI (tab N T) k = some (T k) := by
  rw [atI_of (T k) h0 (by rw [tab_len]; exact h1), tab_get _ h0 h1]
theorem tab_congr {N : Nat} {T T' : Int → α} (h : ∀ k : Int, 0 ≤ k → k < N → T k = T' k) : tab N T = tab N T' := by
  unfold tab
  exact List.map_congr_left fun k hk => by have := mem_rng.mp hk; exact h k this.1 this.2
theorem tab_set {N : Nat} {T : Int → α} {k : Int} (y : α) (h0 : 0 ≤ k) (h1 : k < N) : (tab N T).set k.toNat y = tab N (fun j => if j = k then y else T j) := by
  apply List.ext_getElem?
  intro i
  by_cases hi : i < N
  · have e : i = ((i : Nat) : Int).toNat := by omega
    by_cases hk : k.toNat = i
    · have ek : ((i : Nat) : Int) = k := by omega
      rw [hk, List.getElem?_set_self (by rw [tab_len]; exact hi)]
      rw [e, tab_at (k := (i : Int)) (by omega) (by omega), if_pos ek]
    · rw [List.getElem?_set_ne hk, e, tab_at (k := (i : Int)) (by omega) (by omega), tab_at (k := (i : Int)) (by omega) (by omega), if_neg (by omega)]
  · rw [List.getElem?_eq_none (by rw [List.length_set, tab_len]; omega), List.getElem?_eq_none (by rw [tab_len]; omega)]
theorem tab_const {β : Type} {xs : List β} {N : Nat} (h : xs.length = N) (c : α) : xs.map (fun _ => c) = tab N (fun _ => c) := by
  subst h
  unfold tab rng
  rw [List.map_map]
  induction xs with
  | nil => rfl
  | cons x r ih => rw [List.map_cons, ih, List.length_cons, List.range_succ_eq_map, List.map_cons, List.map_map]; rfl
end
theorem loudT_tab (s dues : List Int) : loudT s dues = tab (forms s).length fun m => tab s.length fun i => loudN s dues m i := rfl
theorem needT_tab (s dues : List Int) : needT s dues = tab (forms s).length fun m => (fld s).filter fun i => loudN s dues m i := rfl
theorem len_le_of_subset : ∀ {xs ys : List Int}, xs.Nodup → (∀ x ∈ xs, x ∈ ys) → xs.length ≤ ys.length
  | [], _, _, _ => Nat.zero_le _
  | x :: xs, ys, hn, h => by
    obtain ⟨n1, n2⟩ := List.nodup_cons.mp hn
    have := len_le_of_subset (xs := xs) (ys := ys.erase x) n2 fun y hy => (List.mem_erase_of_ne fun e => n1 (by rw [← e]; exact hy)).mpr (h y (by simp [hy]))
    rw [List.length_erase_of_mem (h x (by simp))] at this
    have : 0 < ys.length := List.length_pos_of_mem (h x (by simp))
    rw [List.length_cons]
    omega
theorem len_in {n : Nat} {xs : List Int} (hn : xs.Nodup) (h : ∀ i ∈ xs, 0 ≤ i ∧ i < n) : xs.length ≤ n := by
  have := len_le_of_subset hn (fun x hx => mem_rng.mpr (h x hx))
  rwa [rng_len] at this
/-! ### numbers -/
theorem bits_at {i : Int} (h0 : 0 ≤ i) (h1 : i < 8) : atI [1, 2, 4, 8, 16, 32, 64, 128] i = some (bitN i) := atI_of 0 h0 (by simpa using h1)
theorem num_pre {s : List Int} (hs : s ∈ SZ) {pre suf : List Form} {x : Form} (e : forms s = pre ++ x :: suf) : num s x = (pre.length : Int) ∧ pre.length < (forms s).length := by
  have h := fc_num s hs
  have h1 : (forms s).length = pre.length + (suf.length + 1) := by rw [e]; simp
  refine ⟨?_, by omega⟩
  have h2 : ((forms s).map (num s))[pre.length]? = some (num s x) := by rw [e]; simp
  rw [h] at h2
  have := (rng_get h2).2
  omega
theorem num_in {s : List Int} (hs : s ∈ SZ) {x : Form} (hx : x ∈ forms s) : 0 ≤ num s x ∧ num s x < (forms s).length := by
  obtain ⟨pre, suf, e⟩ := List.append_of_mem hx
  obtain ⟨h1, h2⟩ := num_pre hs e
  omega
theorem form_of {s : List Int} (hs : s ∈ SZ) {m : Int} (h0 : 0 ≤ m) (h1 : m < (forms s).length) : ∃ x ∈ forms s, num s x = m := by
  have h := fc_num s hs
  have : m ∈ (forms s).map (num s) := by rw [h]; exact mem_rng.mpr ⟨h0, h1⟩
  obtain ⟨x, hx, e⟩ := List.mem_map.mp this
  exact ⟨x, hx, e⟩
/-- facts of one line start -/
theorem low_facts {s : List Int} (hs : s ∈ SZ) {m i : Int} (m0 : 0 ≤ m) (m1 : m < (forms s).length) (i0 : 0 ≤ i) (i1 : i < s.length) :
    (0 ≤ low s m i ∧ low s m i ≤ m ∧ dig s (low s m i) i = 0 ∧ lineN s (low s m i) i = lineN s m i ∧ m ∈ lineN s m i) ∧ (lineN s m i).Nodup ∧ ∀ k ∈ lineN s m i, (0 ≤ k ∧ k < (forms s).length) ∧ low s k i = low s m i := by
  obtain ⟨h1, h2, h3⟩ := fc_low s hs m (mem_rng.mpr ⟨m0, m1⟩) i (mem_rng.mpr ⟨i0, i1⟩)
  exact ⟨h1, h2, fun k hk => ⟨mem_rng.mp (h3 k hk).1, (h3 k hk).2⟩⟩
theorem low_self {s : List Int} {m i : Int} (h : dig s m i = 0) : low s m i = m := by unfold low; rw [h]; omega
theorem line_self {s : List Int} {m i : Int} (h : dig s m i = 0) : lineN s m i = (rng 0 (szN s i).toNat).map fun v => m + v * stN s i := by unfold lineN; rw [low_self h]
/-- who lies on the line that starts at m -/
theorem on_line {s : List Int} (hs : s ∈ SZ) {m k i : Int} (m0 : 0 ≤ m) (m1 : m < (forms s).length) (k0 : 0 ≤ k) (k1 : k < (forms s).length) (i0 : 0 ≤ i) (i1 : i < s.length) (hd : dig s m i = 0) : k ∈ lineN s m i ↔ low s k i = m := by
  obtain ⟨_, _, h3⟩ := low_facts hs m0 m1 i0 i1
  obtain ⟨⟨_, _, _, g4, g5⟩, _, _⟩ := low_facts hs k0 k1 i0 i1
  constructor
  · intro hk
    rw [(h3 k hk).2, low_self hd]
  · intro e
    rw [← e, g4]; exact g5
theorem loud_low {s : List Int} (hs : s ∈ SZ) (dues : List Int) {k i : Int} (k0 : 0 ≤ k) (k1 : k < (forms s).length) (i0 : 0 ≤ i) (i1 : i < s.length) : loudN s dues (low s k i) i = loudN s dues k i := by
  obtain ⟨⟨_, _, _, g4, _⟩, _⟩ := low_facts hs k0 k1 i0 i1
  unfold loudN
  rw [g4]
theorem st_facts {s : List Int} (hs : s ∈ SZ) {i : Int} (i0 : 0 ≤ i) (i1 : i < s.length) : (2 ≤ szN s i ∧ szN s i ≤ 3) ∧ 1 ≤ stN s i ∧ stN s i ≤ 27 := (fc_small s hs).2.2.2.2 i (mem_rng.mpr ⟨i0, i1⟩)
theorem steps_l {s : List Int} (hs : s ∈ SZ) : (steps s).length = s.length := (fc_small s hs).2.2.2.1
theorem sz_n {s : List Int} (hs : s ∈ SZ) : 2 ≤ s.length ∧ s.length ≤ 4 := (fc_small s hs).1
theorem sz_N {s : List Int} (hs : s ∈ SZ) : 4 ≤ (forms s).length ∧ (forms s).length ≤ 27 := (fc_small s hs).2.1
/-! ### files -/
def okF (s : List Int) : Int → File → Bool
  | _, [] => true
  | u, (i, v) :: r => decide (u < i) && decide (i < s.length) && decide (0 ≤ v) && decide (v < szN s i) && okF s i r
theorem fc_okF : ∀ s ∈ SZ, ∀ f ∈ files s, okF s (-1) f = true := by decide +kernel
theorem file_nodup {s : List Int} (hs : s ∈ SZ) {f : File} (hf : f ∈ files s) : (f.map (·.1)).Nodup := ((fc_files s hs).2.2 f hf).1
theorem file_in {s : List Int} (hs : s ∈ SZ) {f : File} (hf : f ∈ files s) {p : Int × Int} (hp : p ∈ f) : (0 ≤ p.1 ∧ p.1 < s.length) ∧ 0 ≤ p.2 ∧ p.2 < szN s p.1 := by
  obtain ⟨h1, h2⟩ := ((fc_files s hs).2.2 f hf).2.2 p hp
  exact ⟨mem_rng.mp h1, h2⟩
theorem box_in {s : List Int} (hs : s ∈ SZ) {f : File} (hf : f ∈ files s) {m : Int} (hm : m ∈ boxN s f) : 0 ≤ m ∧ m < (forms s).length := by
  rw [fc_box s hs f hf] at hm
  obtain ⟨x, hx, e⟩ := List.mem_map.mp hm
  rw [← e]
  exact num_in hs (List.mem_filter.mp hx).1
theorem fc_boxlen : ∀ s ∈ SZ, ∀ f ∈ files s, 0 < (boxN s f).length ∧ (boxN s f).length ≤ 27 := by decide +kernel
theorem fileOf_in {s : List Int} (hs : s ∈ SZ) {t : Form} (ht : t ∈ forms s) (K : List Int) : fileOf s.length t K ∈ files s := fc_file s hs t ht _ (fl_subl _ _)
theorem keys_fileOf {n : Nat} {t : Form} {K : List Int} {i : Int} (i0 : 0 ≤ i) (i1 : i < n) : i ∈ (fileOf n t K).map (·.1) ↔ i ∈ K := by
  unfold fileOf
  rw [List.map_map]
  have : ((fun x : Int × Int => x.1) ∘ fun i => (i, vx t i)) = id := rfl
  rw [this, List.map_id, mem_fl]
  exact ⟨fun h => h.2, fun h => ⟨⟨i0, i1⟩, h⟩⟩
/-! ### masks -/
theorem mask_fl {n : Nat} (hn : n ≤ 4) : ∀ (K : List Int), (∀ i ∈ K, 0 ≤ i ∧ i < n) → maskOf K = maskOf (fl n K) := by
  have key : ∀ (K L : List Int), (∀ i ∈ K, 0 ≤ i ∧ i < n) → K.foldl (fun m i => Builtin.bitOr m (bitN i)) (maskOf (fl n L)) = maskOf (fl n (L ++ K)) := fun K => by
    induction K with
    | nil => intro L _; simp
    | cons i K ih =>
      intro L h
      obtain ⟨i0, i1⟩ := h i (by simp)
      have := fm_or ⟨n, by omega⟩ (fl n L) (fl_subl n L) i (mem_rng.mpr ⟨i0, i1⟩)
      dsimp only at this
      rw [List.foldl_cons, this, fl_fl, ih (L ++ [i]) fun j hj => h j (by simp [hj])]
      simp
  intro K h
  have := key K [] h
  have e : fl n [] = [] := by unfold fl; simp
  rw [e] at this
  simpa [maskOf] using this
theorem mask_snoc {n : Nat} (hn : n ≤ 4) (K : List Int) {i : Int} (i0 : 0 ≤ i) (i1 : i < n) : Builtin.bitOr (maskOf (fl n K)) (bitN i) = maskOf (fl n (K ++ [i])) := by
  have := fm_or ⟨n, by omega⟩ (fl n K) (fl_subl n K) i (mem_rng.mpr ⟨i0, i1⟩)
  rw [this, fl_fl]
theorem mask_bit {n : Nat} (hn : n ≤ 4) (K : List Int) {i : Int} (i0 : 0 ≤ i) (i1 : i < n) : decide (Builtin.bitAnd (maskOf (fl n K)) (bitN i) = 0) = decide (i ∉ K) := by
  have := fm_bit ⟨n, by omega⟩ (fl n K) (fl_subl n K) i (mem_rng.mpr ⟨i0, i1⟩)
  rw [this, decide_eq_decide, mem_fl]
  exact ⟨fun h z => h ⟨⟨i0, i1⟩, z⟩, fun h z => h z.2⟩
theorem filter_fl {n : Nat} (p : Int → Bool) : (rng 0 n).filter p = fl n ((rng 0 n).filter p) := by
  unfold fl
  refine List.filter_congr fun i hi => ?_
  rw [Bool.eq_iff_iff, decide_eq_true_iff, List.mem_filter]
  exact ⟨fun h => ⟨hi, h⟩, fun h => h.2⟩
theorem near_eq {s : List Int} (hs : s ∈ SZ) (t x : Form) {i : Int} (i0 : 0 ≤ i) (i1 : i < s.length) : nearM s t x i = maskOf (fl s.length (((fld s).filter fun j => decide (vx x j = vx t j)) ++ [i])) := by
  unfold nearM
  conv => lhs; rw [show (fld s).filter (fun j => decide (vx x j = vx t j)) = fl s.length ((fld s).filter fun j => decide (vx x j = vx t j)) from filter_fl _]
  exact mask_snoc (sz_n hs).2 _ i0 i1
theorem near_and {s : List Int} (hs : s ∈ SZ) (t x : Form) (K : List Int) {i : Int} (i0 : 0 ≤ i) (i1 : i < s.length) :
    decide (Builtin.bitAnd (maskOf (fl s.length K)) (nearM s t x i) = maskOf (fl s.length K)) = (fl s.length K).all fun j => decide (j = i) || decide (vx x j = vx t j) := by
  rw [near_eq hs t x i0 i1]
  have := fm_and ⟨s.length, by have := sz_n hs; omega⟩ (fl s.length K) (fl_subl _ K) _ (fl_subl s.length (((fld s).filter fun j => decide (vx x j = vx t j)) ++ [i]))
  rw [this, Bool.eq_iff_iff, List.all_eq_true, List.all_eq_true]
  refine forall_congr' fun j => forall_congr' fun hj => ?_
  obtain ⟨⟨j0, j1⟩, _⟩ := mem_fl.mp hj
  rw [decide_eq_true_iff, mem_fl, List.mem_append, List.mem_filter, Bool.or_eq_true, decide_eq_true_iff, decide_eq_true_iff, List.mem_singleton]
  constructor
  · rintro ⟨_, h | h⟩
    · exact .inr h.2
    · exact .inl h
  · rintro (h | h)
    · exact ⟨⟨j0, j1⟩, .inr h⟩
    · exact ⟨⟨j0, j1⟩, .inl ⟨mem_rng.mpr ⟨j0, j1⟩, h⟩⟩
theorem hangM_eq {s : List Int} (hs : s ∈ SZ) {dues : List Int} {t : Form} (ht : t ∈ forms s) {K : List Int} {i : Int} (i0 : 0 ≤ i) (i1 : i < s.length) (hi : i ∉ K) : hangM s dues t K i = hangB s dues t K i := by
  rw [Bool.eq_iff_iff, hang_iff hs ht i0 i1]
  unfold hangM
  rw [List.any_eq_true]
  constructor
  · rintro ⟨x, hx, h⟩
    obtain ⟨h1, h2⟩ := Bool.and_eq_true_iff.mp h
    refine ⟨x, ⟨hx, fun j hj a b => ?_⟩, (loud_iff hs dues hx i0 i1).mp h1⟩
    have := List.all_eq_true.mp h2 j (mem_fl.mpr ⟨⟨a, b⟩, hj⟩)
    rcases Bool.or_eq_true_iff.mp this with e | e
    · exact absurd (by rw [← of_decide_eq_true e]; exact hj) hi
    · exact of_decide_eq_true e
  · rintro ⟨x, ⟨hx, h2⟩, hl⟩
    refine ⟨x, hx, Bool.and_eq_true_iff.mpr ⟨(loud_iff hs dues hx i0 i1).mpr hl, List.all_eq_true.mpr fun j hj => ?_⟩⟩
    obtain ⟨⟨a, b⟩, c⟩ := mem_fl.mp hj
    exact Bool.or_eq_true_iff.mpr (.inr (decide_eq_true (h2 j c a b)))
theorem view_hang {s dues : List Int} {t : Form} {v : Int × List (List Int)} (hv : ViewOk s dues t v) (hs : s ∈ SZ) (K : List Int) {i : Int} (i0 : 0 ≤ i) (i1 : i < s.length) :
    (v.2.getD i.toNat []).any (fun k => decide (Builtin.bitAnd (maskOf (fl s.length K)) k = maskOf (fl s.length K))) = hangM s dues t K i := by
  unfold hangM
  rw [Bool.eq_iff_iff, List.any_eq_true, List.any_eq_true]
  constructor
  · rintro ⟨k, hk, h⟩
    obtain ⟨x, hx, hl, e⟩ := (hv.m i i0 i1 k).mp hk
    subst e
    rw [near_and hs t x K i0 i1] at h
    exact ⟨x, hx, Bool.and_eq_true_iff.mpr ⟨hl, h⟩⟩
  · rintro ⟨x, hx, h⟩
    obtain ⟨h1, h2⟩ := Bool.and_eq_true_iff.mp h
    refine ⟨nearM s t x i, (hv.m i i0 i1 _).mpr ⟨x, hx, h1, rfl⟩, ?_⟩
    rw [near_and hs t x K i0 i1]; exact h2
/-- what is settled, by hanging -/
theorem settled_hang {s : List Int} {dues : List Int} {t : Form} {K : List Int} : settledN s dues (fileOf s.length t K) = (fld s).filter fun i => decide (i ∈ K) || !hangB s dues t K i := by
  unfold settledN
  refine List.filter_congr fun i hi => ?_
  obtain ⟨a, b⟩ := mem_rng.mp hi
  congr 1
  rw [decide_eq_decide]
  exact keys_fileOf a b
theorem settled_matters {s : List Int} (dues : List Int) (f : File) : ((fld s).filter fun i => !decide (i ∈ mattersN s dues f)) = settledN s dues f := by
  unfold settledN mattersN
  refine List.filter_congr fun i hi => ?_
  rw [Bool.eq_iff_iff, Bool.not_eq_true', decide_eq_false_iff_not, List.mem_filter, Bool.or_eq_true, Bool.and_eq_true, decide_eq_true_iff, decide_eq_true_iff, Bool.not_eq_true']
  constructor
  · intro h
    by_cases h1 : i ∈ f.map (·.1)
    · exact .inl h1
    · right
      cases e : hangF s dues f i with
      | false => rfl
      | true => exact absurd ⟨hi, h1, e⟩ h
  · rintro (h | h) ⟨_, h2, h3⟩
    · exact h2 h
    · rw [h] at h3; cases h3
end WM

set_option Elab.async false
set_option linter.all false
set_option maxRecDepth 100000
/-! WW: further helps: loops of the world's defs, what is sure, orders. Own work. -/
namespace WM
open PySem PySem.Spec L2 SS MM
theorem cdiv_of {m t : Int} (h0 : 1 ≤ t) (h1 : t ≤ 1000) : CDivN m t := ⟨by omega, by omega⟩
theorem getD_set {α : Type} {xs : List α} {i k : Int} {y d : α} (i0 : 0 ≤ i) (k0 : 0 ≤ k) (k1 : k < xs.length) : (xs.set k.toNat y).getD i.toNat d = if i = k then y else xs.getD i.toNat d := by
  by_cases e : i = k
  · subst e
    rw [if_pos rfl, List.getD_eq_getElem?_getD, List.getElem?_set_self (by omega)]; rfl
  · rw [if_neg e, List.getD_eq_getElem?_getD, List.getElem?_set_ne (by omega), ← List.getD_eq_getElem?_getD]
theorem subl_sub : ∀ {xs L : List Int}, L ∈ subl xs → L.Sublist xs
  | [], L, h => by simp [subl] at h; subst h; exact .refl _
  | x :: xs, L, h => by
    unfold subl at h
    rcases List.mem_append.mp h with h | h
    · exact (subl_sub h).cons x
    · obtain ⟨M, hM, e⟩ := List.mem_map.mp h
      rw [← e]; exact (subl_sub hM).cons₂ x
theorem subl_fl {n : Nat} {K : List Int} (h : K ∈ subl (rng 0 n)) : fl n K = K := by
  have hs := subl_sub h
  exact sorted_uniq (fl_sorted _ _) ((rng_sorted n).sublist hs) fun x => by
    rw [mem_fl]
    exact ⟨fun z => z.2, fun z => ⟨mem_rng.mp (hs.subset z), z⟩⟩
theorem full_mem {n : Nat} {xs : List Int} (hn : xs.Nodup) (h : ∀ i ∈ xs, 0 ≤ i ∧ i < n) (hl : xs.length = n) {i : Int} (i0 : 0 ≤ i) (i1 : i < n) : i ∈ xs := by
  refine Classical.byContradiction fun z => ?_
  have := len_in (n := n) (xs := i :: xs) (List.nodup_cons.mpr ⟨z, hn⟩) (fun j hj => by
    rcases List.mem_cons.mp hj with e | e
    · rw [e]; exact ⟨i0, i1⟩
    · exact h j e)
  rw [List.length_cons] at this
  omega
theorem find_range {p : Nat → Bool} {k n : Nat} (hk : k < n) (h1 : p k = true) (h0 : ∀ j, j < k → p j = false) : (List.range n).find? p = some k := by
  rw [List.find?_eq_some_iff_append]
  refine ⟨h1, List.range k, (List.range (n - k - 1)).map (k + 1 + ·), ?_, fun j hj => by rw [h0 j (List.mem_range.mp hj)]; rfl⟩
  have e : n = k + (1 + (n - k - 1)) := by omega
  conv => lhs; rw [e, List.range_add]
  congr 1
  rw [List.range_add, List.map_append]
  simp only [List.range_one, List.map_cons, List.map_nil, Nat.add_zero, List.map_map, List.singleton_append]
  congr 1
  apply List.map_congr_left
  intro j _
  show k + (1 + j) = k + 1 + j
  omega
theorem perm_erase {α : Type} : ∀ {xs : List α} {k : Nat} {x : α}, xs[k]? = some x → (x :: xs.eraseIdx k).Perm xs
  | [], _, _, h => by simp at h
  | y :: ys, 0, x, h => by simp at h; subst h; exact .refl _
  | y :: ys, k + 1, x, h => by
    have := perm_erase (xs := ys) (k := k) (x := x) (by simpa using h)
    exact (List.Perm.swap _ _ _).trans (this.cons y)
theorem len_erase {α : Type} {xs : List α} {k : Nat} {x : α} (h : xs[k]? = some x) : (xs.eraseIdx k).length + 1 = xs.length := by
  have := (perm_erase h).length_eq
  simpa using this
theorem sum_foldl (g : Int → Int) : ∀ (xs : List Int) (a : Int), xs.foldl (fun n i => n + g i) a = a + (xs.map g).sum
  | [], a => by simp
  | x :: xs, a => by rw [List.foldl_cons, sum_foldl g xs, List.map_cons, List.sum_cons]; omega
theorem num_sum (s : List Int) (x : Form) : num s x = ((fld s).map fun i => vx x i * stN s i).sum := by
  exact (sum_foldl (fun i => vx x i * stN s i) (fld s) 0).trans (Int.zero_add _)
theorem filter_one {n : Nat} {y : Int} (h0 : 0 ≤ y) (h1 : y < n) : (rng 0 n).filter (fun v => decide (y = v)) = [y] := by
  refine sorted_uniq ((rng_sorted n).filter _) (by simp) fun v => ?_
  rw [List.mem_filter, mem_rng, decide_eq_true_iff, List.mem_singleton]
  exact ⟨fun h => h.2.symm, fun h => by subst h; exact ⟨⟨h0, h1⟩, rfl⟩⟩
/-! ### loops that make boxes and files -/
theorem fc_boxpre : ∀ s ∈ SZ, ∀ f ∈ files s, ∀ k : Fin 5, (((fld s).take k).foldl (boxStep s f) [0]).length ≤ 27 := by decide +kernel
theorem fc_filepre : ∀ s ∈ SZ, ∀ k : Fin 5, (((fld s).take k).foldl (fileStep s) [[]]).length ≤ 81 ∧ ∀ f ∈ ((fld s).take k).foldl (fileStep s) [[]], f.length ≤ 4 := by decide +kernel
theorem pre_take {s : List Int} {pre suf : List Int} {x : Int} (e : rng 0 s.length = pre ++ x :: suf) : pre = (fld s).take pre.length := by unfold fld; rw [e]; simp
theorem box_pre {s : List Int} (hs : s ∈ SZ) {f : File} (hf : f ∈ files s) {pre suf : List Int} {x : Int} (e : rng 0 s.length = pre ++ x :: suf) : (pre.foldl (boxStep s f) [0]).length ≤ 27 := by
  have hl := (rng_mem e).2.1
  have := fc_boxpre s hs f hf ⟨pre.length, by have := sz_n hs; omega⟩
  dsimp only at this
  rwa [← pre_take e] at this
theorem file_pre {s : List Int} (hs : s ∈ SZ) {pre suf : List Int} {x : Int} (e : rng 0 s.length = pre ++ x :: suf) : (pre.foldl (fileStep s) [[]]).length ≤ 81 ∧ ∀ f ∈ pre.foldl (fileStep s) [[]], f.length ≤ 4 := by
  have hl := (rng_mem e).2.1
  have := fc_filepre s hs ⟨pre.length, by have := sz_n hs; omega⟩
  dsimp only at this
  rwa [← pre_take e] at this
theorem vals_len {s : List Int} (hs : s ∈ SZ) (f : File) {i : Int} (i0 : 0 ≤ i) (i1 : i < s.length) : (valsN s f i).length ≤ 3 := by
  have := st_facts hs i0 i1
  unfold valsN
  split
  · simp
  · rw [rng_len]; omega
theorem flat_len {α β : Type} {g : α → List β} {c : Nat} : ∀ (xs : List α), (∀ x ∈ xs, (g x).length ≤ c) → (xs.flatMap g).length ≤ xs.length * c
  | [], _ => by simp
  | x :: xs, h => by
    rw [List.flatMap_cons, List.length_append, List.length_cons, Nat.add_mul, Nat.one_mul]
    have := flat_len xs fun y hy => h y (by simp [hy])
    have := h x (by simp)
    omega
/-- the look-up of a file at a field, and what it lets -/
theorem vals_filter {s : List Int} (hs : s ∈ SZ) {f : File} (hf : f ∈ files s) {i : Int} : ((rng 0 (szN s i).toNat).filter fun v => decide ((lookA f i).getD v = v)) = valsN s f i := by
  unfold valsN
  cases h : lookA f i with
  | none => exact List.filter_eq_self.mpr (by simp)
  | some y =>
    have hm : ∃ p ∈ f, p.1 = i ∧ p.2 = y := by
      unfold lookA at h
      cases q : f.find? (fun p => decide (p.1 = i)) with
      | none => rw [q] at h; cases h
      | some p =>
        rw [q] at h
        exact ⟨p, List.mem_of_find?_eq_some q, by simpa using List.find?_some q, by simpa using h⟩
    obtain ⟨p, hp, e1, e2⟩ := hm
    obtain ⟨_, h2, h3⟩ := file_in hs hf hp
    rw [e1] at h3
    exact filter_one (by omega) (by omega)
theorem fc_low_box : ∀ s ∈ SZ, ∀ f ∈ files s, ∀ m ∈ boxN s f, ∀ i ∈ fld s, i ∉ f.map (·.1) → low s m i ∈ boxN s f := by decide +kernel
theorem has_loud_eq {s : List Int} (hs : s ∈ SZ) {f : File} (hf : f ∈ files s) (dues : List Int) {i : Int} (i0 : 0 ≤ i) (i1 : i < s.length) (hi : i ∉ f.map (·.1)) :
    ((boxN s f).any fun m => decide (dig s m i = 0) && loudN s dues m i) = hangF s dues f i := by
  unfold hangF
  rw [Bool.eq_iff_iff, List.any_eq_true, List.any_eq_true]
  constructor
  · rintro ⟨m, hm, h⟩
    exact ⟨m, hm, (Bool.and_eq_true_iff.mp h).2⟩
  · rintro ⟨m, hm, h⟩
    obtain ⟨m0, m1⟩ := box_in hs hf hm
    obtain ⟨⟨_, _, g3, _⟩, _⟩ := low_facts hs m0 m1 i0 i1
    exact ⟨low s m i, fc_low_box s hs f hf m hm i (mem_rng.mpr ⟨i0, i1⟩) hi, Bool.and_eq_true_iff.mpr ⟨decide_eq_true g3, by rw [loud_low hs dues m0 m1 i0 i1]; exact h⟩⟩
/-! ### what is sure -/
theorem sure_iff {s : List Int} (hs : s ∈ SZ) {dues : List Int} {t : Form} (ht : t ∈ forms s) {K : List Int} : sureAt s dues t K = true ↔ ∀ i : Int, 0 ≤ i → i < s.length → Stl s dues t K i := by
  unfold sureAt
  rw [decide_eq_true_iff]
  constructor
  · intro e i i0 i1
    have : i ∈ settledN s dues (fileOf s.length t K) := by rw [e]; exact mem_rng.mpr ⟨i0, i1⟩
    exact ((stlN_iff hs ht).mp this).2
  · intro h
    unfold settledN
    refine List.filter_eq_self.mpr fun i hi => ?_
    have hm : i ∈ settledN s dues (fileOf s.length t K) := (stlN_iff hs ht).mpr ⟨mem_rng.mp hi, h i (mem_rng.mp hi).1 (mem_rng.mp hi).2⟩
    exact (List.mem_filter.mp hm).2
theorem same_all {dues : List Int} {ks : List Int} : sameN dues ks = true ↔ ∀ a ∈ ks, ∀ b ∈ ks, dueN dues a = dueN dues b := by
  unfold sameN
  rw [List.all_eq_true]
  constructor
  · intro h a ha b hb
    exact (of_decide_eq_true (h a ha)).trans (of_decide_eq_true (h b hb)).symm
  · intro h a ha
    have hl := List.length_pos_of_mem ha
    refine decide_eq_true (h a ha _ ?_)
    rw [List.getD_eq_getElem?_getD, List.getElem?_eq_getElem hl]
    exact List.getElem_mem hl
theorem self_in {s : List Int} {t : Form} (ht : t ∈ forms s) (K : List Int) : InB s t t K := ⟨ht, fun _ _ _ _ => rfl⟩
theorem sure_same {s : List Int} (hs : s ∈ SZ) (dues : List Int) {t : Form} (ht : t ∈ forms s) (K : List Int) : sameN dues (boxN s (fileOf s.length t K)) = sureAt s dues t K := by
  rw [Bool.eq_iff_iff, sure_iff hs ht, stl_all hs ht, same_all]
  constructor
  · intro h x hx
    exact h _ ((box_iff hs ht).mpr ⟨x, hx.1, rfl, hx.2⟩) _ ((box_iff hs ht).mpr ⟨t, ht, rfl, fun _ _ _ _ => rfl⟩)
  · intro h a ha b hb
    obtain ⟨x, x1, x2, x3⟩ := (box_iff hs ht).mp ha
    obtain ⟨y, y1, y2, y3⟩ := (box_iff hs ht).mp hb
    subst x2 y2
    exact (h x ⟨x1, x3⟩).trans (h y ⟨y1, y3⟩).symm
theorem sure_full {s : List Int} (hs : s ∈ SZ) {dues : List Int} {t : Form} (ht : t ∈ forms s) {K : List Int} (hn : K.Nodup) (h : ∀ i ∈ K, 0 ≤ i ∧ i < s.length) (hl : K.length = s.length) : sureAt s dues t K = true :=
  (sure_iff hs ht).mpr fun i i0 i1 => .inl (full_mem hn h hl i0 i1)
/-- the first number of fields that settle all -/
structure FirstOk (s dues : List Int) (t : Form) (order : List Int) (k : Nat) : Prop where
  le : k ≤ order.length
  sure : sureAt s dues t (order.take k) = true
  least : ∀ j, j < k → sureAt s dues t (order.take j) = false
theorem first_of {s dues : List Int} {t : Form} {order : List Int} {k : Nat} (h : FirstOk s dues t order k) : firstSure s dues t order = (k : Int) := by
  unfold firstSure
  rw [find_range (by have := h.le; omega) h.sure h.least]
  rfl
theorem first_ok {s : List Int} (hs : s ∈ SZ) {dues : List Int} {t : Form} (ht : t ∈ forms s) {order : List Int} (hn : order.Nodup) (h : ∀ i ∈ order, 0 ≤ i ∧ i < s.length) (hl : order.length = s.length) : ∃ k, FirstOk s dues t order k := by
  have hfull : sureAt s dues t (order.take order.length) = true := by rw [List.take_length]; exact sure_full hs ht hn h hl
  have key : ∀ n : Nat, n ≤ order.length → (∃ k, k < n ∧ FirstOk s dues t order k) ∨ (∀ j, j < n → sureAt s dues t (order.take j) = false) := by
    intro n
    induction n with
    | zero => intro _; exact .inr fun j hj => by omega
    | succ n ih =>
      intro hle
      rcases ih (by omega) with ⟨k, hk, hf⟩ | hno
      · exact .inl ⟨k, by omega, hf⟩
      · cases e : sureAt s dues t (order.take n) with
        | true => exact .inl ⟨n, by omega, by omega, e, hno⟩
        | false =>
          refine .inr fun j hj => ?_
          rcases Nat.lt_or_ge j n with z | z
          · exact hno j z
          · rw [show j = n by omega]; exact e
  rcases key order.length (Nat.le_refl _) with ⟨k, _, hf⟩ | hno
  · exact ⟨k, hf⟩
  · exact ⟨_, Nat.le_refl _, hfull, hno⟩
/-! ### orders -/
theorem fc_orders : ∀ n : Fin 5, (∀ k : Fin 5, k.1 ≤ n.1 → ((List.range k).foldl (fun os _ => wideOrd os ((n : Nat) : Int)) [[]]).length ≤ 24 ∧ ∀ o ∈ (List.range k).foldl (fun os _ => wideOrd os ((n : Nat) : Int)) [[]], o.length = k.1) ∧
    ∀ o ∈ orders ((n : Nat) : Int), o.Nodup ∧ o.length = n.1 ∧ ∀ i ∈ o, 0 ≤ i ∧ i < ((n : Nat) : Int) := by decide +kernel
end WM

set_option Elab.async false
set_option linter.all false
set_option maxRecDepth 100000
/-! WX: the meets of a view, made form by form; masks of what is settled. Own work. -/
namespace WM
open PySem PySem.Spec L2 SS MM
structure MeetOk (s dues : List Int) (t : Form) (pre : List Form) (m : List (List Int)) : Prop where
  l : m.length = s.length
  m : ∀ i : Int, 0 ≤ i → i < s.length → (∀ k, k ∈ m.getD i.toNat [] ↔ ∃ x ∈ pre, loudN s dues (num s x) i = true ∧ k = nearM s t x i) ∧ (m.getD i.toNat []).length ≤ pre.length
structure MeetIn (s dues : List Int) (t : Form) (pre : List Form) (x : Form) (q : List Int) (m : List (List Int)) : Prop where
  l : m.length = s.length
  m : ∀ i : Int, 0 ≤ i → i < s.length → (∀ k, k ∈ m.getD i.toNat [] ↔ (∃ x ∈ pre, loudN s dues (num s x) i = true ∧ k = nearM s t x i) ∨ (i ∈ q ∧ k = nearM s t x i)) ∧ (m.getD i.toNat []).length ≤ pre.length + if i ∈ q then 1 else 0
theorem MeetOk.zero (s dues : List Int) (t : Form) : MeetOk s dues t [] (tab s.length fun _ => []) := ⟨tab_len _ _, fun i i0 i1 => by
  rw [tab_get [] i0 i1]
  exact ⟨fun k => by simp, by simp⟩⟩
theorem MeetOk.begin {s dues : List Int} {t : Form} {pre : List Form} {m : List (List Int)} (h : MeetOk s dues t pre m) (x : Form) : MeetIn s dues t pre x [] m := ⟨h.l, fun i i0 i1 => by
  obtain ⟨h1, h2⟩ := h.m i i0 i1
  exact ⟨fun k => by rw [h1 k]; simp, by simpa using h2⟩⟩
theorem MeetIn.keep {s dues : List Int} {t : Form} {pre : List Form} {x : Form} {q : List Int} {m : List (List Int)} (h : MeetIn s dues t pre x q m) {i : Int} (i0 : 0 ≤ i) (i1 : i < s.length) (hk : nearM s t x i ∈ m.getD i.toNat []) : MeetIn s dues t pre x (q ++ [i]) m := ⟨h.l, fun j j0 j1 => by
  obtain ⟨h1, h2⟩ := h.m j j0 j1
  refine ⟨fun k => ?_, ?_⟩
  · rw [h1 k]
    constructor
    · rintro (z | z)
      · exact .inl z
      · exact .inr ⟨by simp [z.1], z.2⟩
    · rintro (z | ⟨z, w⟩)
      · exact .inl z
      · rcases List.mem_append.mp z with z | z
        · exact .inr ⟨z, w⟩
        · rw [List.mem_singleton] at z
          subst z
          exact (h1 k).mp (by rw [w]; exact hk)
  · refine Nat.le_trans h2 ?_
    by_cases z : j ∈ q
    · rw [if_pos z, if_pos (by simp [z])]; exact Nat.le_refl _
    · rw [if_neg z]; omega⟩
theorem MeetIn.add {s dues : List Int} {t : Form} {pre : List Form} {x : Form} {q : List Int} {m : List (List Int)} (h : MeetIn s dues t pre x q m) {i : Int} (i0 : 0 ≤ i) (i1 : i < s.length) (hq : i ∉ q) : MeetIn s dues t pre x (q ++ [i]) (m.set i.toNat (m.getD i.toNat [] ++ [nearM s t x i])) := ⟨by rw [List.length_set]; exact h.l, fun j j0 j1 => by
  obtain ⟨h1, h2⟩ := h.m j j0 j1
  rw [getD_set j0 i0 (by rw [h.l]; exact i1)]
  by_cases e : j = i
  · subst e
    rw [if_pos rfl]
    rw [if_neg hq] at h2
    refine ⟨fun k => ?_, ?_⟩
    · rw [List.mem_append, h1 k, List.mem_singleton]
      constructor
      · rintro ((z | z) | z)
        · exact .inl z
        · exact absurd z.1 hq
        · exact .inr ⟨by simp, z⟩
      · rintro (z | z)
        · exact .inl (.inl z)
        · exact .inr z.2
    · rw [List.length_append, if_pos (by simp)]
      simp only [List.length_cons, List.length_nil]
      omega
  · rw [if_neg e]
    have hm : j ∈ q ++ [i] ↔ j ∈ q := by simp [e]
    refine ⟨fun k => by rw [h1 k, hm], by simp only [hm]; exact h2⟩⟩
theorem MeetIn.done {s dues : List Int} {t : Form} {pre : List Form} {x : Form} {m : List (List Int)} (h : MeetIn s dues t pre x ((fld s).filter fun i => loudN s dues (num s x) i) m) : MeetOk s dues t (pre ++ [x]) m := ⟨h.l, fun j j0 j1 => by
  obtain ⟨h1, h2⟩ := h.m j j0 j1
  refine ⟨fun k => ?_, ?_⟩
  · rw [h1 k]
    constructor
    · rintro (⟨y, y1, y2⟩ | ⟨y1, y2⟩)
      · exact ⟨y, by simp [y1], y2⟩
      · exact ⟨x, by simp, (List.mem_filter.mp y1).2, y2⟩
    · rintro ⟨y, y1, y2, y3⟩
      rcases List.mem_append.mp y1 with z | z
      · exact .inl ⟨y, z, y2, y3⟩
      · rw [List.mem_singleton] at z
        subst z
        exact .inr ⟨List.mem_filter.mpr ⟨mem_rng.mpr ⟨j0, j1⟩, y2⟩, y3⟩
  · rw [List.length_append]
    simp only [List.length_cons, List.length_nil]
    split at h2 <;> omega⟩
theorem MeetOk.view {s dues : List Int} (hs : s ∈ SZ) {t : Form} {m : List (List Int)} (h : MeetOk s dues t (forms s) m) : ViewOk s dues t ((s.length : Int), m) :=
  ⟨rfl, h.l, fun i i0 i1 k => (h.m i i0 i1).1 k, fun i i0 i1 => by have := (h.m i i0 i1).2; have := sz_N hs; show (m.getD i.toNat []).length ≤ 1000; omega⟩
theorem settled_fl {s dues : List Int} {t : Form} {K : List Int} : fl s.length (K ++ (fld s).filter fun i => decide (i ∉ K) && !hangB s dues t K i) = settledN s dues (fileOf s.length t K) := by
  rw [settled_hang]
  unfold fl
  show List.filter _ (fld s) = _
  refine List.filter_congr fun i hi => ?_
  rw [Bool.eq_iff_iff, decide_eq_true_iff, List.mem_append, List.mem_filter, Bool.or_eq_true, Bool.and_eq_true, decide_eq_true_iff, decide_eq_true_iff]
  constructor
  · rintro (z | z)
    · exact .inl z
    · exact .inr z.2.2
  · rintro (z | z)
    · exact .inl z
    · by_cases q : i ∈ K
      · exact .inl q
      · exact .inr ⟨hi, q, z⟩
theorem settled_subl (s dues : List Int) (f : File) : settledN s dues f ∈ subl (rng 0 s.length) := filter_subl _ _
theorem all_mask {s : List Int} (hs : s ∈ SZ) (dues : List Int) (f : File) : decide (maskOf (settledN s dues f) = bitN ((s.length : Int) - 1) * 2 - 1) = decide (settledN s dues f = fld s) :=
  (fm_all ⟨s.length, by have := sz_n hs; omega⟩ _ (settled_subl s dues f) (by have := sz_n hs; show s.length ≠ 0; omega)).1
theorem op_new {s dues : List Int} {t : Form} {pre suf : List Int} {x : Int} (hn : (pre ++ x :: suf).Nodup) : x ∉ opnd s dues t pre := fun z =>
  (List.nodup_append.mp hn).2.2 x ((opnd_sl s dues t pre).subset z) x (by simp) rfl
theorem op_in {s dues : List Int} {t : Form} {row : List Int} {n : Nat} (h : ∀ i ∈ row, 0 ≤ i ∧ i < (n : Int)) : ∀ i ∈ opnd s dues t row, 0 ≤ i ∧ i < (n : Int) := fun i hi => h i ((opnd_sl s dues t row).subset hi)
theorem op_len {s dues : List Int} {t : Form} {row : List Int} : (opnd s dues t row).length ≤ row.length := (opnd_sl s dues t row).length_le
theorem take_snoc {xs : List Int} {k : Nat} (h : k < xs.length) (d : Int) : xs.take (k + 1) = xs.take k ++ [xs.getD k d] := by
  rw [List.take_succ, List.getD_eq_getElem?_getD, List.getElem?_eq_getElem h]
  rfl
theorem fld_suf {s : List Int} : fld s = rng 0 s.length := rfl
theorem hang_fold (s dues : List Int) (f : File) (x : Int) : hangF s dues f x = (boxN s f).any fun m => loudN s dues m x := rfl
end WM
namespace WM
open PySem PySem.Spec L2 SS MM
theorem mask0 (n : Nat) : maskOf (fl n []) = 0 := by
  have : fl n [] = [] := by unfold fl; simp
  rw [this]; rfl
theorem fc_steps : ∀ s ∈ SZ, (fld s).map (stN s) = steps s ∧ ∀ i ∈ fld s, (s.drop (i + 1).toNat).foldl (fun a b => a * b) 1 = stN s i := by decide +kernel
theorem getD_mem {xs : List Int} {k : Nat} (h : k < xs.length) (d : Int) : xs.getD k d ∈ xs := by
  rw [List.getD_eq_getElem?_getD, List.getElem?_eq_getElem h]; exact List.getElem_mem h
theorem set_all {p : Int → Prop} {xs : List Int} {k : Nat} {y : Int} (h : ∀ x ∈ xs, p x) (hy : p y) : ∀ x ∈ xs.set k y, p x := fun x hx => by
  rcases List.mem_or_eq_of_mem_set hx with z | z
  · exact h x z
  · rw [z]; exact hy
theorem app_all {p : Int → Prop} {xs : List Int} {y : Int} (h : ∀ x ∈ xs, p x) (hy : p y) : ∀ x ∈ xs ++ [y], p x := fun x hx => by
  rcases List.mem_append.mp hx with z | z
  · exact h x z
  · rw [List.mem_singleton.mp z]; exact hy
theorem mid_of {x a : Int} (h : -1000000 ≤ x) (h2 : x ≤ 1000000) : Mid x := ⟨h, h2⟩
theorem SZ_in {s : List Int} (hs : s ∈ SZ) {x : Int} (hx : x ∈ s) : 2 ≤ x ∧ x ≤ 3 := sz_in s hs x hx
end WM
namespace WM
open PySem PySem.Spec L2 SS MM
/-- both ways of a test -/
theorem ifB {p A B : Prop} {i : Decidable p} {j : Decidable (@decide p i = true)} (h1 : p → A) (h2 : ¬ p → B) : @ite Prop (@decide p i = true) j A B := by
  by_cases hp : p
  · exact iT hp (h1 hp)
  · exact iF hp (h2 hp)
theorem nifB {p A B : Prop} {i : Decidable p} {j : Decidable ((!@decide p i) = true)} (h1 : ¬ p → A) (h2 : p → B) : @ite Prop ((!@decide p i) = true) j A B := by
  by_cases hp : p
  · exact nF hp (h2 hp)
  · exact nT hp (h1 hp)
theorem paired_right {α β : Type} {p : β → Prop} : ∀ {xs : List α} {ys : List β}, Paired (fun _ y => p y) xs ys → ∀ y ∈ ys, p y
  | _, _, .nil, y, h => by cases h
  | _, _, .cons q t, y, h => by
    rcases List.mem_cons.mp h with e | h
    · rw [e]; exact q
    · exact paired_right t y h
theorem perm_full : ∀ {r a : List Int}, r.Nodup → (∀ i ∈ r, i ∈ a) → r.length = a.length → r.Perm a
  | [], a, _, _, h => by rw [List.length_eq_zero_iff.mp h.symm]
  | x :: r, a, hn, hs, hl => by
    obtain ⟨n1, n2⟩ := List.nodup_cons.mp hn
    have hx := hs x (by simp)
    have hp := List.perm_cons_erase hx
    have := perm_full (r := r) (a := a.erase x) n2 (fun i hi => (List.mem_erase_of_ne fun e => n1 (by rw [← e]; exact hi)).mpr (hs i (by simp [hi]))) (by rw [List.length_erase_of_mem hx]; rw [List.length_cons] at hl; omega)
    exact (this.cons x).trans hp.symm
end WM
namespace WM
open PySem PySem.Spec L2 SS MM
theorem first_idx {α : Type} [DecidableEq α] : ∀ {ks : List α} {x : α}, x ∈ ks → ∃ j, ks[j]? = some x ∧ (∀ m : Nat, m < j → ks[m]? ≠ some x) ∧ j < ks.length
  | [], x, h => by cases h
  | y :: ks, x, h => by
    by_cases e : y = x
    · exact ⟨0, by rw [e]; rfl, fun m hm => by omega, by simp⟩
    · obtain ⟨j, h1, h2, h3⟩ := first_idx (List.mem_of_ne_of_mem (Ne.symm e) h)
      refine ⟨j + 1, by simpa using h1, fun m hm => ?_, by simpa using h3⟩
      cases m with
      | zero => simpa using e
      | succ m => simpa using h2 m (by omega)
theorem bit01 (b : Bool) : 0 ≤ (if b = true then (1 : Int) else 0) ∧ (if b = true then (1 : Int) else 0) ≤ 1 := by cases b <;> decide
end WM
namespace WM
open PySem PySem.Spec L2 SS MM
theorem exact_row {d : PyData} {ds : List PyData} {n : Nat} {Q : Bool → Prop} (hd : d = .list ds ∨ d = .tuple ds) (hl : ds.length ≤ 1000) (hf : ∀ e ∈ ds, Fit n e) (h : Q true) :
    lcW (rng 0 ((ds.length : Int)).toNat) (fun _ P => P true) (fun x P => ∃ ds e, (d = PyData.list ds ∨ d = PyData.tuple ds) ∧ atI ds x = some e ∧
            ∃ ds e_1, (d = PyData.list ds ∨ d = PyData.tuple ds) ∧ atI ds x = some e_1 ∧ (e = e_1 ∧ Fit n e) ∧ P true) fun x => Q (x.all id) := by
  refine lcW_map1 (fun _ => true) _ (fun x hx C c => ?_) ?_
  · obtain ⟨x1, x2⟩ := MM.rng_in hx
    have hlt : x.toNat < ds.length := by omega
    have ha := MM.atI_of PyData.none x1 (show x < (ds.length : Int) by omega)
    have hm : ds.getD x.toNat PyData.none ∈ ds := by
      rw [List.getD_eq_getElem?_getD, List.getElem?_eq_getElem hlt]
      exact List.getElem_mem hlt
    exact ⟨ds, _, hd, ha, ds, _, hd, ha, ⟨rfl, hf _ hm⟩, c⟩
  · have : (List.map (fun _ : Int => true) (rng 0 ((ds.length : Int)).toNat)).all id = true := by
      rw [List.all_eq_true]
      intro b hb
      obtain ⟨_, _, e⟩ := List.mem_map.mp hb
      rw [← e]; rfl
    rw [this]
    exact h
theorem sure_at_nil {s dues : List Int} {t : Form} {K : List Int} (h : sureAt s dues t K = true) : settledN s dues (fileOf s.length t K) = fld s := of_decide_eq_true h
end WM
namespace WM
open PySem PySem.Spec L2 SS MM
theorem op_quiet {s : List Int} (hs : s ∈ SZ) {dues : List Int} {t : Form} (ht : t ∈ forms s) {K : List Int} (h : ∀ i : Int, 0 ≤ i → i < s.length → Stl s dues t K i) : ∀ L : List Int, (∀ i ∈ L, 0 ≤ i ∧ i < s.length) → L.foldl (opStep s dues t) K = K
  | [], _ => rfl
  | i :: L, hL => by
    obtain ⟨i0, i1⟩ := hL i (by simp)
    have : opStep s dues t K i = K := by
      unfold opStep
      rw [if_neg fun z => ?_]
      rcases h i i0 i1 with q | q
      · exact z.2 q
      · exact q ((hang_iff hs ht i0 i1).mp z.1)
    rw [List.foldl_cons, this]
    exact op_quiet hs ht h L fun j hj => hL j (by simp [hj])
theorem opnd_stop {s : List Int} (hs : s ∈ SZ) {dues : List Int} {t : Form} (ht : t ∈ forms s) {order : List Int} (h : ∀ i ∈ order, 0 ≤ i ∧ i < s.length) {k : Nat} (hk : sureAt s dues t (order.take k) = true) : opnd s dues t order = opnd s dues t (order.take k) := by
  have hb : ∀ i ∈ order.take k, 0 ≤ i ∧ i < (s.length : Int) := fun i hi => h i (List.mem_of_mem_take hi)
  conv => lhs; rw [← List.take_append_drop k order]
  unfold opnd
  rw [List.foldl_append]
  exact op_quiet hs ht (fun i i0 i1 => (opnd_same hs ht hb i0 i1).mpr ((sure_iff hs ht).mp hk i i0 i1)) _ fun i hi => h i (List.mem_of_mem_drop hi)
theorem opnd_sure {s : List Int} (hs : s ∈ SZ) {dues : List Int} {t : Form} (ht : t ∈ forms s) {order : List Int} (h : ∀ i ∈ order, 0 ≤ i ∧ i < s.length) {k : Nat} (hk : sureAt s dues t (order.take k) = true) : sureAt s dues t (opnd s dues t order) = true := by
  have hb : ∀ i ∈ order.take k, 0 ≤ i ∧ i < (s.length : Int) := fun i hi => h i (List.mem_of_mem_take hi)
  rw [opnd_stop hs ht h hk]
  exact (sure_iff hs ht).mpr fun i i0 i1 => (opnd_same hs ht hb i0 i1).mpr ((sure_iff hs ht).mp hk i i0 i1)
theorem sureD_yes {s : List Int} (hs : s ∈ SZ) {dues : List Int} {t : Form} (ht : t ∈ forms s) {K : List Int} (h : sureAt s dues t K = true) : sureD s dues (fileOf s.length t K) = .tuple [.str "due", .int (dueN dues (num s t))] := by
  have hq := (sure_same hs dues ht K).trans h
  unfold sureD
  rw [if_pos hq]
  have h0 := (fc_boxlen s hs _ (fileOf_in hs ht K)).1
  rw [same_all.mp hq _ (getD_mem h0 0) (num s t) ((box_iff hs ht).mpr ⟨t, ht, rfl, fun _ _ _ _ => rfl⟩)]
theorem sureD_no {s : List Int} (hs : s ∈ SZ) {dues : List Int} {t : Form} (ht : t ∈ forms s) {K : List Int} (h : sureAt s dues t K = false) : sureD s dues (fileOf s.length t K) = .tuple [.str "not sure"] := by
  have hq := (sure_same hs dues ht K).trans h
  unfold sureD
  rw [if_neg (by rw [hq]; decide)]
theorem settled_opnd {s : List Int} (hs : s ∈ SZ) {dues : List Int} {t : Form} (ht : t ∈ forms s) {K row : List Int} (hb : ∀ i ∈ row, 0 ≤ i ∧ i < s.length) (hp : row.Perm K) : settledN s dues (fileOf s.length t (opnd s dues t row)) = settledN s dues (fileOf s.length t K) := by
  have h1 : settledN s dues (fileOf s.length t (opnd s dues t row)) = settledN s dues (fileOf s.length t row) := settled_ext hs ht fun i i0 i1 => opnd_same hs ht hb i0 i1
  have h2 : fileOf s.length t row = fileOf s.length t K := by
    unfold fileOf
    rw [fl_congr fun i _ _ => hp.mem_iff]
  rw [h1, h2]
theorem settled_len (s dues : List Int) (f : File) : (settledN s dues f).length ≤ s.length := by
  have := List.length_filter_le (fun i => decide (i ∈ f.map (·.1)) || !hangF s dues f i) (fld s)
  unfold settledN
  unfold fld at this ⊢
  rw [rng_len] at this
  exact this
end WM
namespace WM
open PySem PySem.Spec L2 SS MM
/-- a comprehension with any test: a part of the list -/
theorem lcW_sub {t : Int → SS.W Bool} {f : Int → SS.W Int} : ∀ (xs : List Int) (P : List Int → Prop), (∀ x ∈ xs, ∀ C : Bool → Prop, (∀ b, C b) → t x C) → (∀ x ∈ xs, ∀ C : Int → Prop, C x → f x C) → (∀ ys, ys.Sublist xs → P ys) → lcW xs t f P
  | [], P, _, _, h => h [] (.refl _)
  | x :: xs, P, ht, hf, h => by
    refine ht x (by simp) _ fun b => ?_
    cases b with
    | true => exact hf x (by simp) _ (lcW_sub xs _ (fun y hy => ht y (by simp [hy])) (fun y hy => hf y (by simp [hy])) fun ys hys => h _ (hys.cons₂ x))
    | false => exact lcW_sub xs _ (fun y hy => ht y (by simp [hy])) (fun y hy => hf y (by simp [hy])) fun ys hys => h _ (hys.cons x)
end WM

set_option Elab.async false
set_option linter.all false
set_option maxRecDepth 100000
/-! WY: drawn trees of questions: paths and nodes. Own work. -/
namespace WM
open PySem PySem.Spec L2 SS MM
structure PathOk (n : Nat) (order : List Int) (p : File) : Prop where
  nd : (p.map (·.1)).Nodup
  inn : ∀ i ∈ p.map (·.1), 0 ≤ i ∧ i < (n : Int)
  ord : order ≠ [] → ∀ p0 q, p = p0 ++ [q] → ∃ j : Nat, order[j]? = some q.1 ∧ ∀ i ∈ p.map (·.1), ∃ m : Nat, m ≤ j ∧ order[m]? = some i
def After (order : List Int) (p : File) (v : Int) : Prop := order ≠ [] → ∀ p0 q, p = p0 ++ [q] → ∃ j m : Nat, order[j]? = some q.1 ∧ order[m]? = some v ∧ j < m
def Good (n : Nat) (order : List Int) (p : File) (v : Int) : Prop := (0 ≤ v ∧ v < (n : Int)) ∧ v ∉ p.map (·.1) ∧ After order p v
def NodeOk (n : Nat) (order : List Int) (p : File) (v : Int) : Prop := (v < 0 ∧ -1001 ≤ v) ∨ Good n order p v
def NodesOk (n : Nat) (order : List Int) (m : List (File × Int)) : Prop := ∀ q ∈ m, NodeOk n order q.1 q.2
theorem look_in {m : List (File × Int)} {p : File} {y : Int} (h : lookA m p = some y) : (p, y) ∈ m := by
  unfold lookA at h
  cases q : m.find? (fun z => decide (z.1 = p)) with
  | none => rw [q] at h; cases h
  | some z =>
    rw [q] at h
    have e1 : z.1 = p := by simpa using List.find?_some q
    have e2 : z.2 = y := by simpa using h
    have := List.mem_of_find?_eq_some q
    rw [← e1, ← e2]; exact this
theorem look_put {m : List (File × Int)} {p : File} {v : Int} (h : lookA m p = none) : lookA (putA m p v) p = some v ∧ (putA m p v) = m ++ [(p, v)] := by
  have hn : p ∉ m.map (·.1) := by
    have := look_some_iff (m := m) (x := p)
    rw [h] at this
    simpa using this
  refine ⟨?_, put_new hn⟩
  rw [put_new hn]
  unfold lookA at h ⊢
  rw [List.find?_append]
  cases q : m.find? (fun z => decide (z.1 = p)) with
  | none => simp
  | some z => rw [q] at h; cases h
theorem NodesOk.put {n : Nat} {order : List Int} {m : List (File × Int)} (h : NodesOk n order m) {p : File} {v : Int} (hv : NodeOk n order p v) : NodesOk n order (m ++ [(p, v)]) := fun q hq => by
  rcases List.mem_append.mp hq with z | z
  · exact h q z
  · rw [List.mem_singleton.mp z]; exact hv
theorem nodup_at {xs : List Int} (h : xs.Nodup) {i j : Nat} {x : Int} (hi : xs[i]? = some x) (hj : xs[j]? = some x) : i = j := by
  obtain ⟨a, ea⟩ := List.getElem?_eq_some_iff.mp hi
  obtain ⟨b, eb⟩ := List.getElem?_eq_some_iff.mp hj
  rcases Nat.lt_trichotomy i j with z | z | z
  · exact absurd (ea.trans eb.symm) (List.pairwise_iff_getElem.mp h i j a b z)
  · exact z
  · exact absurd (eb.trans ea.symm) (List.pairwise_iff_getElem.mp h j i b a z)
theorem PathOk.snoc {n : Nat} {order : List Int} (ho : order = [] ∨ order.Perm (rng 0 n)) {p : File} (h : PathOk n order p) {v x : Int} (hv : Good n order p v) : PathOk n order (p ++ [(v, x)]) := by
  obtain ⟨⟨v0, v1⟩, hn, ha⟩ := hv
  have em : (p ++ [(v, x)]).map (·.1) = p.map (·.1) ++ [v] := by simp
  refine ⟨?_, ?_, fun ne p0 q e => ?_⟩
  · rw [em]
    exact List.nodup_append.mpr ⟨h.nd, by simp, fun y hy z hz e => hn (by rw [List.mem_singleton] at hz; rw [← hz, ← e]; exact hy)⟩
  · rw [em]
    intro i hi
    rcases List.mem_append.mp hi with z | z
    · exact h.inn i z
    · rw [List.mem_singleton.mp z]; exact ⟨v0, v1⟩
  · have eq : q = (v, x) := by
      have := congrArg List.getLast? e
      simpa using this.symm
    subst eq
    have hp := ho.resolve_left ne
    have hnd : order.Nodup := hp.nodup_iff.mpr (rng_nodup n)
    rw [em]
    rcases List.eq_nil_or_concat p with e0 | ⟨p1, q1, e1⟩
    · subst e0
      have hm : v ∈ order := hp.mem_iff.mpr (mem_rng.mpr ⟨v0, v1⟩)
      obtain ⟨j, hj, ej⟩ := List.getElem_of_mem hm
      refine ⟨j, by rw [List.getElem?_eq_getElem hj, ej], fun i hi => ⟨j, Nat.le_refl _, ?_⟩⟩
      have : i = v := by simpa using hi
      rw [this, List.getElem?_eq_getElem hj, ej]
    · have e1' : p = p1 ++ [q1] := by simpa using e1
      obtain ⟨j, m, hj, hm, hjm⟩ := ha ne p1 q1 e1'
      obtain ⟨j', hj', hall⟩ := h.ord ne p1 q1 e1'
      have ej : j = j' := nodup_at hnd hj hj'
      subst ej
      refine ⟨m, hm, fun i hi => ?_⟩
      rcases List.mem_append.mp hi with z | z
      · obtain ⟨k, hk, ek⟩ := hall i z
        exact ⟨k, by omega, ek⟩
      · rw [List.mem_singleton.mp z]; exact ⟨m, Nat.le_refl _, hm⟩
/-- the rest by the order -/
theorem good_drop {n : Nat} {order : List Int} (ho : order.Perm (rng 0 n)) (ne : order ≠ []) {p0 : File} {q : Int × Int} (h : PathOk n order (p0 ++ [q])) {j : Nat} (hj : order[j]? = some q.1) {v : Int} (hv : v ∈ order.drop (j + 1)) : Good n order (p0 ++ [q]) v := by
  have hnd : order.Nodup := ho.nodup_iff.mpr (rng_nodup n)
  obtain ⟨k, hk, ek⟩ := List.getElem_of_mem hv
  have hm : order[j + 1 + k]? = some v := by
    rw [← List.getElem?_drop, List.getElem?_eq_getElem hk, ek]
  have hin := mem_rng.mp (ho.mem_iff.mp (List.mem_of_mem_drop hv))
  refine ⟨hin, fun z => ?_, fun _ p1 q1 e => ?_⟩
  · obtain ⟨j', hj', hall⟩ := h.ord ne p0 q rfl
    have ej : j = j' := nodup_at hnd hj hj'
    obtain ⟨m, m1, m2⟩ := hall v z
    have := nodup_at hnd hm m2
    omega
  · have eq : q1 = q := by
      have := congrArg List.getLast? e
      simpa using this.symm
    subst eq
    exact ⟨j, j + 1 + k, hj, hm, by omega⟩
theorem good_rest {n : Nat} {order : List Int} {p : File} (h : order = [] ∨ p = []) {v : Int} (hv : v ∈ (rng 0 n).filter fun i => !decide (i ∈ p.map (·.1))) : Good n order p v := by
  obtain ⟨h1, h2⟩ := List.mem_filter.mp hv
  refine ⟨mem_rng.mp h1, by simpa using h2, fun ne p0 q e => ?_⟩
  rcases h with h | h
  · exact absurd h ne
  · rw [h] at e
    have := congrArg List.length e
    simp at this
theorem path_len {n : Nat} {order : List Int} {p : File} (h : PathOk n order p) : p.length ≤ n := by
  have := len_in h.nd h.inn
  simpa using this
theorem path_nil (n : Nat) (order : List Int) : PathOk n order [] := ⟨by simp, fun i hi => by simp at hi, fun _ p0 q e => by
  have := congrArg List.length e
  simp at this⟩
end WM

set_option Elab.async false
set_option linter.all false
set_option maxRecDepth 100000
/-! STA: own rules: lists of fixed places of several kinds. Own work. -/
namespace SS
open PySem PySem.Spec L2
section
variable {X : Cx} {K : PySem.W.Frag} [HK X K] {τ ℓ α β γ δ : Type} {ρ : List (En K)} {post : τ → List (En K)} {lp : ℓ → List (En K)} {R : Rp K β} {rest : List Stmt} {pos : Pos} {e : Expr}
/-- a list of fixed places -/
def rTl (F : Fs K α) : Rp K α := ⟨fun G v x => ∃ a vs, v = .ref a ∧ SqL K G a vs ∧ F.ok G vs x, fun e ⟨a, vs, h1, h2, h3⟩ => ⟨a, vs, h1, Same.seq e h2, F.mono e h3⟩⟩
theorem pr_lstT {es : List Expr} {F : Fs K α} {w1 : W α} (h : PA X es (TAx ρ F w1)) (hn : F.n ≤ sizeLine := by exact Nat.le_of_ble_eq_true rfl) : PE X (.List es pos) (TEx ρ (rTl F) w1) := by
  refine pe_imp (pe_lst h) fun σ H Q ⟨G, P, s, e, h, c⟩ => ⟨G, P, s, e, h, fun G1 H1 vs x st1 e1 p1 r1 => ⟨by rw [F.len r1]; exact hn, fun p hp => ?_⟩⟩
  have s2 := Step.new (M := []) (o := .lst vs) st1.gh hp
  exact c _ _ _ x (st1.trans s2.of0) (e1.step0 s2) p1 ⟨p, vs, rfl, SqL.of upd_same, F.mono s2.gg r1⟩
theorem r2_ixFl {F : Fs K α} {j : Nat} {R : Rp K β} {g : α → β} (h : FsAt F j R g) : R2Ok (rIxL K) (rTl F) (rI : Rp K Int) R (fun x i P => i = (j : Int) ∧ P (g x)) := fun G H v u x i P Q s ⟨a, vs, h1, h2, h3⟩ h4 ⟨hi, p⟩ k => by
  obtain ⟨w, e, r⟩ := h.get G vs x h3
  exact ⟨a, vs, i, w, h1, h4, Same.seq s h2, by rw [hi]; exact atI_nat e, k G H w _ (Step.refl s) p r⟩
theorem pg_tupL {es : List Expr} {k : Nat} {F : Fs K α} {ext : α → List (En K)} {is : List Nat} (h : PGs X es (TGsx ρ F ext is)) (hc : X.calm = true := by rfl) (hn : (assignEach es X.env).length = F.n := by rfl) (hst : (assignEach es X.env).findIdx? (·.1) = none := by rfl) :
    PG X (.Tuple es k pos) (TGx ρ (rTl F) ext is) := by
  have hK : X.K = K := HK.eq
  subst hK
  exact pg_imp (pg_lst hc h hn hst) fun v σ H Q ⟨G, a, s, ev, ⟨b, vs, h1, h2, h3⟩, c⟩ => ⟨b, vs, h1, Same.seq s h2, F.len h3, G, a, s, ev, h3, c⟩
/-- nm = {k: v} -/
theorem b_newK1 {R : Rp K α} {Rr : Rp K δ} {i : Nat} {nm : Str} {pn dp : Pos} {ek : Expr} {wk : W α} {wv : W β} {m : α → β → Addr → W (Out τ ℓ δ)} (k : KeyK R) (Rv : Rp K β) (hN : X.N.Nodup) (hi : X.N[i]? = some nm) (hx : Loc X.env.scope nm) (hj : PE X ek (TEx ρ R wk)) (h : PE X e (TEx ρ Rv wv))
    (hr : ∀ (x : α) (y : β) d, PSs X rest (TBO (ρ.set i (.rg d [] (dictKRg k Rv d [(x, y)]))) post lp Rr (m x y d))) (hp : (ρ.getD i .off).pl = [] := by rfl) (hs : swapsWith (.Dict [some ek] [e] dp) (some (.Name nm pn)) pos.line X.env = pure false := by rfl)
    (hf : X.fn nm = true ∨ X.env.scope.names.lookup nm = some .local := by first | exact .inl rfl | exact .inr rfl | assumption) : PSs X (.Assign [.Name nm pn] (.Dict [some ek] [e] dp) pos :: rest) (TBO ρ post lp Rr fun P => wk fun x => wv fun y => ∀ d, m x y d P) := by
  refine pss_imp (pss_cons (ps_set hN hi hx (pe_disp (pps_cons hj h pps_nil) rfl rfl (by simp) (by simp)) hs hf) (pss_fam fun q : α × β × Addr => hr q.1 q.2.1 q.2.2)) fun D σ H ⟨G, P, s, ev, pp, c⟩ d hd => ?_
  have s1 : Step [] G H G (upd H d (.dK [])) := Step.lay s hd
  refine ⟨G, _, s1.gh, ev.step0 s1, pp, fun G1 H1 v x st e1 px rx => ⟨G1, _, st.gh, e1, px, fun G2 H2 u y st2 e2 py ry => ?_⟩⟩
  have st12 := st.trans st2
  have hdp : d ∉ padr ρ := fun z => ev.fresh hd (padr_sub z)
  have hD : H2 d = some (.dK []) := st12.keep d _ upd_same hdp
  have gD : G2 d = none := st12.old d _ upd_same (s.free hd) hdp
  refine ⟨hD, [(k.enc x, u)], by rw [k.val _ _ _ rx]; rfl, by simp, ?_⟩
  have s3 : Step [d] G2 H2 G2 (upd H2 d (.dK [(k.enc x, u)])) :=
    ⟨Same.refl _, fun a o e => by rw [upd_ne (ne_of_none e gD)]; exact st12.gh a o e, fun a o e n => by rw [upd_ne (fun z : a = d => n (by rw [z]; simp))]; exact e, fun a o e n z => n⟩
  have hd0 : d ∉ adrs ρ := ev.fresh hd
  have e3 : EnvOk ρ G2 (upd H2 d (.dK [(k.enc x, u)])) σ := e2.step s3 fun b hb z => hd0 (by rw [← mem1 z]; exact hb)
  have key : mergeK [] [(k.enc x, u)] = [(k.enc x, u)] := rfl
  rw [key]
  refine ⟨(x, y, d), G2, P, s3.gh, e3.put ⟨rfl, fun b hb => by rw [mem1 hb]; exact ⟨gD, _, upd_same⟩, _, upd_same, .cons ⟨rfl, ry⟩ .nil⟩ (nodup_set e3.nd (by simp [En.adr]) fun a ha z => hd0 ((show a = d from mem1 ha) ▸ z)), py d, ?_⟩
  exact c.step (((s1.of0.trans st12).cut (N := [d]) s3 fun b hb => .inr (by rw [mem1 hb]; exact hd)).wide fun a ha => padr_sub ha) (fun b hb => (adrs_set hb).elim .inl fun z => .inr ((show b = d from mem1 z) ▸ hd)) fun q hq => pls_set hp hq
/-- len of a tuple of fixed places -/
theorem rc_lenTt {F : Fs K α} : RCOk (fun xs H Q => ∃ p ys, xs = [.ref p] ∧ (SqL K H p ys ∨ SqT K H p ys) ∧ Q (.int ys.length) H) (fs1 (rT F)) (rI : Rp K Int) (fun _ P => P (F.n : Int)) := fun G H vs x P Q s ⟨v, h, a, us, h1, h2, h3⟩ p k => by
  subst h h1
  exact ⟨a, us, rfl, .inr (same_t s h2), k G H _ _ (Step.refl s) p (by rw [F.len h3]; rfl)⟩
end
end SS

set_option Elab.async false
set_option linter.all false
set_option maxRecDepth 100000
/-! STB: own rules: a def that draws and hands back a new list of its own; the list is the caller's own. Own work. -/
namespace SS
open PySem PySem.Spec L2
theorem wp_app {M : Model} {Γ : PySem.Ctx} {env : Env} {b : List Stmt} {post : Flow → Pos → Shared → Prop} {exc : Value → Pos → Shared → Prop} : ∀ (a : List Stmt) (p : Pos) (s : Shared), Sem.wp M Γ (execs a env) (fun f p' s' => match f with | .next => Sem.wp M Γ (execs b env) post exc p' s' | f => post f p' s') exc p s → Sem.wp M Γ (execs (a ++ b) env) post exc p s
  | [], p, s, h => h
  | x :: a, p, s, h => by
    rw [List.cons_append, execs_cons, Sem.wp_bind']
    rw [execs_cons, Sem.wp_bind'] at h
    refine Sem.wp_mono M Γ _ (fun f p' s' h' => ?_) (fun _ _ _ h' => h') _ _ h
    cases f with
    | next => exact wp_app a p' s' h'
    | ret v => exact h'
    | brk => exact h'
    | cont => exact h'
theorem pss_app {X : Cx} {a b : List Stmt} {t u : TS} (ha : PSs X a t) (hb : PSs X b u) : PSs X (a ++ b) (fun D σ H => t { D with nx := u D } σ H) := by
  refine ⟨fun pins s σ H D I h Γ p hΓ => ?_⟩
  refine wp_app a p s (Sem.wp_mono _ Γ _ (fun f p' s' h' => ?_) (fun _ _ _ h' => h') _ _ (ha.run pins s σ H { D with nx := u D } I h Γ p hΓ))
  cases f with
  | next =>
    obtain ⟨σ', H', I', q⟩ := h'
    exact hb.run pins s' σ' H' D I' q Γ p' hΓ
  | ret v => exact h'
  | brk => exact h'
  | cont => exact h'
section
variable {K : PySem.W.Frag} {α β : Type}
def SpPN (F : Fs K α) (Rv : Rp K β) (m : α → W (List β)) : Sp := fun vs H Q _ => ∃ (G : Hp) (p : Addr) (g : Addr × Addr) (us : List V) (a : α) (P : List β → Prop), vs = .ref p :: us ∧ Same G H ∧ PoolAt G H p g ∧ F.ok G us a ∧ m a P ∧
  ∀ G' H' q ws xs, Step [p, g.1] G H G' H' → PoolAt G' H' p g → q ≠ p → q ≠ g.1 → P xs → G' q = none → H' q = some (.lst ws) → Paired (Rv.ok G') ws xs → ws.length ≤ sizeLine → Q (.ref q) H'
end
section
variable {P : Program} {w : World} {K : PySem.W.Frag} {mg : Str → Option Value} {base : Heap} {N : List Str} {qual x : Str} {params : Arguments} {body : List Stmt} {sc : Scope} {f : Addr} {fd : FuncData} {ps : List Str} {k : Nat} {α β : Type}
theorem fnok_ofPN {F : Fs K α} {Rv : Rp K β} {m : α → W (List β)} {env : α → List (En K)} {i : Nat} {nm : Str} {pn rp : Pos} {pre : List Stmt} {post : Addr → (Addr × Addr) → Addr × List β → List (En K)} {wb : Addr → (Addr × Addr) → α → W (Out (Addr × List β) Empty Unit)} (D : FunD K x qual params body sc [] [] f fd) (hbody : body = pre ++ [.Return (some (.Name nm pn)) rp]) (S : FnScope N ps sc) (hn : F.n + 1 = ps.length) (hl : ps.length ≤ N.length) (hE : FsE F env) (ρ0 : Addr → (Addr × Addr) → α → List (En K)) (h0 : ∀ p g a, .pool p g :: (env a ++ List.replicate (N.length - ps.length) .off) = ρ0 p g a)
    (hpost : ∀ p g t, (post p g t)[i]? = some (.own t.1 Rv t.2)) (hpool : ∀ p g t, (post p g t)[0]? = some (.pool p g))
    (hv : ∀ cdv A outer s H E, PE (XC P w K mg base N qual sc f cdv A outer s H E) (.Name nm pn) (tVar i))
    (hb : ∀ (p : Addr) (g : Addr × Addr) (a : α) cdv A outer s H E, Room k (A.deeper (PyProof.Rows.envOfC qual sc s.heap.objs.size f cdv)) → PSs (XC P w K mg base N qual sc f cdv A outer s H E) pre (TBO (K := K) (ρ0 p g a) (post p g) (fun z : Empty => nomatch z) rN (wb p g a)))
    (hm : ∀ p g a Q, m a Q → wb p g a (fun o => match o with | .nx t => Q t.2 | _ => False)) : FnOk P w K mg base CX0 (k + 1) f fd ps (SpPN F Rv m) := by
  subst hbody
  refine D.ok S (fun vs H Q E ⟨G, p, g, us, a, Pp, e, s, _, h, _⟩ => by rw [e, List.length_cons, F.len h, hn]) fun cdv A outer s H vs Q E hr ⟨G, p, g, us, a, Pp, e, sG, hP, h, hp, c⟩ => ⟨_, (pss_app (hb p g a cdv A outer s H E hr) (pss_one (ps_ret (hv cdv A outer s H E)))).nox, ?_⟩
  subst e
  have ev := env_start (N := N) (H := H) hE (pre := [.pool p g]) (pv := [.ref p]) rfl (fun i e hi => by
    cases i with
    | zero => simp at hi; subst hi; exact ⟨.ref p, rfl, rfl, hP⟩
    | succ i => simp at hi) (by have := hP.2.2.1; simp [adrs, En.adr, this]) h (by simp only [List.length_cons, List.length_nil]; omega)
  have e1 : N.length - ([En.pool (K := K) p g].length + F.n) = N.length - ps.length := by simp only [List.length_cons, List.length_nil]; omega
  rw [e1] at ev
  have e0 : adrs (ρ0 p g a) = [p, g.1] := by rw [← h0]; show [p, g.1] ++ adrs _ = _; rw [adrs_app, hE.no, adrs_off_rep]; rfl
  refine ⟨G, _, sG, by rw [← h0]; exact ev, hm p g a Pp hp, ⟨fun t G' H' σ' st e' z => ?_, fun t => (nomatch t), fun t => (nomatch t), fun b G' H' v st _ pb rb => pb.elim⟩⟩
  rw [e0] at st
  obtain ⟨o, ho, eo, n1, ws, k1, k2, k3⟩ := e'.ok i _ (hpost p g t)
  obtain ⟨o2, ho2, eo2, pl⟩ := e'.ok 0 _ (hpool p g t)
  subst eo
  have np : ∀ a, a = p ∨ a = g.1 → t.1 ≠ a := fun a ha z => own_ne_pool e'.nd (hpost p g t) (hpool p g t) (a := a) (by rw [z]; simp [En.adr]) ha
  exact ⟨_, ho, c G' H' t.1 ws t.2 st pl (np p (.inl rfl)) (np g.1 (.inr rfl)) z n1 k1 k2 k3⟩
end
section
variable {X : Cx} {K : PySem.W.Frag} [HK X K] {τ ℓ α β γ : Type} {ρ : List (En K)} {post : τ → List (En K)} {lp : ℓ → List (En K)} {R : Rp K γ} {rest : List Stmt} {F : Fs K α} {Rv : Rp K β}
theorem env_pool {ip : Nat} {pp : Addr} {g : Addr × Addr} {σ : L2.St} (hi : ρ[ip]? = some (.pool pp g)) (hone : pls ρ = [(pp, g)]) {G1 H1 G2 H2 : Hp} (e1 : EnvOk ρ G1 H1 σ) (st2 : Step [pp, g.1] G1 H1 G2 H2) (pl : PoolAt G2 H2 pp g) : EnvOk ρ G2 H2 σ := by
  refine ⟨e1.len, fun j e' hj => ?_, e1.nd⟩
  obtain ⟨o', ho', q⟩ := e1.ok j e' hj
  refine ⟨o', ho', ?_⟩
  cases e' with
  | pool a' b' =>
    have : (a', b') ∈ pls ρ := pls_mem hj (by simp [En.pl])
    rw [hone] at this
    have e : (a', b') = (pp, g) := by simpa using this
    cases e
    exact ⟨q.1, pl⟩
  | off => trivial
  | fr R' x' => exact En.step (e := .fr R' x') q st2 fun a ha => nomatch ha
  | own a' R' x' => exact En.step (e := .own a' R' x') q st2 fun a ha z => own_ne_pool e1.nd hj hi ha (by simpa using z)
  | obj a' C' x' => exact En.step (e := .obj a' C' x') q st2 fun a ha z => own_ne_pool e1.nd hj hi ha (by simpa using z)
  | rg a' C' x' => exact En.step (e := .rg a' C' x') q st2 fun a ha z => own_ne_pool e1.nd hj hi ha (by simpa using z)
/-- nm = f(pool, ..), a new list -/
theorem b_asgN {i ip k : Nat} {nm x pl : Str} {pn p pos spos plp : Pos} {ps : List Str} {es : List Expr} {pp : Addr} {g : Addr × Addr} {w : W α} {m : α → W (List β)} {mm : Addr → List β → W (Out τ ℓ γ)} (h : FnG X.prog X.w K X.mg X.base x k ps (SpPN F Rv m)) (hr : Room k X.A) (hN : X.N.Nodup) (hi : X.N[i]? = some nm) (hx : Loc X.env.scope nm)
    (hv : PE X (.Name pl plp) (tVar ip)) (hip : ρ[ip]? = some (.pool pp g)) (ha : PA X es (TAx ρ F w)) (flat : ∀ G G' v y, Rv.ok G v y → Rv.ok G' v y)
    (hb : ∀ (q : Addr) (z : List β), PSs X rest (TBO (ρ.set i (.own q Rv z)) post lp R (mm q z))) (hone : pls ρ = [(pp, g)] := by rfl) (hp : (ρ.getD i .off).pl = [] := by rfl) (hg : Gl X x := by rfl) (hdb : (x == ("__debug__" : Str)) = false := by decide) (he : starEach (.Name pl plp :: es) X.env = (false, eval (.Name pl plp) X.env) :: starEach es X.env := by rfl)
    (hpl : (backTo pos (starEach es X.env)).any (·.1) = false := by rfl) (hs : swapsWith (.Call (.Name x p) (.Name pl plp :: es) [] pos) (some (.Name nm pn)) spos.line X.env = pure false := by rfl)
    (hf : X.fn nm = true ∨ X.env.scope.names.lookup nm = some .local := by first | exact .inl rfl | exact .inr rfl | assumption) :
    PSs X (.Assign [.Name nm pn] (.Call (.Name x p) (.Name pl plp :: es) [] pos) spos :: rest) (TBO ρ post lp R fun P => w fun a => m a fun xs => ∀ q, mm q xs P) := by
  have hK : X.K = K := HK.eq
  subst hK
  obtain ⟨f, fd, h1, h2, h3, h4⟩ := h.ex
  refine pss_imp (pss_cons (ps_set hN hi hx (pe_call h4 hr hg h1 h2 h3 .nil pass0 (pa_cons hv ha he) hdb he hpl) hs hf) (pss_fam fun q : Addr × List β => hb q.1 q.2)) fun D σ H ⟨G, P, s, ev, pp', c⟩ => ?_
  obtain ⟨oo, hoo, z1, z2⟩ := ev.ok ip _ hip
  subst z1
  refine ⟨_, hoo, G, _, s, ev, pp', fun G1 H1 us a st e1 pa ra => ?_⟩
  show SpPN F Rv m (.ref pp :: us ++ []) H1 _ E0
  rw [List.append_nil]
  obtain ⟨o2, ho2, y1, y2⟩ := e1.ok ip _ hip
  obtain ⟨u1, u2, u3, sm, cc, mm0, gs, ns, u4, u5, u6, u7, u8, u9, u10⟩ := y2
  have sG : Same G1 (fun b => if b = pp ∨ b = g.1 then none else H1 b) := fun b o hb' => by
    have : ¬ (b = pp ∨ b = g.1) := fun z => by
      rcases z with z | z
      · rw [z, u1] at hb'; cases hb'
      · rw [z, u2] at hb'; cases hb'
    show (if b = pp ∨ b = g.1 then none else H1 b) = some o
    rw [if_neg this]; exact st.gh _ _ hb'
  have sH : Same (fun b => if b = pp ∨ b = g.1 then none else H1 b) H1 := fun b o hb' => by
    have hb2 : (if b = pp ∨ b = g.1 then none else H1 b) = some o := hb'
    split at hb2
    · cases hb2
    · exact hb2
  refine ⟨fun b => if b = pp ∨ b = g.1 then none else H1 b, pp, g, us, a, _, rfl, sH, ⟨by show (if pp = pp ∨ pp = g.1 then none else _) = none; rw [if_pos (.inl rfl)], by show (if g.1 = pp ∨ g.1 = g.1 then none else _) = none; rw [if_pos (.inr rfl)], u3, sm, cc, mm0, gs, ns, u4, u5, sG _ _ u6, u7, u8, u9, u10⟩, F.mono sG ra, pa, fun G2 H2 q ws xs st2 plq n1 n2 px gq hq pr hz => ?_⟩
  have hq1 : H1 q = none := by
    cases hh : H1 q with
    | none => rfl
    | some o =>
      have : G2 q = some o := st2.gg q o (by show (if q = pp ∨ q = g.1 then none else H1 q) = some o; rw [if_neg (by simp [n1, n2])]; exact hh)
      rw [this] at gq; cases gq
  have st3 : Step [pp, g.1] G1 H1 (fun b => if H1 b = none then G2 b else G1 b) H2 := by
    refine ⟨fun b o hb' => ?_, fun b o hb' => ?_, st2.keep, fun b o hb' n _ => ?_⟩
    · show (if H1 b = none then G2 b else G1 b) = some o
      rw [if_neg (by rw [st.gh _ _ hb']; simp)]; exact hb'
    · have hb2 : (if H1 b = none then G2 b else G1 b) = some o := hb'
      split at hb2
      · exact st2.gh _ _ hb2
      · refine st2.keep _ _ (st.gh _ _ hb2) fun z => ?_
        rcases List.mem_cons.mp z with z | z
        · rw [z, u1] at hb2; cases hb2
        · rw [List.mem_singleton.mp z, u2] at hb2; cases hb2
    · show (if H1 b = none then G2 b else G1 b) = none
      rw [if_neg (by rw [hb']; simp)]; exact n
  have pl3 : PoolAt (fun b => if H1 b = none then G2 b else G1 b) H2 pp g := by
    obtain ⟨_, _, _, sm2, cc2, mm2, gs2, ns2, v4, v5, v6, v7, v8, v9, v10⟩ := plq
    refine ⟨?_, ?_, u3, sm2, cc2, mm2, gs2, ns, v4, v5, ?_, u7, u8, v9, v10⟩
    · show (if H1 pp = none then G2 pp else G1 pp) = none
      rw [if_neg (by rw [u4]; simp)]; exact u1
    · show (if H1 g.1 = none then G2 g.1 else G1 g.1) = none
      rw [if_neg (by rw [u5]; simp)]; exact u2
    · rw [v10, ← u10]
      exact st3.gg _ _ u6
  have e3 := env_pool hip hone e1 st3 pl3
  have hpd : padr ρ = [pp, g.1] := by unfold padr; rw [hone]; rfl
  have stt : Step (padr ρ) G H (fun b => if H1 b = none then G2 b else G1 b) H2 := st.trans (by rw [hpd]; exact st3)
  have hq0 : H q = none := EnvOk.freshIn st e1 hq1
  exact ⟨(q, xs), _, P, stt.gh, e3.putOwn (by show (if H1 q = none then G2 q else G1 q) = none; rw [if_pos hq1]; exact gq) hq (paired_mono (fun _ _ z => flat _ _ _ _ z) pr) hz (ev.fresh hq0), px q, cts_own c stt hp hq0⟩
/-- list(xs), xs one's own -/
theorem pr_listOwn {i : Nat} {nm : Str} {pn p pos : Pos} {a : Addr} {Ra : Rp K α} {xs : List α} (hm : X.mg "list" = none) (hv : PE X (.Name nm pn) (tVar i)) (ho : ρ[i]? = some (.own a Ra xs)) (hbt : bootBuiltins "list" = some (.type "list") := by decide +kernel)
    (hg : Gl X "list" := by rfl) (he : starEach [.Name nm pn] X.env = (false, eval (.Name nm pn) X.env) :: starEach [] X.env := by rfl) (hpl : (backTo pos (starEach [] X.env)).any (·.1) = false := by rfl) : PE X (.Call (.Name "list" p) [.Name nm pn] [] pos) (TEL ρ Ra fun P => P xs) := by
  have hK : X.K = K := HK.eq
  subst hK
  refine pe_imp (pe_callTy call_list_of hg hm hbt (pa_cons hv pa_nil he) (by decide) (by decide) he hpl) fun σ H Q ⟨G, P, s, ev, pp, c⟩ => ?_
  obtain ⟨hσ, _, ⟨vs, k1, k2, k3⟩, _⟩ := own_get ho ev
  exact ⟨.ref a, hσ, a, vs, rfl, .inl (SqL.of k1), fun l hl => c G _ l vs xs (Step.lay s hl).of0 (ev.step0 (Step.lay s hl)) pp hl (s.free hl) upd_same k2 k3⟩
end
end SS

set_option Elab.async false
set_option linter.all false
set_option maxRecDepth 100000
/-! WK: knots and orders of a set. Own work. -/
namespace WM
open PySem PySem.Spec L2 SS MM
def but (K : List Int) (i : Int) : List Int := K.filter fun j => !decide (j = i)
theorem mem_but {K : List Int} {i j : Int} : j ∈ but K i ↔ j ∈ K ∧ j ≠ i := by unfold but; rw [List.mem_filter]; simp
/-- no field hangs with the others -/
def kn (s dues : List Int) (t : Form) (K : List Int) : Bool := K.all fun i => !hangB s dues t (but K i) i
structure Great (s dues : List Int) (t : Form) (F L : List Int) : Prop where
  sub : L.Sublist F
  kn : kn s dues t L = true
  all : ∀ K : List Int, (∀ i ∈ K, i ∈ F) → WM.kn s dues t K = true → ∀ i ∈ K, i ∈ L
theorem Great.uniq {s dues : List Int} {t : Form} {F L M : List Int} (hF : F.Pairwise (· < ·)) (h : Great s dues t F L) (g : Great s dues t F M) : L = M :=
  sorted_uniq (hF.sublist h.sub) (hF.sublist g.sub) fun x => ⟨fun hx => g.all L (fun i hi => h.sub.subset hi) h.kn x hx, fun hx => h.all M (fun i hi => g.sub.subset hi) g.kn x hx⟩
theorem hang_anti {s : List Int} (hs : s ∈ SZ) {dues : List Int} {t : Form} (ht : t ∈ forms s) {K L : List Int} {i : Int} (i0 : 0 ≤ i) (i1 : i < s.length) (h : hangB s dues t L i = true) (hsub : ∀ j ∈ K, j ∈ L) : hangB s dues t K i = true :=
  (hang_iff hs ht i0 i1).mpr (((hang_iff hs ht i0 i1).mp h).less fun j hj _ _ => hsub j hj)
theorem hang_congr {s : List Int} (hs : s ∈ SZ) {dues : List Int} {t : Form} (ht : t ∈ forms s) {K L : List Int} {i : Int} (i0 : 0 ≤ i) (i1 : i < s.length) (h : ∀ j, j ∈ K ↔ j ∈ L) : hangB s dues t K i = hangB s dues t L i := by
  rw [Bool.eq_iff_iff]
  exact ⟨fun z => hang_anti hs ht i0 i1 z fun j hj => (h j).mpr hj, fun z => hang_anti hs ht i0 i1 z fun j hj => (h j).mp hj⟩
theorem kn_iff {s dues : List Int} {t : Form} {K : List Int} : kn s dues t K = true ↔ ∀ i ∈ K, hangB s dues t (but K i) i = false := by
  unfold kn
  rw [List.all_eq_true]
  exact ⟨fun h i hi => by simpa using h i hi, fun h i hi => by simpa using h i hi⟩
theorem kn_congr {s : List Int} (hs : s ∈ SZ) {dues : List Int} {t : Form} (ht : t ∈ forms s) {K L : List Int} (hb : ∀ i ∈ K, 0 ≤ i ∧ i < (s.length : Int)) (h : ∀ j, j ∈ K ↔ j ∈ L) : kn s dues t K = kn s dues t L := by
  rw [Bool.eq_iff_iff, kn_iff, kn_iff]
  constructor
  · intro g i hi
    have hk := (h i).mpr hi
    rw [← g i hk]
    exact hang_congr hs ht (hb i hk).1 (hb i hk).2 fun j => by rw [mem_but, mem_but, h j]
  · intro g i hi
    rw [← g i ((h i).mp hi)]
    exact hang_congr hs ht (hb i hi).1 (hb i hi).2 fun j => by rw [mem_but, mem_but, h j]
/-- a removal keeps all knots -/
theorem cov_but {s : List Int} (hs : s ∈ SZ) {dues : List Int} {t : Form} (ht : t ∈ forms s) {K L : List Int} {i : Int} (i0 : 0 ≤ i) (i1 : i < s.length) (h : hangB s dues t (but L i) i = true) (hK : kn s dues t K = true) (hsub : ∀ j ∈ K, j ∈ L) : ∀ j ∈ K, j ∈ but L i := fun j hj => by
  refine mem_but.mpr ⟨hsub j hj, fun e => ?_⟩
  subst e
  have := kn_iff.mp hK j hj
  rw [hang_anti hs ht i0 i1 h fun k hk => mem_but.mpr ⟨hsub k (mem_but.mp hk).1, (mem_but.mp hk).2⟩] at this
  cases this
theorem but_sub (K : List Int) (i : Int) : (but K i).Sublist K := List.filter_sublist
theorem but_len {K : List Int} {i : Int} (h : i ∈ K) : (but K i).length < K.length := by
  have h1 := (but_sub K i).length_le
  rcases Nat.lt_or_ge (but K i).length K.length with z | z
  · exact z
  · have e := (but_sub K i).eq_of_length_le z
    have := (mem_but (K := K) (i := i) (j := i)).mp (by rw [e]; exact h)
    exact absurd rfl this.2
theorem but_id {K : List Int} {i : Int} (h : i ∉ K) : but K i = K := List.filter_eq_self.mpr fun j hj => by
  have : j ≠ i := fun e => h (by rw [← e]; exact hj)
  simpa using this
/-! ### rows that open -/
def Gd (s dues : List Int) (t : Form) (E : List Int) : Prop := ∀ A i B, E = A ++ i :: B → hangB s dues t A i = true
theorem Gd.snoc {s dues : List Int} {t : Form} {E : List Int} {i : Int} (h : Gd s dues t E) (hi : hangB s dues t E i = true) : Gd s dues t (E ++ [i]) := fun A j B e => by
  rcases List.eq_nil_or_concat B with e0 | ⟨B', x, e1⟩
  · subst e0
    have := List.append_inj' e rfl
    obtain ⟨h1, h2⟩ := this
    have : i = j := by simpa using h2
    rw [← h1, ← this]; exact hi
  · have e1' : B = B' ++ [x] := by simpa using e1
    subst e1'
    have e' : E ++ [i] = (A ++ j :: B') ++ [x] := by rw [e]; simp
    exact h A j B' (List.append_inj' e' rfl).1
theorem Gd.pre {s dues : List Int} {t : Form} {E : List Int} {i : Int} (h : Gd s dues t (E ++ [i])) : Gd s dues t E ∧ hangB s dues t E i = true :=
  ⟨fun A j B e => h A j (B ++ [i]) (by rw [e]; simp), h E i [] rfl⟩
theorem gd_opnd (s dues : List Int) (t : Form) (row : List Int) : Gd s dues t (opnd s dues t row) := by
  have key : ∀ (row K : List Int), Gd s dues t K → Gd s dues t (row.foldl (opStep s dues t) K) := fun row => by
    induction row with
    | nil => exact fun K h => h
    | cons i row ih =>
      intro K h
      refine ih _ ?_
      unfold opStep
      by_cases q : hangB s dues t K i = true ∧ i ∉ K
      · rw [if_pos q]; exact h.snoc q.1
      · rw [if_neg q]; exact h
  exact key row [] fun A i B e => by
    have := congrArg List.length e
    simp at this
theorem last_split {p : Int → Prop} : ∀ {E : List Int}, (∃ i ∈ E, p i) → ∃ A i B, E = A ++ i :: B ∧ p i ∧ ∀ j ∈ B, ¬ p j
  | [], ⟨i, hi, _⟩ => by cases hi
  | x :: E, ⟨i, hi, hp⟩ => by
    by_cases h : ∃ i ∈ E, p i
    · obtain ⟨A, j, B, e, h1, h2⟩ := last_split h
      exact ⟨x :: A, j, B, by rw [e]; rfl, h1, h2⟩
    · rcases List.mem_cons.mp hi with e | e
      · subst e
        exact ⟨[], i, E, rfl, hp, fun j hj q => h ⟨j, hj, q⟩⟩
      · exact absurd ⟨i, e, hp⟩ h
/-- no knot lies in a row that opens -/
theorem gd_knot {s : List Int} (hs : s ∈ SZ) {dues : List Int} {t : Form} (ht : t ∈ forms s) {E K : List Int} (h : Gd s dues t E) (hb : ∀ i ∈ K, 0 ≤ i ∧ i < (s.length : Int)) (hK : kn s dues t K = true) (hsub : ∀ i ∈ K, i ∈ E) : K = [] := by
  cases K with
  | nil => rfl
  | cons x K =>
    exfalso
    obtain ⟨A, i, B, e, h1, h2⟩ := last_split (p := fun i => i ∈ x :: K) ⟨x, hsub x (by simp), by simp⟩
    have hh := h A i B e
    obtain ⟨i0, i1⟩ := hb i h1
    have := kn_iff.mp hK i h1
    rw [hang_anti hs ht i0 i1 hh fun j hj => ?_] at this
    · cases this
    · obtain ⟨q1, q2⟩ := mem_but.mp hj
      have := hsub j q1
      rw [e] at this
      rcases List.mem_append.mp this with z | z
      · exact z
      · rcases List.mem_cons.mp z with z | z
        · exact absurd z q2
        · exact absurd q1 (h2 j z)
theorem opnd_gd {s dues : List Int} {t : Form} : ∀ {row rest K : List Int}, (K ++ row).Nodup → Gd s dues t (K ++ row) → (row ++ rest).foldl (opStep s dues t) K = rest.foldl (opStep s dues t) (K ++ row)
  | [], rest, K, _, _ => by simp
  | i :: row, rest, K, hn, h => by
    have hi := h K i row rfl
    have hk : i ∉ K := fun z => (List.nodup_append.mp hn).2.2 i z i (by simp) rfl
    have e : opStep s dues t K i = K ++ [i] := by
      unfold opStep
      rw [if_pos ⟨hi, hk⟩]
    show (row ++ rest).foldl (opStep s dues t) (opStep s dues t K i) = _
    rw [e, opnd_gd (row := row) (rest := rest) (K := K ++ [i]) (by rw [List.append_assoc]; exact hn) (by rw [List.append_assoc]; exact h), List.append_assoc]
    rfl
theorem opnd_row {s dues : List Int} {t : Form} {row : List Int} (hn : row.Nodup) (h : Gd s dues t row) : opnd s dues t row = row := by
  have := opnd_gd (s := s) (dues := dues) (t := t) (row := row) (rest := []) (K := []) hn h
  rw [List.append_nil] at this
  exact this
theorem opnd_take {s dues : List Int} {t : Form} {row rest : List Int} (hn : row.Nodup) (h : Gd s dues t row) : (opnd s dues t (row ++ rest)).take row.length = row := by
  have := opnd_gd (s := s) (dues := dues) (t := t) (row := row) (rest := rest) (K := []) hn h
  unfold opnd
  rw [this]
  obtain ⟨E, h1, _⟩ := op_ext (s := s) (dues := dues) (t := t) rest ([] ++ row)
  rw [h1]
  simp
theorem gd_iff {s dues : List Int} {t : Form} {row : List Int} (hn : row.Nodup) : (opnd s dues t row).length < row.length ↔ ¬ Gd s dues t row := by
  constructor
  · intro h g
    rw [opnd_row hn g] at h
    omega
  · intro h
    have h1 := opnd_sl s dues t row
    rcases Nat.lt_or_ge (opnd s dues t row).length row.length with z | z
    · exact z
    · have e := h1.eq_of_length_le z
      have := gd_opnd s dues t row
      rw [e] at this
      exact absurd this h
/-! ### parts -/
def partsOf (F : List Int) : List (List Int) := F.foldl (fun ss i => ss ++ ss.map fun o => o ++ [i]) [[]]
theorem parts_iff {F K : List Int} : K ∈ partsOf F ↔ K.Sublist F := by
  have key : ∀ (F : List Int) (ss : List (List Int)) (K : List Int), K ∈ F.foldl (fun ss i => ss ++ ss.map fun o => o ++ [i]) ss ↔ ∃ A ∈ ss, ∃ B, B.Sublist F ∧ K = A ++ B := fun F => by
    induction F with
    | nil => intro ss K; exact ⟨fun h => ⟨K, h, [], .refl _, by simp⟩, fun ⟨A, hA, B, hB, e⟩ => by
        have : B = [] := List.sublist_nil.mp hB
        rw [e, this, List.append_nil]; exact hA⟩
    | cons i F ih =>
      intro ss K
      rw [List.foldl_cons, ih]
      constructor
      · rintro ⟨A, hA, B, hB, e⟩
        rcases List.mem_append.mp hA with h | h
        · exact ⟨A, h, B, hB.cons i, e⟩
        · obtain ⟨o, ho, eo⟩ := List.mem_map.mp h
          exact ⟨o, ho, i :: B, hB.cons₂ i, by rw [e, ← eo]; simp⟩
      · rintro ⟨A, hA, B, hB, e⟩
        cases hB with
        | cons _ h => exact ⟨A, List.mem_append_left _ hA, B, h, e⟩
        | cons_cons _ h => exact ⟨A ++ [i], List.mem_append_right _ (List.mem_map.mpr ⟨A, hA, rfl⟩), _, h, by rw [e]; simp⟩
  unfold partsOf
  rw [key]
  exact ⟨fun ⟨A, hA, B, hB, e⟩ => by rw [e, List.mem_singleton.mp hA]; exact hB, fun h => ⟨[], by simp, K, h, rfl⟩⟩
theorem parts_len : ∀ n : Fin 5, (∀ k : Fin 5, k.1 ≤ n.1 → (((rng 0 n).take k).foldl (fun ss i => ss ++ ss.map fun o => o ++ [i]) [[]]).length ≤ 16) := by decide +kernel
theorem parts_count (F : List Int) : (partsOf F).length = 2 ^ F.length := by
  have key : ∀ (F : List Int) (ss : List (List Int)), (F.foldl (fun ss i => ss ++ ss.map fun o => o ++ [i]) ss).length = ss.length * 2 ^ F.length := fun F => by
    induction F with
    | nil => intro ss; simp
    | cons i F ih =>
      intro ss
      rw [List.foldl_cons, ih, List.length_append, List.length_map, List.length_cons, Nat.pow_succ]
      have : ss.length + ss.length = ss.length * 2 := by omega
      rw [this, Nat.mul_assoc, Nat.mul_comm 2]
  unfold partsOf
  rw [key]; simp
/-- the greatest is made of the knots -/
theorem great_iff {s : List Int} (hs : s ∈ SZ) {dues : List Int} {t : Form} (ht : t ∈ forms s) {F L : List Int} (hF : F.Pairwise (· < ·)) (hb : ∀ i ∈ F, 0 ≤ i ∧ i < (s.length : Int)) (hL : L.Sublist F) (h : ∀ i, i ∈ L ↔ ∃ K ∈ partsOf F, kn s dues t K = true ∧ i ∈ K) : Great s dues t F L := by
  have all : ∀ K : List Int, (∀ i ∈ K, i ∈ F) → kn s dues t K = true → ∀ i ∈ K, i ∈ L := fun K hK hk i hi => by
    have hm : ∀ j, j ∈ F.filter (fun j => decide (j ∈ K)) ↔ j ∈ K := fun j => by
      rw [List.mem_filter, decide_eq_true_iff]
      exact ⟨fun z => z.2, fun z => ⟨hK j z, z⟩⟩
    refine (h i).mpr ⟨F.filter fun j => decide (j ∈ K), parts_iff.mpr List.filter_sublist, ?_, (hm i).mpr hi⟩
    rw [kn_congr hs ht (fun j hj => hb j (List.mem_filter.mp hj).1) hm]; exact hk
  refine ⟨hL, kn_iff.mpr fun i hi => ?_, all⟩
  obtain ⟨K, hK, hk, hiK⟩ := (h i).mp hi
  have hsub : ∀ j ∈ K, j ∈ L := fun j hj => (h j).mpr ⟨K, hK, hk, hj⟩
  have hiF := hb i (hL.subset hi)
  cases hq : hangB s dues t (but L i) i with
  | false => rfl
  | true =>
    have := kn_iff.mp hk i hiK
    rw [hang_anti hs ht hiF.1 hiF.2 hq fun j hj => mem_but.mpr ⟨hsub j (mem_but.mp hj).1, (mem_but.mp hj).2⟩] at this
    cases this
end WM
namespace WM
open PySem PySem.Spec L2 SS MM
theorem fm_sub : ∀ n : Fin 5, ∀ K ∈ subl (rng 0 n), ∀ i ∈ K, maskOf K - bitN i = maskOf (K.filter fun j => !decide (j = i)) := by decide +kernel
theorem fm_zero : ∀ n : Fin 5, ∀ K ∈ subl (rng 0 n), Builtin.bitOr 0 (maskOf K) = maskOf K := by decide +kernel
theorem sub_subl {n : Nat} {K : List Int} (hs : K.Pairwise (· < ·)) (hb : ∀ i ∈ K, 0 ≤ i ∧ i < (n : Int)) : K ∈ subl (rng 0 n) := by
  have : K = fl n K := sorted_uniq hs (fl_sorted _ _) fun x => by rw [mem_fl]; exact ⟨fun h => ⟨hb x h, h⟩, fun h => h.2⟩
  rw [this]; exact fl_subl n K
theorem fl_self {n : Nat} {K : List Int} (hs : K.Pairwise (· < ·)) (hb : ∀ i ∈ K, 0 ≤ i ∧ i < (n : Int)) : fl n K = K := subl_fl (sub_subl hs hb)
theorem mask_sub {n : Nat} (hn : n ≤ 4) {K : List Int} (hs : K.Pairwise (· < ·)) (hb : ∀ i ∈ K, 0 ≤ i ∧ i < (n : Int)) {i : Int} (hi : i ∈ K) : maskOf K - bitN i = maskOf (but K i) :=
  fm_sub ⟨n, by omega⟩ K (sub_subl hs hb) i hi
theorem lt_nodup {K : List Int} (hs : K.Pairwise (· < ·)) : K.Nodup := hs.imp fun h e => by omega
theorem perm_lt {F ys : List Int} (hp : ys.Perm F) (h : ys.Pairwise (· ≤ ·)) (hF : F.Pairwise (· < ·)) : ys = F :=
  sorted_uniq (le_lt_of_nodup h (hp.nodup_iff.mpr (lt_nodup hF))) hF fun x => hp.mem_iff
theorem sub_of {F ys : List Int} (hF : F.Pairwise (· < ·)) (hy : ys.Pairwise (· < ·)) (h : ∀ i ∈ ys, i ∈ F) : ys.Sublist F := by
  have : ys = F.filter fun i => decide (i ∈ ys) := sorted_uniq hy (hF.filter _) fun x => by
    rw [List.mem_filter, decide_eq_true_iff]
    exact ⟨fun z => ⟨h x z, z⟩, fun z => z.2⟩
  rw [this]; exact List.filter_sublist
/-- two masks of the same sum -/
theorem mask_inj {n : Nat} (hn : n ≤ 4) {K L : List Int} (hK : K ∈ subl (rng 0 n)) (hL : L ∈ subl (rng 0 n)) (h : maskOf K = maskOf L) : K = L := by
  have key : ∀ i : Int, 0 ≤ i → i < n → (i ∈ K ↔ i ∈ L) := fun i i0 i1 => by
    have a := mask_bit hn K i0 i1
    have b := mask_bit hn L i0 i1
    rw [subl_fl hK] at a
    rw [subl_fl hL, ← h, a, decide_eq_decide] at b
    exact ⟨fun z => Classical.byContradiction fun w => b.mpr w z, fun z => Classical.byContradiction fun w => b.mp w z⟩
  rw [← subl_fl hK, ← subl_fl hL]
  exact fl_congr key
theorem perm_kn {F : List Int} {s dues : List Int} {t : Form} : kn s dues t [] = true := rfl
/-- one turn of a pass over the left ones -/
structure Pass (s dues : List Int) (t : Form) (F L0 pre L : List Int) : Prop where
  sub : L.Sublist L0
  cov : ∀ K : List Int, (∀ i ∈ K, i ∈ F) → kn s dues t K = true → ∀ i ∈ K, i ∈ L
  calm : L.length = L0.length → ∀ i ∈ pre, hangB s dues t (but L0 i) i = false
theorem Pass.drop {s : List Int} (hs : s ∈ SZ) {dues : List Int} {t : Form} (ht : t ∈ forms s) {F L0 pre L : List Int} (h : Pass s dues t F L0 pre L) {x : Int} (hx : x ∈ L0) (x0 : 0 ≤ x) (x1 : x < s.length) (hh : hangB s dues t (but L x) x = true) : Pass s dues t F L0 (pre ++ [x]) (but L x) :=
  ⟨(but_sub L x).trans h.sub, fun K h1 h2 => cov_but hs ht x0 x1 hh h2 (h.cov K h1 h2), fun e => by
    have h1 := (but_sub L x).length_le
    have h2 := h.sub.length_le
    have e2 := h.sub.eq_of_length_le (by omega)
    have := but_len (K := L) (i := x) (by rw [e2]; exact hx)
    omega⟩
theorem Pass.keep {s dues : List Int} {t : Form} {F L0 pre L : List Int} (h : Pass s dues t F L0 pre L) {x : Int} (hh : hangB s dues t (but L x) x = false) : Pass s dues t F L0 (pre ++ [x]) L :=
  ⟨h.sub, h.cov, fun e i hi => by
    rcases List.mem_append.mp hi with z | z
    · exact h.calm e i z
    · rw [List.mem_singleton.mp z]
      rw [h.sub.eq_of_length_le (by omega)] at hh
      exact hh⟩
end WM
namespace WM
open PySem PySem.Spec L2 SS MM
theorem fill_perm {n : Nat} {r : List Int} (nd : r.Nodup) (hb : ∀ i ∈ r, 0 ≤ i ∧ i < (n : Int)) : (r ++ (rng 0 n).filter fun i => !decide (i ∈ r)).Perm (rng 0 n) := by
  refine (List.perm_ext_iff_of_nodup (List.nodup_append.mpr ⟨nd, (rng_nodup n).filter _, fun x hx y hy e => ?_⟩) (rng_nodup n)).mpr fun i => ?_
  · obtain ⟨_, q⟩ := List.mem_filter.mp hy
    rw [← e] at q
    simp [hx] at q
  · rw [List.mem_append, List.mem_filter]
    constructor
    · rintro (z | z)
      · exact mem_rng.mpr (hb i z)
      · exact z.1
    · intro z
      by_cases w : i ∈ r
      · exact .inl w
      · exact .inr ⟨z, by simp [w]⟩
end WM
namespace WM
open PySem PySem.Spec L2 SS MM
/-! ### the levels of least_row -/
theorem but_len1 {K : List Int} (hn : K.Nodup) {x : Int} (hx : x ∈ K) : (but K x).length + 1 = K.length := by
  have h : (x :: but K x).Perm K := (List.perm_ext_iff_of_nodup (List.nodup_cons.mpr ⟨fun z => (mem_but.mp z).2 rfl, hn.filter _⟩) hn).mpr fun i => by
    rw [List.mem_cons, mem_but]
    constructor
    · rintro (z | z)
      · rw [z]; exact hx
      · exact z.1
    · intro z
      by_cases w : i = x
      · exact .inl w
      · exact .inr ⟨z, w⟩
  have := h.length_eq
  simpa using this
def KeyOk (s dues : List Int) (t : Form) (F : List Int) (keys : List Int) (m : Int) : Prop := ∃ K : List Int, K.Sublist F ∧ m = maskOf K ∧ (K = F ∨ ∃ i ∈ F, i ∉ K ∧ hangB s dues t K i = true ∧ maskOf (fl s.length (K ++ [i])) ∈ keys)
structure Gk (s dues : List Int) (t : Form) (F : List Int) (keys : List Int) : Prop where
  nd : keys.Nodup
  ok : ∀ m ∈ keys, KeyOk s dues t F keys m
  top : maskOf F ∈ keys
theorem Gk.few {s dues : List Int} {t : Form} {F keys : List Int} (h : Gk s dues t F keys) (hF : F.length ≤ 4) : keys.length ≤ 16 := by
  have : keys.length ≤ ((partsOf F).map maskOf).length := len_le_of_subset h.nd fun m hm => by
    obtain ⟨K, h1, h2, _⟩ := h.ok m hm
    exact List.mem_map.mpr ⟨K, parts_iff.mpr h1, h2.symm⟩
  rw [List.length_map, parts_count] at this
  exact Nat.le_trans this (Nat.le_trans (Nat.pow_le_pow_right (by omega) hF) (by decide))
theorem KeyOk.more {s dues : List Int} {t : Form} {F keys : List Int} {m m' : Int} (h : KeyOk s dues t F keys m) : KeyOk s dues t F (keys ++ [m']) m := by
  obtain ⟨K, h1, h2, h3⟩ := h
  refine ⟨K, h1, h2, ?_⟩
  rcases h3 with h3 | ⟨i, i1, i2, i3, i4⟩
  · exact .inl h3
  · exact .inr ⟨i, i1, i2, i3, List.mem_append_left _ i4⟩
theorem Gk.add {s : List Int} (hz : s ∈ SZ) {dues : List Int} {t : Form} {F keys : List Int} (hs : F.Pairwise (· < ·)) (hb : ∀ i ∈ F, 0 ≤ i ∧ i < (s.length : Int)) (h : Gk s dues t F keys) {K : List Int} (hK : K.Sublist F) {x : Int} (hx : x ∈ K) (hh : hangB s dues t (but K x) x = true) (hk : maskOf K ∈ keys) (hn : maskOf (but K x) ∉ keys) : Gk s dues t F (keys ++ [maskOf (but K x)]) := by
  refine ⟨List.nodup_append.mpr ⟨h.nd, by simp, fun a ha b hb e => hn (by rw [List.mem_singleton] at hb; rw [← hb, ← e]; exact ha)⟩, fun m hm => ?_, List.mem_append_left _ h.top⟩
  rcases List.mem_append.mp hm with z | z
  · exact (h.ok m z).more
  · rw [List.mem_singleton.mp z]
    refine ⟨but K x, (but_sub K x).trans hK, rfl, .inr ⟨x, hK.subset hx, fun z => (mem_but.mp z).2 rfl, hh, List.mem_append_left _ ?_⟩⟩
    have h1 : fl s.length (but K x ++ [x]) = fl s.length K := fl_congr fun i _ _ => by
      rw [List.mem_append, mem_but, List.mem_singleton]
      constructor
      · rintro (z | z)
        · exact z.1
        · rw [z]; exact hx
      · intro z
        by_cases w : i = x
        · exact .inr w
        · exact .inl ⟨z, w⟩
    have this := h1.trans (fl_self (n := s.length) (hs.sublist hK) (fun i hi => hb i (hK.subset hi)))
    rw [this]; exact hk
/-- the lower level under way -/
structure Low (s dues : List Int) (t : Form) (F : List Int) (c : Nat) (level keys lower : List Int) : Prop where
  g : Gk s dues t F keys
  lv : ∀ m ∈ level, m ∈ keys
  lo : ∀ m ∈ lower, m ∈ keys ∧ ∃ K : List Int, K.Sublist F ∧ m = maskOf K ∧ K.length + c + 1 = F.length
  hi : ∀ K : List Int, K.Sublist F → maskOf K ∈ keys → F.length ≤ K.length + c ∨ maskOf K ∈ lower
  few : lower.length ≤ keys.length
theorem Low.add {s : List Int} (hz : s ∈ SZ) {dues : List Int} {t : Form} {F : List Int} {c : Nat} {level keys lower : List Int} (hs : F.Pairwise (· < ·)) (hb : ∀ i ∈ F, 0 ≤ i ∧ i < (s.length : Int)) (h : Low s dues t F c level keys lower) {K : List Int} (hK : K.Sublist F) (hl : K.length + c = F.length) {x : Int} (hx : x ∈ K) (hh : hangB s dues t (but K x) x = true) (hk : maskOf K ∈ keys) (hn : maskOf (but K x) ∉ keys) :
    Low s dues t F c level (keys ++ [maskOf (but K x)]) (lower ++ [maskOf (but K x)]) := by
  have h4 := (sz_n hz).2
  have b1 := but_len1 ((lt_nodup hs).sublist hK) hx
  refine ⟨h.g.add hz hs hb hK hx hh hk hn, fun m hm => List.mem_append_left _ (h.lv m hm), fun m hm => ?_, fun L hL hm => ?_, by rw [List.length_append, List.length_append]; have := h.few; omega⟩
  · rcases List.mem_append.mp hm with z | z
    · exact ⟨List.mem_append_left _ (h.lo m z).1, (h.lo m z).2⟩
    · rw [List.mem_singleton.mp z]
      exact ⟨by simp, but K x, (but_sub K x).trans hK, rfl, by omega⟩
  · rcases List.mem_append.mp hm with z | z
    · rcases h.hi L hL z with w | w
      · exact .inl w
      · exact .inr (List.mem_append_left _ w)
    · exact .inr (List.mem_append_right _ z)
theorem not_knot {s dues : List Int} {t : Form} {F K : List Int} (h : Great s dues t F []) (hK : K.Sublist F) (hne : K ≠ []) : ∃ i ∈ K, hangB s dues t (but K i) i = true := by
  refine Classical.byContradiction fun hc => hne ?_
  have hk : kn s dues t K = true := kn_iff.mpr fun i hi => by
    cases q : hangB s dues t (but K i) i with
    | false => rfl
    | true => exact absurd ⟨i, hi, q⟩ hc
  cases K with
  | nil => rfl
  | cons x K => have := h.all _ (fun i hi => hK.subset hi) hk x (by simp); cases this
end WM

set_option Elab.async false
set_option linter.all false
set_option maxRecDepth 100000
set_option maxHeartbeats 4000000
namespace KK
open PySem PySem.Spec L2 SS MM WM
structure Tx (K : PySem.W.Frag) (mg : Str → Option Value) : Prop where
  glo_SealedError : mg "SealedError" = some (.ref (He.ga K "SealedError"))
  glo_TooMany : mg "TooMany" = some (.ref (He.ga K "TooMany"))
  glo_BadSpace : mg "BadSpace" = some (.ref (He.ga K "BadSpace"))
  glo_BadForm : mg "BadForm" = some (.ref (He.ga K "BadForm"))
  glo_BadBook : mg "BadBook" = some (.ref (He.ga K "BadBook"))
  glo_BadFields : mg "BadFields" = some (.ref (He.ga K "BadFields"))
  glo_BadOrder : mg "BadOrder" = some (.ref (He.ga K "BadOrder"))
  glo_same_due : mg "same_due" = some (.ref (He.ga K "same_due"))
  glo_needs : mg "needs" = some (.ref (He.ga K "needs"))
  glo_mask_of : mg "mask_of" = some (.ref (He.ga K "mask_of"))
  glo_is_row : mg "is_row" = some (.ref (He.ga K "is_row"))
  glo_CaseView : mg "CaseView" = some (.ref (He.ga K "CaseView"))
  glo_some_hangs : mg "some_hangs" = some (.ref (He.ga K "some_hangs"))
  glo_greatest_knot : mg "greatest_knot" = some (.ref (He.ga K "greatest_knot"))
  glo_least_row : mg "least_row" = some (.ref (He.ga K "least_row"))
  glo_next_field : mg "next_field" = some (.ref (He.ga K "next_field"))
  glo_knot : mg "knot" = some (.ref (He.ga K "knot"))
  glo_order_for : mg "order_for" = some (.ref (He.ga K "order_for"))
  glo_judge_knot : mg "judge_knot" = some (.ref (He.ga K "judge_knot"))
  glo_bound_sizes : mg "bound_sizes" = some (.ref (He.ga K "bound_sizes"))
  glo_forms_over : mg "forms_over" = some (.ref (He.ga K "forms_over"))
  glo_Space : mg "Space" = some (.ref (He.ga K "Space"))
  glo_bound_dues : mg "bound_dues" = some (.ref (He.ga K "bound_dues"))
  glo_Book : mg "Book" = some (.ref (He.ga K "Book"))
  glo_opened_row : mg "opened_row" = some (.ref (He.ga K "opened_row"))
  glo_opened : mg "opened" = some (.ref (He.ga K "opened"))
  glo_judge_order : mg "judge_order" = some (.ref (He.ga K "judge_order"))
  glo__law_begin : mg "_law_begin" = some (.ref (He.ga K "_law_begin"))
  glo__law_below : mg "_law_below" = some (.ref (He.ga K "_law_below"))
  glo__law_shuffled : mg "_law_shuffled" = some (.ref (He.ga K "_law_shuffled"))
  glo__law_sizes : mg "_law_sizes" = some (.ref (He.ga K "_law_sizes"))
  glo__law_forms : mg "_law_forms" = some (.ref (He.ga K "_law_forms"))
  glo__law_steps : mg "_law_steps" = some (.ref (He.ga K "_law_steps"))
  glo__law_boxes_laid : mg "_law_boxes_laid" = some (.ref (He.ga K "_law_boxes_laid"))
  glo__law_asked : mg "_law_asked" = some (.ref (He.ga K "_law_asked"))
  glo__law_figure : mg "_law_figure" = some (.ref (He.ga K "_law_figure"))
  glo__law_dues : mg "_law_dues" = some (.ref (He.ga K "_law_dues"))
  glo__law_loud : mg "_law_loud" = some (.ref (He.ga K "_law_loud"))
  glo__law_files : mg "_law_files" = some (.ref (He.ga K "_law_files"))
  glo__law_box : mg "_law_box" = some (.ref (He.ga K "_law_box"))
  glo__law_file : mg "_law_file" = some (.ref (He.ga K "_law_file"))
  glo__law_world : mg "_law_world" = some (.ref (He.ga K "_law_world"))
  glo__law_drawn_world : mg "_law_drawn_world" = some (.ref (He.ga K "_law_drawn_world"))
  glo__law_orders : mg "_law_orders" = some (.ref (He.ga K "_law_orders"))
  glo__law_subsets : mg "_law_subsets" = some (.ref (He.ga K "_law_subsets"))
  glo__law_opened : mg "_law_opened" = some (.ref (He.ga K "_law_opened"))
  glo__law_book : mg "_law_book" = some (.ref (He.ga K "_law_book"))
  glo__law_case : mg "_law_case" = some (.ref (He.ga K "_law_case"))
  glo__law_and_case : mg "_law_and_case" = some (.ref (He.ga K "_law_and_case"))
  glo__law_ints : mg "_law_ints" = some (.ref (He.ga K "_law_ints"))
  glo__law_pair : mg "_law_pair" = some (.ref (He.ga K "_law_pair"))
  glo__law_rows_of : mg "_law_rows_of" = some (.ref (He.ga K "_law_rows_of"))
  glo__law_parts : mg "_law_parts" = some (.ref (He.ga K "_law_parts"))
  glo__law_hang : mg "_law_hang" = some (.ref (He.ga K "_law_hang"))
  glo__law_opens : mg "_law_opens" = some (.ref (He.ga K "_law_opens"))
  glo__law_is_knot : mg "_law_is_knot" = some (.ref (He.ga K "_law_is_knot"))
  glo__law_great : mg "_law_great" = some (.ref (He.ga K "_law_great"))
  glo__law_off_case : mg "_law_off_case" = some (.ref (He.ga K "_law_off_case"))
  glo__law_switch_case : mg "_law_switch_case" = some (.ref (He.ga K "_law_switch_case"))
  glo__law_taken_away : mg "_law_taken_away" = some (.ref (He.ga K "_law_taken_away"))
  glo__law_knot_right : mg "_law_knot_right" = some (.ref (He.ga K "_law_knot_right"))
  glo__law_row_right : mg "_law_row_right" = some (.ref (He.ga K "_law_row_right"))
  glo__law_sets_right : mg "_law_sets_right" = some (.ref (He.ga K "_law_sets_right"))
  glo__law_rows_right : mg "_law_rows_right" = some (.ref (He.ga K "_law_rows_right"))
  glo_law : mg "law" = some (.ref (He.ga K "law"))
  free_len : mg "len" = none
  free_max : mg "max" = none
  free_min : mg "min" = none
  free_range : mg "range" = none
  free_isinstance : mg "isinstance" = none
  free_list : mg "list" = none
  free_tuple : mg "tuple" = none
  free_int : mg "int" = none
  free_abs : mg "abs" = none
  free_bool : mg "bool" = none
  free_all : mg "all" = none
  free_any : mg "any" = none
  free_sorted : mg "sorted" = none
  free_dict : mg "dict" = none
  free_sum : mg "sum" = none
  free_iter : mg "iter" = none
  int_MOST_FIELDS : ∃ t, mg "MOST_FIELDS" = some (.int (8) t)
  int_MOST_VALUES : ∃ t, mg "MOST_VALUES" = some (.int (9) t)
  int_MOST_FORMS : ∃ t, mg "MOST_FORMS" = some (.int (1296) t)
  int_MOST_DUE : ∃ t, mg "MOST_DUE" = some (.int (1000000000) t)
  cls_CaseView : Cls K (He.ga K "CaseView")
  mkr_CaseView : Mk K (He.ga K "CaseView") (He.fAd K ("CaseView", some "__init__"))
  noat_CaseView_kept_width : NoAttr K (He.ga K "CaseView") "kept_width"
  noat_CaseView_kept_meets : NoAttr K (He.ga K "CaseView") "kept_meets"
  meth_CaseView_width : Meth K (He.ga K "CaseView") "width" (He.fAd K ("CaseView", some "width"))
  meth_CaseView_hangs : Meth K (He.ga K "CaseView") "hangs" (He.fAd K ("CaseView", some "hangs"))
  cls_Space : Cls K (He.ga K "Space")
  mkr_Space : Mk K (He.ga K "Space") (He.fAd K ("Space", some "__init__"))
  noat_Space_kept_sizes : NoAttr K (He.ga K "Space") "kept_sizes"
  noat_Space_kept_forms : NoAttr K (He.ga K "Space") "kept_forms"
  noat_Space_kept_steps : NoAttr K (He.ga K "Space") "kept_steps"
  meth_Space___eq__ : Meth K (He.ga K "Space") "__eq__" (He.fAd K ("Space", some "__eq__"))
  meth_Space___len__ : Meth K (He.ga K "Space") "__len__" (He.fAd K ("Space", some "__len__"))
  meth_Space___iter__ : Meth K (He.ga K "Space") "__iter__" (He.fAd K ("Space", some "__iter__"))
  meth_Space_width : Meth K (He.ga K "Space") "width" (He.fAd K ("Space", some "width"))
  meth_Space_sizes : Meth K (He.ga K "Space") "sizes" (He.fAd K ("Space", some "sizes"))
  meth_Space_size : Meth K (He.ga K "Space") "size" (He.fAd K ("Space", some "size"))
  meth_Space_many : Meth K (He.ga K "Space") "many" (He.fAd K ("Space", some "many"))
  meth_Space_forms : Meth K (He.ga K "Space") "forms" (He.fAd K ("Space", some "forms"))
  meth_Space_step_of : Meth K (He.ga K "Space") "step_of" (He.fAd K ("Space", some "step_of"))
  meth_Space_number_of : Meth K (He.ga K "Space") "number_of" (He.fAd K ("Space", some "number_of"))
  meth_Space_need_form : Meth K (He.ga K "Space") "need_form" (He.fAd K ("Space", some "need_form"))
  meth_Space_need_field : Meth K (He.ga K "Space") "need_field" (He.fAd K ("Space", some "need_field"))
  meth_Space_need_fields : Meth K (He.ga K "Space") "need_fields" (He.fAd K ("Space", some "need_fields"))
  meth_Space_need_order : Meth K (He.ga K "Space") "need_order" (He.fAd K ("Space", some "need_order"))
  cls_Book : Cls K (He.ga K "Book")
  mkr_Book : Mk K (He.ga K "Book") (He.fAd K ("Book", some "__init__"))
  noat_Book_kept_space : NoAttr K (He.ga K "Book") "kept_space"
  noat_Book_kept_dues : NoAttr K (He.ga K "Book") "kept_dues"
  meth_Book___eq__ : Meth K (He.ga K "Book") "__eq__" (He.fAd K ("Book", some "__eq__"))
  meth_Book_space : Meth K (He.ga K "Book") "space" (He.fAd K ("Book", some "space"))
  meth_Book_dues : Meth K (He.ga K "Book") "dues" (He.fAd K ("Book", some "dues"))
  meth_Book_due : Meth K (He.ga K "Book") "due" (He.fAd K ("Book", some "due"))
  tup_BITS : mg "BITS" = some (.ref (He.ga K "BITS")) ∧ ∀ H, SqT K H (He.ga K "BITS") (([1, 2, 4, 8, 16, 32, 64, 128] : List Int).map V.int)
theorem tx_of {K : PySem.W.Frag} {h : Heap} {mg : Str → Option Value} (X : K.In h) (G : h.Ns mainGlobals mg) (c : SaysE fa fn tb K) : Tx K mg :=
  ⟨He.glo_ok X G (c.d.fact 0), He.glo_ok X G (c.d.fact 1), He.glo_ok X G (c.d.fact 2), He.glo_ok X G (c.d.fact 3), He.glo_ok X G (c.d.fact 4), He.glo_ok X G (c.d.fact 5), He.glo_ok X G (c.d.fact 6), He.glo_ok X G (c.d.fact 7), He.glo_ok X G (c.d.fact 8), He.glo_ok X G (c.d.fact 9), He.glo_ok X G (c.d.fact 10), He.glo_ok X G (c.d.fact 11), He.glo_ok X G (c.d.fact 12), He.glo_ok X G (c.d.fact 13), He.glo_ok X G (c.d.fact 14), He.glo_ok X G (c.d.fact 15), He.glo_ok X G (c.d.fact 16), He.glo_ok X G (c.d.fact 17), He.glo_ok X G (c.d.fact 18), He.glo_ok X G (c.d.fact 19), He.glo_ok X G (c.d.fact 20), He.glo_ok X G (c.d.fact 21), He.glo_ok X G (c.d.fact 22), He.glo_ok X G (c.d.fact 23), He.glo_ok X G (c.d.fact 24), He.glo_ok X G (c.d.fact 25), He.glo_ok X G (c.d.fact 26), He.glo_ok X G (c.d.fact 27), He.glo_ok X G (c.d.fact 28), He.glo_ok X G (c.d.fact 29), He.glo_ok X G (c.d.fact 30), He.glo_ok X G (c.d.fact 31), He.glo_ok X G (c.d.fact 32), He.glo_ok X G (c.d.fact 33), He.glo_ok X G (c.d.fact 34), He.glo_ok X G (c.d.fact 35), He.glo_ok X G (c.d.fact 36), He.glo_ok X G (c.d.fact 37), He.glo_ok X G (c.d.fact 38), He.glo_ok X G (c.d.fact 39), He.glo_ok X G (c.d.fact 40), He.glo_ok X G (c.d.fact 41), He.glo_ok X G (c.d.fact 42), He.glo_ok X G (c.d.fact 43), He.glo_ok X G (c.d.fact 44), He.glo_ok X G (c.d.fact 45), He.glo_ok X G (c.d.fact 46), He.glo_ok X G (c.d.fact 47), He.glo_ok X G (c.d.fact 48), He.glo_ok X G (c.d.fact 49), He.glo_ok X G (c.d.fact 50), He.glo_ok X G (c.d.fact 51), He.glo_ok X G (c.d.fact 52), He.glo_ok X G (c.d.fact 53), He.glo_ok X G (c.d.fact 54), He.glo_ok X G (c.d.fact 55), He.glo_ok X G (c.d.fact 56), He.glo_ok X G (c.d.fact 57), He.glo_ok X G (c.d.fact 58), He.glo_ok X G (c.d.fact 59), He.glo_ok X G (c.d.fact 60), He.glo_ok X G (c.d.fact 61), He.glo_ok X G (c.d.fact 62), He.glo_ok X G (c.d.fact 63), He.glo_ok X G (c.d.fact 64), He.free_ok X G (c.d.fact 65), He.free_ok X G (c.d.fact 66), He.free_ok X G (c.d.fact 67), He.free_ok X G (c.d.fact 68), He.free_ok X G (c.d.fact 69), He.free_ok X G (c.d.fact 70), He.free_ok X G (c.d.fact 71), He.free_ok X G (c.d.fact 72), He.free_ok X G (c.d.fact 73), He.free_ok X G (c.d.fact 74), He.free_ok X G (c.d.fact 75), He.free_ok X G (c.d.fact 76), He.free_ok X G (c.d.fact 77), He.free_ok X G (c.d.fact 78), He.free_ok X G (c.d.fact 79), He.free_ok X G (c.d.fact 80), He.int_ok X G (c.d.fact 81), He.int_ok X G (c.d.fact 82), He.int_ok X G (c.d.fact 83), He.int_ok X G (c.d.fact 84), He.cls_ok (c.d.fact 85), He.mkr_ok (c.d.fact 86), He.noat_ok (c.d.fact 87), He.noat_ok (c.d.fact 88), He.meth_ok (c.d.fact 89), He.meth_ok (c.d.fact 90), He.cls_ok (c.d.fact 91), He.mkr_ok (c.d.fact 92), He.noat_ok (c.d.fact 93), He.noat_ok (c.d.fact 94), He.noat_ok (c.d.fact 95), He.meth_ok (c.d.fact 96), He.meth_ok (c.d.fact 97), He.meth_ok (c.d.fact 98), He.meth_ok (c.d.fact 99), He.meth_ok (c.d.fact 100), He.meth_ok (c.d.fact 101), He.meth_ok (c.d.fact 102), He.meth_ok (c.d.fact 103), He.meth_ok (c.d.fact 104), He.meth_ok (c.d.fact 105), He.meth_ok (c.d.fact 106), He.meth_ok (c.d.fact 107), He.meth_ok (c.d.fact 108), He.meth_ok (c.d.fact 109), He.cls_ok (c.d.fact 110), He.mkr_ok (c.d.fact 111), He.noat_ok (c.d.fact 112), He.noat_ok (c.d.fact 113), He.meth_ok (c.d.fact 114), He.meth_ok (c.d.fact 115), He.meth_ok (c.d.fact 116), He.meth_ok (c.d.fact 117), ⟨He.glo_ok X G (c.d.fact 118), c.tup 0⟩⟩
structure Bd (P : Program) (w : World) (K : PySem.W.Frag) (mg : Str → Option Value) (base : Heap) : Prop where
  says : He.SaysD fa fn K
  tx : Tx K mg
abbrev T_Space : Type := (List Int) × (List (List Int)) × (List Int)
abbrev F_Space (K : PySem.W.Frag) (x : T_Space) : List (Str × Mp) := [("kept_sizes", Rp.mp (K := K) (rL SS.rI) x.1), ("kept_forms", Rp.mp (K := K) (rL (SS.rU SS.rI)) x.2.1), ("kept_steps", Rp.mp (K := K) (rL SS.rI) x.2.2)]
abbrev r_Space (K : PySem.W.Frag) : Rp K T_Space := rIns (He.ga K "Space") (F_Space K)
abbrev T_Book : Type := T_Space × (List Int)
abbrev F_Book (K : PySem.W.Frag) (x : T_Book) : List (Str × Mp) := [("kept_space", Rp.mp (K := K) (r_Space K) x.1), ("kept_dues", Rp.mp (K := K) (rL SS.rI) x.2)]
abbrev r_Book (K : PySem.W.Frag) : Rp K T_Book := rIns (He.ga K "Book") (F_Book K)
abbrev T_CaseView : Type := Int × (List (List Int))
abbrev F_CaseView (K : PySem.W.Frag) (x : T_CaseView) : List (Str × Mp) := [("kept_width", Rp.mp (K := K) SS.rI x.1), ("kept_meets", Rp.mp (K := K) (rL (rL SS.rI)) x.2)]
abbrev r_CaseView (K : PySem.W.Frag) : Rp K T_CaseView := rIns (He.ga K "CaseView") (F_CaseView K)
abbrev T_World : Type := (List Int) × (List (List Int)) × (List Int) × (List Int) × (List (List Bool)) × (List ((List (Int × Int)) × (List Int)))
abbrev r_World (P : Program) (w : World) (K : PySem.W.Frag) : Rp K T_World := rRec ["sizes", "forms", "steps", "dues", "loud", "settled"] (fsC (rL SS.rI) (fsC (rL (SS.rU SS.rI)) (fsC (rL SS.rI) (fsC (rL SS.rI) (fsC (rL (rL rB)) (fs1 (rDN P w (kUf (kT (kfC kI (kf1 kI)))) (rL SS.rI))))))))
section
variable {P : Program} {w : World} {K : PySem.W.Frag} {mg : Str → Option Value} {base : Heap}
theorem sc_bound_sizes : FnScope ["sizes", "forms", "size"] ["sizes"] (defScope s_bound_sizes) := ⟨rfl, rfl, rfl, by decide +kernel, rfl, by decide +kernel, by decide +kernel⟩
theorem ok_bound_sizes (B : Bd P w K mg base) : FnG P w K mg base "bound_sizes" 1 ["sizes"] (SpF (K := K) (fs1 (rL SS.rI)) rN (fun (a : (List Int)) => (fun P => a ∈ SZ ∧ P () : W Unit))) := by
  obtain ⟨fd, D⟩ := B.says.def_ 20 (d := d_bound_sizes) rfl
  refine ⟨_, fd, B.tx.glo_bound_sizes, D.kp, D.bindsN (fun _ _ _ _ _ _ us hl => match us, hl with | [_], _ => rfl), fnok_ofN (post := fun _ : Unit => ([.off, .off, .off] : List (En K))) D sc_bound_sizes rfl (by decide) fsE_1 (fun a => [.fr (rL SS.rI) a, .off, .off]) (fun _ => rfl) (fun a cdv A outer s H E hr => (b_ifr (pt_cmpX op_gt r2_gt (nomark _) (pr_cb call_len_seq rc_len B.tx.free_len (by decide +kernel) (pa_oneX (pr_name (pv 0) rfl))) (pr_gint (by rfl) B.tx.int_MOST_FIELDS)) b_never (b_asg (i := 1) sc_bound_sizes.nd rfl (by first | exact Or.inl rfl | exact Or.inr rfl) pr_int (fun x1 => (b_for (fun s2 : Int => [.fr (rL SS.rI) a, .fr SS.rI s2, .off]) x1 (pi_listX (pr_name (pv 0) rfl)) (.same (.same (.same .nil))) (fun s2 => (pg_nameX (pg_name (i := 2) sc_bound_sizes.nd rfl (by first | exact Or.inl rfl | exact Or.inr rfl)))) (fun q3 q3x => (b_ifr (pt_cmpX op_gt r2_gt (nomark _) (pr_name (pv 2) rfl) (pr_gint (by rfl) B.tx.int_MOST_VALUES)) b_never (b_augM (i := 1) sc_bound_sizes.nd rfl (by first | exact Or.inl rfl | exact Or.inr rfl) rfl (pr_cb (call_max2 rfl) rc_max2 B.tx.free_max (by decide +kernel) (pa_consX pr_int (pa_oneX (pr_name (pv 2) rfl)))) (fun x4 => (b_nil (t := x4) (.same (.same (.off .nil rfl)))))))) (fun s2 => (b_ifr (pt_cmpX op_gt r2_gt (nomark _) (pr_name (pv 1) rfl) (pr_gint (by rfl) B.tx.int_MOST_FORMS)) b_never (b_nil (t := ()) (.off (.off (.same .nil) rfl) rfl))))))))) (fun a Q h => ?_)⟩
  obtain ⟨hz, h⟩ := h
  simp only [SZ, List.mem_cons, List.not_mem_nil, or_false] at hz
  rcases hz with hz | hz | hz | hz | hz | hz | hz | hz | hz | hz | hz | hz | hz <;> subst hz <;> simp [forW, CMul, fin, h, max23]
theorem sc_forms_over : FnScope ["sizes", "forms", "size", "form", "value"] ["sizes"] (defScope s_forms_over) := ⟨rfl, rfl, rfl, by decide +kernel, rfl, by decide +kernel, by decide +kernel⟩
theorem ok_forms_over (B : Bd P w K mg base) : FnG P w K mg base "forms_over" 1 ["sizes"] (SpF (K := K) (fs1 (rL SS.rI)) (rL (SS.rU SS.rI)) (fun (a : (List Int)) => (fun P => a ∈ SZ ∧ P (forms a) : W (List (List Int))))) := by
  obtain ⟨fd, D⟩ := B.says.def_ 21 (d := d_forms_over) rfl
  refine ⟨_, fd, B.tx.glo_forms_over, D.kp, D.bindsN (fun _ _ _ _ _ _ us hl => match us, hl with | [_], _ => rfl), fnok_of (post := fun _ : Unit => ([.off, .off, .off, .off, .off] : List (En K))) D sc_forms_over rfl (by decide) fsE_1 (fun a => [.fr (rL SS.rI) a, .off, .off, .off, .off]) (fun _ => rfl) (fun a cdv A outer s H E hr => (b_asg (i := 1) sc_forms_over.nd rfl (by first | exact Or.inl rfl | exact Or.inr rfl) (pr_frz (pr_lst (R := (SS.rU SS.rI)) (pa_consR (pr_tupU (R := SS.rI) pa_nilR) pa_nilR))) (fun x5 => (b_for (fun s6 : (List (List Int)) => [.fr (rL SS.rI) a, .fr (rL (SS.rU SS.rI)) s6, .off, .off, .off]) x5 (pi_listX (pr_name (pv 0) rfl)) (.same (.same (.same (.same (.same .nil))))) (fun s6 => (pg_nameX (pg_name (i := 2) sc_forms_over.nd rfl (by first | exact Or.inl rfl | exact Or.inr rfl)))) (fun q7 q7x => (b_lc2T (i := 1) (own := [("form", 3), ("value", 4)]) (vs1 := [4]) sc_forms_over.nd rfl rfl rfl (by decide +kernel) (blkOk_by (own := [("form", 3), ("value", 4)]) (N := ["sizes", "forms", "size", "form", "value"]) (sc := defScope s_forms_over) (by decide +kernel)) (pi_listX (pr_name (pv 1) rfl)) (fun _ _ _ _ _ => (pg_nameX (pg_name (i := 3) sc_forms_over.nd rfl (by first | exact Or.inl rfl | exact Or.inr rfl)))) (fun x8 _ _ _ _ _ => pts_nilX) (fun x8 _ _ _ _ _ => (pi_rng1X B.tx.free_range (pa_oneX (pr_name (pv 2) rfl)))) (fun x8 _ _ _ _ _ => (pg_nameX (pg_name (i := 4) sc_forms_over.nd rfl (by first | exact Or.inl rfl | exact Or.inr rfl)))) (fun q9 q9y _ _ _ _ _ => pts_nilX) (fun q9 q9y _ _ _ _ _ => (pr_op op_catA r2_catU (pr_name (pv 3) rfl) (pr_tupU (R := SS.rI) (pa_consR (pr_name (pv 4) rfl) pa_nilR)))) (fun q10 q10l => (b_frz 1 rfl (b_nil (t := q10l) (.same (.same (.off (.same (.same .nil)) rfl)))))))) (fun s6 => (b_ret (pr_name (pv 1) rfl))))))) (fun a Q h => ?_)⟩
  obtain ⟨hz, h⟩ := h
  dsimp only
  refine forW_inv (fun pre suf st => st = forms pre) rfl (fun pre x suf st C e hi h1 _ _ _ => ?_) (fun st e => by subst e; exact h)
  subst hi
  obtain ⟨hx, hl, hf⟩ := sz_split hz e
  refine lc2W_map (fun _ => rng 0 x.toNat) (fun f v => f ++ [v]) _ _ (fun f hf C c => ⟨by omega, c⟩) (fun f hf' v hv C c => ⟨by have := hf f hf'; exact small (by simp; omega), c⟩) (small ?_) (fun p => h1 _ ?_)
  · have : ∀ l : List (List Int), (l.flatMap fun _ => rng 0 x.toNat).length ≤ l.length * 3 := fun l => by
      induction l with
      | nil => simp
      | cons y l ih => rw [List.flatMap_cons, List.length_append, rng_len, List.length_cons]; omega
    have := this (forms pre)
    simp only [List.length_nil]
    omega
  · rw [forms_snoc]; rfl
theorem sc_Space_need_field : FnScope ["self", "i"] ["self", "i"] (defScope s_Space_need_field) := ⟨rfl, rfl, rfl, by decide +kernel, rfl, by decide +kernel, by decide +kernel⟩
theorem ok_Space_need_field (B : Bd P w K mg base) : FnM P w K mg base (He.ga K "Space") "need_field" 1 ["self", "i"] (SpF (K := K) (fsC (r_Space K) (fs1 SS.rI)) rN (fun (a : T_Space × Int) => (fun P => (0 ≤ a.2 ∧ a.2 < a.1.1.length) ∧ P () : W Unit))) := by
  obtain ⟨fd, D⟩ := B.says.def_ 34 (d := d_Space_need_field) rfl
  refine ⟨_, fd, B.tx.cls_Space, B.tx.meth_Space_need_field, D.bindsN (fun _ _ _ _ _ _ us hl => match us, hl with | [_, _], _ => rfl), fnok_ofN (post := fun _ : Unit => ([.off, .off] : List (En K))) D sc_Space_need_field rfl (by decide) (fsE_C fsE_1) (fun a => [.fr (r_Space K) a.1, .fr SS.rI a.2]) (fun _ => rfl) (fun a cdv A outer s H E hr => (b_ifr (pt_notX (pt_chainX op_le r2_le op_lt r2_lt pr_int (pr_name (pv 1) rfl) (pr_cb call_len_seq rc_len B.tx.free_len (by decide +kernel) (pa_oneX (pr_fld (ks := ["kept_sizes", "kept_forms", "kept_steps"]) 0 (pr_name (pv 0) rfl) B.tx.cls_Space B.tx.noat_Space_kept_sizes (fun _ => rfl) (fun _ => rfl) (by decide +kernel)))))) b_never (b_nil (t := ()) (.off (.off .nil rfl) rfl)))) (fun a Q h => ?_)⟩
  obtain ⟨⟨h1, h2⟩, h⟩ := h
  dsimp only
  rw [if_pos (decide_eq_true h1)]
  intro _
  rw [decide_eq_true h2]
  exact h
theorem sc_Space_need_form : FnScope ["self", "form", "i"] ["self", "form"] (defScope s_Space_need_form) := ⟨rfl, rfl, rfl, by decide +kernel, rfl, by decide +kernel, by decide +kernel⟩
theorem ok_Space_need_form (B : Bd P w K mg base) : FnM P w K mg base (He.ga K "Space") "need_form" 1 ["self", "form"] (SpF (K := K) (fsC (r_Space K) (fs1 (SS.rU SS.rI))) rN (fun (a : T_Space × (List Int)) => (fun P => (∃ s ∈ SZ, a.1 = spc s ∧ a.2 ∈ forms s) ∧ P () : W Unit))) := by
  obtain ⟨fd, D⟩ := B.says.def_ 33 (d := d_Space_need_form) rfl
  refine ⟨_, fd, B.tx.cls_Space, B.tx.meth_Space_need_form, D.bindsN (fun _ _ _ _ _ _ us hl => match us, hl with | [_, _], _ => rfl), fnok_ofN (post := fun _ : Unit => ([.off, .off, .off] : List (En K))) D sc_Space_need_form rfl (by decide) (fsE_C fsE_1) (fun a => [.fr (r_Space K) a.1, .fr (SS.rU SS.rI) a.2, .off]) (fun _ => rfl) (fun a cdv A outer s H E hr => (b_ifr (pt_cmpX (op_neP hr.units) (r2_ne eqI) (nomark _) (pr_cb call_len_seq rc_lenU B.tx.free_len (by decide +kernel) (pa_oneX (pr_name (pv 1) rfl))) (pr_cb call_len_seq rc_len B.tx.free_len (by decide +kernel) (pa_oneX (pr_fld (ks := ["kept_sizes", "kept_forms", "kept_steps"]) 0 (pr_name (pv 0) rfl) B.tx.cls_Space B.tx.noat_Space_kept_sizes (fun _ => rfl) (fun _ => rfl) (by decide +kernel))))) b_never (b_for (fun s11 : Unit => [.fr (r_Space K) a.1, .fr (SS.rU SS.rI) a.2, .off]) () (pi_rng1X B.tx.free_range (pa_oneX (pr_cb call_len_seq rc_lenU B.tx.free_len (by decide +kernel) (pa_oneX (pr_name (pv 1) rfl))))) (.same (.same (.same .nil))) (fun s11 => (pg_nameX (pg_name (i := 2) sc_Space_need_form.nd rfl (by first | exact Or.inl rfl | exact Or.inr rfl)))) (fun q12 q12x => (b_ifr (pt_notX (pt_chainX op_le r2_le op_lt r2_lt pr_int (pr_ix ix_tup r2_ixU (pr_name (pv 1) rfl) (pr_name (pv 2) rfl)) (pr_ix ix_list r2_ixL (pr_fld (ks := ["kept_sizes", "kept_forms", "kept_steps"]) 0 (pr_name (pv 0) rfl) B.tx.cls_Space B.tx.noat_Space_kept_sizes (fun _ => rfl) (fun _ => rfl) (by decide +kernel)) (pr_name (pv 2) rfl)))) b_never (b_nil (t := ()) (.same (.same (.off .nil rfl)))))) (fun s11 => (b_nil (t := ()) (.off (.off (.same .nil) rfl) rfl)))))) (fun a Q h => ?_)⟩
  obtain ⟨⟨s, hz, e, hf⟩, h⟩ := h
  obtain ⟨a1, a2⟩ := a
  dsimp only at e hf ⊢
  subst e
  have hl := forms_len s hz a2 hf
  have hs := sz_small s hz
  have hi := forms_in s hz a2 hf
  refine fun _ _ => ?_
  rw [show decide ((a2.length : Int) = ((spc s).1.length : Int)) = true from decide_eq_true (by rw [hl]; rfl)]
  refine fun _ => ⟨by omega, ?_⟩
  refine forW_inv (fun _ _ _ => True) trivial (fun pre x suf st C e _ h1 _ _ _ => ?_) (fun _ _ => h)
  obtain ⟨ex, hlt, _⟩ := rng_mem e
  have hlt' : pre.length < s.length := by omega
  obtain ⟨g1, g2⟩ := hi ⟨pre.length, by omega⟩ hlt'
  dsimp only at g1 g2
  have et : x.toNat = pre.length := by omega
  refine ⟨_, atI_of 0 (by omega) (by omega), ?_⟩
  rw [et, if_pos (decide_eq_true g1)]
  refine ⟨_, atI_of 0 (by omega) (by show x < (s.length : Int); omega), ?_⟩
  rw [et, show decide (a2.getD pre.length 0 < (spc s).1.getD pre.length 0) = true from decide_eq_true g2]
  exact h1 () trivial
theorem sc_Space_need_fields : FnScope ["self", "fields", "above", "i"] ["self", "fields"] (defScope s_Space_need_fields) := ⟨rfl, rfl, rfl, by decide +kernel, rfl, by decide +kernel, by decide +kernel⟩
theorem ok_Space_need_fields (B : Bd P w K mg base) : FnM P w K mg base (He.ga K "Space") "need_fields" 1 ["self", "fields"] (SpF (K := K) (fsC (r_Space K) (fs1 (rL SS.rI))) rN (fun (a : T_Space × (List Int)) => (fun P => ∃ s ∈ SZ, a.1 = spc s ∧ a.2.Pairwise (· < ·) ∧ (∀ i ∈ a.2, 0 ≤ i ∧ i < (s.length : Int)) ∧ P () : W Unit))) := by
  obtain ⟨fd, D⟩ := B.says.def_ 35 (d := d_Space_need_fields) rfl
  refine ⟨_, fd, B.tx.cls_Space, B.tx.meth_Space_need_fields, D.bindsN (fun _ _ _ _ _ _ us hl => match us, hl with | [_, _], _ => rfl), fnok_ofN (post := fun _ : Unit => ([.off, .off, .off, .off] : List (En K))) D sc_Space_need_fields rfl (by decide) (fsE_C fsE_1) (fun a => [.fr (r_Space K) a.1, .fr (rL SS.rI) a.2, .off, .off]) (fun _ => rfl) (fun a cdv A outer s H E hr => (b_asg (i := 2) sc_Space_need_fields.nd rfl (by first | exact Or.inl rfl | exact Or.inr rfl) (pr_un un_neg r1_neg pr_int) (fun x13 => (b_for (fun s14 : Int => [.fr (r_Space K) a.1, .fr (rL SS.rI) a.2, .fr SS.rI s14, .off]) x13 (pi_listX (pr_name (pv 1) rfl)) (.same (.same (.same (.same .nil)))) (fun s14 => (pg_nameX (pg_name (i := 3) sc_Space_need_fields.nd rfl (by first | exact Or.inl rfl | exact Or.inr rfl)))) (fun q15 q15x => (b_ifr (pt_notX (pt_chainX op_lt r2_lt op_lt r2_lt (pr_name (pv 2) rfl) (pr_name (pv 3) rfl) (pr_cb call_len_seq rc_len B.tx.free_len (by decide +kernel) (pa_oneX (pr_fld (ks := ["kept_sizes", "kept_forms", "kept_steps"]) 0 (pr_name (pv 0) rfl) B.tx.cls_Space B.tx.noat_Space_kept_sizes (fun _ => rfl) (fun _ => rfl) (by decide +kernel)))))) b_never (b_asg (i := 2) sc_Space_need_fields.nd rfl (by first | exact Or.inl rfl | exact Or.inr rfl) (pr_name (pv 3) rfl) (fun x16 => (b_nil (t := x16) (.same (.same (.same (.off .nil rfl))))))))) (fun s14 => (b_nil (t := ()) (.off (.off (.off (.same .nil) rfl) rfl) rfl))))))) (fun a Q h => ?_)⟩
  obtain ⟨s, hz, e, hs, hb, h⟩ := h
  obtain ⟨a1, F⟩ := a
  dsimp only at e hs hb h ⊢
  subst e
  dsimp only [spc]
  refine forW_inv (fun _ suf st => (∀ i ∈ suf, st < i) ∧ suf.Pairwise (· < ·)) ⟨fun i hi => by have := hb i hi; omega, hs⟩ (fun pre x suf st C e hi h1 _ _ _ => ?_) (fun _ _ => h)
  have hx := hb x (by rw [e]; simp)
  obtain ⟨p1, p2⟩ := List.pairwise_cons.mp hi.2
  exact iT (hi.1 x (by simp)) fun _ => nF hx.2 (h1 _ ⟨fun i hi => p1 i hi, p2⟩)
theorem sc_Space_need_order : FnScope ["self", "order", "met", "i"] ["self", "order"] (defScope s_Space_need_order) := ⟨rfl, rfl, rfl, by decide +kernel, rfl, by decide +kernel, by decide +kernel⟩
theorem ok_Space_need_order (B : Bd P w K mg base) : FnM P w K mg base (He.ga K "Space") "need_order" 1 ["self", "order"] (SpF (K := K) (fsC (r_Space K) (fs1 (rL SS.rI))) rN (fun (a : T_Space × (List Int)) => (fun P => ∃ s ∈ SZ, a.1 = spc s ∧ a.2.Nodup ∧ (∀ i ∈ a.2, 0 ≤ i ∧ i < s.length) ∧ a.2.length = s.length ∧ P () : W Unit))) := by
  obtain ⟨fd, D⟩ := B.says.def_ 36 (d := d_Space_need_order) rfl
  refine ⟨_, fd, B.tx.cls_Space, B.tx.meth_Space_need_order, D.bindsN (fun _ _ _ _ _ _ us hl => match us, hl with | [_, _], _ => rfl), fnok_ofN (post := fun _ : Unit => ([.off, .off, .off, .off] : List (En K))) D sc_Space_need_order rfl (by decide) (fsE_C fsE_1) (fun a => [.fr (r_Space K) a.1, .fr (rL SS.rI) a.2, .off, .off]) (fun _ => rfl) (fun a cdv A outer s H E hr => (b_newK (i := 2) kkI rB sc_Space_need_order.nd rfl (by first | exact Or.inl rfl | exact Or.inr rfl) (fun d17 => (b_for (fun s18 : (List (Int × Bool)) => [.fr (r_Space K) a.1, .fr (rL SS.rI) a.2, .rg d17 [] (dictKRg kkI rB d17 s18), .off]) ([] : (List (Int × Bool))) (pi_listX (pr_name (pv 1) rfl)) (.same (.same (.same (.same .nil)))) (fun s18 => (pg_nameX (pg_name (i := 3) sc_Space_need_order.nd rfl (by first | exact Or.inl rfl | exact Or.inr rfl)))) (fun q19 q19x => (b_ifr (PW.pt (pw_orX (pt_inOwnK (hu_of hr) (pv 2) rfl (pr_name (pv 3) rfl)) (pw_or1X (pt_notX (pt_chainX op_le r2_le op_lt r2_lt pr_int (pr_name (pv 3) rfl) (pr_cb call_len_seq rc_len B.tx.free_len (by decide +kernel) (pa_oneX (pr_fld (ks := ["kept_sizes", "kept_forms", "kept_steps"]) 0 (pr_name (pv 0) rfl) B.tx.cls_Space B.tx.noat_Space_kept_sizes (fun _ => rfl) (fun _ => rfl) (by decide +kernel))))))))) b_never (b_setK (hu_of hr) (pv 2) rfl pr_bl (pr_name (pv 3) rfl) (fun x20 y21 => (b_nil (t := (putA q19 x20 y21)) (.same (.same (.same (.off .nil rfl))))))))) (fun s18 => (b_frzG 2 fz_dK rfl (b_ifr (pt_cmpX op_lt r2_lt (nomark _) (pr_cb L2.call_lenD rc_lenDK B.tx.free_len (by decide +kernel) (pa_oneX (pr_name (pv 2) rfl))) (pr_cb call_len_seq rc_len B.tx.free_len (by decide +kernel) (pa_oneX (pr_fld (ks := ["kept_sizes", "kept_forms", "kept_steps"]) 0 (pr_name (pv 0) rfl) B.tx.cls_Space B.tx.noat_Space_kept_sizes (fun _ => rfl) (fun _ => rfl) (by decide +kernel))))) b_never (b_nil (t := ()) (.off (.off (.off (.same .nil) rfl) rfl) rfl))))))))) (fun a Q h => ?_)⟩
  obtain ⟨s, hz, e, hn, hb, hl, h⟩ := h
  obtain ⟨a1, a2⟩ := a
  dsimp only at e hn hb h ⊢
  subst e
  dsimp only [spc]
  have hN := (sz_n hz).2
  refine fun _ => forW_inv (fun pre _ st => st = pre.map fun i => (i, true)) rfl (fun pre x suf st C e hi h1 _ _ _ => ?_) (fun st hst => by
    have hl2 : st.length = s.length := by rw [hst, List.length_map]; exact hl
    exact fun _ => iF (by show ¬ (st.length : Int) < (s.length : Int); omega) h)
  obtain ⟨b0, b1⟩ := hb x (by rw [e]; simp)
  have hk : st.map (·.1) = pre := by rw [hi, List.map_map]; exact List.map_id' _
  have hx : x ∉ st.map (·.1) := by
    rw [hk]
    rw [e] at hn
    exact fun z => (List.nodup_append.mp hn).2.2 x z x (by simp) rfl
  refine bF (by rw [look_some_iff, dF hx]) (iT b0 fun _ => nF b1 ?_)
  have hl : st.length ≤ 1000 := by
    have h1 : a2.length ≤ s.length := by
      exact len_in hn hb
    rw [e] at h1
    simp at h1
    rw [hi, List.length_map]
    omega
  exact ⟨smallS (by omega), h1 _ (by rw [put_new hx, hi]; simp)⟩
theorem sc_Space___init__ : FnScope ["self", "sizes", "i", "steps", "size"] ["self", "sizes"] (defScope s_Space___init__) := ⟨rfl, rfl, rfl, by decide +kernel, rfl, by decide +kernel, by decide +kernel⟩
theorem ok_Space___init__ (B : Bd P w K mg base) : FnC P w K mg base "Space" (He.ga K "Space") 2 ["self", "sizes"] (SpI (K := K) (He.ga K "Space") (fs1 (rL SS.rI)) (r_Space K) (fun (a : (List Int)) => (fun P => a ∈ SZ ∧ P (spc a) : W T_Space))) := by
  obtain ⟨fd, D⟩ := B.says.def_ 22 (d := d_Space___init__) rfl
  refine ⟨_, fd, B.tx.glo_Space, B.tx.mkr_Space, D.bindsN (fun _ _ _ _ _ _ us hl => match us, hl with | [_, _], _ => rfl), fnok_ofI (C := He.ga K "Space") (FI := F_Space K) D sc_Space___init__ rfl (by decide) fsE_1 (fun i a => [.obj i (He.ga K "Space") [], .fr (rL SS.rI) a, .off, .off, .off]) (fun _ _ => rfl) (fun i b => [.obj i (He.ga K "Space") (F_Space K b), .off, .off, .off, .off]) (fun _ _ => rfl) (fun i a cdv A outer s H E hr => (b_expr (pr_call (ok_bound_sizes B) (hr.mono (by decide)) (pa_oneX (pr_name (pv 1) rfl))) (b_ifr (pt_cmpX (op_eqP hr.units) (r2_eq eqI) (nomark _) (pr_cb call_len_seq rc_len B.tx.free_len (by decide +kernel) (pa_oneX (pr_name (pv 1) rfl))) pr_int) b_never (b_for (fun s22 : Unit => [.obj i (He.ga K "Space") [], .fr (rL SS.rI) a, .off, .off, .off]) () (pi_rng1X B.tx.free_range (pa_oneX (pr_cb call_len_seq rc_len B.tx.free_len (by decide +kernel) (pa_oneX (pr_name (pv 1) rfl))))) (.same (.same (.same (.same (.same .nil))))) (fun s22 => (pg_nameX (pg_name (i := 2) sc_Space___init__.nd rfl (by first | exact Or.inl rfl | exact Or.inr rfl)))) (fun q23 q23x => (b_ifr (pt_cmpX op_lt r2_lt (nomark _) (pr_ix ix_list r2_ixL (pr_name (pv 1) rfl) (pr_name (pv 2) rfl)) pr_int) b_never (b_nil (t := ()) (.same (.same (.off (.same (.same .nil)) rfl)))))) (fun s22 => (b_fld (ks := []) (pv 0) rfl B.tx.cls_Space B.tx.noat_Space_kept_sizes (pr_frz (pr_ctyL call_list_of rcl_list B.tx.free_list (by decide +kernel) (pa_oneX (pr_name (pv 1) rfl)))) rfl (by decide +kernel) (fun x24 => (b_fld (ks := ["kept_sizes"]) (pv 0) rfl B.tx.cls_Space B.tx.noat_Space_kept_forms (pr_call (ok_forms_over B) (hr.mono (by decide)) (pa_oneX (pr_name (pv 1) rfl))) rfl (by decide +kernel) (fun x25 => (b_lcT (i := 3) (own := [("size", 4)]) sc_Space___init__.nd rfl rfl rfl (by decide +kernel) (blkOk_by (own := [("size", 4)]) (N := ["self", "sizes", "i", "steps", "size"]) (sc := defScope s_Space___init__) (by decide +kernel)) (pi_listX (pr_name (pv 1) rfl)) (fun _ _ _ _ _ => (pg_nameX (pg_name (i := 4) sc_Space___init__.nd rfl (by first | exact Or.inl rfl | exact Or.inr rfl)))) (fun x26 _ _ _ _ _ => pts_nilX) (fun x26 _ _ _ _ _ => pr_int) (fun q27 q27l => (b_for (fun s28 : (List Int) => [.obj i (He.ga K "Space") ([("kept_sizes", Rp.mp (K := K) (rL SS.rI) x24), ("kept_forms", Rp.mp (K := K) (rL (SS.rU SS.rI)) x25)] : List (Str × Mp)), .fr (rL SS.rI) a, .off, .own q27 SS.rI s28, .off]) q27l (pi_rngDX B.tx.free_range (pa_consX (pr_op op_sub r2_sub (pr_cb call_len_seq rc_len B.tx.free_len (by decide +kernel) (pa_oneX (pr_name (pv 1) rfl))) pr_int) (pa_consX (pr_un un_neg r1_neg pr_int) (pa_oneX (pr_un un_neg r1_neg pr_int))))) (.same (.same (.same (.same (.same .nil))))) (fun s28 => (pg_nameX (pg_name (i := 2) sc_Space___init__.nd rfl (by first | exact Or.inl rfl | exact Or.inr rfl)))) (fun q29 q29x => (b_seti (pv 3) rfl (pr_op op_mul r2_mul (pr_ownix (pv 3) rfl (pr_op op_add r2_add (pr_name (pv 2) rfl) pr_int)) (pr_ix ix_list r2_ixL (pr_name (pv 1) rfl) (pr_op op_add r2_add (pr_name (pv 2) rfl) pr_int))) (pr_name (pv 2) rfl) (fun q30 q30l => (b_nil (t := (q29.set q30 q30l)) (.same (.same (.off (.same (.same .nil)) rfl))))))) (fun s28 => (b_frz 3 rfl (b_fld (ks := ["kept_sizes", "kept_forms"]) (pv 0) rfl B.tx.cls_Space B.tx.noat_Space_kept_steps (pr_name (pv 3) rfl) rfl (by decide +kernel) (fun x31 => (b_nil (t := (x24, x25, x31)) (.same (.off (.same (.off (.same .nil) rfl)) rfl))))))))))))))))))) (fun i a Q h => ?_)⟩
  obtain ⟨hz, h⟩ := h
  dsimp only
  refine ⟨hz, fun _ => ?_⟩
  have hz' := hz
  simp only [SZ, List.mem_cons, List.not_mem_nil, or_false] at hz
  rcases hz with hz | hz | hz | hz | hz | hz | hz | hz | hz | hz | hz | hz | hz <;> subst hz <;> simp [forW, lcW, rng, rngD, List.range, List.range.loop, atI, ixN, CMul, hz'] <;> exact fun _ => h
theorem sc_Space_width : FnScope ["self"] ["self"] (defScope s_Space_width) := ⟨rfl, rfl, rfl, by decide +kernel, rfl, by decide +kernel, by decide +kernel⟩
theorem ok_Space_width (B : Bd P w K mg base) : FnM P w K mg base (He.ga K "Space") "width" 1 ["self"] (SpF (K := K) (fs1 (r_Space K)) SS.rI (fun (a : T_Space) => (fun P => P (a.1.length : Int) : W Int))) := by
  obtain ⟨fd, D⟩ := B.says.def_ 26 (d := d_Space_width) rfl
  refine ⟨_, fd, B.tx.cls_Space, B.tx.meth_Space_width, D.bindsN (fun _ _ _ _ _ _ us hl => match us, hl with | [_], _ => rfl), fnok_of (post := fun _ : Unit => ([.off] : List (En K))) D sc_Space_width rfl (by decide) fsE_1 (fun a => [.fr (r_Space K) a]) (fun _ => rfl) (fun a cdv A outer s H E hr => (b_ret (pr_cb call_len_seq rc_len B.tx.free_len (by decide +kernel) (pa_oneX (pr_fld (ks := ["kept_sizes", "kept_forms", "kept_steps"]) 0 (pr_name (pv 0) rfl) B.tx.cls_Space B.tx.noat_Space_kept_sizes (fun _ => rfl) (fun _ => rfl) (by decide +kernel)))))) (fun a Q h => ?_)⟩
  exact fun _ => h
theorem sc_Space_sizes : FnScope ["self"] ["self"] (defScope s_Space_sizes) := ⟨rfl, rfl, rfl, by decide +kernel, rfl, by decide +kernel, by decide +kernel⟩
theorem ok_Space_sizes (B : Bd P w K mg base) : FnM P w K mg base (He.ga K "Space") "sizes" 1 ["self"] (SpF (K := K) (fs1 (r_Space K)) (rL SS.rI) (fun (a : T_Space) => (fun P => P a.1 : W (List Int)))) := by
  obtain ⟨fd, D⟩ := B.says.def_ 27 (d := d_Space_sizes) rfl
  refine ⟨_, fd, B.tx.cls_Space, B.tx.meth_Space_sizes, D.bindsN (fun _ _ _ _ _ _ us hl => match us, hl with | [_], _ => rfl), fnok_of (post := fun _ : Unit => ([.off] : List (En K))) D sc_Space_sizes rfl (by decide) fsE_1 (fun a => [.fr (r_Space K) a]) (fun _ => rfl) (fun a cdv A outer s H E hr => (b_ret (pr_frz (pr_ctyL call_list_of rcl_list B.tx.free_list (by decide +kernel) (pa_oneX (pr_fld (ks := ["kept_sizes", "kept_forms", "kept_steps"]) 0 (pr_name (pv 0) rfl) B.tx.cls_Space B.tx.noat_Space_kept_sizes (fun _ => rfl) (fun _ => rfl) (by decide +kernel))))))) (fun a Q h => ?_)⟩
  exact h
theorem sc_Space_size : FnScope ["self", "i"] ["self", "i"] (defScope s_Space_size) := ⟨rfl, rfl, rfl, by decide +kernel, rfl, by decide +kernel, by decide +kernel⟩
theorem ok_Space_size (B : Bd P w K mg base) : FnM P w K mg base (He.ga K "Space") "size" 2 ["self", "i"] (SpF (K := K) (fsC (r_Space K) (fs1 SS.rI)) SS.rI (fun (a : T_Space × Int) => (fun P => (0 ≤ a.2 ∧ a.2 < a.1.1.length) ∧ P (a.1.1.getD a.2.toNat 0) : W Int))) := by
  obtain ⟨fd, D⟩ := B.says.def_ 28 (d := d_Space_size) rfl
  refine ⟨_, fd, B.tx.cls_Space, B.tx.meth_Space_size, D.bindsN (fun _ _ _ _ _ _ us hl => match us, hl with | [_, _], _ => rfl), fnok_of (post := fun _ : Unit => ([.off, .off] : List (En K))) D sc_Space_size rfl (by decide) (fsE_C fsE_1) (fun a => [.fr (r_Space K) a.1, .fr SS.rI a.2]) (fun _ => rfl) (fun a cdv A outer s H E hr => (b_expr (pr_meth (ks := ["kept_sizes", "kept_forms", "kept_steps"]) (ok_Space_need_field B) (hr.mono (by decide)) (pr_name (pv 0) rfl) (fun _ => rfl) (by decide +kernel) (pa_oneX (pr_name (pv 1) rfl))) (b_ret (pr_ix ix_list r2_ixL (pr_fld (ks := ["kept_sizes", "kept_forms", "kept_steps"]) 0 (pr_name (pv 0) rfl) B.tx.cls_Space B.tx.noat_Space_kept_sizes (fun _ => rfl) (fun _ => rfl) (by decide +kernel)) (pr_name (pv 1) rfl))))) (fun a Q h => ?_)⟩
  obtain ⟨⟨h1, h2⟩, h⟩ := h
  exact ⟨⟨h1, h2⟩, _, atI_of 0 h1 h2, h⟩
theorem sc_Space_many : FnScope ["self"] ["self"] (defScope s_Space_many) := ⟨rfl, rfl, rfl, by decide +kernel, rfl, by decide +kernel, by decide +kernel⟩
theorem ok_Space_many (B : Bd P w K mg base) : FnM P w K mg base (He.ga K "Space") "many" 1 ["self"] (SpF (K := K) (fs1 (r_Space K)) SS.rI (fun (a : T_Space) => (fun P => P (a.2.1.length : Int) : W Int))) := by
  obtain ⟨fd, D⟩ := B.says.def_ 29 (d := d_Space_many) rfl
  refine ⟨_, fd, B.tx.cls_Space, B.tx.meth_Space_many, D.bindsN (fun _ _ _ _ _ _ us hl => match us, hl with | [_], _ => rfl), fnok_of (post := fun _ : Unit => ([.off] : List (En K))) D sc_Space_many rfl (by decide) fsE_1 (fun a => [.fr (r_Space K) a]) (fun _ => rfl) (fun a cdv A outer s H E hr => (b_ret (pr_cb call_len_seq rc_len B.tx.free_len (by decide +kernel) (pa_oneX (pr_fld (ks := ["kept_sizes", "kept_forms", "kept_steps"]) 1 (pr_name (pv 0) rfl) B.tx.cls_Space B.tx.noat_Space_kept_forms (fun _ => rfl) (fun _ => rfl) (by decide +kernel)))))) (fun a Q h => ?_)⟩
  exact fun _ => h
theorem sc_Space_forms : FnScope ["self"] ["self"] (defScope s_Space_forms) := ⟨rfl, rfl, rfl, by decide +kernel, rfl, by decide +kernel, by decide +kernel⟩
theorem ok_Space_forms (B : Bd P w K mg base) : FnM P w K mg base (He.ga K "Space") "forms" 1 ["self"] (SpF (K := K) (fs1 (r_Space K)) (rL (SS.rU SS.rI)) (fun (a : T_Space) => (fun P => P a.2.1 : W (List (List Int))))) := by
  obtain ⟨fd, D⟩ := B.says.def_ 30 (d := d_Space_forms) rfl
  refine ⟨_, fd, B.tx.cls_Space, B.tx.meth_Space_forms, D.bindsN (fun _ _ _ _ _ _ us hl => match us, hl with | [_], _ => rfl), fnok_of (post := fun _ : Unit => ([.off] : List (En K))) D sc_Space_forms rfl (by decide) fsE_1 (fun a => [.fr (r_Space K) a]) (fun _ => rfl) (fun a cdv A outer s H E hr => (b_ret (pr_frz (pr_ctyL call_list_of rcl_list B.tx.free_list (by decide +kernel) (pa_oneX (pr_fld (ks := ["kept_sizes", "kept_forms", "kept_steps"]) 1 (pr_name (pv 0) rfl) B.tx.cls_Space B.tx.noat_Space_kept_forms (fun _ => rfl) (fun _ => rfl) (by decide +kernel))))))) (fun a Q h => ?_)⟩
  exact h
theorem sc_Space_step_of : FnScope ["self", "i"] ["self", "i"] (defScope s_Space_step_of) := ⟨rfl, rfl, rfl, by decide +kernel, rfl, by decide +kernel, by decide +kernel⟩
theorem ok_Space_step_of (B : Bd P w K mg base) : FnM P w K mg base (He.ga K "Space") "step_of" 1 ["self", "i"] (SpF (K := K) (fsC (r_Space K) (fs1 SS.rI)) SS.rI (fun (a : T_Space × Int) => (fun P => (0 ≤ a.2 ∧ a.2 < a.1.2.2.length) ∧ P (a.1.2.2.getD a.2.toNat 0) : W Int))) := by
  obtain ⟨fd, D⟩ := B.says.def_ 31 (d := d_Space_step_of) rfl
  refine ⟨_, fd, B.tx.cls_Space, B.tx.meth_Space_step_of, D.bindsN (fun _ _ _ _ _ _ us hl => match us, hl with | [_, _], _ => rfl), fnok_of (post := fun _ : Unit => ([.off, .off] : List (En K))) D sc_Space_step_of rfl (by decide) (fsE_C fsE_1) (fun a => [.fr (r_Space K) a.1, .fr SS.rI a.2]) (fun _ => rfl) (fun a cdv A outer s H E hr => (b_ret (pr_ix ix_list r2_ixL (pr_fld (ks := ["kept_sizes", "kept_forms", "kept_steps"]) 2 (pr_name (pv 0) rfl) B.tx.cls_Space B.tx.noat_Space_kept_steps (fun _ => rfl) (fun _ => rfl) (by decide +kernel)) (pr_name (pv 1) rfl)))) (fun a Q h => ?_)⟩
  obtain ⟨⟨h1, h2⟩, h⟩ := h
  exact ⟨_, atI_of 0 h1 h2, h⟩
theorem sc_Space_number_of : FnScope ["self", "form", "number", "i"] ["self", "form"] (defScope s_Space_number_of) := ⟨rfl, rfl, rfl, by decide +kernel, rfl, by decide +kernel, by decide +kernel⟩
theorem ok_Space_number_of (B : Bd P w K mg base) : FnM P w K mg base (He.ga K "Space") "number_of" 2 ["self", "form"] (SpF (K := K) (fsC (r_Space K) (fs1 (SS.rU SS.rI))) SS.rI (fun (a : T_Space × (List Int)) => (fun P => ∃ s ∈ SZ, a.1 = spc s ∧ a.2 ∈ forms s ∧ P (num s a.2) : W Int))) := by
  obtain ⟨fd, D⟩ := B.says.def_ 32 (d := d_Space_number_of) rfl
  refine ⟨_, fd, B.tx.cls_Space, B.tx.meth_Space_number_of, D.bindsN (fun _ _ _ _ _ _ us hl => match us, hl with | [_, _], _ => rfl), fnok_of (post := fun _ : Unit => ([.off, .off, .off, .off] : List (En K))) D sc_Space_number_of rfl (by decide) (fsE_C fsE_1) (fun a => [.fr (r_Space K) a.1, .fr (SS.rU SS.rI) a.2, .off, .off]) (fun _ => rfl) (fun a cdv A outer s H E hr => (b_expr (pr_meth (ks := ["kept_sizes", "kept_forms", "kept_steps"]) (ok_Space_need_form B) (hr.mono (by decide)) (pr_name (pv 0) rfl) (fun _ => rfl) (by decide +kernel) (pa_oneX (pr_name (pv 1) rfl))) (b_asg (i := 2) sc_Space_number_of.nd rfl (by first | exact Or.inl rfl | exact Or.inr rfl) pr_int (fun x32 => (b_for (fun s33 : Int => [.fr (r_Space K) a.1, .fr (SS.rU SS.rI) a.2, .fr SS.rI s33, .off]) x32 (pi_rng1X B.tx.free_range (pa_oneX (pr_cb call_len_seq rc_len B.tx.free_len (by decide +kernel) (pa_oneX (pr_fld (ks := ["kept_sizes", "kept_forms", "kept_steps"]) 0 (pr_name (pv 0) rfl) B.tx.cls_Space B.tx.noat_Space_kept_sizes (fun _ => rfl) (fun _ => rfl) (by decide +kernel)))))) (.same (.same (.same (.same .nil)))) (fun s33 => (pg_nameX (pg_name (i := 3) sc_Space_number_of.nd rfl (by first | exact Or.inl rfl | exact Or.inr rfl)))) (fun q34 q34x => (b_aug (i := 2) sc_Space_number_of.nd rfl (by first | exact Or.inl rfl | exact Or.inr rfl) ip_add rfl (pr_op op_mul r2_mul (pr_ix ix_tup r2_ixU (pr_name (pv 1) rfl) (pr_name (pv 3) rfl)) (pr_ix ix_list r2_ixL (pr_fld (ks := ["kept_sizes", "kept_forms", "kept_steps"]) 2 (pr_name (pv 0) rfl) B.tx.cls_Space B.tx.noat_Space_kept_steps (fun _ => rfl) (fun _ => rfl) (by decide +kernel)) (pr_name (pv 3) rfl))) (fun x35 => (b_nil (t := x35) (.same (.same (.same (.off .nil rfl)))))))) (fun s33 => (b_ret (pr_name (pv 2) rfl)))))))) (fun a Q h => ?_)⟩
  obtain ⟨s, hz, e, hf, h⟩ := h
  obtain ⟨a1, a2⟩ := a
  dsimp only at e hf h ⊢
  subst e
  have hl := forms_len s hz a2 hf
  have hs := sz_small s hz
  have hi := forms_in s hz a2 hf
  refine ⟨⟨s, hz, rfl, hf⟩, fun _ => ⟨by show ((s.length : Int) < _ ∧ _ < (s.length : Int)); omega, ?_⟩⟩
  refine forW_inv (fun pre _ st => st = pre.foldl (fun n i => n + a2.getD i.toNat 0 * (steps s).getD i.toNat 0) 0) rfl (fun pre x suf st C e hi' h1 _ _ _ => ?_) (fun st hst => by subst hst; exact h)
  subst hi'
  obtain ⟨ex, hlt, _⟩ := rng_mem e
  have hlt' : pre.length < s.length := by have : (spc s).1.length = s.length := rfl; omega
  obtain ⟨g1, g2⟩ := hi ⟨pre.length, by omega⟩ hlt'
  dsimp only at g1 g2
  have et : x.toNat = pre.length := by omega
  refine ⟨_, atI_of 0 (by omega) (by omega), _, atI_of 0 (by omega) (by show x < ((steps s).length : Int); rw [steps_len]; omega), ?_, h1 _ ?_⟩
  · rw [et]
    have := sz_in s hz (s.getD pre.length 0) (by rw [List.getD_eq_getElem?_getD, List.getElem?_eq_getElem hlt']; exact List.getElem_mem hlt')
    exact cmulL (by omega) (by omega)
  · rw [List.foldl_append]; rfl
theorem sc_bound_dues : FnScope ["dues", "due"] ["dues"] (defScope s_bound_dues) := ⟨rfl, rfl, rfl, by decide +kernel, rfl, by decide +kernel, by decide +kernel⟩
theorem ok_bound_dues (B : Bd P w K mg base) : FnG P w K mg base "bound_dues" 1 ["dues"] (SpF (K := K) (fs1 (rL SS.rI)) rN (fun (a : (List Int)) => (fun P => (∀ d ∈ a, Big d) ∧ P () : W Unit))) := by
  obtain ⟨fd, D⟩ := B.says.def_ 37 (d := d_bound_dues) rfl
  refine ⟨_, fd, B.tx.glo_bound_dues, D.kp, D.bindsN (fun _ _ _ _ _ _ us hl => match us, hl with | [_], _ => rfl), fnok_ofN (post := fun _ : Unit => ([.off, .off] : List (En K))) D sc_bound_dues rfl (by decide) fsE_1 (fun a => [.fr (rL SS.rI) a, .off]) (fun _ => rfl) (fun a cdv A outer s H E hr => (b_for (fun s36 : Unit => [.fr (rL SS.rI) a, .off]) () (pi_listX (pr_name (pv 0) rfl)) (.same (.same .nil)) (fun s36 => (pg_nameX (pg_name (i := 1) sc_bound_dues.nd rfl (by first | exact Or.inl rfl | exact Or.inr rfl)))) (fun q37 q37x => (b_ifr (pt_notX (pt_chainX op_le r2_le op_le r2_le (pr_un un_neg r1_neg (pr_gint (by rfl) B.tx.int_MOST_DUE)) (pr_name (pv 1) rfl) (pr_gint (by rfl) B.tx.int_MOST_DUE))) b_never (b_nil (t := ()) (.same (.off .nil rfl))))) (fun s36 => (b_nil (t := ()) (.off (.same .nil) rfl))))) (fun a Q h => ?_)⟩
  obtain ⟨hb, h⟩ := h
  refine forW_all (fun x hx C c => ?_) h
  dsimp only
  rw [if_pos (dT (hb x hx).1), dT (hb x hx).2]
  exact c
theorem sc_Book___init__ : FnScope ["self", "space", "dues"] ["self", "space", "dues"] (defScope s_Book___init__) := ⟨rfl, rfl, rfl, by decide +kernel, rfl, by decide +kernel, by decide +kernel⟩
theorem ok_Book___init__ (B : Bd P w K mg base) : FnC P w K mg base "Book" (He.ga K "Book") 2 ["self", "space", "dues"] (SpI (K := K) (He.ga K "Book") (fsC (r_Space K) (fs1 (rL SS.rI))) (r_Book K) (fun (a : T_Space × (List Int)) => (fun P => (∀ d ∈ a.2, Big d) ∧ a.2.length = a.1.2.1.length ∧ P (a.1, a.2) : W T_Book))) := by
  obtain ⟨fd, D⟩ := B.says.def_ 38 (d := d_Book___init__) rfl
  refine ⟨_, fd, B.tx.glo_Book, B.tx.mkr_Book, D.bindsN (fun _ _ _ _ _ _ us hl => match us, hl with | [_, _, _], _ => rfl), fnok_ofI (C := He.ga K "Book") (FI := F_Book K) D sc_Book___init__ rfl (by decide) (fsE_C fsE_1) (fun i a => [.obj i (He.ga K "Book") [], .fr (r_Space K) a.1, .fr (rL SS.rI) a.2]) (fun _ _ => rfl) (fun i b => [.obj i (He.ga K "Book") (F_Book K b), .off, .off]) (fun _ _ => rfl) (fun i a cdv A outer s H E hr => (b_expr (pr_call (ok_bound_dues B) (hr.mono (by decide)) (pa_oneX (pr_name (pv 2) rfl))) (b_ifr (pt_cmpX (op_neP hr.units) (r2_ne eqI) (nomark _) (pr_cb call_len_seq rc_len B.tx.free_len (by decide +kernel) (pa_oneX (pr_name (pv 2) rfl))) (pr_meth0 (ks := ["kept_sizes", "kept_forms", "kept_steps"]) (ok_Space_many B) (hr.mono (by decide)) (pr_name (pv 1) rfl) (fun _ => rfl) (by decide +kernel))) b_never (b_fld (ks := []) (pv 0) rfl B.tx.cls_Book B.tx.noat_Book_kept_space (pr_name (pv 1) rfl) rfl (by decide +kernel) (fun x38 => (b_fld (ks := ["kept_space"]) (pv 0) rfl B.tx.cls_Book B.tx.noat_Book_kept_dues (pr_frz (pr_ctyL call_list_of rcl_list B.tx.free_list (by decide +kernel) (pa_oneX (pr_name (pv 2) rfl)))) rfl (by decide +kernel) (fun x39 => (b_nil (t := (x38, x39)) (.same (.off (.off .nil rfl) rfl)))))))))) (fun i a Q h => ?_)⟩
  obtain ⟨h1, h2, h⟩ := h
  refine ⟨h1, fun _ => ?_⟩
  dsimp only
  rw [dT (show (a.2.length : Int) = (a.1.2.1.length : Int) by rw [h2])]
  exact h
theorem sc_Book_space : FnScope ["self"] ["self"] (defScope s_Book_space) := ⟨rfl, rfl, rfl, by decide +kernel, rfl, by decide +kernel, by decide +kernel⟩
theorem ok_Book_space (B : Bd P w K mg base) : FnM P w K mg base (He.ga K "Book") "space" 1 ["self"] (SpF (K := K) (fs1 (r_Book K)) (r_Space K) (fun (a : T_Book) => (fun P => P a.1 : W T_Space))) := by
  obtain ⟨fd, D⟩ := B.says.def_ 40 (d := d_Book_space) rfl
  refine ⟨_, fd, B.tx.cls_Book, B.tx.meth_Book_space, D.bindsN (fun _ _ _ _ _ _ us hl => match us, hl with | [_], _ => rfl), fnok_of (post := fun _ : Unit => ([.off] : List (En K))) D sc_Book_space rfl (by decide) fsE_1 (fun a => [.fr (r_Book K) a]) (fun _ => rfl) (fun a cdv A outer s H E hr => (b_ret (pr_fld (ks := ["kept_space", "kept_dues"]) 0 (pr_name (pv 0) rfl) B.tx.cls_Book B.tx.noat_Book_kept_space (fun _ => rfl) (fun _ => rfl) (by decide +kernel)))) (fun a Q h => ?_)⟩
  exact h
theorem sc_Book_dues : FnScope ["self"] ["self"] (defScope s_Book_dues) := ⟨rfl, rfl, rfl, by decide +kernel, rfl, by decide +kernel, by decide +kernel⟩
theorem ok_Book_dues (B : Bd P w K mg base) : FnM P w K mg base (He.ga K "Book") "dues" 1 ["self"] (SpF (K := K) (fs1 (r_Book K)) (rL SS.rI) (fun (a : T_Book) => (fun P => P a.2 : W (List Int)))) := by
  obtain ⟨fd, D⟩ := B.says.def_ 41 (d := d_Book_dues) rfl
  refine ⟨_, fd, B.tx.cls_Book, B.tx.meth_Book_dues, D.bindsN (fun _ _ _ _ _ _ us hl => match us, hl with | [_], _ => rfl), fnok_of (post := fun _ : Unit => ([.off] : List (En K))) D sc_Book_dues rfl (by decide) fsE_1 (fun a => [.fr (r_Book K) a]) (fun _ => rfl) (fun a cdv A outer s H E hr => (b_ret (pr_frz (pr_ctyL call_list_of rcl_list B.tx.free_list (by decide +kernel) (pa_oneX (pr_fld (ks := ["kept_space", "kept_dues"]) 1 (pr_name (pv 0) rfl) B.tx.cls_Book B.tx.noat_Book_kept_dues (fun _ => rfl) (fun _ => rfl) (by decide +kernel))))))) (fun a Q h => ?_)⟩
  exact h
theorem sc_same_due : FnScope ["dues", "numbers", "number"] ["dues", "numbers"] (defScope s_same_due) := ⟨rfl, rfl, rfl, by decide +kernel, rfl, by decide +kernel, by decide +kernel⟩
theorem ok_same_due (B : Bd P w K mg base) : FnG P w K mg base "same_due" 1 ["dues", "numbers"] (SpF (K := K) (fsC (rL SS.rI) (fs1 (rL SS.rI))) rB (fun (a : (List Int) × (List Int)) => (fun P => (∀ k ∈ a.2, 0 ≤ k ∧ k < a.1.length) ∧ P (sameN a.1 a.2) : W Bool))) := by
  obtain ⟨fd, D⟩ := B.says.def_ 6 (d := d_same_due) rfl
  refine ⟨_, fd, B.tx.glo_same_due, D.kp, D.bindsN (fun _ _ _ _ _ _ us hl => match us, hl with | [_, _], _ => rfl), fnok_of (post := fun _ : Unit => ([.off, .off, .off] : List (En K))) D sc_same_due rfl (by decide) (fsE_C fsE_1) (fun a => [.fr (rL SS.rI) a.1, .fr (rL SS.rI) a.2, .off]) (fun _ => rfl) (fun a cdv A outer s H E hr => (b_for (fun s40 : Unit => [.fr (rL SS.rI) a.1, .fr (rL SS.rI) a.2, .off]) () (pi_listX (pr_name (pv 1) rfl)) (.same (.same (.same .nil))) (fun s40 => (pg_nameX (pg_name (i := 2) sc_same_due.nd rfl (by first | exact Or.inl rfl | exact Or.inr rfl)))) (fun q41 q41x => (b_ifr (pt_cmpX (op_neP hr.units) (r2_ne eqI) (nomark _) (pr_ix ix_list r2_ixL (pr_name (pv 0) rfl) (pr_name (pv 2) rfl)) (pr_ix ix_list r2_ixL (pr_name (pv 0) rfl) (pr_ix ix_list r2_ixL (pr_name (pv 1) rfl) pr_int))) (b_ret pr_bl) (b_nil (t := ()) (.same (.same (.off .nil rfl)))))) (fun s40 => (b_ret pr_bl)))) (fun a Q h => ?_)⟩
  obtain ⟨hb, h⟩ := h
  obtain ⟨a1, a2⟩ := a
  dsimp only at hb h ⊢
  refine forW_inv (fun pre suf _ => sameN a1 a2 = suf.all (fun k => decide (dueN a1 k = dueN a1 (a2.getD 0 0)))) rfl (fun pre x suf st C e hi h1 _ _ h4 => ?_) (fun st e => by show Q true; rw [e] at h; exact h)
  have hl : 0 < a2.length := by rw [e, List.length_append, List.length_cons]; omega
  obtain ⟨x0, x1⟩ := hb x (by rw [e]; simp)
  obtain ⟨z0, z1⟩ := hb (a2.getD 0 0) (by rw [List.getD_eq_getElem?_getD, List.getElem?_eq_getElem hl]; exact List.getElem_mem hl)
  refine ⟨_, atI_of 0 x0 x1, _, atI_of 0 (by omega) (by omega), _, atI_of 0 z0 z1, ?_⟩
  rw [List.all_cons] at hi
  show if (!decide (dueN a1 x = dueN a1 (a2.getD 0 0))) = true then _ else _
  cases hd : decide (dueN a1 x = dueN a1 (a2.getD 0 0)) with
  | true => rw [hd, Bool.true_and] at hi; exact h1 () hi
  | false => rw [hd, Bool.false_and] at hi; exact h4 false (by show Q false; rw [hi] at h; exact h)
theorem sc_needs : FnScope ["book", "space", "dues", "told", "i", "step", "size", "start", "due", "line", "number", "v"] ["book"] (defScope s_needs) := ⟨rfl, rfl, rfl, by decide +kernel, rfl, by decide +kernel, by decide +kernel⟩
theorem ok_needs (B : Bd P w K mg base) : FnG P w K mg base "needs" 3 ["book"] (SpF (K := K) (fs1 (r_Book K)) (rL (rL SS.rI)) (fun (a : T_Book) => (fun P => ∃ s dues, s ∈ SZ ∧ dues.length = (forms s).length ∧ a = (spc s, dues) ∧ P (needT s dues) : W (List (List Int))))) := by
  obtain ⟨fd, D⟩ := B.says.def_ 7 (d := d_needs) rfl
  refine ⟨_, fd, B.tx.glo_needs, D.kp, D.bindsN (fun _ _ _ _ _ _ us hl => match us, hl with | [_], _ => rfl), fnok_of (post := fun _ : Unit => ([.off, .off, .off, .off, .off, .off, .off, .off, .off, .off, .off, .off] : List (En K))) D sc_needs rfl (by decide) fsE_1 (fun a => [.fr (r_Book K) a, .off, .off, .off, .off, .off, .off, .off, .off, .off, .off, .off]) (fun _ => rfl) (fun a cdv A outer s H E hr => (b_asg (i := 1) sc_needs.nd rfl (by first | exact Or.inl rfl | exact Or.inr rfl) (pr_meth0 (ks := ["kept_space", "kept_dues"]) (ok_Book_space B) (hr.mono (by decide)) (pr_name (pv 0) rfl) (fun _ => rfl) (by decide +kernel)) (fun x42 => (b_asg (i := 2) sc_needs.nd rfl (by first | exact Or.inl rfl | exact Or.inr rfl) (pr_meth0 (ks := ["kept_space", "kept_dues"]) (ok_Book_dues B) (hr.mono (by decide)) (pr_name (pv 0) rfl) (fun _ => rfl) (by decide +kernel)) (fun x43 => (b_lcLT (i := 3) (own := [("due", 8)]) sc_needs.nd rfl rfl rfl (by decide +kernel) (blkOk_by (own := [("due", 8)]) (N := ["book", "space", "dues", "told", "i", "step", "size", "start", "due", "line", "number", "v"]) (sc := defScope s_needs) (by decide +kernel)) (pi_listX (pr_name (pv 2) rfl)) (fun _ _ _ _ _ => (pg_nameX (pg_name (i := 8) sc_needs.nd rfl (by first | exact Or.inl rfl | exact Or.inr rfl)))) (fun x44 _ _ _ _ _ => pts_nilX) (fun x44 _ _ _ _ _ => (pr_lst (R := SS.rI) pa_nilR)) (fun q45 q45s q45z => (b_for (fun s46 : (List (List Int)) => [.fr (r_Book K) a, .fr (r_Space K) x42, .fr (rL SS.rI) x43, .rg q45 q45s (llRg SS.rI q45 q45s s46), .off, .off, .off, .off, .off, .off, .off, .off]) q45z (pi_rng1X B.tx.free_range (pa_oneX (pr_meth0 (ks := ["kept_sizes", "kept_forms", "kept_steps"]) (ok_Space_width B) (hr.mono (by decide)) (pr_name (pv 1) rfl) (fun _ => rfl) (by decide +kernel)))) (.same (.same (.same (.same (.same (.same (.same (.same (.same (.same (.same (.same .nil)))))))))))) (fun s46 => (pg_nameX (pg_name (i := 4) sc_needs.nd rfl (by first | exact Or.inl rfl | exact Or.inr rfl)))) (fun q47 q47x => (b_asg (i := 5) sc_needs.nd rfl (by first | exact Or.inl rfl | exact Or.inr rfl) (pr_meth (ks := ["kept_sizes", "kept_forms", "kept_steps"]) (ok_Space_step_of B) (hr.mono (by decide)) (pr_name (pv 1) rfl) (fun _ => rfl) (by decide +kernel) (pa_oneX (pr_name (pv 4) rfl))) (fun x48 => (b_asg (i := 6) sc_needs.nd rfl (by first | exact Or.inl rfl | exact Or.inr rfl) (pr_meth (ks := ["kept_sizes", "kept_forms", "kept_steps"]) (ok_Space_size B) (hr.mono (by decide)) (pr_name (pv 1) rfl) (fun _ => rfl) (by decide +kernel) (pa_oneX (pr_name (pv 4) rfl))) (fun x49 => (b_for (fun s50 : (List (List Int)) => [.fr (r_Book K) a, .fr (r_Space K) x42, .fr (rL SS.rI) x43, .rg q45 q45s (llRg SS.rI q45 q45s s50), .fr SS.rI q47x, .fr SS.rI x48, .fr SS.rI x49, .off, .off, .off, .off, .off]) q47 (pi_rng1X B.tx.free_range (pa_oneX (pr_cb call_len_seq rc_len B.tx.free_len (by decide +kernel) (pa_oneX (pr_name (pv 2) rfl))))) (.same (.same (.same (.same (.same (.same (.same (.same (.same (.same (.same (.same .nil)))))))))))) (fun s50 => (pg_nameX (pg_name (i := 7) sc_needs.nd rfl (by first | exact Or.inl rfl | exact Or.inr rfl)))) (fun q51 q51x => (b_if (fun s59 : (List (List Int)) => [.fr (r_Book K) a, .fr (r_Space K) x42, .fr (rL SS.rI) x43, .rg q45 q45s (llRg SS.rI q45 q45s s59), .fr SS.rI q47x, .fr SS.rI x48, .fr SS.rI x49, .fr SS.rI q51x, .off, .off, .off, .off]) (pt_cmpX (op_eqP hr.units) (r2_eq eqI) (nomark _) (pr_op op_modN r2_mod (pr_op op_fdivN r2_fdiv (pr_name (pv 7) rfl) (pr_name (pv 5) rfl)) (pr_name (pv 6) rfl)) pr_int) (b_lcT (i := 9) (own := [("v", 11)]) sc_needs.nd rfl rfl rfl (by decide +kernel) (blkOk_by (own := [("v", 11)]) (N := ["book", "space", "dues", "told", "i", "step", "size", "start", "due", "line", "number", "v"]) (sc := defScope s_needs) (by decide +kernel)) (pi_rng1X B.tx.free_range (pa_oneX (pr_name (pv 6) rfl))) (fun _ _ _ _ _ => (pg_nameX (pg_name (i := 11) sc_needs.nd rfl (by first | exact Or.inl rfl | exact Or.inr rfl)))) (fun x52 _ _ _ _ _ => pts_nilX) (fun x52 _ _ _ _ _ => (pr_op op_add r2_add (pr_name (pv 7) rfl) (pr_op op_mul r2_mul (pr_name (pv 11) rfl) (pr_name (pv 5) rfl)))) (fun q53 q53l => (b_frz 9 rfl (b_if (fun s58 : (List (List Int)) => [.fr (r_Book K) a, .fr (r_Space K) x42, .fr (rL SS.rI) x43, .rg q45 q45s (llRg SS.rI q45 q45s s58), .fr SS.rI q47x, .fr SS.rI x48, .fr SS.rI x49, .fr SS.rI q51x, .off, .fr (rL SS.rI) q53l, .off, .off]) (pt_notX (pt_valX (pr_call (ok_same_due B) (hr.mono (by decide)) (pa_consX (pr_name (pv 2) rfl) (pa_oneX (pr_name (pv 9) rfl)))))) (b_for (fun s54 : (List (List Int)) => [.fr (r_Book K) a, .fr (r_Space K) x42, .fr (rL SS.rI) x43, .rg q45 q45s (llRg SS.rI q45 q45s s54), .fr SS.rI q47x, .fr SS.rI x48, .fr SS.rI x49, .fr SS.rI q51x, .off, .fr (rL SS.rI) q53l, .off, .off]) q51 (pi_listX (pr_name (pv 9) rfl)) (.same (.same (.same (.same (.same (.same (.same (.same (.same (.same (.same (.same .nil)))))))))))) (fun s54 => (pg_nameX (pg_name (i := 10) sc_needs.nd rfl (by first | exact Or.inl rfl | exact Or.inr rfl)))) (fun q55 q55x => (b_llApp (pv 3) rfl (pr_name (pv 10) rfl) (pr_name (pv 4) rfl) (fun k56 x57 => (b_nil (t := (q55.set k56 (q55.getD k56 [] ++ [x57]))) (.same (.same (.same (.same (.same (.same (.same (.same (.same (.same (.off (.same .nil) rfl))))))))))))))) (fun s54 => (b_nil (t := s54) (.same (.same (.same (.same (.same (.same (.same (.same (.same (.same (.same (.same .nil))))))))))))))) (b_nil (t := q51) (.same (.same (.same (.same (.same (.same (.same (.same (.same (.same (.same (.same .nil))))))))))))) (fun s58 => (b_nil (t := s58) (.same (.same (.same (.same (.same (.same (.same (.same (.same (.off (.same (.same .nil)) rfl)))))))))))) (by intro _ _ h; exact h))))) (b_nil (t := q51) (.same (.same (.same (.same (.same (.same (.same (.same (.same (.same (.same (.same .nil))))))))))))) (fun s59 => (b_nil (t := s59) (.same (.same (.same (.same (.same (.same (.same (.off (.same (.same (.same (.same .nil)))) rfl)))))))))) (by intro _ _ h; exact h))) (fun s50 => (b_nil (t := s50) (.same (.same (.same (.same (.off (.off (.off (.same (.same (.same (.same (.same .nil))))) rfl) rfl) rfl))))))))))))) (fun s46 => (b_frzG 3 fz_ll rfl (b_ret (pr_name (pv 3) rfl)))))))))))) (fun a Q h => ?_)⟩
  obtain ⟨s, dues, hz, hl, e, h⟩ := h
  subst e
  dsimp only [spc]
  have hN := sz_N hz
  have hn := sz_n hz
  refine lcW_map1 (fun _ => []) _ (fun x _ C c => c) (fun _ _ => ?_)
  rw [tab_const hl]
  refine ⟨by omega, forW_inv (fun pre _ st => st = tab (forms s).length fun m => pre.filter fun i => loudN s dues m i) rfl (fun pre x suf st C e hi h1 _ _ _ => ?_) (fun st hst => ?_)⟩
  rotate_left
  · show Q st
    rw [hst]
    exact h
  obtain ⟨ex, hx, _⟩ := rng_mem e
  have x0 : 0 ≤ x := by omega
  have x1 : x < s.length := by omega
  obtain ⟨⟨z0, z1⟩, t0, t1⟩ := st_facts hz x0 x1
  refine ⟨⟨x0, by rw [steps_l hz]; exact x1⟩, ⟨x0, x1⟩, fun _ => ⟨by omega, ?_⟩⟩
  refine forW_inv (fun pre2 _ st2 => st2 = tab (forms s).length fun m => (pre.filter fun i => loudN s dues m i) ++ if loudN s dues m x = true ∧ low s m x < pre2.length then [x] else []) ?_ (fun pre2 m suf2 st2 C2 e2 hi2 h2 _ _ _ => ?_) (fun st2 hst2 => h1 st2 ?_)
  · rw [hi]
    refine tab_congr fun m m0 m1 => ?_
    obtain ⟨⟨g1, _⟩, _⟩ := low_facts hz m0 (by omega) x0 x1
    rw [if_neg (by simp only [List.length_nil]; omega), List.append_nil]
  rotate_left
  · rw [hst2]
    refine tab_congr fun m m0 m1 => ?_
    obtain ⟨⟨g1, g2, _⟩, _⟩ := low_facts hz m0 (by omega) x0 x1
    rw [List.filter_append, rng_len]
    congr 1
    cases hb : loudN s dues m x with
    | true => rw [if_pos ⟨rfl, by omega⟩, List.filter_cons_of_pos hb]; rfl
    | false => rw [if_neg (fun z => by cases z.1), List.filter_cons_of_neg (by rw [hb]; decide)]; rfl
  obtain ⟨em, hm, _⟩ := rng_mem e2
  have m0 : 0 ≤ m := by omega
  have m1 : m < (forms s).length := by omega
  refine ⟨⟨by show stN s x ≠ 0; omega, by show (stN s x).natAbs < _; omega⟩, by show szN s x ≠ 0; omega, ?_⟩
  show if decide (dig s m x = 0) = true then _ else _
  have hlen : ∀ k : Int, ((pre.filter fun i => loudN s dues k i) ++ if loudN s dues k x = true ∧ low s k x < pre2.length then [x] else []).length ≤ 1000 := fun k => by
    have h1 : (pre.filter fun i => loudN s dues k i).length ≤ pre.length := List.length_filter_le _ _
    rw [List.length_append]
    split <;> simp <;> omega
  by_cases hd : dig s m x = 0
  · rw [if_pos (dT hd)]
    refine ⟨by show szN s x < 1000000 ∧ -1000000 < szN s x; omega, ?_⟩
    refine lcW_map1 (fun v => m + v * stN s x) _ (fun v hv C c => ⟨?_, c⟩) (fun _ => ?_)
    · have := rng_in hv
      exact cmulR (by show -(2 ^ 64) < stN s x; omega) (by show stN s x < 2 ^ 64; omega)
    show _ ∧ _
    rw [show (rng 0 (s.getD x.toNat 0).toNat).map (fun v => m + v * stN s x) = lineN s m x from (line_self hd).symm]
    obtain ⟨_, hnd, hin⟩ := low_facts hz m0 m1 x0 x1
    refine ⟨fun k hk => by have := (hin k hk).1; omega, ?_⟩
    show if loudN s dues m x = true then _ else _
    cases hq : loudN s dues m x with
    | true =>
      rw [if_pos rfl]
      refine forW_inv (fun pre3 _ st3 => st3 = tab (forms s).length fun k => ((pre.filter fun i => loudN s dues k i) ++ if loudN s dues k x = true ∧ low s k x < pre2.length then [x] else []) ++ if k ∈ pre3 then [x] else []) ?_ (fun pre3 k suf3 st3 C3 e3 hi3 h3 _ _ _ => ?_) (fun st3 hst3 => h2 st3 ?_)
      · rw [hi2]
        exact tab_congr fun k _ _ => by simp
      · obtain ⟨⟨k0, k1⟩, _⟩ := hin k (by rw [e3]; simp)
        have hkp : k ∉ pre3 := by
          rw [e3] at hnd
          exact fun z => (List.nodup_append.mp hnd).2.2 k z k (by simp) rfl
        have hlow : low s k x = m := (on_line hz m0 m1 k0 k1 x0 x1 hd).mp (by rw [e3]; simp)
        refine ⟨k.toNat, ixN_of k0 (by rw [hi3, tab_len]; omega), ?_, h3 _ ?_⟩
        · rw [hi3, tab_get [] k0 k1, if_neg hkp, List.append_nil]
          intro _
          exact smallS (by have := hlen k; omega)
        · rw [hi3, tab_get [] k0 k1, tab_set _ k0 k1]
          refine tab_congr fun j _ _ => ?_
          by_cases ej : j = k
          · subst ej
            rw [if_pos rfl, if_neg hkp, if_pos (show j ∈ pre3 ++ [j] by simp), List.append_nil]
          · rw [if_neg ej]
            congr 1
            have : (j ∈ pre3 ++ [k]) ↔ j ∈ pre3 := by simp [ej]
            simp only [this]
      · rw [hst3]
        refine tab_congr fun k k0 k1 => ?_
        rw [List.append_assoc]
        congr 1
        have hon := on_line hz m0 m1 k0 k1 x0 x1 hd
        simp only [List.length_append, List.length_cons, List.length_nil]
        by_cases hkm : low s k x = m
        · have hlk : loudN s dues k x = true := by rw [← loud_low hz dues k0 k1 x0 x1, hkm]; exact hq
          rw [if_neg (by rw [hkm]; omega), if_pos (hon.mpr hkm), if_pos ⟨hlk, by omega⟩]; rfl
        · rw [if_neg (fun z => hkm (hon.mp z)), List.append_nil]
          have : (low s k x < ((pre2.length + (0 + 1) : Nat) : Int)) ↔ low s k x < (pre2.length : Int) := by omega
          simp only [this]
    | false =>
      rw [if_neg (by decide)]
      refine h2 st2 ?_
      rw [hi2]
      refine tab_congr fun k k0 k1 => ?_
      congr 1
      simp only [List.length_append, List.length_cons, List.length_nil]
      by_cases hkm : low s k x = m
      · have hlk : loudN s dues k x = false := by rw [← loud_low hz dues k0 k1 x0 x1, hkm]; exact hq
        rw [if_neg (fun z => by rw [hlk] at z; cases z.1), if_neg (fun z => by rw [hlk] at z; cases z.1)]
      · have : (low s k x < ((pre2.length + (0 + 1) : Nat) : Int)) ↔ low s k x < (pre2.length : Int) := by omega
        simp only [this]
  · rw [if_neg (by rw [dF hd]; decide)]
    refine h2 st2 ?_
    rw [hi2]
    refine tab_congr fun k k0 k1 => ?_
    congr 1
    simp only [List.length_append, List.length_cons, List.length_nil]
    obtain ⟨⟨_, _, g3, _⟩, _⟩ := low_facts hz k0 k1 x0 x1
    have hkm : low s k x ≠ m := fun z => hd (by rw [← z]; exact g3)
    have : (low s k x < ((pre2.length + (0 + 1) : Nat) : Int)) ↔ low s k x < (pre2.length : Int) := by omega
    simp only [this]
theorem sc_mask_of : FnScope ["fields", "mask", "field"] ["fields"] (defScope s_mask_of) := ⟨rfl, rfl, rfl, by decide +kernel, rfl, by decide +kernel, by decide +kernel⟩
theorem ok_mask_of (B : Bd P w K mg base) : FnG P w K mg base "mask_of" 1 ["fields"] (SpF (K := K) (fs1 (rL SS.rI)) SS.rI (fun (a : (List Int)) => (fun P => (∀ i ∈ a, 0 ≤ i ∧ i < 8) ∧ P (maskOf a) : W Int))) := by
  obtain ⟨fd, D⟩ := B.says.def_ 8 (d := d_mask_of) rfl
  refine ⟨_, fd, B.tx.glo_mask_of, D.kp, D.bindsN (fun _ _ _ _ _ _ us hl => match us, hl with | [_], _ => rfl), fnok_of (post := fun _ : Unit => ([.off, .off, .off] : List (En K))) D sc_mask_of rfl (by decide) fsE_1 (fun a => [.fr (rL SS.rI) a, .off, .off]) (fun _ => rfl) (fun a cdv A outer s H E hr => (b_asg (i := 1) sc_mask_of.nd rfl (by first | exact Or.inl rfl | exact Or.inr rfl) pr_int (fun x60 => (b_for (fun s61 : Int => [.fr (rL SS.rI) a, .fr SS.rI s61, .off]) x60 (pi_listX (pr_name (pv 0) rfl)) (.same (.same (.same .nil))) (fun s61 => (pg_nameX (pg_name (i := 2) sc_mask_of.nd rfl (by first | exact Or.inl rfl | exact Or.inr rfl)))) (fun q62 q62x => (b_asg (i := 1) sc_mask_of.nd rfl (by first | exact Or.inl rfl | exact Or.inr rfl) (pr_op op_or r2_bor (pr_name (pv 1) rfl) (pr_ix ix_tup r2_ixU (pr_gtup (is := [1, 2, 4, 8, 16, 32, 64, 128]) (by rfl) B.tx.tup_BITS.1 B.tx.tup_BITS.2) (pr_name (pv 2) rfl))) (fun x63 => (b_nil (t := x63) (.same (.same (.off .nil rfl))))))) (fun s61 => (b_ret (pr_name (pv 1) rfl))))))) (fun a Q h => ?_)⟩
  obtain ⟨hb, h⟩ := h
  refine forW_inv (fun pre _ st => st = maskOf pre) rfl (fun pre x suf st C e hi h1 _ _ _ => ?_) (fun st hst => by subst hst; exact h)
  obtain ⟨b0, b1⟩ := hb x (by rw [e]; simp)
  refine ⟨_, bits_at b0 b1, h1 _ ?_⟩
  rw [hi]
  unfold maskOf
  rw [List.foldl_append]
  rfl
theorem sc_CaseView___init__ : FnScope ["self", "book", "truth", "space", "loud", "place", "form", "same", "field", "near"] ["self", "book", "truth"] (defScope s_CaseView___init__) := ⟨rfl, rfl, rfl, by decide +kernel, rfl, by decide +kernel, by decide +kernel⟩
theorem ok_CaseView___init__ (B : Bd P w K mg base) : FnC P w K mg base "CaseView" (He.ga K "CaseView") 4 ["self", "book", "truth"] (SpI (K := K) (He.ga K "CaseView") (fsC (r_Book K) (fs1 (SS.rU SS.rI))) (r_CaseView K) (fun (a : T_Book × (List Int)) => (fun P => ∃ s dues t, s ∈ SZ ∧ dues.length = (forms s).length ∧ t ∈ forms s ∧ a = ((spc s, dues), t) ∧ ∀ v, ViewOk s dues t v → P v : W T_CaseView))) := by
  obtain ⟨fd, D⟩ := B.says.def_ 10 (d := d_CaseView___init__) rfl
  refine ⟨_, fd, B.tx.glo_CaseView, B.tx.mkr_CaseView, D.bindsN (fun _ _ _ _ _ _ us hl => match us, hl with | [_, _, _], _ => rfl), fnok_ofI (C := He.ga K "CaseView") (FI := F_CaseView K) D sc_CaseView___init__ rfl (by decide) (fsE_C fsE_1) (fun i a => [.obj i (He.ga K "CaseView") [], .fr (r_Book K) a.1, .fr (SS.rU SS.rI) a.2, .off, .off, .off, .off, .off, .off, .off]) (fun _ _ => rfl) (fun i b => [.obj i (He.ga K "CaseView") (F_CaseView K b), .off, .off, .off, .off, .off, .off, .off, .off, .off]) (fun _ _ => rfl) (fun i a cdv A outer s H E hr => (b_asg (i := 3) sc_CaseView___init__.nd rfl (by first | exact Or.inl rfl | exact Or.inr rfl) (pr_meth0 (ks := ["kept_space", "kept_dues"]) (ok_Book_space B) (hr.mono (by decide)) (pr_name (pv 1) rfl) (fun _ => rfl) (by decide +kernel)) (fun x64 => (b_fld (ks := []) (pv 0) rfl B.tx.cls_CaseView B.tx.noat_CaseView_kept_width (pr_meth0 (ks := ["kept_sizes", "kept_forms", "kept_steps"]) (ok_Space_width B) (hr.mono (by decide)) (pr_name (pv 3) rfl) (fun _ => rfl) (by decide +kernel)) rfl (by decide +kernel) (fun x65 => (b_fldLL (ks := ["kept_width"]) (pv 0) rfl B.tx.cls_CaseView B.tx.noat_CaseView_kept_meets (pr_lcL (own := [("field", 8)]) sc_CaseView___init__.nd (blkOk_by (own := [("field", 8)]) (N := ["self", "book", "truth", "space", "loud", "place", "form", "same", "field", "near"]) (sc := defScope s_CaseView___init__) (by decide +kernel)) (pi_rng1X B.tx.free_range (pa_oneX (pr_objfld (ks := ["kept_width"]) 0 (pv 0) rfl B.tx.cls_CaseView B.tx.noat_CaseView_kept_width rfl rfl (by decide +kernel)))) (fun _ _ _ _ _ => (pg_nameX (pg_name (i := 8) sc_CaseView___init__.nd rfl (by first | exact Or.inl rfl | exact Or.inr rfl)))) (fun x66 _ _ _ _ _ => pts_nilX) (fun x66 _ _ _ _ _ => (pr_lst (R := SS.rI) pa_nilR))) rfl (by decide +kernel) (fun q67 q67s q67z => (b_asg (i := 4) sc_CaseView___init__.nd rfl (by first | exact Or.inl rfl | exact Or.inr rfl) (pr_call (ok_needs B) (hr.mono (by decide)) (pa_oneX (pr_name (pv 1) rfl))) (fun x68 => (b_asg (i := 5) sc_CaseView___init__.nd rfl (by first | exact Or.inl rfl | exact Or.inr rfl) pr_int (fun x69 => (b_for (fun s70 : Int × (List (List Int)) => [.rg i (q67 :: q67s) (oLRg (He.ga K "CaseView") ([("kept_width", Rp.mp (K := K) SS.rI x65)] : List (Str × Mp)) "kept_meets" SS.rI i q67 q67s s70.2), .fr (r_Book K) a.1, .fr (SS.rU SS.rI) a.2, .fr (r_Space K) x64, .fr (rL (rL SS.rI)) x68, .fr SS.rI s70.1, .off, .off, .off, .off]) (x69, q67z) (pi_listX (pr_meth0 (ks := ["kept_sizes", "kept_forms", "kept_steps"]) (ok_Space_forms B) (hr.mono (by decide)) (pr_name (pv 3) rfl) (fun _ => rfl) (by decide +kernel))) (.same (.same (.same (.same (.same (.same (.same (.same (.same (.same .nil)))))))))) (fun s70 => (pg_nameX (pg_name (i := 6) sc_CaseView___init__.nd rfl (by first | exact Or.inl rfl | exact Or.inr rfl)))) (fun q71 q71x => (b_asg (i := 7) sc_CaseView___init__.nd rfl (by first | exact Or.inl rfl | exact Or.inr rfl) (pr_call (ok_mask_of B) (hr.mono (by decide)) (pa_oneX (pr_frz (pr_lc (own := [("field", 8)]) sc_CaseView___init__.nd (blkOk_by (own := [("field", 8)]) (N := ["self", "book", "truth", "space", "loud", "place", "form", "same", "field", "near"]) (sc := defScope s_CaseView___init__) (by decide +kernel)) (pi_rng1X B.tx.free_range (pa_oneX (pr_oLfld (ks := ["kept_width"]) 0 (pv 0) rfl B.tx.cls_CaseView B.tx.noat_CaseView_kept_width rfl rfl (by decide +kernel)))) (fun _ _ _ _ _ => (pg_nameX (pg_name (i := 8) sc_CaseView___init__.nd rfl (by first | exact Or.inl rfl | exact Or.inr rfl)))) (fun x72 _ _ _ _ _ => (pts_oneX (pt_cmpX (op_eqP hr.units) (r2_eq eqI) (nomark _) (pr_ix ix_tup r2_ixU (pr_name (pv 6) rfl) (pr_name (pv 8) rfl)) (pr_ix ix_tup r2_ixU (pr_name (pv 2) rfl) (pr_name (pv 8) rfl))))) (fun x72 _ _ _ _ _ => (pr_name (pv 8) rfl)))))) (fun x73 => (b_for (fun s74 : (List (List Int)) => [.rg i (q67 :: q67s) (oLRg (He.ga K "CaseView") ([("kept_width", Rp.mp (K := K) SS.rI x65)] : List (Str × Mp)) "kept_meets" SS.rI i q67 q67s s74), .fr (r_Book K) a.1, .fr (SS.rU SS.rI) a.2, .fr (r_Space K) x64, .fr (rL (rL SS.rI)) x68, .fr SS.rI q71.1, .fr (SS.rU SS.rI) q71x, .fr SS.rI x73, .off, .off]) q71.2 (pi_listX (pr_ix ix_list r2_ixL (pr_name (pv 4) rfl) (pr_name (pv 5) rfl))) (.same (.same (.same (.same (.same (.same (.same (.same (.same (.same .nil)))))))))) (fun s74 => (pg_nameX (pg_name (i := 8) sc_CaseView___init__.nd rfl (by first | exact Or.inl rfl | exact Or.inr rfl)))) (fun q75 q75x => (b_asg (i := 9) sc_CaseView___init__.nd rfl (by first | exact Or.inl rfl | exact Or.inr rfl) (pr_op op_or r2_bor (pr_name (pv 7) rfl) (pr_ix ix_tup r2_ixU (pr_gtup (is := [1, 2, 4, 8, 16, 32, 64, 128]) (by rfl) B.tx.tup_BITS.1 B.tx.tup_BITS.2) (pr_name (pv 8) rfl))) (fun x76 => (b_if (fun s79 : (List (List Int)) => [.rg i (q67 :: q67s) (oLRg (He.ga K "CaseView") ([("kept_width", Rp.mp (K := K) SS.rI x65)] : List (Str × Mp)) "kept_meets" SS.rI i q67 q67s s79), .fr (r_Book K) a.1, .fr (SS.rU SS.rI) a.2, .fr (r_Space K) x64, .fr (rL (rL SS.rI)) x68, .fr SS.rI q71.1, .fr (SS.rU SS.rI) q71x, .fr SS.rI x73, .fr SS.rI q75x, .fr SS.rI x76]) (pt_thawG (i := 0) fz_oL rfl (pt_cmpX op_notIn_seq (r2_ninL flat_I) (by rfl) (pr_name (pv 9) rfl) (pr_ix ix_list r2_ixL (pr_fld (ks := ["kept_width", "kept_meets"]) 1 (pr_name (pv 0) rfl) B.tx.cls_CaseView B.tx.noat_CaseView_kept_meets (fun _ => rfl) (fun _ => rfl) (by decide +kernel)) (pr_name (pv 8) rfl)))) (b_oLApp (ks := ["kept_width"]) (pv 0) rfl B.tx.cls_CaseView B.tx.noat_CaseView_kept_meets rfl (by decide +kernel) (pr_name (pv 8) rfl) (pr_name (pv 9) rfl) (fun k77 x78 => (b_nil (t := (q75.set k77 (q75.getD k77 [] ++ [x78]))) (.same (.same (.same (.same (.same (.same (.same (.same (.same (.same .nil))))))))))))) (b_nil (t := q75) (.same (.same (.same (.same (.same (.same (.same (.same (.same (.same .nil))))))))))) (fun s79 => (b_nil (t := s79) (.same (.same (.same (.same (.same (.same (.same (.same (.off (.off .nil rfl) rfl))))))))))) (by intro _ _ h; exact h))))) (fun s74 => (b_aug (i := 5) sc_CaseView___init__.nd rfl (by first | exact Or.inl rfl | exact Or.inr rfl) ip_add rfl pr_int (fun x80 => (b_nil (t := (x80, s74)) (.same (.same (.same (.same (.same (.same (.off (.off (.same (.same .nil)) rfl) rfl))))))))))))))) (fun s70 => (b_frzOL 0 rfl (b_nil (t := (x65, s70.2)) (.same (.off (.off (.off (.off (.off (.same (.same (.same (.same .nil)))) rfl) rfl) rfl) rfl) rfl))))))))))))))))) (fun i a Q h => ?_)⟩
  obtain ⟨s, dues, t, hz, hl, ht, e, h⟩ := h
  subst e
  dsimp only [spc]
  have hN := sz_N hz
  have hn := sz_n hz
  refine ⟨by omega, lcW_map1 (fun _ => []) _ (fun x _ C c => c) ?_⟩
  rw [tab_const (N := s.length) (by rw [rng_len]; omega)]
  intro p as
  refine ⟨s, dues, hz, hl, rfl, forW_inv (fun pre _ st => st.1 = (pre.length : Int) ∧ MeetOk s dues t pre st.2) ⟨rfl, MeetOk.zero s dues t⟩ (fun pre x suf st C e hi h1 _ _ _ => ?_) (fun st hst => h _ (hst.2.view hz))⟩
  obtain ⟨e1, hm⟩ := hi
  obtain ⟨st1, st2⟩ := st
  dsimp only at e1 hm h1 ⊢
  subst e1
  obtain ⟨en, hlt⟩ := num_pre hz e
  have hx : x ∈ forms s := by rw [e]; simp
  obtain ⟨xl, xin⟩ := inF hz hx
  obtain ⟨tl, tin⟩ := inF hz ht
  refine ⟨by omega, lcW_map (fun j => decide (vx x j = vx t j)) (fun j => j) _ (fun j hj C c => ?_) (fun _ _ _ C c => c) ?_⟩
  · have hb := rng_in hj
    refine ⟨_, atI_of 0 (by omega) (by rw [xl]; omega), _, atI_of 0 (by omega) (by rw [tl]; omega), c⟩
  rw [List.map_id']
  refine ⟨fun i hi => by have := rng_in (List.mem_filter.mp hi).1; omega, _, tab_atI (T := fun m => (fld s).filter fun i => loudN s dues m i) (by omega) (by omega), ?_⟩
  refine forW_inv (fun pre2 _ st => MeetIn s dues t pre x pre2 st) (hm.begin x) (fun pre2 i suf2 st C2 e2 hi h2 _ _ _ => ?_) (fun st hst => ?_)
  rotate_left
  · refine h1 (_, st) ⟨?_, ?_⟩
    · simp
    · rw [← en] at hst
      exact hst.done
  have hi2 : i ∈ (fld s).filter fun i => loudN s dues (pre.length : Int) i := by rw [e2]; simp
  obtain ⟨i0, i1⟩ := mem_rng.mp (List.mem_filter.mp hi2).1
  have hnew : i ∉ pre2 := by
    have hd : ((fld s).filter fun i => loudN s dues (pre.length : Int) i).Nodup := (rng_nodup _).filter _
    rw [e2] at hd
    exact fun z => (List.nodup_append.mp hd).2.2 i z i (by simp) rfl
  refine ⟨_, bits_at i0 (by omega), _, atI_of [] i0 (by rw [hi.l]; exact i1), ?_⟩
  by_cases hk : nearM s t x i ∈ st.getD i.toNat []
  · exact nF hk (h2 _ (hi.keep i0 i1 hk))
  · refine nT hk ⟨i.toNat, ixN_of i0 (by rw [hi.l]; exact i1), fun _ => smallS ?_, h2 _ (hi.add i0 i1 hnew)⟩
    have := (hi.m i i0 i1).2
    rw [if_neg hnew] at this
    omega
theorem sc_CaseView_hangs : FnScope ["self", "field", "mask", "near"] ["self", "field", "mask"] (defScope s_CaseView_hangs) := ⟨rfl, rfl, rfl, by decide +kernel, rfl, by decide +kernel, by decide +kernel⟩
theorem ok_CaseView_hangs (B : Bd P w K mg base) : FnM P w K mg base (He.ga K "CaseView") "hangs" 1 ["self", "field", "mask"] (SpF (K := K) (fsC (r_CaseView K) (fsC SS.rI (fs1 SS.rI))) rB (fun (a : T_CaseView × Int × Int) => (fun P => ∃ s dues t, s ∈ SZ ∧ dues.length = (forms s).length ∧ t ∈ forms s ∧ ViewOk s dues t a.1 ∧ ∃ K, a.2.2 = maskOf (fl s.length K) ∧ (0 ≤ a.2.1 ∧ a.2.1 < s.length) ∧ P (hangM s dues t K a.2.1) : W Bool))) := by
  obtain ⟨fd, D⟩ := B.says.def_ 12 (d := d_CaseView_hangs) rfl
  refine ⟨_, fd, B.tx.cls_CaseView, B.tx.meth_CaseView_hangs, D.bindsN (fun _ _ _ _ _ _ us hl => match us, hl with | [_, _, _], _ => rfl), fnok_of (post := fun _ : Unit => ([.off, .off, .off, .off] : List (En K))) D sc_CaseView_hangs rfl (by decide) (fsE_C (fsE_C fsE_1)) (fun a => [.fr (r_CaseView K) a.1, .fr SS.rI a.2.1, .fr SS.rI a.2.2, .off]) (fun _ => rfl) (fun a cdv A outer s H E hr => (b_for (fun s81 : Unit => [.fr (r_CaseView K) a.1, .fr SS.rI a.2.1, .fr SS.rI a.2.2, .off]) () (pi_listX (pr_ix ix_list r2_ixL (pr_fld (ks := ["kept_width", "kept_meets"]) 1 (pr_name (pv 0) rfl) B.tx.cls_CaseView B.tx.noat_CaseView_kept_meets (fun _ => rfl) (fun _ => rfl) (by decide +kernel)) (pr_name (pv 1) rfl))) (.same (.same (.same (.same .nil)))) (fun s81 => (pg_nameX (pg_name (i := 3) sc_CaseView_hangs.nd rfl (by first | exact Or.inl rfl | exact Or.inr rfl)))) (fun q82 q82x => (b_ifr (pt_cmpX (op_eqP hr.units) (r2_eq eqI) (nomark _) (pr_op op_and r2_band (pr_name (pv 2) rfl) (pr_name (pv 3) rfl)) (pr_name (pv 2) rfl)) (b_ret pr_bl) (b_nil (t := ()) (.same (.same (.same (.off .nil rfl))))))) (fun s81 => (b_ret pr_bl)))) (fun a Q h => ?_)⟩
  obtain ⟨s, dues, t, hz, hl, ht, hv, K, e, ⟨i0, i1⟩, h⟩ := h
  obtain ⟨v, i, k⟩ := a
  dsimp only at hv e i0 i1 h ⊢
  subst e
  refine ⟨_, atI_of [] i0 (by rw [hv.l]; exact i1), ?_⟩
  rw [← view_hang hv hz K i0 i1] at h
  generalize v.2.getD i.toNat [] = xs at h ⊢
  refine forW_inv (fun pre suf _ => xs.any (fun k => decide (Builtin.bitAnd (maskOf (fl s.length K)) k = maskOf (fl s.length K))) = suf.any (fun k => decide (Builtin.bitAnd (maskOf (fl s.length K)) k = maskOf (fl s.length K)))) rfl (fun pre x suf st C e hi h1 _ _ h4 => ?_) (fun st e => by show Q false; rw [e] at h; exact h)
  rw [List.any_cons] at hi
  by_cases hd : Builtin.bitAnd (maskOf (fl s.length K)) x = maskOf (fl s.length K)
  · exact iT hd (h4 true (by rw [dT hd, Bool.true_or] at hi; rw [hi] at h; exact h))
  · exact iF hd (h1 () (by rw [dF hd, Bool.false_or] at hi; exact hi))
theorem sc_opened_row : FnScope ["view", "row", "found", "mask", "field"] ["view", "row"] (defScope s_opened_row) := ⟨rfl, rfl, rfl, by decide +kernel, rfl, by decide +kernel, by decide +kernel⟩
theorem ok_opened_row (B : Bd P w K mg base) : FnG P w K mg base "opened_row" 2 ["view", "row"] (SpF (K := K) (fsC (r_CaseView K) (fs1 (rL SS.rI))) (rL SS.rI) (fun (a : T_CaseView × (List Int)) => (fun P => ∃ s dues t, s ∈ SZ ∧ dues.length = (forms s).length ∧ t ∈ forms s ∧ ViewOk s dues t a.1 ∧ a.2.Nodup ∧ (∀ i ∈ a.2, 0 ≤ i ∧ i < s.length) ∧ P (opnd s dues t a.2) : W (List Int)))) := by
  obtain ⟨fd, D⟩ := B.says.def_ 43 (d := d_opened_row) rfl
  refine ⟨_, fd, B.tx.glo_opened_row, D.kp, D.bindsN (fun _ _ _ _ _ _ us hl => match us, hl with | [_, _], _ => rfl), fnok_of (post := fun _ : Unit => ([.off, .off, .off, .off, .off] : List (En K))) D sc_opened_row rfl (by decide) (fsE_C fsE_1) (fun a => [.fr (r_CaseView K) a.1, .fr (rL SS.rI) a.2, .off, .off, .off]) (fun _ => rfl) (fun a cdv A outer s H E hr => (b_asgL (i := 2) sc_opened_row.nd rfl (by first | exact Or.inl rfl | exact Or.inr rfl) (pr_lst (R := SS.rI) pa_nilR) (fun q83 q83l => (b_asg (i := 3) sc_opened_row.nd rfl (by first | exact Or.inl rfl | exact Or.inr rfl) pr_int (fun x84 => (b_for (fun s85 : Int × (List Int) => [.fr (r_CaseView K) a.1, .fr (rL SS.rI) a.2, .own q83 SS.rI s85.2, .fr SS.rI s85.1, .off]) (x84, q83l) (pi_listX (pr_name (pv 1) rfl)) (.same (.same (.same (.same (.same .nil))))) (fun s85 => (pg_nameX (pg_name (i := 4) sc_opened_row.nd rfl (by first | exact Or.inl rfl | exact Or.inr rfl)))) (fun q86 q86x => (b_if (fun s89 : Int × (List Int) => [.fr (r_CaseView K) a.1, .fr (rL SS.rI) a.2, .own q83 SS.rI s89.2, .fr SS.rI s89.1, .fr SS.rI q86x]) (pt_valX (pr_meth (ks := ["kept_width", "kept_meets"]) (ok_CaseView_hangs B) (hr.mono (by decide)) (pr_name (pv 0) rfl) (fun _ => rfl) (by decide +kernel) (pa_consX (pr_name (pv 4) rfl) (pa_oneX (pr_name (pv 3) rfl))))) (b_app (pv 2) rfl (pr_name (pv 4) rfl) (fun x87 => (b_asg (i := 3) sc_opened_row.nd rfl (by first | exact Or.inl rfl | exact Or.inr rfl) (pr_op op_or r2_bor (pr_name (pv 3) rfl) (pr_ix ix_tup r2_ixU (pr_gtup (is := [1, 2, 4, 8, 16, 32, 64, 128]) (by rfl) B.tx.tup_BITS.1 B.tx.tup_BITS.2) (pr_name (pv 4) rfl))) (fun x88 => (b_nil (t := (x88, (q86.2 ++ [x87]))) (.same (.same (.same (.same (.same .nil)))))))))) (b_nil (t := (q86.1, q86.2)) (.same (.same (.same (.same (.same .nil)))))) (fun s89 => (b_nil (t := (s89.1, s89.2)) (.same (.same (.same (.same (.off .nil rfl))))))) (by intro _ _ h; exact h))) (fun s85 => (b_frz 2 rfl (b_ret (pr_name (pv 2) rfl)))))))))) (fun a Q h => ?_)⟩
  obtain ⟨s, dues, t, hz, hl, ht, hv, hnd, hb, h⟩ := h
  obtain ⟨v, row⟩ := a
  dsimp only at hv hnd hb h ⊢
  have hn := sz_n hz
  intro p
  refine forW_inv (fun pre _ st => st.1 = maskOf (fl s.length st.2) ∧ st.2 = opnd s dues t pre) ⟨(mask0 _).symm, rfl⟩ (fun pre x suf st C e hi h1 _ _ _ => ?_) (fun st hst => by show Q st.2; rw [hst.2]; exact h)
  obtain ⟨st1, st2⟩ := st
  obtain ⟨e1, e2⟩ := hi
  dsimp only at e1 e2 h1 ⊢
  subst e1 e2
  obtain ⟨x0, x1⟩ := hb x (by rw [e]; simp)
  have hnew : x ∉ opnd s dues t pre := op_new (suf := suf) (by rw [← e]; exact hnd)
  have hlen : (opnd s dues t pre).length ≤ 4 := by
    have h1 := op_len (s := s) (dues := dues) (t := t) (row := pre)
    have h2 := len_in hnd hb
    rw [e, List.length_append] at h2
    omega
  refine ⟨s, dues, t, hz, hl, ht, hv, opnd s dues t pre, rfl, ⟨x0, x1⟩, ?_⟩
  have hh := hangM_eq hz (dues := dues) ht x0 x1 hnew
  cases hbn : hangB s dues t (opnd s dues t pre) x with
  | true =>
    refine bT (by rw [hh, hbn]) ⟨fun _ => smallS (by omega), _, bits_at x0 (by omega), h1 _ ⟨mask_snoc hn.2 _ x0 x1, ?_⟩⟩
    rw [opnd_snoc]
    unfold opStep
    rw [if_pos ⟨hbn, hnew⟩]
  | false =>
    refine bF (by rw [hh, hbn]) (h1 _ ⟨rfl, ?_⟩)
    rw [opnd_snoc]
    unfold opStep
    rw [if_neg (fun z => by rw [hbn] at z; cases z.1)]
theorem sc_opened : FnScope ["book", "truth", "order", "space"] ["book", "truth", "order"] (defScope s_opened) := ⟨rfl, rfl, rfl, by decide +kernel, rfl, by decide +kernel, by decide +kernel⟩
theorem ok_opened (B : Bd P w K mg base) : FnG P w K mg base "opened" 6 ["book", "truth", "order"] (SpF (K := K) (fsC (r_Book K) (fsC (SS.rU SS.rI) (fs1 (rL SS.rI)))) (rL SS.rI) (fun (a : T_Book × (List Int) × (List Int)) => (fun P => ∃ s dues t, s ∈ SZ ∧ dues.length = (forms s).length ∧ t ∈ forms s ∧ a = ((spc s, dues), t, a.2.2) ∧ a.2.2.Nodup ∧ (∀ i ∈ a.2.2, 0 ≤ i ∧ i < s.length) ∧ a.2.2.length = s.length ∧ P (opnd s dues t a.2.2) : W (List Int)))) := by
  obtain ⟨fd, D⟩ := B.says.def_ 44 (d := d_opened) rfl
  refine ⟨_, fd, B.tx.glo_opened, D.kp, D.bindsN (fun _ _ _ _ _ _ us hl => match us, hl with | [_, _, _], _ => rfl), fnok_of (post := fun _ : Unit => ([.off, .off, .off, .off] : List (En K))) D sc_opened rfl (by decide) (fsE_C (fsE_C fsE_1)) (fun a => [.fr (r_Book K) a.1, .fr (SS.rU SS.rI) a.2.1, .fr (rL SS.rI) a.2.2, .off]) (fun _ => rfl) (fun a cdv A outer s H E hr => (b_asg (i := 3) sc_opened.nd rfl (by first | exact Or.inl rfl | exact Or.inr rfl) (pr_meth0 (ks := ["kept_space", "kept_dues"]) (ok_Book_space B) (hr.mono (by decide)) (pr_name (pv 0) rfl) (fun _ => rfl) (by decide +kernel)) (fun x90 => (b_expr (pr_meth (ks := ["kept_sizes", "kept_forms", "kept_steps"]) (ok_Space_need_form B) (hr.mono (by decide)) (pr_name (pv 3) rfl) (fun _ => rfl) (by decide +kernel) (pa_oneX (pr_name (pv 1) rfl))) (b_expr (pr_meth (ks := ["kept_sizes", "kept_forms", "kept_steps"]) (ok_Space_need_order B) (hr.mono (by decide)) (pr_name (pv 3) rfl) (fun _ => rfl) (by decide +kernel) (pa_oneX (pr_name (pv 2) rfl))) (b_ret (pr_call (ok_opened_row B) (hr.mono (by decide)) (pa_consX (pr_make (ok_CaseView___init__ B) (hr.mono (by decide)) (pa_consX (pr_name (pv 0) rfl) (pa_oneX (pr_name (pv 1) rfl)))) (pa_oneX (pr_name (pv 2) rfl)))))))))) (fun a Q h => ?_)⟩
  obtain ⟨s, dues, t, hz, hl, ht, e, hnd, hb, hlen, h⟩ := h
  obtain ⟨a1, a2, row⟩ := a
  have e1 := congrArg (fun q => q.1) e
  have e2 := congrArg (fun q => q.2.1) e
  dsimp only at e1 e2 hnd hb h hlen ⊢
  subst e1 e2
  have hn := sz_n hz
  refine ⟨⟨s, hz, rfl, ht⟩, s, hz, rfl, hnd, hb, hlen, s, dues, a2, hz, hl, ht, rfl, fun v hv => ?_⟩
  exact ⟨s, dues, a2, hz, hl, ht, hv, hnd, hb, h⟩
theorem sc_is_row : FnScope ["width", "fields", "met", "field"] ["width", "fields"] (defScope s_is_row) := ⟨rfl, rfl, rfl, by decide +kernel, rfl, by decide +kernel, by decide +kernel⟩
theorem ok_is_row (B : Bd P w K mg base) : FnG P w K mg base "is_row" 1 ["width", "fields"] (SpF (K := K) (fsC SS.rI (fs1 (rL SS.rI))) rB (fun (a : Int × (List Int)) => (fun P => ∃ n : Nat, n ≤ 4 ∧ a.1 = (n : Int) ∧ a.2.Nodup ∧ (∀ i ∈ a.2, 0 ≤ i ∧ i < (n : Int)) ∧ P true : W Bool))) := by
  obtain ⟨fd, D⟩ := B.says.def_ 9 (d := d_is_row) rfl
  refine ⟨_, fd, B.tx.glo_is_row, D.kp, D.bindsN (fun _ _ _ _ _ _ us hl => match us, hl with | [_, _], _ => rfl), fnok_of (post := fun _ : Unit => ([.off, .off, .off, .off] : List (En K))) D sc_is_row rfl (by decide) (fsE_C fsE_1) (fun a => [.fr SS.rI a.1, .fr (rL SS.rI) a.2, .off, .off]) (fun _ => rfl) (fun a cdv A outer s H E hr => (b_ifr (pt_notX (pt_valX (pr_isiD kit_L B.tx.free_isinstance B.tx.free_list (pr_to (fun x => ((eqL eqI) : Eqp (rL SS.rI)).enc x) (pr_name (pv 1) rfl) (fun G v x r => ((eqL eqI) : Eqp (rL SS.rI)).dp G v x r)) (by decide +kernel)))) (b_ret pr_bl) (b_asg (i := 2) sc_is_row.nd rfl (by first | exact Or.inl rfl | exact Or.inr rfl) pr_int (fun x91 => (b_for (fun s92 : Int => [.fr SS.rI a.1, .fr (rL SS.rI) a.2, .fr SS.rI s92, .off]) x91 (pi_listX (pr_name (pv 1) rfl)) (.same (.same (.same (.same .nil)))) (fun s92 => (pg_nameX (pg_name (i := 3) sc_is_row.nd rfl (by first | exact Or.inl rfl | exact Or.inr rfl)))) (fun q93 q93x => (b_ifr (PW.pt (pw_orX (pt_notX (pt_valX (pr_isiD kit_In B.tx.free_isinstance B.tx.free_int (pr_to (fun x => (eqI : Eqp SS.rI).enc x) (pr_name (pv 3) rfl) (fun G v x r => (eqI : Eqp SS.rI).dp G v x r)) (by decide +kernel)))) (pw_orX (pt_valX (pr_isiD kit_Bl B.tx.free_isinstance B.tx.free_bool (pr_to (fun x => (eqI : Eqp SS.rI).enc x) (pr_name (pv 3) rfl) (fun G v x r => (eqI : Eqp SS.rI).dp G v x r)) (by decide +kernel))) (pw_or1X (pt_notX (pt_chainX op_le r2_le op_lt r2_lt pr_int (pr_name (pv 3) rfl) (pr_name (pv 0) rfl))))))) (b_ret pr_bl) (b_ifr (pt_cmpX (op_neP hr.units) (r2_ne eqI) (nomark _) (pr_op op_and r2_band (pr_name (pv 2) rfl) (pr_ix ix_tup r2_ixU (pr_gtup (is := [1, 2, 4, 8, 16, 32, 64, 128]) (by rfl) B.tx.tup_BITS.1 B.tx.tup_BITS.2) (pr_name (pv 3) rfl))) pr_int) (b_ret pr_bl) (b_asg (i := 2) sc_is_row.nd rfl (by first | exact Or.inl rfl | exact Or.inr rfl) (pr_op op_or r2_bor (pr_name (pv 2) rfl) (pr_ix ix_tup r2_ixU (pr_gtup (is := [1, 2, 4, 8, 16, 32, 64, 128]) (by rfl) B.tx.tup_BITS.1 B.tx.tup_BITS.2) (pr_name (pv 3) rfl))) (fun x94 => (b_nil (t := x94) (.same (.same (.same (.off .nil rfl)))))))))) (fun s92 => (b_ret pr_bl))))))) (fun a Q h => ?_)⟩
  obtain ⟨n, hn, e, hnd, hb, h⟩ := h
  obtain ⟨a1, F⟩ := a
  dsimp only at e hnd hb h ⊢
  subst e
  refine nbF rfl (forW_inv (fun pre _ st => st = maskOf (fl n pre)) (mask0 n).symm (fun pre x suf st C e hi h1 _ _ _ => ?_) (fun _ _ => h))
  obtain ⟨x0, x1⟩ := hb x (by rw [e]; simp)
  have hx : x ∉ pre := fun z => by rw [e] at hnd; exact (List.nodup_append.mp hnd).2.2 x z x (by simp) rfl
  have hm := mask_bit hn pre x0 x1
  rw [decide_eq_decide] at hm
  subst hi
  exact nbF rfl (bF rfl (iT x0 (nF x1 ⟨_, bits_at x0 (by omega), nF (hm.mpr hx) ⟨_, bits_at x0 (by omega), h1 _ (mask_snoc hn pre x0 x1)⟩⟩)))
theorem sc_some_hangs : FnScope ["views", "field", "mask", "view"] ["views", "field", "mask"] (defScope s_some_hangs) := ⟨rfl, rfl, rfl, by decide +kernel, rfl, by decide +kernel, by decide +kernel⟩
theorem ok_some_hangs (B : Bd P w K mg base) : FnG P w K mg base "some_hangs" 2 ["views", "field", "mask"] (SpF (K := K) (fsC (rL (r_CaseView K)) (fsC SS.rI (fs1 SS.rI))) rB (fun (a : (List T_CaseView) × Int × Int) => (fun P => ∃ s dues t v, s ∈ SZ ∧ dues.length = (forms s).length ∧ t ∈ forms s ∧ ViewOk s dues t v ∧ a.1 = [v] ∧ ∃ K, a.2.2 = maskOf (fl s.length K) ∧ (0 ≤ a.2.1 ∧ a.2.1 < s.length) ∧ P (hangM s dues t K a.2.1) : W Bool))) := by
  obtain ⟨fd, D⟩ := B.says.def_ 13 (d := d_some_hangs) rfl
  refine ⟨_, fd, B.tx.glo_some_hangs, D.kp, D.bindsN (fun _ _ _ _ _ _ us hl => match us, hl with | [_, _, _], _ => rfl), fnok_of (post := fun _ : Unit => ([.off, .off, .off, .off] : List (En K))) D sc_some_hangs rfl (by decide) (fsE_C (fsE_C fsE_1)) (fun a => [.fr (rL (r_CaseView K)) a.1, .fr SS.rI a.2.1, .fr SS.rI a.2.2, .off]) (fun _ => rfl) (fun a cdv A outer s H E hr => (b_for (fun s95 : Unit => [.fr (rL (r_CaseView K)) a.1, .fr SS.rI a.2.1, .fr SS.rI a.2.2, .off]) () (pi_listX (pr_name (pv 0) rfl)) (.same (.same (.same (.same .nil)))) (fun s95 => (pg_nameX (pg_name (i := 3) sc_some_hangs.nd rfl (by first | exact Or.inl rfl | exact Or.inr rfl)))) (fun q96 q96x => (b_ifr (pt_valX (pr_meth (ks := ["kept_width", "kept_meets"]) (ok_CaseView_hangs B) (hr.mono (by decide)) (pr_name (pv 3) rfl) (fun _ => rfl) (by decide +kernel) (pa_consX (pr_name (pv 1) rfl) (pa_oneX (pr_name (pv 2) rfl))))) (b_ret pr_bl) (b_nil (t := ()) (.same (.same (.same (.off .nil rfl))))))) (fun s95 => (b_ret pr_bl)))) (fun a Q h => ?_)⟩
  obtain ⟨s, dues, t, v, hz, hl, ht, hv, e, K, em, hb, h⟩ := h
  obtain ⟨a1, i, mk⟩ := a
  dsimp only at e em hb h ⊢
  subst e em
  refine forW_inv (fun pre suf _ => suf = [] → hangM s dues t K i = false) (fun z => by cases z) (fun pre x suf st C e hi h1 _ _ h4 => ?_) (fun st hst => by show Q false; rw [hst rfl] at h; exact h)
  have hx : x = v := by
    have : x ∈ [v] := by rw [e]; simp
    simpa using this
  subst hx
  refine ⟨s, dues, t, hz, hl, ht, hv, K, rfl, hb, ?_⟩
  cases hq : hangM s dues t K i with
  | true => exact bT rfl (h4 true (by show Q true; rw [hq] at h; exact h))
  | false => exact bF rfl (h1 () fun _ => hq)
theorem sc_greatest_knot : FnScope ["views", "fields", "left", "many", "field", "rest", "one"] ["views", "fields"] (defScope s_greatest_knot) := ⟨rfl, rfl, rfl, by decide +kernel, rfl, by decide +kernel, by decide +kernel⟩
theorem ok_greatest_knot (B : Bd P w K mg base) : FnG P w K mg base "greatest_knot" 3 ["views", "fields"] (SpF (K := K) (fsC (rL (r_CaseView K)) (fs1 (rL SS.rI))) (rL SS.rI) (fun (a : (List T_CaseView) × (List Int)) => (fun P => ∃ s dues t v, s ∈ SZ ∧ dues.length = (forms s).length ∧ t ∈ forms s ∧ ViewOk s dues t v ∧ a.1 = [v] ∧ a.2.Pairwise (· < ·) ∧ (∀ i ∈ a.2, 0 ≤ i ∧ i < (s.length : Int)) ∧ ∀ L, Great s dues t a.2 L → P L : W (List Int)))) := by
  obtain ⟨fd, D⟩ := B.says.def_ 14 (d := d_greatest_knot) rfl
  refine ⟨_, fd, B.tx.glo_greatest_knot, D.kp, D.bindsN (fun _ _ _ _ _ _ us hl => match us, hl with | [_, _], _ => rfl), fnok_of (post := fun _ : Unit => ([.off, .off, .off, .off, .off, .off, .off] : List (En K))) D sc_greatest_knot rfl (by decide) (fsE_C fsE_1) (fun a => [.fr (rL (r_CaseView K)) a.1, .fr (rL SS.rI) a.2, .off, .off, .off, .off, .off]) (fun _ => rfl) (fun a cdv A outer s H E hr => (b_asg (i := 2) sc_greatest_knot.nd rfl (by first | exact Or.inl rfl | exact Or.inr rfl) (pr_frz (pr_ctyL call_list_of rcl_list B.tx.free_list (by decide +kernel) (pa_oneX (pr_name (pv 1) rfl)))) (fun x97 => (b_asg (i := 3) sc_greatest_knot.nd rfl (by first | exact Or.inl rfl | exact Or.inr rfl) (pr_op op_add r2_add (pr_cb call_len_seq rc_len B.tx.free_len (by decide +kernel) (pa_oneX (pr_name (pv 2) rfl))) pr_int) (fun x98 => (b_while (fun s99 : Int × (List Int) => [.fr (rL (r_CaseView K)) a.1, .fr (rL SS.rI) a.2, .fr (rL SS.rI) s99.2, .fr SS.rI s99.1, .off, .off, .off]) (x98, x97) (.same (.same (.same (.same (.same (.same (.same .nil))))))) (fun c100 => (pt_cmpX op_lt r2_lt (nomark _) (pr_cb call_len_seq rc_len B.tx.free_len (by decide +kernel) (pa_oneX (pr_name (pv 2) rfl))) (pr_name (pv 3) rfl))) (fun q101 => (b_asg (i := 3) sc_greatest_knot.nd rfl (by first | exact Or.inl rfl | exact Or.inr rfl) (pr_cb call_len_seq rc_len B.tx.free_len (by decide +kernel) (pa_oneX (pr_name (pv 2) rfl))) (fun x102 => (b_for (fun s103 : (List Int) => [.fr (rL (r_CaseView K)) a.1, .fr (rL SS.rI) a.2, .fr (rL SS.rI) s103, .fr SS.rI x102, .off, .off, .off]) q101.2 (pi_listX (pr_frz (pr_ctyL call_list_of rcl_list B.tx.free_list (by decide +kernel) (pa_oneX (pr_name (pv 2) rfl))))) (.same (.same (.same (.same (.same (.same (.same .nil))))))) (fun s103 => (pg_nameX (pg_name (i := 4) sc_greatest_knot.nd rfl (by first | exact Or.inl rfl | exact Or.inr rfl)))) (fun q104 q104x => (b_lcT (i := 5) (own := [("one", 6)]) sc_greatest_knot.nd rfl rfl rfl (by decide +kernel) (blkOk_by (own := [("one", 6)]) (N := ["views", "fields", "left", "many", "field", "rest", "one"]) (sc := defScope s_greatest_knot) (by decide +kernel)) (pi_listX (pr_name (pv 2) rfl)) (fun _ _ _ _ _ => (pg_nameX (pg_name (i := 6) sc_greatest_knot.nd rfl (by first | exact Or.inl rfl | exact Or.inr rfl)))) (fun x105 _ _ _ _ _ => (pts_oneX (pt_cmpX (op_neP hr.units) (r2_ne eqI) (nomark _) (pr_name (pv 6) rfl) (pr_name (pv 4) rfl)))) (fun x105 _ _ _ _ _ => (pr_name (pv 6) rfl)) (fun q106 q106l => (b_frz 5 rfl (b_if (fun s108 : (List Int) => [.fr (rL (r_CaseView K)) a.1, .fr (rL SS.rI) a.2, .fr (rL SS.rI) s108, .fr SS.rI x102, .fr SS.rI q104x, .fr (rL SS.rI) q106l, .off]) (pt_valX (pr_call (ok_some_hangs B) (hr.mono (by decide)) (pa_consX (pr_name (pv 0) rfl) (pa_consX (pr_name (pv 4) rfl) (pa_oneX (pr_call (ok_mask_of B) (hr.mono (by decide)) (pa_oneX (pr_name (pv 5) rfl)))))))) (b_asg (i := 2) sc_greatest_knot.nd rfl (by first | exact Or.inl rfl | exact Or.inr rfl) (pr_name (pv 5) rfl) (fun x107 => (b_nil (t := x107) (.same (.same (.same (.same (.same (.same (.same .nil)))))))))) (b_nil (t := q104) (.same (.same (.same (.same (.same (.same (.same .nil)))))))) (fun s108 => (b_nil (t := s108) (.same (.same (.same (.same (.off (.off (.same .nil) rfl) rfl))))))) (by intro _ _ h; exact h)))))) (fun s103 => (b_nil (t := (x102, s103)) (.same (.same (.same (.same (.same (.same (.same .nil))))))))))))) (fun s99 => (b_ret (pr_name (pv 2) rfl))))))))) (fun a Q h => ?_)⟩
  obtain ⟨s, dues, t, v, hz, hl, ht, hv, e, hs, hb, h⟩ := h
  obtain ⟨a1, F⟩ := a
  dsimp only at e hs hb h ⊢
  subst e
  have hn := sz_n hz
  have hFl : F.length ≤ 4 := by have := len_in (lt_nodup hs) hb; omega
  intro _
  refine ⟨fun st => st.2.Sublist F ∧ (∀ K : List Int, (∀ i ∈ K, i ∈ F) → kn s dues t K = true → ∀ i ∈ K, i ∈ st.2) ∧ (st.2.length : Int) ≤ st.1 ∧ ((st.2.length : Int) = st.1 → kn s dues t st.2 = true), fun st => st.1.toNat, ⟨.refl _, fun K h1 _ => h1, by show (F.length : Int) ≤ (F.length : Int) + 1; omega, fun z => by have z' : (F.length : Int) = (F.length : Int) + 1 := z; omega⟩, fun st hi => ?_⟩
  obtain ⟨m, L0⟩ := st
  obtain ⟨i1, i2, i3, i4⟩ := hi
  dsimp only at i1 i2 i3 i4 ⊢
  have hL0 := i1.length_le
  refine fun _ => ?_
  by_cases hlt : (L0.length : Int) < m
  · refine iT hlt fun _ => ?_
    refine forW_inv (fun pre _ L => Pass s dues t F L0 pre L) ⟨.refl _, i2, fun _ i hi => by cases hi⟩ (fun pre x suf L C e hi h1 _ _ _ => ?_) (fun L hL => ?_)
    · have hx : x ∈ L0 := by rw [e]; simp
      obtain ⟨x0, x1⟩ := hb x (i1.subset hx)
      refine lcW_map (fun j => !decide (j = x)) (fun j => j) _ (fun _ _ C c => c) (fun _ _ _ C c => c) fun p => ?_
      rw [List.map_id']
      have hbut : ∀ j ∈ but L x, 0 ≤ j ∧ j < (s.length : Int) := fun j hj => hb j (i1.subset (hi.sub.subset (mem_but.mp hj).1))
      refine ⟨fun j hj => by have := hbut j hj; omega, s, dues, t, v, hz, hl, ht, hv, rfl, but L x, mask_fl hn.2 _ hbut, ⟨x0, x1⟩, ?_⟩
      have hh := hangM_eq hz (dues := dues) ht x0 x1 (K := but L x) (fun z => (mem_but.mp z).2 rfl)
      cases hq : hangB s dues t (but L x) x with
      | true => exact bT (by rw [hh, hq]) (h1 _ (hi.drop hz ht hx x0 x1 hq))
      | false => exact bF (by rw [hh, hq]) (h1 _ (hi.keep hq))
    · refine ⟨⟨hL.sub.trans i1, hL.cov, by have := hL.sub.length_le; show (L.length : Int) ≤ (L0.length : Int); omega, fun z => ?_⟩, by show ((L0.length : Int)).toNat < m.toNat; omega⟩
      have z' : (L.length : Int) = (L0.length : Int) := z
      have e0 := hL.sub.eq_of_length_le (by omega)
      show kn s dues t L = true
      rw [e0]
      exact kn_iff.mpr (hL.calm (by omega))
  · exact iF hlt (h L0 ⟨i1, i4 (by omega), i2⟩)
theorem sc_next_field : FnScope ["views", "fields", "mask", "good", "field"] ["views", "fields", "mask", "good"] (defScope s_next_field) := ⟨rfl, rfl, rfl, by decide +kernel, rfl, by decide +kernel, by decide +kernel⟩
theorem ok_next_field (B : Bd P w K mg base) : FnG P w K mg base "next_field" 3 ["views", "fields", "mask", "good"] (SpF (K := K) (fsC (rL (r_CaseView K)) (fsC (rL SS.rI) (fsC SS.rI (fs1 (rDK kkI rB))))) (rO SS.rI) (fun (a : (List T_CaseView) × (List Int) × Int × (List (Int × Bool))) => (fun P => ∃ s dues t v, s ∈ SZ ∧ dues.length = (forms s).length ∧ t ∈ forms s ∧ ViewOk s dues t v ∧ a.1 = [v] ∧ a.2.1.Pairwise (· < ·) ∧ (∀ i ∈ a.2.1, 0 ≤ i ∧ i < (s.length : Int)) ∧ ∃ K, a.2.2.1 = maskOf (fl s.length K) ∧ (∃ i, (i ∈ a.2.1 ∧ i ∉ K ∧ hangB s dues t K i = true ∧ maskOf (fl s.length (K ++ [i])) ∈ a.2.2.2.map (·.1))) ∧ ∀ i, (i ∈ a.2.1 ∧ i ∉ K ∧ hangB s dues t K i = true ∧ maskOf (fl s.length (K ++ [i])) ∈ a.2.2.2.map (·.1)) → P (some i) : W (Option Int)))) := by
  obtain ⟨fd, D⟩ := B.says.def_ 16 (d := d_next_field) rfl
  refine ⟨_, fd, B.tx.glo_next_field, D.kp, D.bindsN (fun _ _ _ _ _ _ us hl => match us, hl with | [_, _, _, _], _ => rfl), fnok_of (post := fun _ : Unit => ([.off, .off, .off, .off, .off] : List (En K))) D sc_next_field rfl (by decide) (fsE_C (fsE_C (fsE_C fsE_1))) (fun a => [.fr (rL (r_CaseView K)) a.1, .fr (rL SS.rI) a.2.1, .fr SS.rI a.2.2.1, .fr (rDK kkI rB) a.2.2.2, .off]) (fun _ => rfl) (fun a cdv A outer s H E hr => (b_for (fun s109 : Unit => [.fr (rL (r_CaseView K)) a.1, .fr (rL SS.rI) a.2.1, .fr SS.rI a.2.2.1, .fr (rDK kkI rB) a.2.2.2, .off]) () (pi_listX (pr_frz (pr_cbL cr_sortedI rcl_sortI B.tx.free_sorted (by decide +kernel) (pa_oneX (pr_name (pv 1) rfl))))) (.same (.same (.same (.same (.same .nil))))) (fun s109 => (pg_nameX (pg_name (i := 4) sc_next_field.nd rfl (by first | exact Or.inl rfl | exact Or.inr rfl)))) (fun q110 q110x => (b_ifr (PW.pt (pw_andX (pt_cmpX (op_eqP hr.units) (r2_eq eqI) (nomark _) (pr_op op_and r2_band (pr_name (pv 2) rfl) (pr_ix ix_tup r2_ixU (pr_gtup (is := [1, 2, 4, 8, 16, 32, 64, 128]) (by rfl) B.tx.tup_BITS.1 B.tx.tup_BITS.2) (pr_name (pv 4) rfl))) pr_int) (pw_andX (pt_cmpX (op_inDK (hu_of hr)) (r2_inDK (n := false)) (by rfl) (pr_op op_or r2_bor (pr_name (pv 2) rfl) (pr_ix ix_tup r2_ixU (pr_gtup (is := [1, 2, 4, 8, 16, 32, 64, 128]) (by rfl) B.tx.tup_BITS.1 B.tx.tup_BITS.2) (pr_name (pv 4) rfl))) (pr_name (pv 3) rfl)) (pw_and1X (pt_valX (pr_call (ok_some_hangs B) (hr.mono (by decide)) (pa_consX (pr_name (pv 0) rfl) (pa_consX (pr_name (pv 4) rfl) (pa_oneX (pr_name (pv 2) rfl)))))))))) (b_ret (pr_some (pr_name (pv 4) rfl))) (b_nil (t := ()) (.same (.same (.same (.same (.off .nil rfl)))))))) (fun s109 => (b_ret (pr_non (R := SS.rI)))))) (fun a Q h => ?_)⟩
  obtain ⟨s, dues, t, v, hz, hl, ht, hv, e, hs, hb, K, em, hex, h⟩ := h
  obtain ⟨a1, F, mk, good⟩ := a
  dsimp only at e hs hb em hex h ⊢
  subst e em
  have hn := sz_n hz
  intro ys hp _
  refine forW_inv (fun _ suf _ => ∃ i ∈ suf, i ∉ K ∧ hangB s dues t K i = true ∧ maskOf (fl s.length (K ++ [i])) ∈ good.map (·.1)) ?_ (fun pre x suf st C e hi h1 _ _ h4 => ?_) (fun st hst => ?_)
  · obtain ⟨i, h1, h2⟩ := hex
    exact ⟨i, hp.mem_iff.mpr h1, h2⟩
  rotate_left
  · obtain ⟨i, hi, _⟩ := hst
    cases hi
  have hx : x ∈ F := hp.mem_iff.mp (by rw [e]; simp)
  obtain ⟨x0, x1⟩ := hb x hx
  have hm := mask_bit hn.2 K x0 x1
  rw [decide_eq_decide] at hm
  obtain ⟨i, hi1, hi2, hi3, hi4⟩ := hi
  have other : i ≠ x → ∃ i ∈ suf, i ∉ K ∧ hangB s dues t K i = true ∧ maskOf (fl s.length (K ++ [i])) ∈ good.map (·.1) := fun ne => by
    rcases List.mem_cons.mp hi1 with z | z
    · exact absurd z ne
    · exact ⟨i, z, hi2, hi3, hi4⟩
  refine ⟨_, bits_at x0 (by omega), ?_⟩
  by_cases hk : x ∈ K
  · exact iF (fun z => hm.mp z hk) (bF rfl (h1 () (other fun e => hi2 (by rw [e]; exact hk))))
  refine iT (hm.mpr hk) ⟨_, bits_at x0 (by omega), ?_⟩
  rw [mask_snoc hn.2 K x0 x1]
  have hlk : (lookA good (maskOf (fl s.length (K ++ [x])))).isSome = decide (maskOf (fl s.length (K ++ [x])) ∈ good.map (·.1)) := look_some_iff
  by_cases hg : maskOf (fl s.length (K ++ [x])) ∈ good.map (·.1)
  · refine bT (by rw [hlk, dT hg]; rfl) ⟨s, dues, t, v, hz, hl, ht, hv, rfl, K, rfl, ⟨x0, x1⟩, ?_⟩
    have hh := hangM_eq hz (dues := dues) ht x0 x1 hk
    cases hq : hangB s dues t K x with
    | true => exact bT (by rw [hh, hq]) (h4 (some x) (h x ⟨hx, hk, hq, hg⟩))
    | false => exact bF (by rw [hh, hq]) (h1 () (other fun e => by rw [e, hq] at hi3; cases hi3))
  · exact bF (by rw [hlk, dF hg]; rfl) (bF rfl (h1 () (other fun e => hg (by rw [← e]; exact hi4))))
theorem sc_least_row : FnScope ["views", "fields", "ahead", "whole", "good", "level", "turn", "row", "mask", "lower", "field", "less"] ["views", "fields", "ahead"] (defScope s_least_row) := ⟨rfl, rfl, rfl, by decide +kernel, rfl, by decide +kernel, by decide +kernel⟩
theorem ok_least_row (B : Bd P w K mg base) : FnG P w K mg base "least_row" 4 ["views", "fields", "ahead"] (SpF (K := K) (fsC (rL (r_CaseView K)) (fsC (rL SS.rI) (fs1 SS.rI))) (rO (rL SS.rI)) (fun (a : (List T_CaseView) × (List Int) × Int) => (fun P => ∃ s dues t v, s ∈ SZ ∧ dues.length = (forms s).length ∧ t ∈ forms s ∧ ViewOk s dues t v ∧ a.1 = [v] ∧ a.2.1.Pairwise (· < ·) ∧ (∀ i ∈ a.2.1, 0 ≤ i ∧ i < (s.length : Int)) ∧ a.2.2 = 0 ∧ Great s dues t a.2.1 [] ∧ ∀ row, row.Perm a.2.1 → Gd s dues t row → P (some row) : W (Option (List Int))))) := by
  obtain ⟨fd, D⟩ := B.says.def_ 15 (d := d_least_row) rfl
  refine ⟨_, fd, B.tx.glo_least_row, D.kp, D.bindsN (fun _ _ _ _ _ _ us hl => match us, hl with | [_, _, _], _ => rfl), fnok_of (post := fun _ : Unit => ([.off, .off, .off, .off, .off, .off, .off, .off, .off, .off, .off, .off] : List (En K))) D sc_least_row rfl (by decide) (fsE_C (fsE_C fsE_1)) (fun a => [.fr (rL (r_CaseView K)) a.1, .fr (rL SS.rI) a.2.1, .fr SS.rI a.2.2, .off, .off, .off, .off, .off, .off, .off, .off, .off]) (fun _ => rfl) (fun a cdv A outer s H E hr => (b_asg (i := 3) sc_least_row.nd rfl (by first | exact Or.inl rfl | exact Or.inr rfl) (pr_op op_or r2_bor (pr_name (pv 2) rfl) (pr_call (ok_mask_of B) (hr.mono (by decide)) (pa_oneX (pr_name (pv 1) rfl)))) (fun x111 => (b_newK1 (i := 4) kkI rB sc_least_row.nd rfl (by first | exact Or.inl rfl | exact Or.inr rfl) (pr_name (pv 3) rfl) pr_bl (fun x112 y113 d114 => (b_asg (i := 5) sc_least_row.nd rfl (by first | exact Or.inl rfl | exact Or.inr rfl) (pr_frz (pr_lst (R := SS.rI) (pa_consR (pr_name (pv 3) rfl) pa_nilR))) (fun x115 => (b_for (fun s116 : (List Int) × (List (Int × Bool)) => [.fr (rL (r_CaseView K)) a.1, .fr (rL SS.rI) a.2.1, .fr SS.rI a.2.2, .fr SS.rI x111, .rg d114 [] (dictKRg kkI rB d114 s116.2), .fr (rL SS.rI) s116.1, .off, .off, .off, .off, .off, .off]) (x115, ([(x112, y113)] : (List (Int × Bool)))) (pi_rng1X B.tx.free_range (pa_oneX (pr_cb call_len_seq rc_len B.tx.free_len (by decide +kernel) (pa_oneX (pr_name (pv 1) rfl))))) (.same (.same (.same (.same (.same (.same (.same (.same (.same (.same (.same (.same .nil)))))))))))) (fun s116 => (pg_nameX (pg_name (i := 6) sc_least_row.nd rfl (by first | exact Or.inl rfl | exact Or.inr rfl)))) (fun q117 q117x => (b_asgL (i := 9) sc_least_row.nd rfl (by first | exact Or.inl rfl | exact Or.inr rfl) (pr_lst (R := SS.rI) pa_nilR) (fun q118 q118l => (b_for (fun s119 : (List (Int × Bool)) × (List Int) => [.fr (rL (r_CaseView K)) a.1, .fr (rL SS.rI) a.2.1, .fr SS.rI a.2.2, .fr SS.rI x111, .rg d114 [] (dictKRg kkI rB d114 s119.1), .fr (rL SS.rI) q117.1, .fr SS.rI q117x, .off, .off, .own q118 SS.rI s119.2, .off, .off]) (q117.2, q118l) (pi_listX (pr_name (pv 5) rfl)) (.same (.same (.same (.same (.same (.same (.same (.same (.same (.same (.same (.same .nil)))))))))))) (fun s119 => (pg_nameX (pg_name (i := 8) sc_least_row.nd rfl (by first | exact Or.inl rfl | exact Or.inr rfl)))) (fun q120 q120x => (b_for (fun s121 : (List (Int × Bool)) × (List Int) => [.fr (rL (r_CaseView K)) a.1, .fr (rL SS.rI) a.2.1, .fr SS.rI a.2.2, .fr SS.rI x111, .rg d114 [] (dictKRg kkI rB d114 s121.1), .fr (rL SS.rI) q117.1, .fr SS.rI q117x, .off, .fr SS.rI q120x, .own q118 SS.rI s121.2, .off, .off]) (q120.1, q120.2) (pi_listX (pr_name (pv 1) rfl)) (.same (.same (.same (.same (.same (.same (.same (.same (.same (.same (.same (.same .nil)))))))))))) (fun s121 => (pg_nameX (pg_name (i := 10) sc_least_row.nd rfl (by first | exact Or.inl rfl | exact Or.inr rfl)))) (fun q122 q122x => (b_asg (i := 11) sc_least_row.nd rfl (by first | exact Or.inl rfl | exact Or.inr rfl) (pr_if (pt_cmpX (op_neP hr.units) (r2_ne eqI) (nomark _) (pr_op op_and r2_band (pr_name (pv 8) rfl) (pr_ix ix_tup r2_ixU (pr_gtup (is := [1, 2, 4, 8, 16, 32, 64, 128]) (by rfl) B.tx.tup_BITS.1 B.tx.tup_BITS.2) (pr_name (pv 10) rfl))) pr_int) (pr_op op_sub r2_sub (pr_name (pv 8) rfl) (pr_ix ix_tup r2_ixU (pr_gtup (is := [1, 2, 4, 8, 16, 32, 64, 128]) (by rfl) B.tx.tup_BITS.1 B.tx.tup_BITS.2) (pr_name (pv 10) rfl))) (pr_name (pv 3) rfl)) (fun x123 => (b_if (fun s127 : (List (Int × Bool)) × (List Int) => [.fr (rL (r_CaseView K)) a.1, .fr (rL SS.rI) a.2.1, .fr SS.rI a.2.2, .fr SS.rI x111, .rg d114 [] (dictKRg kkI rB d114 s127.1), .fr (rL SS.rI) q117.1, .fr SS.rI q117x, .off, .fr SS.rI q120x, .own q118 SS.rI s127.2, .fr SS.rI q122x, .fr SS.rI x123]) (PW.pt (pw_andX (pt_ninOwnK (hu_of hr) (pv 4) rfl (pr_name (pv 11) rfl)) (pw_and1X (pt_valX (pr_call (ok_some_hangs B) (hr.mono (by decide)) (pa_consX (pr_name (pv 0) rfl) (pa_consX (pr_name (pv 10) rfl) (pa_oneX (pr_name (pv 11) rfl))))))))) (b_setK (hu_of hr) (pv 4) rfl pr_bl (pr_name (pv 11) rfl) (fun x124 y125 => (b_app (pv 9) rfl (pr_name (pv 11) rfl) (fun x126 => (b_nil (t := ((putA q122.1 x124 y125), (q122.2 ++ [x126]))) (.same (.same (.same (.same (.same (.same (.same (.same (.same (.same (.same (.same .nil))))))))))))))))) (b_nil (t := (q122.1, q122.2)) (.same (.same (.same (.same (.same (.same (.same (.same (.same (.same (.same (.same .nil))))))))))))) (fun s127 => (b_nil (t := (s127.1, s127.2)) (.same (.same (.same (.same (.same (.same (.same (.same (.same (.same (.off (.off .nil rfl) rfl))))))))))))) (by intro _ _ h; exact h))))) (fun s121 => (b_nil (t := (s121.1, s121.2)) (.same (.same (.same (.same (.same (.same (.same (.same (.off (.same (.same (.same .nil))) rfl))))))))))))) (fun s119 => (b_frz 9 rfl (b_asg (i := 5) sc_least_row.nd rfl (by first | exact Or.inl rfl | exact Or.inr rfl) (pr_frz (pr_ctyL call_list_of rcl_list B.tx.free_list (by decide +kernel) (pa_oneX (pr_name (pv 9) rfl)))) (fun x128 => (b_nil (t := (x128, s119.1)) (.same (.same (.same (.same (.same (.same (.off (.same (.same (.off (.same (.same .nil)) rfl))) rfl)))))))))))))))) (fun s116 => (b_frzG 4 fz_dK rfl (b_ifr (pt_cmpX (op_ninDK (hu_of hr)) (r2_inDK (n := true)) (by rfl) (pr_name (pv 2) rfl) (pr_name (pv 4) rfl)) (b_ret (pr_non (R := (rL SS.rI)))) (b_asgL (i := 7) sc_least_row.nd rfl (by first | exact Or.inl rfl | exact Or.inr rfl) (pr_lst (R := SS.rI) pa_nilR) (fun q129 q129l => (b_asg (i := 8) sc_least_row.nd rfl (by first | exact Or.inl rfl | exact Or.inr rfl) (pr_name (pv 2) rfl) (fun x130 => (b_for (fun s131 : Int × (List Int) => [.fr (rL (r_CaseView K)) a.1, .fr (rL SS.rI) a.2.1, .fr SS.rI a.2.2, .fr SS.rI x111, .fr (rDK kkI rB) s116.2, .fr (rL SS.rI) s116.1, .off, .own q129 SS.rI s131.2, .fr SS.rI s131.1, .off, .off, .off]) (x130, q129l) (pi_rng1X B.tx.free_range (pa_oneX (pr_cb call_len_seq rc_len B.tx.free_len (by decide +kernel) (pa_oneX (pr_name (pv 1) rfl))))) (.same (.same (.same (.same (.same (.same (.same (.same (.same (.same (.same (.same .nil)))))))))))) (fun s131 => (pg_nameX (pg_name (i := 6) sc_least_row.nd rfl (by first | exact Or.inl rfl | exact Or.inr rfl)))) (fun q132 q132x => (b_asg (i := 10) sc_least_row.nd rfl (by first | exact Or.inl rfl | exact Or.inr rfl) (pr_call (ok_next_field B) (hr.mono (by decide)) (pa_consX (pr_name (pv 0) rfl) (pa_consX (pr_name (pv 1) rfl) (pa_consX (pr_name (pv 8) rfl) (pa_oneX (pr_name (pv 4) rfl)))))) (fun x133 => (b_app (pv 7) rfl (pr_get (pr_name (pv 10) rfl)) (fun x134 => (b_asg (i := 8) sc_least_row.nd rfl (by first | exact Or.inl rfl | exact Or.inr rfl) (pr_op op_or r2_bor (pr_name (pv 8) rfl) (pr_ix ix_tup r2_ixU (pr_gtup (is := [1, 2, 4, 8, 16, 32, 64, 128]) (by rfl) B.tx.tup_BITS.1 B.tx.tup_BITS.2) (pr_get (pr_name (pv 10) rfl)))) (fun x135 => (b_nil (t := (x135, (q132.2 ++ [x134]))) (.same (.same (.same (.same (.same (.same (.off (.same (.same (.same (.off (.same .nil) rfl)))) rfl))))))))))))))) (fun s131 => (b_frz 7 rfl (b_ret (pr_some (pr_name (pv 7) rfl))))))))))))))))))))) (fun a Q h => ?_)⟩
  obtain ⟨s, dues, t, v, hz, hl, ht, hv, e, hs, hb, e0, hgr, h⟩ := h
  obtain ⟨a1, F, z0⟩ := a
  dsimp only at e hs hb e0 hgr h ⊢
  subst e e0
  have hn := sz_n hz
  have hFl : F.length ≤ 4 := by have := len_in (lt_nodup hs) hb; omega
  have hFs : F ∈ subl (rng 0 s.length) := sub_subl hs hb
  have hw : Builtin.bitOr 0 (maskOf F) = maskOf F := fm_zero ⟨s.length, by omega⟩ F hFs
  rw [hw]
  have subF : ∀ K : List Int, K.Sublist F → fl s.length K = K := fun K hK => fl_self (hs.sublist hK) fun i hi => hb i (hK.subset hi)
  refine ⟨fun i hi => by have := hb i hi; omega, fun d _ => ⟨by omega, ?_⟩⟩
  refine forW_inv (fun pre _ st => Gk s dues t F (st.2.map (·.1)) ∧ st.1 ≠ [] ∧ (∀ m ∈ st.1, m ∈ st.2.map (·.1) ∧ ∃ K : List Int, K.Sublist F ∧ m = maskOf K ∧ K.length + pre.length = F.length) ∧ ∀ K : List Int, K.Sublist F → maskOf K ∈ st.2.map (·.1) → F.length ≤ K.length + pre.length) ⟨⟨by simp, fun m hm => ⟨F, .refl _, by simpa using hm, .inl rfl⟩, by simp⟩, by simp, fun m hm => ?_, fun K hK hm => ?_⟩ (fun pre x suf st C e hi h1 _ _ _ => ?_) (fun st hst => ?_)
  · have : m = maskOf F := by simpa using hm
    subst this
    exact ⟨by simp, F, .refl _, rfl, by simp⟩
  · have hm' : maskOf K = maskOf F := by simpa using hm
    have := mask_inj hn.2 (sub_subl (hs.sublist hK) fun i hi => hb i (hK.subset hi)) hFs hm'
    rw [this]; simp
  · obtain ⟨level, good⟩ := st
    obtain ⟨g1, g2, g3, g4⟩ := hi
    dsimp only at g1 g2 g3 g4 h1 ⊢
    obtain ⟨_, hx, _⟩ := rng_mem e
    have hc : pre.length < F.length := by omega
    intro p
    refine forW_inv (fun pre2 _ st => Low s dues t F pre.length level (st.1.map (·.1)) st.2 ∧ (pre2 ≠ [] → st.2 ≠ [])) ⟨⟨g1, fun m hm => (g3 m hm).1, fun m hm => (by cases hm), fun K hK hm => .inl (g4 K hK hm), by simp⟩, fun z => absurd rfl z⟩ (fun pre2 q suf2 st C2 e2 hi2 h2 _ _ _ => ?_) (fun st hst => h1 _ ⟨hst.1.g, hst.2 g2, fun m hm => ?_, fun K hK hm => ?_⟩)
    rotate_left
    · obtain ⟨k1, K, k2, k3, k4⟩ := hst.1.lo m hm
      exact ⟨k1, K, k2, k3, by rw [List.length_append, List.length_cons, List.length_nil]; omega⟩
    · rw [List.length_append, List.length_cons, List.length_nil]
      rcases hst.1.hi K hK hm with z | z
      · omega
      · obtain ⟨_, K', k2, k3, k4⟩ := hst.1.lo _ z
        have := mask_inj hn.2 (sub_subl (hs.sublist hK) fun i hi => hb i (hK.subset hi)) (sub_subl (hs.sublist k2) fun i hi => hb i (k2.subset hi)) k3
        rw [this]; omega
    obtain ⟨good2, lower2⟩ := st
    dsimp only at hi2 h2 ⊢
    obtain ⟨hq0, K, hK, eq, hKl⟩ := g3 q (by rw [e2]; simp)
    subst eq
    have hKne : K ≠ [] := fun z => by rw [z] at hKl; simp at hKl; omega
    obtain ⟨i0, hi0, hhi0⟩ := not_knot hgr hK hKne
    refine forW_inv (fun pre3 _ st => Low s dues t F pre.length level (st.1.map (·.1)) st.2 ∧ ((pre2 ≠ [] ∨ i0 ∈ pre3) → st.2 ≠ [])) ⟨hi2.1, fun z => z.elim hi2.2 fun w => (by cases w)⟩ (fun pre3 y suf3 st C3 e3 hi3 h3 _ _ _ => ?_) (fun st hst => h2 _ ⟨hst.1, fun _ => hst.2 (.inr (hK.subset hi0))⟩)
    obtain ⟨good3, lower3⟩ := st
    dsimp only at hi3 h3 ⊢
    obtain ⟨j1, j2⟩ := hi3
    have hy : y ∈ F := by rw [e3]; simp
    obtain ⟨y0, y1⟩ := hb y hy
    have hmk : maskOf K ∈ good3.map (·.1) := j1.lv _ (by rw [e2]; simp)
    have hm := mask_bit hn.2 K y0 y1
    rw [subF K hK, decide_eq_decide] at hm
    refine ⟨_, bits_at y0 (by omega), ?_⟩
    by_cases hyK : y ∈ K
    · refine nT (fun z => hm.mp z hyK) ⟨_, bits_at y0 (by omega), ?_⟩
      have hless : maskOf K - bitN y = maskOf (but K y) := mask_sub hn.2 (hs.sublist hK) (fun i hi => hb i (hK.subset hi)) hyK
      rw [hless]
      have hlk : (lookA good3 (maskOf (but K y))).isSome = decide (maskOf (but K y) ∈ good3.map (·.1)) := look_some_iff
      have hbs : (but K y).Sublist F := (but_sub K y).trans hK
      have hbl := but_len1 ((lt_nodup hs).sublist hK) hyK
      by_cases hin : maskOf (but K y) ∈ good3.map (·.1)
      · refine nbF (by rw [hlk, dT hin]) (bF rfl (h3 _ ⟨j1, fun _ z => ?_⟩))
        rcases j1.hi _ hbs hin with w | w
        · omega
        · rw [show lower3 = [] from z] at w; cases w
      · refine nbT (by rw [hlk, dF hin]) ⟨s, dues, t, v, hz, hl, ht, hv, rfl, but K y, by rw [subF _ hbs], ⟨y0, y1⟩, ?_⟩
        have hh := hangM_eq hz (dues := dues) ht y0 y1 (K := but K y) (fun z => (mem_but.mp z).2 rfl)
        have hfew := j1.g.few hFl
        rw [List.length_map] at hfew
        have hfew2 := j1.few
        rw [List.length_map] at hfew2
        cases hq : hangB s dues t (but K y) y with
        | true =>
          refine bT (by rw [hh, hq]) ⟨smallS (by omega), fun _ => smallS (by omega), h3 _ ⟨?_, fun _ z => ?_⟩⟩
          · have ha := j1.add hz hs hb hK hKl hyK hq hmk hin
            rw [put_new hin, List.map_append]
            exact ha
          · have := congrArg List.length (show lower3 ++ [maskOf (but K y)] = [] from z)
            simp at this
        | false =>
          refine bF (by rw [hh, hq]) (h3 _ ⟨j1, fun z => j2 ?_⟩)
          rcases z with z | z
          · exact .inl z
          · rcases List.mem_append.mp z with w | w
            · exact .inr w
            · rw [List.mem_singleton.mp w, hq] at hhi0
              cases hhi0
    · refine nF (hm.mpr hyK) ?_
      have hlk : (lookA good3 (maskOf F)).isSome = decide (maskOf F ∈ good3.map (·.1)) := look_some_iff
      refine nbF (by rw [hlk, dT j1.g.top]) (bF rfl (h3 _ ⟨j1, fun z => j2 ?_⟩))
      rcases z with z | z
      · exact .inl z
      · rcases List.mem_append.mp z with w | w
        · exact .inr w
        · rw [List.mem_singleton.mp w] at hi0
          exact absurd hi0 hyK
  · obtain ⟨level, good⟩ := st
    obtain ⟨g1, g2, g3, _⟩ := hst
    dsimp only at g1 g2 g3 ⊢
    have h0k : 0 ∈ good.map (·.1) := by
      obtain ⟨m, hm⟩ := List.exists_mem_of_ne_nil _ g2
      obtain ⟨k1, K, k2, k3, k4⟩ := g3 m hm
      rw [rng_len] at k4
      have : K = [] := List.length_eq_zero_iff.mp (by omega)
      rw [this] at k3
      rw [k3] at k1
      exact k1
    have hlk : (lookA good 0).isSome = decide ((0 : Int) ∈ good.map (·.1)) := look_some_iff
    refine bF (by rw [hlk, dT h0k]; rfl) fun p _ => ⟨by omega, ?_⟩
    refine forW_inv (fun pre _ st => st.1 = maskOf (fl s.length st.2) ∧ Gd s dues t st.2 ∧ st.2.Nodup ∧ (∀ i ∈ st.2, i ∈ F) ∧ st.2.length = pre.length ∧ st.1 ∈ good.map (·.1)) ⟨(mask0 _).symm, fun A i B e => ?_, List.nodup_nil, fun i hi => (by cases hi), rfl, h0k⟩ (fun pre x suf st C e hi h1 _ _ _ => ?_) (fun st hst => ?_)
    · have := congrArg List.length e
      simp at this
    · obtain ⟨mk, row⟩ := st
      obtain ⟨i1, i2, i3, i4, i5, i6⟩ := hi
      dsimp only at i1 i2 i3 i4 i5 i6 h1 ⊢
      subst i1
      obtain ⟨_, hx, _⟩ := rng_mem e
      refine ⟨s, dues, t, v, hz, hl, ht, hv, rfl, hs, hb, row, rfl, ?_, fun i ⟨n1, n2, n3, n4⟩ => ⟨i, rfl, fun _ => smallS (by omega), i, rfl, _, bits_at (hb i n1).1 (by have := (hb i n1).2; omega), h1 _ ⟨mask_snoc hn.2 row (hb i n1).1 (hb i n1).2, i2.snoc n3, ?_, fun j hj => ?_, by rw [List.length_append, List.length_append, i5]; rfl, ?_⟩⟩⟩
      · obtain ⟨K, k1, k2, k3⟩ := g1.ok _ i6
        have ek := mask_inj hn.2 (fl_subl s.length row) (sub_subl (hs.sublist k1) fun i hi => hb i (k1.subset hi)) k2
        have mem : ∀ j, j ∈ K ↔ j ∈ row := fun j => by
          rw [← ek, mem_fl]
          exact ⟨fun z => z.2, fun z => ⟨hb j (i4 j z), z⟩⟩
        rcases k3 with k3 | ⟨i, n1, n2, n3, n4⟩
        · have := len_le_of_subset (lt_nodup hs) (ys := row) fun j hj => (mem j).mp (by rw [k3]; exact hj)
          omega
        · refine ⟨i, n1, fun z => n2 ((mem i).mpr z), ?_, ?_⟩
          · rw [← n3]
            exact (hang_congr hz ht (hb i n1).1 (hb i n1).2 mem).symm
          · rw [← ek, fl_fl] at n4
            exact n4
      · exact List.nodup_append.mpr ⟨i3, by simp, fun a ha b hb' e => n2 (by rw [List.mem_singleton] at hb'; rw [← hb', ← e]; exact ha)⟩
      · rcases List.mem_append.mp hj with z | z
        · exact i4 j z
        · rw [List.mem_singleton.mp z]; exact n1
      · show Builtin.bitOr (maskOf (fl s.length row)) (bitN i) ∈ _
        rw [mask_snoc hn.2 row (hb i n1).1 (hb i n1).2]; exact n4
    · obtain ⟨i1, i2, i3, i4, i5, i6⟩ := hst
      refine h _ (perm_full i3 i4 ?_) i2
      rw [i5, rng_len]; omega
theorem sc_knot : FnScope ["book", "truth", "fields", "space"] ["book", "truth", "fields"] (defScope s_knot) := ⟨rfl, rfl, rfl, by decide +kernel, rfl, by decide +kernel, by decide +kernel⟩
theorem ok_knot (B : Bd P w K mg base) : FnG P w K mg base "knot" 6 ["book", "truth", "fields"] (SpF (K := K) (fsC (r_Book K) (fsC (SS.rU SS.rI) (fs1 (rL SS.rI)))) (rL SS.rI) (fun (a : T_Book × (List Int) × (List Int)) => (fun P => ∃ s dues t, s ∈ SZ ∧ dues.length = (forms s).length ∧ t ∈ forms s ∧ a = ((spc s, dues), t, a.2.2) ∧ a.2.2.Pairwise (· < ·) ∧ (∀ i ∈ a.2.2, 0 ≤ i ∧ i < (s.length : Int)) ∧ ∀ L, Great s dues t a.2.2 L → P L : W (List Int)))) := by
  obtain ⟨fd, D⟩ := B.says.def_ 17 (d := d_knot) rfl
  refine ⟨_, fd, B.tx.glo_knot, D.kp, D.bindsN (fun _ _ _ _ _ _ us hl => match us, hl with | [_, _, _], _ => rfl), fnok_of (post := fun _ : Unit => ([.off, .off, .off, .off] : List (En K))) D sc_knot rfl (by decide) (fsE_C (fsE_C fsE_1)) (fun a => [.fr (r_Book K) a.1, .fr (SS.rU SS.rI) a.2.1, .fr (rL SS.rI) a.2.2, .off]) (fun _ => rfl) (fun a cdv A outer s H E hr => (b_asg (i := 3) sc_knot.nd rfl (by first | exact Or.inl rfl | exact Or.inr rfl) (pr_meth0 (ks := ["kept_space", "kept_dues"]) (ok_Book_space B) (hr.mono (by decide)) (pr_name (pv 0) rfl) (fun _ => rfl) (by decide +kernel)) (fun x136 => (b_expr (pr_meth (ks := ["kept_sizes", "kept_forms", "kept_steps"]) (ok_Space_need_form B) (hr.mono (by decide)) (pr_name (pv 3) rfl) (fun _ => rfl) (by decide +kernel) (pa_oneX (pr_name (pv 1) rfl))) (b_expr (pr_meth (ks := ["kept_sizes", "kept_forms", "kept_steps"]) (ok_Space_need_fields B) (hr.mono (by decide)) (pr_name (pv 3) rfl) (fun _ => rfl) (by decide +kernel) (pa_oneX (pr_name (pv 2) rfl))) (b_ret (pr_call (ok_greatest_knot B) (hr.mono (by decide)) (pa_consX (pr_frz (pr_lst (R := (r_CaseView K)) (pa_consR (pr_make (ok_CaseView___init__ B) (hr.mono (by decide)) (pa_consX (pr_name (pv 0) rfl) (pa_oneX (pr_name (pv 1) rfl)))) pa_nilR))) (pa_oneX (pr_name (pv 2) rfl)))))))))) (fun a Q h => ?_)⟩
  obtain ⟨s, dues, t, hz, hl, ht, e, hs, hb, h⟩ := h
  obtain ⟨a1, a2, F⟩ := a
  have e1 := congrArg (fun q => q.1) e
  have e2 := congrArg (fun q => q.2.1) e
  dsimp only at e1 e2 hs hb h ⊢
  subst e1 e2
  have hn := sz_n hz
  exact ⟨⟨s, hz, rfl, ht⟩, s, hz, rfl, hs, hb, s, dues, a2, hz, hl, ht, rfl, fun v hv => ⟨s, dues, a2, v, hz, hl, ht, hv, rfl, hs, hb, h⟩⟩
theorem sc_order_for : FnScope ["book", "truth", "fields", "space", "views", "left"] ["book", "truth", "fields"] (defScope s_order_for) := ⟨rfl, rfl, rfl, by decide +kernel, rfl, by decide +kernel, by decide +kernel⟩
theorem ok_order_for (B : Bd P w K mg base) : FnG P w K mg base "order_for" 6 ["book", "truth", "fields"] (SpF (K := K) (fsC (r_Book K) (fsC (SS.rU SS.rI) (fs1 (rL SS.rI)))) (rT (fsC rS (fs1 (rO (rL SS.rI))))) (fun (a : T_Book × (List Int) × (List Int)) => (fun P => ∃ s dues t, s ∈ SZ ∧ dues.length = (forms s).length ∧ t ∈ forms s ∧ a = ((spc s, dues), t, a.2.2) ∧ a.2.2.Pairwise (· < ·) ∧ (∀ i ∈ a.2.2, 0 ≤ i ∧ i < (s.length : Int)) ∧ (∀ L, Great s dues t a.2.2 L → L ≠ [] → P ("knot", some L)) ∧ (Great s dues t a.2.2 [] → ∀ row, row.Perm a.2.2 → Gd s dues t row → P ("order", some row)) : W (Str × (Option (List Int)))))) := by
  obtain ⟨fd, D⟩ := B.says.def_ 18 (d := d_order_for) rfl
  refine ⟨_, fd, B.tx.glo_order_for, D.kp, D.bindsN (fun _ _ _ _ _ _ us hl => match us, hl with | [_, _, _], _ => rfl), fnok_of (post := fun _ : Unit => ([.off, .off, .off, .off, .off, .off] : List (En K))) D sc_order_for rfl (by decide) (fsE_C (fsE_C fsE_1)) (fun a => [.fr (r_Book K) a.1, .fr (SS.rU SS.rI) a.2.1, .fr (rL SS.rI) a.2.2, .off, .off, .off]) (fun _ => rfl) (fun a cdv A outer s H E hr => (b_asg (i := 3) sc_order_for.nd rfl (by first | exact Or.inl rfl | exact Or.inr rfl) (pr_meth0 (ks := ["kept_space", "kept_dues"]) (ok_Book_space B) (hr.mono (by decide)) (pr_name (pv 0) rfl) (fun _ => rfl) (by decide +kernel)) (fun x137 => (b_expr (pr_meth (ks := ["kept_sizes", "kept_forms", "kept_steps"]) (ok_Space_need_form B) (hr.mono (by decide)) (pr_name (pv 3) rfl) (fun _ => rfl) (by decide +kernel) (pa_oneX (pr_name (pv 1) rfl))) (b_expr (pr_meth (ks := ["kept_sizes", "kept_forms", "kept_steps"]) (ok_Space_need_fields B) (hr.mono (by decide)) (pr_name (pv 3) rfl) (fun _ => rfl) (by decide +kernel) (pa_oneX (pr_name (pv 2) rfl))) (b_asg (i := 4) sc_order_for.nd rfl (by first | exact Or.inl rfl | exact Or.inr rfl) (pr_frz (pr_lst (R := (r_CaseView K)) (pa_consR (pr_make (ok_CaseView___init__ B) (hr.mono (by decide)) (pa_consX (pr_name (pv 0) rfl) (pa_oneX (pr_name (pv 1) rfl)))) pa_nilR))) (fun x138 => (b_asg (i := 5) sc_order_for.nd rfl (by first | exact Or.inl rfl | exact Or.inr rfl) (pr_call (ok_greatest_knot B) (hr.mono (by decide)) (pa_consX (pr_name (pv 4) rfl) (pa_oneX (pr_name (pv 2) rfl)))) (fun x139 => (b_ifr (pt_cmpX (op_neP hr.units) (r2_ne (eqL eqI)) (nomark _) (pr_name (pv 5) rfl) (pr_frz (pr_lst (R := SS.rI) pa_nilR))) (b_ret (pr_tup (pa_consX pr_str (pa_oneX (pr_some (pr_name (pv 5) rfl)))))) (b_ret (pr_tup (pa_consX pr_str (pa_oneX (pr_call (ok_least_row B) (hr.mono (by decide)) (pa_consX (pr_name (pv 4) rfl) (pa_consX (pr_name (pv 2) rfl) (pa_oneX pr_int)))))))))))))))))) (fun a Q h => ?_)⟩
  obtain ⟨s, dues, t, hz, hl, ht, e, hs, hb, h⟩ := h
  obtain ⟨a1, a2, F⟩ := a
  have e1 := congrArg (fun q => q.1) e
  have e2 := congrArg (fun q => q.2.1) e
  dsimp only at e1 e2 hs hb h ⊢
  subst e1 e2
  have hn := sz_n hz
  refine ⟨⟨s, hz, rfl, ht⟩, s, hz, rfl, hs, hb, s, dues, a2, hz, hl, ht, rfl, fun v hv => ⟨s, dues, a2, v, hz, hl, ht, hv, rfl, hs, hb, fun L hL => nifB (fun ne => h.1 L hL ne) fun e => ?_⟩⟩
  subst e
  exact ⟨s, dues, a2, v, hz, hl, ht, hv, rfl, hs, hb, rfl, hL, h.2 hL⟩
theorem sc_judge_knot : FnScope ["book", "truth", "fields", "space", "view", "field"] ["book", "truth", "fields"] (defScope s_judge_knot) := ⟨rfl, rfl, rfl, by decide +kernel, rfl, by decide +kernel, by decide +kernel⟩
theorem ok_judge_knot (B : Bd P w K mg base) : FnG P w K mg base "judge_knot" 6 ["book", "truth", "fields"] (SpF (K := K) (fsC (r_Book K) (fsC (SS.rU SS.rI) (fs1 (rL SS.rI)))) (rO rS) (fun (a : T_Book × (List Int) × (List Int)) => (fun P => ∃ s dues t, s ∈ SZ ∧ dues.length = (forms s).length ∧ t ∈ forms s ∧ a = ((spc s, dues), t, a.2.2) ∧ a.2.2.Pairwise (· < ·) ∧ (∀ i ∈ a.2.2, 0 ≤ i ∧ i < (s.length : Int)) ∧ P (if a.2.2 = [] then some "form" else if kn s dues t a.2.2 = true then none else some "free") : W (Option Str)))) := by
  obtain ⟨fd, D⟩ := B.says.def_ 19 (d := d_judge_knot) rfl
  refine ⟨_, fd, B.tx.glo_judge_knot, D.kp, D.bindsN (fun _ _ _ _ _ _ us hl => match us, hl with | [_, _, _], _ => rfl), fnok_of (post := fun _ : Unit => ([.off, .off, .off, .off, .off, .off] : List (En K))) D sc_judge_knot rfl (by decide) (fsE_C (fsE_C fsE_1)) (fun a => [.fr (r_Book K) a.1, .fr (SS.rU SS.rI) a.2.1, .fr (rL SS.rI) a.2.2, .off, .off, .off]) (fun _ => rfl) (fun a cdv A outer s H E hr => (b_asg (i := 3) sc_judge_knot.nd rfl (by first | exact Or.inl rfl | exact Or.inr rfl) (pr_meth0 (ks := ["kept_space", "kept_dues"]) (ok_Book_space B) (hr.mono (by decide)) (pr_name (pv 0) rfl) (fun _ => rfl) (by decide +kernel)) (fun x140 => (b_expr (pr_meth (ks := ["kept_sizes", "kept_forms", "kept_steps"]) (ok_Space_need_form B) (hr.mono (by decide)) (pr_name (pv 3) rfl) (fun _ => rfl) (by decide +kernel) (pa_oneX (pr_name (pv 1) rfl))) (b_ifr (PW.pt (pw_orX (pt_notX (pt_valX (pr_call (ok_is_row B) (hr.mono (by decide)) (pa_consX (pr_meth0 (ks := ["kept_sizes", "kept_forms", "kept_steps"]) (ok_Space_width B) (hr.mono (by decide)) (pr_name (pv 3) rfl) (fun _ => rfl) (by decide +kernel)) (pa_oneX (pr_name (pv 2) rfl)))))) (pw_orX (pt_cmpX (op_eqP hr.units) (r2_eq (eqL eqI)) (nomark _) (pr_name (pv 2) rfl) (pr_frz (pr_lst (R := SS.rI) pa_nilR))) (pw_or1X (pt_cmpX (op_neP hr.units) (r2_ne (eqL eqI)) (nomark _) (pr_name (pv 2) rfl) (pr_frz (pr_cbL cr_sortedI rcl_sortI B.tx.free_sorted (by decide +kernel) (pa_oneX (pr_name (pv 2) rfl))))))))) (b_ret (pr_some pr_str)) (b_asg (i := 4) sc_judge_knot.nd rfl (by first | exact Or.inl rfl | exact Or.inr rfl) (pr_make (ok_CaseView___init__ B) (hr.mono (by decide)) (pa_consX (pr_name (pv 0) rfl) (pa_oneX (pr_name (pv 1) rfl)))) (fun x141 => (b_for (fun s142 : Unit => [.fr (r_Book K) a.1, .fr (SS.rU SS.rI) a.2.1, .fr (rL SS.rI) a.2.2, .fr (r_Space K) x140, .fr (r_CaseView K) x141, .off]) () (pi_listX (pr_name (pv 2) rfl)) (.same (.same (.same (.same (.same (.same .nil)))))) (fun s142 => (pg_nameX (pg_name (i := 5) sc_judge_knot.nd rfl (by first | exact Or.inl rfl | exact Or.inr rfl)))) (fun q143 q143x => (b_ifr (pt_valX (pr_meth (ks := ["kept_width", "kept_meets"]) (ok_CaseView_hangs B) (hr.mono (by decide)) (pr_name (pv 4) rfl) (fun _ => rfl) (by decide +kernel) (pa_consX (pr_name (pv 5) rfl) (pa_oneX (pr_op op_sub r2_sub (pr_call (ok_mask_of B) (hr.mono (by decide)) (pa_oneX (pr_name (pv 2) rfl))) (pr_ix ix_tup r2_ixU (pr_gtup (is := [1, 2, 4, 8, 16, 32, 64, 128]) (by rfl) B.tx.tup_BITS.1 B.tx.tup_BITS.2) (pr_name (pv 5) rfl))))))) (b_ret (pr_some pr_str)) (b_nil (t := ()) (.same (.same (.same (.same (.same (.off .nil rfl))))))))) (fun s142 => (b_ret (pr_non (R := rS)))))))))))) (fun a Q h => ?_)⟩
  obtain ⟨s, dues, t, hz, hl, ht, e, hs, hb, h⟩ := h
  obtain ⟨a1, a2, F⟩ := a
  have e1 := congrArg (fun q => q.1) e
  have e2 := congrArg (fun q => q.2.1) e
  dsimp only at e1 e2 hs hb h ⊢
  subst e1 e2
  have hn := sz_n hz
  refine ⟨⟨s, hz, rfl, ht⟩, s.length, hn.2, rfl, lt_nodup hs, hb, nbF rfl (ifB (fun e => ?_) fun ne => ?_)⟩
  · rw [if_pos e] at h
    exact bT rfl h
  rw [if_neg ne] at h
  intro ys hp hy
  have ey := perm_lt hp hy hs
  subst ey
  refine nF rfl ⟨s, dues, a2, hz, hl, ht, rfl, fun v hv => ?_⟩
  refine forW_inv (fun pre _ _ => ∀ i ∈ pre, hangB s dues a2 (but ys i) i = false) (fun i hi => by cases hi) (fun pre x suf st C e hi h1 _ _ h4 => ?_) (fun st hst => ?_)
  rotate_left
  · rw [if_pos (kn_iff.mpr hst)] at h
    exact h
  have hx : x ∈ ys := by rw [e]; simp
  obtain ⟨x0, x1⟩ := hb x hx
  refine ⟨fun i hi => by have := hb i hi; omega, _, bits_at x0 (by omega), s, dues, a2, hz, hl, ht, hv, but ys x, ?_, ⟨x0, x1⟩, ?_⟩
  · rw [mask_sub hn.2 hs hb hx]
    exact mask_fl hn.2 _ fun j hj => hb j (mem_but.mp hj).1
  have hh := hangM_eq hz (dues := dues) ht x0 x1 (K := but ys x) (fun z => (mem_but.mp z).2 rfl)
  cases hq : hangB s dues a2 (but ys x) x with
  | true =>
    refine bT (by rw [hh, hq]) (h4 _ ?_)
    rw [if_neg fun z => by rw [kn_iff.mp z x hx] at hq; cases hq] at h
    exact h
  | false =>
    refine bF (by rw [hh, hq]) (h1 () fun i hi2 => ?_)
    rcases List.mem_append.mp hi2 with z | z
    · exact hi i z
    · rw [List.mem_singleton.mp z]; exact hq
theorem sc_judge_order : FnScope ["book", "truth", "fields", "space"] ["book", "truth", "fields"] (defScope s_judge_order) := ⟨rfl, rfl, rfl, by decide +kernel, rfl, by decide +kernel, by decide +kernel⟩
theorem ok_judge_order (B : Bd P w K mg base) : FnG P w K mg base "judge_order" 6 ["book", "truth", "fields"] (SpF (K := K) (fsC (r_Book K) (fsC (SS.rU SS.rI) (fs1 (rL SS.rI)))) (rO rS) (fun (a : T_Book × (List Int) × (List Int)) => (fun P => ∃ s dues t, s ∈ SZ ∧ dues.length = (forms s).length ∧ t ∈ forms s ∧ a = ((spc s, dues), t, a.2.2) ∧ a.2.2.Nodup ∧ (∀ i ∈ a.2.2, 0 ≤ i ∧ i < s.length) ∧ P (if (opnd s dues t a.2.2).length < a.2.2.length then some "step" else none) : W (Option Str)))) := by
  obtain ⟨fd, D⟩ := B.says.def_ 45 (d := d_judge_order) rfl
  refine ⟨_, fd, B.tx.glo_judge_order, D.kp, D.bindsN (fun _ _ _ _ _ _ us hl => match us, hl with | [_, _, _], _ => rfl), fnok_of (post := fun _ : Unit => ([.off, .off, .off, .off] : List (En K))) D sc_judge_order rfl (by decide) (fsE_C (fsE_C fsE_1)) (fun a => [.fr (r_Book K) a.1, .fr (SS.rU SS.rI) a.2.1, .fr (rL SS.rI) a.2.2, .off]) (fun _ => rfl) (fun a cdv A outer s H E hr => (b_asg (i := 3) sc_judge_order.nd rfl (by first | exact Or.inl rfl | exact Or.inr rfl) (pr_meth0 (ks := ["kept_space", "kept_dues"]) (ok_Book_space B) (hr.mono (by decide)) (pr_name (pv 0) rfl) (fun _ => rfl) (by decide +kernel)) (fun x144 => (b_expr (pr_meth (ks := ["kept_sizes", "kept_forms", "kept_steps"]) (ok_Space_need_form B) (hr.mono (by decide)) (pr_name (pv 3) rfl) (fun _ => rfl) (by decide +kernel) (pa_oneX (pr_name (pv 1) rfl))) (b_ifr (pt_notX (pt_valX (pr_call (ok_is_row B) (hr.mono (by decide)) (pa_consX (pr_meth0 (ks := ["kept_sizes", "kept_forms", "kept_steps"]) (ok_Space_width B) (hr.mono (by decide)) (pr_name (pv 3) rfl) (fun _ => rfl) (by decide +kernel)) (pa_oneX (pr_name (pv 2) rfl)))))) (b_ret (pr_some pr_str)) (b_ifr (pt_cmpX op_lt r2_lt (nomark _) (pr_cb call_len_seq rc_len B.tx.free_len (by decide +kernel) (pa_oneX (pr_call (ok_opened_row B) (hr.mono (by decide)) (pa_consX (pr_make (ok_CaseView___init__ B) (hr.mono (by decide)) (pa_consX (pr_name (pv 0) rfl) (pa_oneX (pr_name (pv 1) rfl)))) (pa_oneX (pr_name (pv 2) rfl)))))) (pr_cb call_len_seq rc_len B.tx.free_len (by decide +kernel) (pa_oneX (pr_name (pv 2) rfl)))) (b_ret (pr_some pr_str)) (b_ret (pr_non (R := rS))))))))) (fun a Q h => ?_)⟩
  obtain ⟨s, dues, t, hz, hl, ht, e, hnd, hb, h⟩ := h
  obtain ⟨a1, a2, row⟩ := a
  have e1 := congrArg (fun q => q.1) e
  have e2 := congrArg (fun q => q.2.1) e
  dsimp only at e1 e2 hnd hb h ⊢
  subst e1 e2
  have hn := sz_n hz
  refine ⟨⟨s, hz, rfl, ht⟩, s.length, hn.2, rfl, hnd, hb, nbF rfl ⟨s, dues, a2, hz, hl, ht, rfl, fun v hv => ⟨s, dues, a2, hz, hl, ht, hv, hnd, hb, fun _ _ => ifB (fun z => ?_) fun z => ?_⟩⟩⟩
  · rw [if_pos (by omega)] at h; exact h
  · rw [if_neg (by omega)] at h; exact h
theorem sc__law_below : FnScope ["pool", "many", "great", "digit", "small", "cell"] ["pool", "many"] (defScope s__law_below) := ⟨rfl, rfl, rfl, by decide +kernel, rfl, by decide +kernel, by decide +kernel⟩
theorem ok__law_below (B : Bd P w K mg base) : FnG P w K mg base "_law_below" 1 ["pool", "many"] (SpP (K := K) (fs1 SS.rI) SS.rI (fun (a : Int) => (fun P => (0 < a ∧ a < 1000000) ∧ ∀ r, 0 ≤ r → r < a → P r : W Int))) := by
  obtain ⟨fd, D⟩ := B.says.def_ 47 (d := d__law_below) rfl
  refine ⟨_, fd, B.tx.glo__law_below, D.kp, D.bindsN (fun _ _ _ _ _ _ us hl => match us, hl with | [_, _], _ => rfl), fnok_ofP (post := fun p g (_ : Unit) => ([.pool p g, .off, .off, .off, .off, .off] : List (En K))) D sc__law_below rfl (by decide) fsE_1 (fun p g a => [.pool p g, .fr SS.rI a, .off, .off, .off, .off]) (fun _ _ _ => rfl) (fun p g a cdv A outer s H E hr =>
    (b_asg (i := 2) sc__law_below.nd rfl (by first | exact Or.inl rfl | exact Or.inr rfl) (pr_plA (pv 0) rfl) (fun _ =>
    (b_plAug (pv 0) rfl
    (b_plWhile (i := 0) (j := 2) rfl rfl (PW.pt (pw_and (pt_cmpR (op_neP hr.units) (pv 2) (pe_lst pa_nil) (nomark _)) (pw_and1 (pt_cmpR (op_eqP hr.units) (pe_ix ix_list (pv 2) pe_int (fun _ _ => rfl)) pe_int (nomark _)))))
      (pss_one (ps_expr (pe_bm PySem.F.plainAttrs_list PySem.F.slot_list_pop PySem.F.type_list_pop mt_popAt (pv 2) (pa_cons pe_int pa_nil))))
    (b_plIf (i := 0) (jm := 1) (jg := 2) (jd := 3) rfl rfl rfl (by decide) (by decide) (by show 3 < 6; decide) (pt_cmpR (op_neP hr.units) (pv 2) (pe_lst pa_nil) (nomark _))
      (pss_cons (ps_asg (pe_op op_modN (pe_callTy call_int1 (by rfl) B.tx.free_int (by decide +kernel) (pa_cons (pe_ix ix_list (pv 2) pe_int (fun _ _ => rfl)) pa_nil)) (pv 1)) (pg_name (i := 3) sc__law_below.nd rfl (by first | exact Or.inl rfl | exact Or.inr rfl))) (pss_cons (ps_asg (pe_op op_fdivN (pe_ix ix_list (pv 2) pe_int (fun _ _ => rfl)) (pv 1)) (pg_sub (pv 2) pe_int set_list)) (pss_one (ps_ret (pv 3)))))
    (b_asg (i := 4) sc__law_below.nd rfl (by first | exact Or.inl rfl | exact Or.inr rfl) (pr_plB (pv 0) rfl) (fun x4 =>
    (b_asg (i := 5) sc__law_below.nd rfl (by first | exact Or.inl rfl | exact Or.inr rfl) (pr_ix ix_list r2_ixL (pr_name (pv 4) rfl) (pr_op op_modN r2_mod (pr_cty call_int1 rc_int B.tx.free_int (by decide +kernel) (pa_oneX (pr_plC (pv 0) rfl))) (pr_cb call_len_seq rc_len B.tx.free_len (by decide +kernel) (pa_oneX (pr_name (pv 4) rfl))))) (fun x5 =>
    (b_plSet (pv 0) rfl (pr_op op_modN r2_mod (pr_cty call_int1 rc_int B.tx.free_int (by decide +kernel) (pa_oneX (pr_op op_add r2_add (pr_op op_add r2_add (pr_op op_add r2_add (pr_op op_mul r2_mul (pr_plD (pv 0) rfl) pr_int) (pr_op op_mul r2_mul (pr_name (pv 5) rfl) pr_int)) (pr_op op_mul r2_mul (pr_plC (pv 0) rfl) pr_int)) pr_int))) (pr_op op_pow r2_pow pr_int pr_int))
    (b_ret (pr_op op_modN r2_mod (pr_cty call_int1 rc_int B.tx.free_int (by decide +kernel) (pa_oneX (pr_op op_shr r2_shr (pr_plD (pv 0) rfl) pr_int))) (pr_name (pv 1) rfl))))))))))))))
    (fun p g a Q h => ?_)⟩
  obtain ⟨⟨h0, h1⟩, h⟩ := h
  refine ⟨⟨⟨h0, h1⟩, h⟩, fun ns hns => fun x => ?_⟩
  have hl : 0 < ns.length := List.length_pos_iff.mpr hns
  refine fun _ => ⟨by omega, _, atI_of 0 (Int.fmod_nonneg_of_pos _ (by omega)) (Int.fmod_lt_of_pos _ (by omega)), ?_⟩
  refine fun y => ⟨cmulR (by decide) (by decide), cmulR (by decide) (by decide), fun z => ⟨cmulR (by decide) (by decide), cpow_64, by decide, fun u => ⟨by decide, by omega, ?_⟩⟩⟩
  exact h _ (Int.fmod_nonneg_of_pos _ h0) (Int.fmod_lt_of_pos _ h0)
theorem sc__law_begin : FnScope ["script", "great", "small", "cell"] ["script"] (defScope s__law_begin) := ⟨rfl, rfl, rfl, by decide +kernel, rfl, by decide +kernel, by decide +kernel⟩
theorem ok__law_begin (B : Bd P w K mg base) : FnG P w K mg base "_law_begin" 1 ["script"] (SpB K 63) := by
  obtain ⟨fd, D⟩ := B.says.def_ 46 (d := d__law_begin) rfl
  refine ⟨_, fd, B.tx.glo__law_begin, D.kp, D.bindsN (fun _ _ _ _ _ _ us hl => match us, hl with | [_], _ => rfl), fnok_ofB (most := 63) (post := fun _ : Unit => ([.off, .off, .off, .off] : List (En K))) D sc__law_begin rfl (by decide) (fun H a => [.fr (rW H (rL SS.rI)) a, .off, .off, .off]) (fun _ _ => rfl) (fun a cdv A outer s H E hr => (b_asgL (i := 1) sc__law_begin.nd rfl (by first | exact Or.inl rfl | exact Or.inr rfl) (pr_lst (R := SS.rI) pa_nilR) (fun q145 q145l => (b_asgL (i := 2) sc__law_begin.nd rfl (by first | exact Or.inl rfl | exact Or.inr rfl) (pr_lst (R := SS.rI) pa_nilR) (fun q146 q146l => (b_for (fun s147 : (List Int) × (List Int) => [.fr (rW H (rL SS.rI)) a, .own q145 SS.rI s147.1, .own q146 SS.rI s147.2, .off]) (q145l, q146l) (pi_listX (pr_frz (pr_slc (pr_to (fun x => x) (pr_name (pv 0) rfl) (fun _ _ _ h => h.1))))) (.same (.same (.same (.same .nil)))) (fun s147 => (pg_nameX (pg_name (i := 3) sc__law_begin.nd rfl (by first | exact Or.inl rfl | exact Or.inr rfl)))) (fun q148 q148x => (b_if (fun s151 : (List Int) × (List Int) => [.fr (rW H (rL SS.rI)) a, .own q145 SS.rI s151.1, .own q146 SS.rI s151.2, .fr SS.rI q148x]) (pt_cmpX op_ge r2_ge (nomark _) (pr_cb call_abs rc_abs B.tx.free_abs (by decide +kernel) (pa_oneX (pr_cty call_int1 rc_int B.tx.free_int (by decide +kernel) (pa_oneX (pr_name (pv 3) rfl))))) (pr_op op_pow r2_pow pr_int pr_int)) (b_app (pv 1) rfl (pr_cb call_abs rc_abs B.tx.free_abs (by decide +kernel) (pa_oneX (pr_cty call_int1 rc_int B.tx.free_int (by decide +kernel) (pa_oneX (pr_name (pv 3) rfl))))) (fun x149 => (b_nil (t := ((q148.1 ++ [x149]), q148.2)) (.same (.same (.same (.same .nil))))))) (b_app (pv 2) rfl (pr_op op_modN r2_mod (pr_cty call_int1 rc_int B.tx.free_int (by decide +kernel) (pa_oneX (pr_name (pv 3) rfl))) pr_int) (fun x150 => (b_nil (t := (q148.1, (q148.2 ++ [x150]))) (.same (.same (.same (.same .nil))))))) (fun s151 => (b_nil (t := (s151.1, s151.2)) (.same (.same (.same (.off .nil rfl)))))) (by intro _ _ h; exact h))) (fun s147 => (b_retPl (iw := 0) (ig := 1) (is := 2) rfl rfl rfl rfl (pe_lst (pa_cons (pv 1) (pa_cons (pe_op op_cat (pv 2) (pe_lst (pa_cons pe_int pa_nil))) (pa_cons pe_int (pa_cons pe_int pa_nil))))))))))))) (fun H a Q h => ?_)⟩
  obtain ⟨hl, h⟩ := h
  refine fun _ _ => forW_inv (fun pre _ st => st.1.length ≤ pre.length ∧ st.2.length ≤ pre.length) ⟨Nat.le_refl _, Nat.le_refl _⟩ (fun pre x suf st C e hi h1 _ _ _ => ?_) (fun st hst => ?_)
  · obtain ⟨i1, i2⟩ := hi
    have hlen : pre.length < 63 := by
      have := congrArg List.length e
      rw [List.length_take, List.length_append, List.length_cons] at this
      have e63 : Int.toNat 63 = 63 := rfl
      omega
    refine ⟨cpow_18, ?_⟩
    dsimp only
    by_cases hc : (10 : Int) ^ Int.toNat 18 ≤ if x < 0 then -x else x
    · rw [dT hc]
      exact ⟨fun _ => smallS (by omega), h1 (_, _) ⟨by simp only [List.length_append, List.length_cons, List.length_nil]; omega, by simp only [List.length_append, List.length_cons, List.length_nil]; omega⟩⟩
    · rw [dF hc]
      exact ⟨by decide, fun _ => smallS (by omega), h1 (_, _) ⟨by simp only [List.length_append, List.length_cons, List.length_nil]; omega, by simp only [List.length_append, List.length_cons, List.length_nil]; omega⟩⟩
  · rw [List.length_take] at hst
    have e63 : Int.toNat 63 = 63 := rfl
    exact ⟨⟨by omega, by omega⟩, h⟩
theorem sc__law_shuffled : FnScope ["pool", "things", "left", "told", "k"] ["pool", "things"] (defScope s__law_shuffled) := ⟨rfl, rfl, rfl, by decide +kernel, rfl, by decide +kernel, by decide +kernel⟩
theorem ok__law_shuffled (B : Bd P w K mg base) : FnG P w K mg base "_law_shuffled" 2 ["pool", "things"] (SpP (K := K) (fs1 (rL SS.rI)) (rL SS.rI) (fun (a : (List Int)) => (fun P => a.length < 1000 ∧ ∀ ys, ys.Perm a → P ys : W (List Int)))) := by
  obtain ⟨fd, D⟩ := B.says.def_ 48 (d := d__law_shuffled) rfl
  refine ⟨_, fd, B.tx.glo__law_shuffled, D.kp, D.bindsN (fun _ _ _ _ _ _ us hl => match us, hl with | [_, _], _ => rfl), fnok_ofP (post := fun p g (_ : Unit) => ([.pool p g, .off, .off, .off, .off] : List (En K))) D sc__law_shuffled rfl (by decide) fsE_1 (fun p g a => [.pool p g, .fr (rL SS.rI) a, .off, .off, .off]) (fun _ _ _ => rfl) (fun p g a cdv A outer s H E hr => (b_asgL (i := 2) sc__law_shuffled.nd rfl (by first | exact Or.inl rfl | exact Or.inr rfl) (pr_ctyL call_list_of rcl_list B.tx.free_list (by decide +kernel) (pa_oneX (pr_name (pv 1) rfl))) (fun q152 q152l => (b_asgL (i := 3) sc__law_shuffled.nd rfl (by first | exact Or.inl rfl | exact Or.inr rfl) (pr_lst (R := SS.rI) pa_nilR) (fun q153 q153l => (b_for (fun s154 : (List Int) × (List Int) => [.pool p g, .fr (rL SS.rI) a, .own q152 SS.rI s154.2, .own q153 SS.rI s154.1, .off]) (q153l, q152l) (pi_rng1X B.tx.free_range (pa_oneX (pr_thaw (i := 2) rfl (fun _ _ _ _ h => h) (pr_cb call_len_seq rc_len B.tx.free_len (by decide +kernel) (pa_oneX (pr_name (pv 2) rfl)))))) (.same (.same (.same (.same (.same .nil))))) (fun s154 => (pg_nameX (pg_name (i := 4) sc__law_shuffled.nd rfl (by first | exact Or.inl rfl | exact Or.inr rfl)))) (fun q155 q155x => (b_appPop (pv 2) rfl (pv 3) rfl (by decide) (pr_draw (ok__law_below B) (hr.mono (by decide)) (pv 0) rfl (pa_oneX (pr_thaw (i := 2) rfl (fun _ _ _ _ h => h) (pr_cb call_len_seq rc_len B.tx.free_len (by decide +kernel) (pa_oneX (pr_name (pv 2) rfl)))))) (fun k156 x157 => (b_nil (t := ((q155.1 ++ [x157]), (q155.2.eraseIdx k156))) (.same (.same (.same (.same (.off .nil rfl))))))))) (fun s154 => (b_frz 3 rfl (b_ret (pr_name (pv 3) rfl)))))))))) (fun p g a Q h => ?_)⟩
  obtain ⟨hl, h⟩ := h
  intro p p'
  refine fun _ => ⟨by omega, forW_inv (fun pre _ st => (st.1 ++ st.2).Perm a ∧ st.1.length = pre.length) ⟨.refl _, rfl⟩ (fun pre x suf st C e hi h1 _ _ _ => ?_) (fun st hst => ?_)⟩
  rotate_left
  · refine h _ ?_
    obtain ⟨g1, g2⟩ := hst
    have := g1.length_eq
    rw [List.length_append, g2, rng_len] at this
    have e0 : st.2 = [] := List.length_eq_zero_iff.mp (by omega)
    rw [e0, List.append_nil] at g1
    exact g1
  obtain ⟨_, hx, _⟩ := rng_mem e
  obtain ⟨st1, st2⟩ := st
  obtain ⟨g1, g2⟩ := hi
  dsimp only at g1 g2 h1 ⊢
  have hle := g1.length_eq
  rw [List.length_append] at hle
  refine fun _ => ⟨by omega, fun r r0 r1 => ⟨r.toNat, st2[r.toNat]'(by omega), ⟨r0, by omega, by omega⟩, List.getElem?_eq_getElem _, fun _ => smallS (by omega), h1 _ ⟨?_, ?_⟩⟩⟩
  · dsimp only
    rw [List.append_assoc]
    exact (List.Perm.append_left st1 (perm_erase (List.getElem?_eq_getElem _))).trans g1
  · rw [List.length_append, List.length_append, g2]; rfl
theorem okN__law_shuffled (B : Bd P w K mg base) : FnG P w K mg base "_law_shuffled" 2 ["pool", "things"] (SpPN (K := K) (fs1 (rL SS.rI)) SS.rI (fun (a : (List Int)) => (fun P => a.length < 1000 ∧ ∀ ys, ys.Perm a → P ys : W (List Int)))) := by
  obtain ⟨fd, D⟩ := B.says.def_ 48 (d := d__law_shuffled) rfl
  refine ⟨_, fd, B.tx.glo__law_shuffled, D.kp, D.bindsN (fun _ _ _ _ _ _ us hl => match us, hl with | [_, _], _ => rfl), fnok_ofPN (i := 3) (nm := "told") (pre := (defBody s__law_shuffled).dropLast) (post := fun p g t => ([.pool p g, .off, .off, .own t.1 SS.rI t.2, .off] : List (En K))) D rfl sc__law_shuffled rfl (by decide) fsE_1 (fun p g a => [.pool p g, .fr (rL SS.rI) a, .off, .off, .off]) (fun _ _ _ => rfl) (fun _ _ _ => rfl) (fun _ _ _ => rfl) (fun cdv A outer s H E => pv 3) (fun p g a cdv A outer s H E hr => (b_asgL (i := 2) sc__law_shuffled.nd rfl (by first | exact Or.inl rfl | exact Or.inr rfl) (pr_ctyL call_list_of rcl_list B.tx.free_list (by decide +kernel) (pa_oneX (pr_name (pv 1) rfl))) (fun q158 q158l => (b_asgL (i := 3) sc__law_shuffled.nd rfl (by first | exact Or.inl rfl | exact Or.inr rfl) (pr_lst (R := SS.rI) pa_nilR) (fun q159 q159l => (b_for (fun s160 : (List Int) × (List Int) => [.pool p g, .fr (rL SS.rI) a, .own q158 SS.rI s160.2, .own q159 SS.rI s160.1, .off]) (q159l, q158l) (pi_rng1X B.tx.free_range (pa_oneX (pr_thaw (i := 2) rfl (fun _ _ _ _ h => h) (pr_cb call_len_seq rc_len B.tx.free_len (by decide +kernel) (pa_oneX (pr_name (pv 2) rfl)))))) (.same (.same (.same (.same (.same .nil))))) (fun s160 => (pg_nameX (pg_name (i := 4) sc__law_shuffled.nd rfl (by first | exact Or.inl rfl | exact Or.inr rfl)))) (fun q161 q161x => (b_appPop (pv 2) rfl (pv 3) rfl (by decide) (pr_draw (ok__law_below B) (hr.mono (by decide)) (pv 0) rfl (pa_oneX (pr_thaw (i := 2) rfl (fun _ _ _ _ h => h) (pr_cb call_len_seq rc_len B.tx.free_len (by decide +kernel) (pa_oneX (pr_name (pv 2) rfl)))))) (fun k162 x163 => (b_nil (t := ((q161.1 ++ [x163]), (q161.2.eraseIdx k162))) (.same (.same (.same (.same (.off .nil rfl))))))))) (fun s160 => (b_nil (t := (q159, s160.1)) (.same (.off (.off (.same (.same .nil)) rfl) rfl)))))))))) (fun p g a Q h => ?_)⟩
  obtain ⟨hl, h⟩ := h
  intro p p'
  refine fun _ => ⟨by omega, forW_inv (fun pre _ st => (st.1 ++ st.2).Perm a ∧ st.1.length = pre.length) ⟨.refl _, rfl⟩ (fun pre x suf st C e hi h1 _ _ _ => ?_) (fun st hst => ?_)⟩
  rotate_left
  · refine h _ ?_
    obtain ⟨g1, g2⟩ := hst
    have := g1.length_eq
    rw [List.length_append, g2, rng_len] at this
    have e0 : st.2 = [] := List.length_eq_zero_iff.mp (by omega)
    rw [e0, List.append_nil] at g1
    exact g1
  obtain ⟨_, hx, _⟩ := rng_mem e
  obtain ⟨st1, st2⟩ := st
  obtain ⟨g1, g2⟩ := hi
  dsimp only at g1 g2 h1 ⊢
  have hle := g1.length_eq
  rw [List.length_append] at hle
  refine fun _ => ⟨by omega, fun r r0 r1 => ⟨r.toNat, st2[r.toNat]'(by omega), ⟨r0, by omega, by omega⟩, List.getElem?_eq_getElem _, fun _ => smallS (by omega), h1 _ ⟨?_, ?_⟩⟩⟩
  · dsimp only
    rw [List.append_assoc]
    exact (List.Perm.append_left st1 (perm_erase (List.getElem?_eq_getElem _))).trans g1
  · rw [List.length_append, List.length_append, g2]; rfl
theorem sc__law_sizes : FnScope ["pool", "kind", "k"] ["pool"] (defScope s__law_sizes) := ⟨rfl, rfl, rfl, by decide +kernel, rfl, by decide +kernel, by decide +kernel⟩
theorem ok__law_sizes (B : Bd P w K mg base) : FnG P w K mg base "_law_sizes" 2 ["pool"] (SpP (K := K) fsN (rL SS.rI) (fun (a : Unit) => (fun P => ∀ s ∈ SZ, P s : W (List Int)))) := by
  obtain ⟨fd, D⟩ := B.says.def_ 49 (d := d__law_sizes) rfl
  refine ⟨_, fd, B.tx.glo__law_sizes, D.kp, D.bindsN (fun _ _ _ _ _ _ us hl => match us, hl with | [_], _ => rfl), fnok_ofP (post := fun p g (_ : Unit) => ([.pool p g, .off, .off] : List (En K))) D sc__law_sizes rfl (by decide) fsE_N (fun p g a => [.pool p g, .off, .off]) (fun _ _ _ => rfl) (fun p g a cdv A outer s H E hr => (b_asg (i := 1) sc__law_sizes.nd rfl (by first | exact Or.inl rfl | exact Or.inr rfl) (pr_draw (ok__law_below B) (hr.mono (by decide)) (pv 0) rfl (pa_oneX pr_int)) (fun x164 => (b_ifr (pt_cmpX (op_eqP hr.units) (r2_eq eqI) (nomark _) (pr_name (pv 1) rfl) pr_int) (b_ret (pr_frz (pr_lst (R := SS.rI) (pa_consR pr_int (pa_consR pr_int (pa_consR pr_int (pa_consR pr_int pa_nilR))))))) (b_ret (pr_frz (pr_lc (own := [("k", 2)]) sc__law_sizes.nd (blkOk_by (own := [("k", 2)]) (N := ["pool", "kind", "k"]) (sc := defScope s__law_sizes) (by decide +kernel)) (pi_rng1X B.tx.free_range (pa_oneX (pr_if (pt_cmpX op_lt r2_lt (nomark _) (pr_name (pv 1) rfl) pr_int) pr_int pr_int))) (fun _ _ _ _ _ => (pg_nameX (pg_name (i := 2) sc__law_sizes.nd rfl (by first | exact Or.inl rfl | exact Or.inr rfl)))) (fun x165 _ _ _ _ _ => pts_nilX) (fun x165 _ _ _ _ _ => (pr_op op_add r2_add pr_int (pr_draw (ok__law_below B) (hr.mono (by decide)) (pv 0) rfl (pa_oneX pr_int))))))))))) (fun p g a Q h => ?_)⟩
  refine ⟨by decide, fun r h1 h2 => ?_⟩
  dsimp only
  by_cases h0 : r = 0
  · rw [dT h0]
    exact h _ (by decide)
  rw [dF h0]
  have pick : ∀ z : Int, 0 ≤ z → z < 2 → z = 0 ∨ z = 1 := fun z _ _ => by omega
  by_cases h3 : r < 3
  · rw [dT h3]
    refine ⟨⟨by decide, by decide⟩, ?_⟩
    have e2 : rng 0 (Int.toNat 2) = [0, 1] := by decide
    rw [e2]
    simp only [lcW, ↓reduceIte]
    refine ⟨by decide, fun r1 g1 g2 => ⟨by decide, fun r2 g3 g4 => h _ ?_⟩⟩
    rcases pick r1 g1 g2 with z | z <;> rcases pick r2 g3 g4 with y | y <;> subst z <;> subst y <;> decide
  · rw [dF h3]
    refine ⟨⟨by decide, by decide⟩, ?_⟩
    have e2 : rng 0 (Int.toNat 3) = [0, 1, 2] := by decide
    rw [e2]
    simp only [lcW, ↓reduceIte]
    refine ⟨by decide, fun r1 g1 g2 => ⟨by decide, fun r2 g3 g4 => ⟨by decide, fun r3 g5 g6 => h _ ?_⟩⟩⟩
    rcases pick r1 g1 g2 with z | z <;> rcases pick r2 g3 g4 with y | y <;> rcases pick r3 g5 g6 with x | x <;> subst z <;> subst y <;> subst x <;> decide
theorem sc__law_forms : FnScope ["sizes", "forms", "size", "wider", "form", "value"] ["sizes"] (defScope s__law_forms) := ⟨rfl, rfl, rfl, by decide +kernel, rfl, by decide +kernel, by decide +kernel⟩
theorem ok__law_forms (B : Bd P w K mg base) : FnG P w K mg base "_law_forms" 1 ["sizes"] (SpF (K := K) (fs1 (rL SS.rI)) (rL (SS.rU SS.rI)) (fun (a : (List Int)) => (fun P => a ∈ SZ ∧ P (forms a) : W (List (List Int))))) := by
  obtain ⟨fd, D⟩ := B.says.def_ 50 (d := d__law_forms) rfl
  refine ⟨_, fd, B.tx.glo__law_forms, D.kp, D.bindsN (fun _ _ _ _ _ _ us hl => match us, hl with | [_], _ => rfl), fnok_of (post := fun _ : Unit => ([.off, .off, .off, .off, .off, .off] : List (En K))) D sc__law_forms rfl (by decide) fsE_1 (fun a => [.fr (rL SS.rI) a, .off, .off, .off, .off, .off]) (fun _ => rfl) (fun a cdv A outer s H E hr => (b_asg (i := 1) sc__law_forms.nd rfl (by first | exact Or.inl rfl | exact Or.inr rfl) (pr_frz (pr_lst (R := (SS.rU SS.rI)) (pa_consR (pr_tupU (R := SS.rI) pa_nilR) pa_nilR))) (fun x166 => (b_for (fun s167 : (List (List Int)) => [.fr (rL SS.rI) a, .fr (rL (SS.rU SS.rI)) s167, .off, .off, .off, .off]) x166 (pi_listX (pr_name (pv 0) rfl)) (.same (.same (.same (.same (.same (.same .nil)))))) (fun s167 => (pg_nameX (pg_name (i := 2) sc__law_forms.nd rfl (by first | exact Or.inl rfl | exact Or.inr rfl)))) (fun q168 q168x => (b_asgL (i := 3) sc__law_forms.nd rfl (by first | exact Or.inl rfl | exact Or.inr rfl) (pr_lst (R := (SS.rU SS.rI)) pa_nilR) (fun q169 q169l => (b_for (fun s170 : (List (List Int)) => [.fr (rL SS.rI) a, .fr (rL (SS.rU SS.rI)) q168, .fr SS.rI q168x, .own q169 (SS.rU SS.rI) s170, .off, .off]) q169l (pi_listX (pr_name (pv 1) rfl)) (.same (.same (.same (.same (.same (.same .nil)))))) (fun s170 => (pg_nameX (pg_name (i := 4) sc__law_forms.nd rfl (by first | exact Or.inl rfl | exact Or.inr rfl)))) (fun q171 q171x => (b_ext (pv 3) rfl (pr_lc (own := [("value", 5)]) sc__law_forms.nd (blkOk_by (own := [("value", 5)]) (N := ["sizes", "forms", "size", "wider", "form", "value"]) (sc := defScope s__law_forms) (by decide +kernel)) (pi_rng1X B.tx.free_range (pa_oneX (pr_name (pv 2) rfl))) (fun _ _ _ _ _ => (pg_nameX (pg_name (i := 5) sc__law_forms.nd rfl (by first | exact Or.inl rfl | exact Or.inr rfl)))) (fun x172 _ _ _ _ _ => pts_nilX) (fun x172 _ _ _ _ _ => (pr_op op_catA r2_catU (pr_name (pv 4) rfl) (pr_tupU (R := SS.rI) (pa_consR (pr_name (pv 5) rfl) pa_nilR))))) (fun x173 => (b_nil (t := (q171 ++ x173)) (.same (.same (.same (.same (.off (.same .nil) rfl))))))))) (fun s170 => (b_frz 3 rfl (b_asg (i := 1) sc__law_forms.nd rfl (by first | exact Or.inl rfl | exact Or.inr rfl) (pr_frz (pr_ctyL call_list_of rcl_list B.tx.free_list (by decide +kernel) (pa_oneX (pr_name (pv 3) rfl)))) (fun x174 => (b_nil (t := x174) (.same (.same (.off (.off (.same (.same .nil)) rfl) rfl)))))))))))) (fun s167 => (b_ret (pr_name (pv 1) rfl))))))) (fun a Q h => ?_)⟩
  obtain ⟨hz, h⟩ := h
  refine forW_inv (fun pre suf st => st = forms pre) rfl (fun pre x suf st C e hi h1 _ _ _ => ?_) (fun st e => by subst e; exact h)
  subst hi
  obtain ⟨hx, hl, hf⟩ := sz_split hz e
  refine fun p => forW_inv (fun pre' _ st' => st' = wider pre' x) rfl (fun pre' f suf' st' C' e' hi' h1' _ _ _ => ?_) (fun st' e' => h1 st' (by rw [e', forms_snoc]))
  refine ⟨⟨by omega, by omega⟩, ?_⟩
  refine lcW_map1 (fun v => f ++ [v]) _ (fun v hv C c => ⟨?_, c⟩) ⟨?_, h1' _ ?_⟩
  · have := hf f (by rw [e']; simp)
    exact small (by simp; omega)
  · subst hi'
    have hw := wider_len pre' x (by omega)
    rw [e'] at hl
    simp at hl
    rw [List.length_map, rng_len]
    exact small (by omega)
  · rw [hi']
    unfold wider
    rw [List.flatMap_append]
    simp
theorem sc__law_steps : FnScope ["sizes", "steps", "i", "step", "size"] ["sizes"] (defScope s__law_steps) := ⟨rfl, rfl, rfl, by decide +kernel, rfl, by decide +kernel, by decide +kernel⟩
theorem ok__law_steps (B : Bd P w K mg base) : FnG P w K mg base "_law_steps" 1 ["sizes"] (SpF (K := K) (fs1 (rL SS.rI)) (rL SS.rI) (fun (a : (List Int)) => (fun P => a ∈ SZ ∧ P (steps a) : W (List Int)))) := by
  obtain ⟨fd, D⟩ := B.says.def_ 51 (d := d__law_steps) rfl
  refine ⟨_, fd, B.tx.glo__law_steps, D.kp, D.bindsN (fun _ _ _ _ _ _ us hl => match us, hl with | [_], _ => rfl), fnok_of (post := fun _ : Unit => ([.off, .off, .off, .off, .off] : List (En K))) D sc__law_steps rfl (by decide) fsE_1 (fun a => [.fr (rL SS.rI) a, .off, .off, .off, .off]) (fun _ => rfl) (fun a cdv A outer s H E hr => (b_asgL (i := 1) sc__law_steps.nd rfl (by first | exact Or.inl rfl | exact Or.inr rfl) (pr_lst (R := SS.rI) pa_nilR) (fun q175 q175l => (b_for (fun s176 : (List Int) => [.fr (rL SS.rI) a, .own q175 SS.rI s176, .off, .off, .off]) q175l (pi_rng1X B.tx.free_range (pa_oneX (pr_cb call_len_seq rc_len B.tx.free_len (by decide +kernel) (pa_oneX (pr_name (pv 0) rfl))))) (.same (.same (.same (.same (.same .nil))))) (fun s176 => (pg_nameX (pg_name (i := 2) sc__law_steps.nd rfl (by first | exact Or.inl rfl | exact Or.inr rfl)))) (fun q177 q177x => (b_asg (i := 3) sc__law_steps.nd rfl (by first | exact Or.inl rfl | exact Or.inr rfl) pr_int (fun x178 => (b_for (fun s179 : Int => [.fr (rL SS.rI) a, .own q175 SS.rI q177, .fr SS.rI q177x, .fr SS.rI s179, .off]) x178 (pi_listX (pr_frz (pr_slcFrom (pr_name (pv 0) rfl) (pr_op op_add r2_add (pr_name (pv 2) rfl) pr_int)))) (.same (.same (.same (.same (.same .nil))))) (fun s179 => (pg_nameX (pg_name (i := 4) sc__law_steps.nd rfl (by first | exact Or.inl rfl | exact Or.inr rfl)))) (fun q180 q180x => (b_augM (i := 3) sc__law_steps.nd rfl (by first | exact Or.inl rfl | exact Or.inr rfl) rfl (pr_name (pv 4) rfl) (fun x181 => (b_nil (t := x181) (.same (.same (.same (.same (.off .nil rfl))))))))) (fun s179 => (b_app (pv 1) rfl (pr_name (pv 3) rfl) (fun x182 => (b_nil (t := (q177 ++ [x182])) (.same (.same (.off (.off (.same .nil) rfl) rfl))))))))))) (fun s176 => (b_frz 1 rfl (b_ret (pr_name (pv 1) rfl)))))))) (fun a Q h => ?_)⟩
  obtain ⟨hz, h⟩ := h
  have hn := sz_n hz
  refine fun p _ => ⟨by omega, forW_inv (fun pre _ st => st = pre.map (stN a)) rfl (fun pre x suf st C e hi h1 _ _ _ => ?_) (fun st hst => ?_)⟩
  rotate_left
  · show Q st
    have e : ((a.length : Int)).toNat = a.length := by omega
    rw [hst, e]
    have := (fc_steps a hz).1
    unfold fld at this
    rw [this]; exact h
  obtain ⟨ex, hx, _⟩ := rng_mem e
  have x0 : 0 ≤ x := by omega
  have x1 : x < a.length := by omega
  refine ⟨by omega, forW_inv (fun pre2 _ st2 => st2 = pre2.foldl (fun a b => a * b) 1) rfl (fun pre2 y suf2 st2 C2 e2 hi2 h2 _ _ _ => ?_) (fun st2 hst2 => ⟨fun _ => smallS ?_, h1 _ ?_⟩)⟩
  · have hy := SZ_in hz (x := y) (List.mem_of_mem_drop (by rw [e2]; simp))
    refine ⟨cmulR (by omega) (by omega), h2 _ ?_⟩
    rw [hi2, List.foldl_append]; rfl
  · rw [hi, List.length_map]; omega
  · rw [hst2, (fc_steps a hz).2 x (mem_rng.mpr ⟨x0, x1⟩), hi, List.map_append]; rfl
theorem sc__law_boxes_laid : FnScope ["pool", "sizes", "forms", "dues", "k", "box", "due", "m", "form", "size", "i"] ["pool", "sizes", "forms"] (defScope s__law_boxes_laid) := ⟨rfl, rfl, rfl, by decide +kernel, rfl, by decide +kernel, by decide +kernel⟩
theorem ok__law_boxes_laid (B : Bd P w K mg base) : FnG P w K mg base "_law_boxes_laid" 2 ["pool", "sizes", "forms"] (SpP (K := K) (fsC (rL SS.rI) (fs1 (rL (SS.rU SS.rI)))) (rL SS.rI) (fun (a : (List Int) × (List (List Int))) => (fun P => a.1 ∈ SZ ∧ a.2 = forms a.1 ∧ ∀ d, d.length = (forms a.1).length → (∀ x ∈ d, Mid x) → P d : W (List Int)))) := by
  obtain ⟨fd, D⟩ := B.says.def_ 52 (d := d__law_boxes_laid) rfl
  refine ⟨_, fd, B.tx.glo__law_boxes_laid, D.kp, D.bindsN (fun _ _ _ _ _ _ us hl => match us, hl with | [_, _, _], _ => rfl), fnok_ofP (post := fun p g (_ : Unit) => ([.pool p g, .off, .off, .off, .off, .off, .off, .off, .off, .off, .off] : List (En K))) D sc__law_boxes_laid rfl (by decide) (fsE_C fsE_1) (fun p g a => [.pool p g, .fr (rL SS.rI) a.1, .fr (rL (SS.rU SS.rI)) a.2, .off, .off, .off, .off, .off, .off, .off, .off]) (fun _ _ _ => rfl) (fun p g a cdv A outer s H E hr => (b_lcT (i := 3) (own := [("form", 8)]) sc__law_boxes_laid.nd rfl rfl rfl (by decide +kernel) (blkOk_by (own := [("form", 8)]) (N := ["pool", "sizes", "forms", "dues", "k", "box", "due", "m", "form", "size", "i"]) (sc := defScope s__law_boxes_laid) (by decide +kernel)) (pi_listX (pr_name (pv 2) rfl)) (fun _ _ _ _ _ => (pg_nameX (pg_name (i := 8) sc__law_boxes_laid.nd rfl (by first | exact Or.inl rfl | exact Or.inr rfl)))) (fun x183 _ _ _ _ _ => pts_nilX) (fun x183 _ _ _ _ _ => pr_int) (fun q184 q184l => (b_for (fun s185 : (List Int) => [.pool p g, .fr (rL SS.rI) a.1, .fr (rL (SS.rU SS.rI)) a.2, .own q184 SS.rI s185, .off, .off, .off, .off, .off, .off, .off]) q184l (pi_rng1X B.tx.free_range (pa_oneX (pr_op op_add r2_add pr_int (pr_draw (ok__law_below B) (hr.mono (by decide)) (pv 0) rfl (pa_oneX pr_int))))) (.same (.same (.same (.same (.same (.same (.same (.same (.same (.same (.same .nil))))))))))) (fun s185 => (pg_nameX (pg_name (i := 4) sc__law_boxes_laid.nd rfl (by first | exact Or.inl rfl | exact Or.inr rfl)))) (fun q186 q186x => (b_asg (i := 5) sc__law_boxes_laid.nd rfl (by first | exact Or.inl rfl | exact Or.inr rfl) (pr_frz (pr_lc (own := [("size", 9)]) sc__law_boxes_laid.nd (blkOk_by (own := [("size", 9)]) (N := ["pool", "sizes", "forms", "dues", "k", "box", "due", "m", "form", "size", "i"]) (sc := defScope s__law_boxes_laid) (by decide +kernel)) (pi_listX (pr_name (pv 1) rfl)) (fun _ _ _ _ _ => (pg_nameX (pg_name (i := 9) sc__law_boxes_laid.nd rfl (by first | exact Or.inl rfl | exact Or.inr rfl)))) (fun x187 _ _ _ _ _ => pts_nilX) (fun x187 _ _ _ _ _ => (pr_draw (ok__law_below B) (hr.mono (by decide)) (pv 0) rfl (pa_oneX (pr_op op_add r2_add (pr_name (pv 9) rfl) pr_int)))))) (fun x188 => (b_asg (i := 6) sc__law_boxes_laid.nd rfl (by first | exact Or.inl rfl | exact Or.inr rfl) (pr_draw (ok__law_below B) (hr.mono (by decide)) (pv 0) rfl (pa_oneX pr_int)) (fun x189 => (b_for (fun s190 : (List Int) => [.pool p g, .fr (rL SS.rI) a.1, .fr (rL (SS.rU SS.rI)) a.2, .own q184 SS.rI s190, .fr SS.rI q186x, .fr (rL SS.rI) x188, .fr SS.rI x189, .off, .off, .off, .off]) q186 (pi_rng1X B.tx.free_range (pa_oneX (pr_cb call_len_seq rc_len B.tx.free_len (by decide +kernel) (pa_oneX (pr_name (pv 2) rfl))))) (.same (.same (.same (.same (.same (.same (.same (.same (.same (.same (.same .nil))))))))))) (fun s190 => (pg_nameX (pg_name (i := 7) sc__law_boxes_laid.nd rfl (by first | exact Or.inl rfl | exact Or.inr rfl)))) (fun q191 q191x => (b_if (fun s194 : (List Int) => [.pool p g, .fr (rL SS.rI) a.1, .fr (rL (SS.rU SS.rI)) a.2, .own q184 SS.rI s194, .fr SS.rI q186x, .fr (rL SS.rI) x188, .fr SS.rI x189, .fr SS.rI q191x, .off, .off, .off]) (pt_valX (pr_cb (cr_all rfl) rc_all B.tx.free_all (by decide +kernel) (pa_oneX (pr_frz (pr_lc (own := [("i", 10)]) sc__law_boxes_laid.nd (blkOk_by (own := [("i", 10)]) (N := ["pool", "sizes", "forms", "dues", "k", "box", "due", "m", "form", "size", "i"]) (sc := defScope s__law_boxes_laid) (by decide +kernel)) (pi_rng1X B.tx.free_range (pa_oneX (pr_cb call_len_seq rc_len B.tx.free_len (by decide +kernel) (pa_oneX (pr_name (pv 1) rfl))))) (fun _ _ _ _ _ => (pg_nameX (pg_name (i := 10) sc__law_boxes_laid.nd rfl (by first | exact Or.inl rfl | exact Or.inr rfl)))) (fun x192 _ _ _ _ _ => pts_nilX) (fun x192 _ _ _ _ _ => (pr_orV (pr_cmp (op_eqP hr.units) (r2_eq eqI) (nomark _) (pr_ix ix_list r2_ixL (pr_name (pv 5) rfl) (pr_name (pv 10) rfl)) (pr_ix ix_list r2_ixL (pr_name (pv 1) rfl) (pr_name (pv 10) rfl))) (pr_oneV (pr_cmp (op_eqP hr.units) (r2_eq eqI) (nomark _) (pr_ix ix_list r2_ixL (pr_name (pv 5) rfl) (pr_name (pv 10) rfl)) (pr_ix ix_tup r2_ixU (pr_ix ix_list r2_ixL (pr_name (pv 2) rfl) (pr_name (pv 7) rfl)) (pr_name (pv 10) rfl))))))))))) (b_seti (pv 3) rfl (pr_name (pv 6) rfl) (pr_name (pv 7) rfl) (fun q193 q193l => (b_nil (t := (q191.set q193 q193l)) (.same (.same (.same (.same (.same (.same (.same (.same (.same (.same (.same .nil)))))))))))))) (b_nil (t := q191) (.same (.same (.same (.same (.same (.same (.same (.same (.same (.same (.same .nil)))))))))))) (fun s194 => (b_nil (t := s194) (.same (.same (.same (.same (.same (.same (.same (.off (.same (.same (.same .nil))) rfl)))))))))) (by intro _ _ h; exact h))) (fun s190 => (b_nil (t := s190) (.same (.same (.same (.same (.off (.off (.off (.same (.same (.same (.same .nil)))) rfl) rfl) rfl))))))))))))) (fun s185 => (b_frz 3 rfl (b_ret (pr_name (pv 3) rfl)))))))) (fun p g a Q h => ?_)⟩
  obtain ⟨hz, e, h⟩ := h
  obtain ⟨s, fs⟩ := a
  dsimp only at hz e h ⊢
  subst e
  have hn := sz_n hz
  have hN := sz_N hz
  refine lcW_map1 (fun _ => 0) _ (fun _ _ C c => c) fun p => ⟨by decide, fun r r0 r1 => ⟨by omega, forW_inv (fun _ _ st => st.length = (forms s).length ∧ ∀ x ∈ st, Mid x) ⟨by rw [List.length_map], fun x hx => by obtain ⟨y, _, e⟩ := List.mem_map.mp hx; rw [← e]; exact ⟨by decide, by decide⟩⟩ (fun pre x suf st C e hi h1 _ _ _ => ?_) (fun st hst => h st hst.1 hst.2)⟩⟩
  refine lcW_all1 (fun _ y => 0 ≤ y ∧ y ≤ 4) _ _ (fun z hz' C c => ⟨by have := SZ_in hz hz'; omega, fun r r0 r1 => c r ⟨r0, by have := SZ_in hz hz'; omega⟩⟩) (fun ys hys => ⟨by decide, fun q q0 q1 _ => ⟨by omega, ?_⟩⟩)
  have hyl : s.length = ys.length := paired_len hys
  refine forW_inv (fun _ _ st => st.length = (forms s).length ∧ ∀ x ∈ st, Mid x) hi (fun pre2 m suf2 st2 C2 e2 hi2 h2 _ _ _ => ?_) (fun st hst => h1 _ hst)
  obtain ⟨em, hm, _⟩ := rng_mem e2
  have m0 : 0 ≤ m := by omega
  have m1 : m < (forms s).length := by omega
  refine fun _ => ⟨by omega, lcW_all1 (fun _ _ => True) _ _ (fun i hi' C c => ?_) (fun zs _ => ?_)⟩
  · have hb := rng_in hi'
    refine ⟨_, atI_of 0 (by omega) (by omega), _, atI_of 0 (by omega) (by omega), ?_⟩
    refine ifB (fun _ => c _ trivial) fun _ => ⟨_, atI_of 0 (by omega) (by omega), _, atI_of [] m0 m1, _, atI_of 0 (by omega) ?_, c _ trivial⟩
    have : (forms s).getD m.toNat [] ∈ forms s := by rw [List.getD_eq_getElem?_getD, List.getElem?_eq_getElem (by omega)]; exact List.getElem_mem _
    rw [(inF hz this).1]; omega
  · split
    · exact ⟨m.toNat, ixN_of m0 (by rw [hi2.1]; exact m1), h2 _ ⟨by rw [List.length_set]; exact hi2.1, set_all hi2.2 ⟨by omega, by omega⟩⟩⟩
    · exact h2 _ hi2
theorem sc__law_asked : FnScope ["pool", "sizes", "forms", "order", "nodes", "unlike", "dues", "form", "path", "k", "met", "rest", "i", "v"] ["pool", "sizes", "forms", "order"] (defScope s__law_asked) := ⟨rfl, rfl, rfl, by decide +kernel, rfl, by decide +kernel, by decide +kernel⟩
theorem ok__law_asked (B : Bd P w K mg base) : FnG P w K mg base "_law_asked" 2 ["pool", "sizes", "forms", "order"] (SpP (K := K) (fsC (rL SS.rI) (fsC (rL (SS.rU SS.rI)) (fs1 (rL SS.rI)))) (rL SS.rI) (fun (a : (List Int) × (List (List Int)) × (List Int)) => (fun P => a.1 ∈ SZ ∧ a.2.1 = forms a.1 ∧ (a.2.2 = [] ∨ a.2.2.Perm (fld a.1)) ∧ ∀ d, d.length = (forms a.1).length → (∀ x ∈ d, 0 ≤ x ∧ x ≤ 1000) → P d : W (List Int)))) := by
  obtain ⟨fd, D⟩ := B.says.def_ 53 (d := d__law_asked) rfl
  refine ⟨_, fd, B.tx.glo__law_asked, D.kp, D.bindsN (fun _ _ _ _ _ _ us hl => match us, hl with | [_, _, _, _], _ => rfl), fnok_ofP (post := fun p g (_ : Unit) => ([.pool p g, .off, .off, .off, .off, .off, .off, .off, .off, .off, .off, .off, .off, .off] : List (En K))) D sc__law_asked rfl (by decide) (fsE_C (fsE_C fsE_1)) (fun p g a => [.pool p g, .fr (rL SS.rI) a.1, .fr (rL (SS.rU SS.rI)) a.2.1, .fr (rL SS.rI) a.2.2, .off, .off, .off, .off, .off, .off, .off, .off, .off, .off]) (fun _ _ _ => rfl) (fun p g a cdv A outer s H E hr => (b_newN (i := 4) (kUf (kT (kfC kI (kf1 kI)))) SS.rI sc__law_asked.nd rfl (by first | exact Or.inl rfl | exact Or.inr rfl) (fun d195 => (b_asg (i := 5) sc__law_asked.nd rfl (by first | exact Or.inl rfl | exact Or.inr rfl) (pr_draw (ok__law_below B) (hr.mono (by decide)) (pv 0) rfl (pa_oneX pr_int)) (fun x196 => (b_asgL (i := 6) sc__law_asked.nd rfl (by first | exact Or.inl rfl | exact Or.inr rfl) (pr_lst (R := SS.rI) pa_nilR) (fun q197 q197l => (b_for (fun s198 : (List Int) × (List ((List (Int × Int)) × Int)) => [.pool p g, .fr (rL SS.rI) a.1, .fr (rL (SS.rU SS.rI)) a.2.1, .fr (rL SS.rI) a.2.2, .rg d195 [] (dictRg P w (kUf (kT (kfC kI (kf1 kI)))) SS.rI d195 s198.2), .fr SS.rI x196, .own q197 SS.rI s198.1, .off, .off, .off, .off, .off, .off, .off]) (q197l, ([] : (List ((List (Int × Int)) × Int)))) (pi_listX (pr_name (pv 2) rfl)) (.same (.same (.same (.same (.same (.same (.same (.same (.same (.same (.same (.same (.same (.same .nil)))))))))))))) (fun s198 => (pg_nameX (pg_name (i := 7) sc__law_asked.nd rfl (by first | exact Or.inl rfl | exact Or.inr rfl)))) (fun q199 q199x => (b_asg (i := 8) sc__law_asked.nd rfl (by first | exact Or.inl rfl | exact Or.inr rfl) (pr_tupUF (R := (rT (fsC SS.rI (fs1 SS.rI)))) pa_nilR) (fun x200 => (b_for (fun s201 : (List (Int × Int)) × (List ((List (Int × Int)) × Int)) => [.pool p g, .fr (rL SS.rI) a.1, .fr (rL (SS.rU SS.rI)) a.2.1, .fr (rL SS.rI) a.2.2, .rg d195 [] (dictRg P w (kUf (kT (kfC kI (kf1 kI)))) SS.rI d195 s201.2), .fr SS.rI x196, .own q197 SS.rI q199.1, .fr (SS.rU SS.rI) q199x, .fr (SS.rUf (rT (fsC SS.rI (fs1 SS.rI)))) s201.1, .off, .off, .off, .off, .off]) (x200, q199.2) (pi_rng1X B.tx.free_range (pa_oneX (pr_op op_add r2_add (pr_cb call_len_seq rc_len B.tx.free_len (by decide +kernel) (pa_oneX (pr_name (pv 1) rfl))) pr_int))) (.same (.same (.same (.same (.same (.same (.same (.same (.same (.same (.same (.same (.same (.same .nil)))))))))))))) (fun s201 => (pg_nameX (pg_name (i := 9) sc__law_asked.nd rfl (by first | exact Or.inl rfl | exact Or.inr rfl)))) (fun q202 q202x => (b_if (fun s214 : (List ((List (Int × Int)) × Int)) => [.pool p g, .fr (rL SS.rI) a.1, .fr (rL (SS.rU SS.rI)) a.2.1, .fr (rL SS.rI) a.2.2, .rg d195 [] (dictRg P w (kUf (kT (kfC kI (kf1 kI)))) SS.rI d195 s214), .fr SS.rI x196, .own q197 SS.rI q199.1, .fr (SS.rU SS.rI) q199x, .fr (SS.rUf (rT (fsC SS.rI (fs1 SS.rI)))) q202.1, .fr SS.rI q202x, .off, .off, .off, .off]) (pt_ninOwnN hr.units (Nat.le_of_ble_eq_true rfl) href_Uf (pv 4) rfl (pr_name (pv 8) rfl)) (b_asg (i := 10) sc__law_asked.nd rfl (by first | exact Or.inl rfl | exact Or.inr rfl) (pr_frz (pr_lc (own := [("i", 12), ("v", 13)]) sc__law_asked.nd (blkOk_by (own := [("i", 12), ("v", 13)]) (N := ["pool", "sizes", "forms", "order", "nodes", "unlike", "dues", "form", "path", "k", "met", "rest", "i", "v"]) (sc := defScope s__law_asked) (by decide +kernel)) (pi_tupX (pr_to (fun x => x) (pr_name (pv 8) rfl) (fun _ _ _ q => rUf_ok q))) (fun _ _ _ _ _ => (pg_tupX (pgs_consX (pg_name (i := 12) sc__law_asked.nd rfl (by first | exact Or.inl rfl | exact Or.inr rfl)) (fun _ => (pgs_oneX (pg_name (i := 13) sc__law_asked.nd rfl (by first | exact Or.inl rfl | exact Or.inr rfl))))))) (fun x203 _ _ _ _ _ => pts_nilX) (fun x203 _ _ _ _ _ => (pr_name (pv 12) rfl)))) (fun x204 => (b_lcT (i := 11) (own := [("i", 12)]) sc__law_asked.nd rfl rfl rfl (by decide +kernel) (blkOk_by (own := [("i", 12)]) (N := ["pool", "sizes", "forms", "order", "nodes", "unlike", "dues", "form", "path", "k", "met", "rest", "i", "v"]) (sc := defScope s__law_asked) (by decide +kernel)) (pi_rng1X B.tx.free_range (pa_oneX (pr_cb call_len_seq rc_len B.tx.free_len (by decide +kernel) (pa_oneX (pr_name (pv 1) rfl))))) (fun _ _ _ _ _ => (pg_nameX (pg_name (i := 12) sc__law_asked.nd rfl (by first | exact Or.inl rfl | exact Or.inr rfl)))) (fun x205 _ _ _ _ _ => (pts_oneX (pt_cmpX op_notIn_seq (r2_ninL flat_I) (by rfl) (pr_name (pv 12) rfl) (pr_name (pv 10) rfl)))) (fun x205 _ _ _ _ _ => (pr_name (pv 12) rfl)) (fun q206 q206l => (b_frz 11 rfl (b_if (fun s208 : (List Int) => [.pool p g, .fr (rL SS.rI) a.1, .fr (rL (SS.rU SS.rI)) a.2.1, .fr (rL SS.rI) a.2.2, .rg d195 [] (dictRg P w (kUf (kT (kfC kI (kf1 kI)))) SS.rI d195 q202.2), .fr SS.rI x196, .own q197 SS.rI q199.1, .fr (SS.rU SS.rI) q199x, .fr (SS.rUf (rT (fsC SS.rI (fs1 SS.rI)))) q202.1, .fr SS.rI q202x, .fr (rL SS.rI) x204, .fr (rL SS.rI) s208, .off, .off]) (PW.pt (pw_andX (pt_cmpX (op_neP hr.units) (r2_ne (eqL eqI)) (nomark _) (pr_name (pv 3) rfl) (pr_frz (pr_lst (R := SS.rI) pa_nilR))) (pw_and1X (pt_cmpX (op_neP hr.units) (r2_ne (eqL eqI)) (nomark _) (pr_name (pv 10) rfl) (pr_frz (pr_lst (R := SS.rI) pa_nilR)))))) (b_asg (i := 11) sc__law_asked.nd rfl (by first | exact Or.inl rfl | exact Or.inr rfl) (pr_frz (pr_slcFrom (pr_name (pv 3) rfl) (pr_op op_add r2_add (pr_index eqI hr.u65 (pr_name (pv 3) rfl) (pr_ix ix_list r2_ixL (pr_name (pv 10) rfl) (pr_un un_neg r1_neg pr_int))) pr_int))) (fun x207 => (b_nil (t := x207) (.same (.same (.same (.same (.same (.same (.same (.same (.same (.same (.same (.same (.same (.same .nil))))))))))))))))) (b_nil (t := q206l) (.same (.same (.same (.same (.same (.same (.same (.same (.same (.same (.same (.same (.same (.same .nil))))))))))))))) (fun s208 => (b_if (fun s213 : (List ((List (Int × Int)) × Int)) => [.pool p g, .fr (rL SS.rI) a.1, .fr (rL (SS.rU SS.rI)) a.2.1, .fr (rL SS.rI) a.2.2, .rg d195 [] (dictRg P w (kUf (kT (kfC kI (kf1 kI)))) SS.rI d195 s213), .fr SS.rI x196, .own q197 SS.rI q199.1, .fr (SS.rU SS.rI) q199x, .fr (SS.rUf (rT (fsC SS.rI (fs1 SS.rI)))) q202.1, .fr SS.rI q202x, .fr (rL SS.rI) x204, .fr (rL SS.rI) s208, .off, .off]) (PW.pt (pw_orX (pt_cmpX (op_eqP hr.units) (r2_eq (eqL eqI)) (nomark _) (pr_name (pv 11) rfl) (pr_frz (pr_lst (R := SS.rI) pa_nilR))) (pw_or1X (PW.pt (pw_andX (pt_cmpX (op_neP hr.units) (r2_ne (eqUf (eqT (eqfC eqI (eqf1 eqI))))) (nomark _) (pr_name (pv 8) rfl) (pr_tupUF (R := (rT (fsC SS.rI (fs1 SS.rI)))) pa_nilR)) (pw_and1X (pt_cmpX (op_eqP hr.units) (r2_eq eqI) (nomark _) (pr_draw (ok__law_below B) (hr.mono (by decide)) (pv 0) rfl (pa_oneX pr_int)) pr_int))))))) (b_setN hr.units (Nat.le_of_ble_eq_true rfl) href_Uf (pv 4) rfl (pr_op op_sub r2_sub (pr_un un_neg r1_neg pr_int) (pr_if (pt_cmpX (op_eqP hr.units) (r2_eq eqI) (nomark _) (pr_name (pv 5) rfl) pr_int) (pr_lenOwnN (pv 4) rfl B.tx.free_len (by decide +kernel)) (pr_draw (ok__law_below B) (hr.mono (by decide)) (pv 0) rfl (pa_oneX pr_int)))) (pr_name (pv 8) rfl) (fun x209 y210 => (b_nil (t := (putA q202.2 x209 y210)) (.same (.same (.same (.same (.same (.same (.same (.same (.same (.same (.same (.same (.same (.same .nil))))))))))))))))) (b_setN hr.units (Nat.le_of_ble_eq_true rfl) href_Uf (pv 4) rfl (pr_ix ix_list r2_ixL (pr_name (pv 11) rfl) (pr_draw (ok__law_below B) (hr.mono (by decide)) (pv 0) rfl (pa_oneX (pr_cb call_len_seq rc_len B.tx.free_len (by decide +kernel) (pa_oneX (pr_name (pv 11) rfl)))))) (pr_name (pv 8) rfl) (fun x211 y212 => (b_nil (t := (putA q202.2 x211 y212)) (.same (.same (.same (.same (.same (.same (.same (.same (.same (.same (.same (.same (.same (.same .nil))))))))))))))))) (fun s213 => (b_nil (t := s213) (.same (.same (.same (.same (.same (.same (.same (.same (.same (.same (.off (.off (.same (.same .nil)) rfl) rfl))))))))))))) (by intro _ _ h; exact h))) (by intro _ _ h; exact h))))))) (b_nil (t := q202.2) (.same (.same (.same (.same (.same (.same (.same (.same (.same (.same (.same (.same (.same (.same .nil))))))))))))))) (fun s214 => (b_ifr (pt_cmpX op_lt r2_lt (nomark _) (pr_getOwnN hr.units (Nat.le_of_ble_eq_true rfl) href_Uf (pv 4) rfl (pr_name (pv 8) rfl)) pr_int) (b_brk (l := (q202.1, s214)) (.same (.same (.same (.same (.same (.same (.same (.same (.same (.off (.same (.same (.same (.same .nil)))) rfl))))))))))) (b_asg (i := 8) sc__law_asked.nd rfl (by first | exact Or.inl rfl | exact Or.inr rfl) (pr_op op_catF r2_catUF (pr_name (pv 8) rfl) (pr_tupUF (R := (rT (fsC SS.rI (fs1 SS.rI)))) (pa_consR (pr_tup (pa_consX (pr_getOwnN hr.units (Nat.le_of_ble_eq_true rfl) href_Uf (pv 4) rfl (pr_name (pv 8) rfl)) (pa_oneX (pr_ix ix_tup r2_ixU (pr_name (pv 7) rfl) (pr_getOwnN hr.units (Nat.le_of_ble_eq_true rfl) href_Uf (pv 4) rfl (pr_name (pv 8) rfl)))))) pa_nilR))) (fun x215 => (b_nil (t := (x215, s214)) (.same (.same (.same (.same (.same (.same (.same (.same (.same (.off (.same (.same (.same (.same .nil)))) rfl))))))))))))))) (by intro _ _ h; exact h))) (fun s201 => (b_app (pv 6) rfl (pr_op op_sub r2_sub (pr_un un_neg r1_neg pr_int) (pr_getOwnN hr.units (Nat.le_of_ble_eq_true rfl) href_Uf (pv 4) rfl (pr_name (pv 8) rfl))) (fun x216 => (b_nil (t := ((q199.1 ++ [x216]), s201.2)) (.same (.same (.same (.same (.same (.same (.same (.off (.off (.same (.same (.same (.same (.same .nil))))) rfl) rfl)))))))))))))))) (fun s198 => (b_frz 6 rfl (b_ret (pr_name (pv 6) rfl)))))))))))) (fun p g a Q h => ?_)⟩
  obtain ⟨hz, e, ho, h⟩ := h
  obtain ⟨s, fs, order⟩ := a
  dsimp only at hz e ho h ⊢
  subst e
  have hn := sz_n hz
  have hN := sz_N hz
  have ho' : order = [] ∨ order.Perm (rng 0 s.length) := ho
  refine fun _ => ⟨by decide, fun r r0 r1 p0 => ?_⟩
  refine forW_inv (fun pre _ st => st.1.length = pre.length ∧ (∀ x ∈ st.1, 0 ≤ x ∧ x ≤ 1000) ∧ NodesOk s.length order st.2 ∧ st.2.length ≤ pre.length * 5) ⟨rfl, fun x hx => (by cases hx), fun q hq => (by cases hq), by simp⟩ (fun pre x suf st C e hi h1 _ _ _ => ?_) (fun st hst => h _ hst.1 hst.2.1)
  obtain ⟨dues, nodes⟩ := st
  obtain ⟨g1, g2, g3, g4⟩ := hi
  dsimp only at g1 g2 g3 g4 h1 ⊢
  have hx : x ∈ forms s := by rw [e]; simp
  obtain ⟨xl, _⟩ := inF hz hx
  have hpl : pre.length ≤ 27 := by
    have : (forms s).length = pre.length + (suf.length + 1) := by rw [e]; simp
    omega
  refine fun _ => ⟨by omega, forW_inv (fun pre2 _ st => st.1.length = pre2.length ∧ PathOk s.length order st.1 ∧ NodesOk s.length order st.2 ∧ st.2.length ≤ pre.length * 5 + pre2.length) ⟨rfl, path_nil _ _, g3, by simpa using g4⟩ (fun pre2 k suf2 st C2 e2 hi h2 _ h3 _ => ?_) (fun st hst => ?_)⟩
  rotate_left
  · have := path_len hst.2.1
    rw [hst.1, rng_len] at this
    omega
  obtain ⟨path, nds⟩ := st
  obtain ⟨k1, k2, k3, k4⟩ := hi
  dsimp only at k1 k2 k3 k4 h2 h3 ⊢
  obtain ⟨_, hkx, _⟩ := rng_mem e2
  have hsm : nds.length < 1000000 := by omega
  have T : ∀ nd : List (File × Int), NodesOk s.length order nd → nd.length ≤ pre.length * 5 + (pre2.length + 1) → (∃ y, lookA nd path = some y) → ∃ y, lookA nd path = some y ∧ if decide (y < 0) = true then C2 (.bk (path, nd)) else ∃ y, lookA nd path = some y ∧ ∃ y1, lookA nd path = some y1 ∧ ∃ z, atI x y1 = some z ∧ path.length + [(y, z)].length ≤ sizeLine ∧ C2 (.nx (path ++ [(y, z)], nd)) := fun nd hnd hl ⟨y, hy⟩ => by
    refine ⟨y, hy, ?_⟩
    have hok := hnd _ (look_in hy)
    refine ifB (fun hneg => h3 _ ?_) fun hpos => ?_
    · have hy2 : -1001 ≤ y := by
        rcases hok with z | z
        · exact z.2
        · have := z.1.1; dsimp only at this; omega
      refine ⟨y, hy, fun _ => smallS (by omega), h1 _ ⟨by simp [g1], app_all g2 ⟨by omega, by omega⟩, hnd, ?_⟩⟩
      rw [List.length_append, List.length_cons, List.length_nil]
      show nd.length ≤ _
      omega
    · have hg := hok.resolve_left fun z => hpos z.1
      obtain ⟨⟨y0, y1⟩, _, _⟩ := id hg
      refine ⟨y, hy, y, hy, _, atI_of 0 y0 (by omega), small (by simp only [List.length_cons, List.length_nil]; omega), h2 _ ⟨?_, k2.snoc ho' hg, hnd, ?_⟩⟩
      · simp [k1]
      · simpa using hl
  cases hlk : lookA nds path with
  | some y => exact bF rfl (T nds k3 (by omega) ⟨y, hlk⟩)
  | none =>
  have Tp : ∀ v : Int, NodeOk s.length order path v → ∃ y, lookA (putA nds path v) path = some y ∧ if decide (y < 0) = true then C2 (.bk (path, putA nds path v)) else ∃ y, lookA (putA nds path v) path = some y ∧ ∃ y1, lookA (putA nds path v) path = some y1 ∧ ∃ z, atI x y1 = some z ∧ path.length + [(y, z)].length ≤ sizeLine ∧ C2 (.nx (path ++ [(y, z)], putA nds path v)) := fun v hv => by
    obtain ⟨l1, l2⟩ := look_put (v := v) hlk
    refine T _ ?_ ?_ ⟨v, l1⟩
    · rw [l2]; exact k3.put hv
    · rw [l2, List.length_append, List.length_cons, List.length_nil]; omega
  have neg : ∀ v : Int, 0 ≤ v → v ≤ 1000 → NodeOk s.length order path (-1 - v) := fun v a b => .inl ⟨by omega, by omega⟩
  refine bT rfl (lcW_map1 (fun q => q.1) _ (fun _ _ C c => c) fun _ => ⟨by omega, ?_⟩)
  refine lcW_map (fun i => !decide (i ∈ path.map (·.1))) (fun i => i) _ (fun _ _ C c => c) (fun _ _ _ C c => c) fun p1 => ?_
  rw [List.map_id']
  have es : ((s.length : Int)).toNat = s.length := by omega
  rw [es]
  have pick : ∀ R : List Int, R.length ≤ 4 → (∀ v ∈ R, Good s.length order path v) → R ≠ [] → R.length ≤ sizeLine → (0 < (R.length : Int) ∧ (R.length : Int) < 1000000) ∧ ∀ r : Int, 0 ≤ r → r < (R.length : Int) → ∃ v, atI R r = some v ∧ nds.length < sizeLine ∧ ∃ y, lookA (putA nds path v) path = some y ∧ if decide (y < 0) = true then C2 (.bk (path, putA nds path v)) else ∃ y, lookA (putA nds path v) path = some y ∧ ∃ y1, lookA (putA nds path v) path = some y1 ∧ ∃ z, atI x y1 = some z ∧ path.length + [(y, z)].length ≤ sizeLine ∧ C2 (.nx (path ++ [(y, z)], putA nds path v)) := fun R hL hG hne _ => by
    have := List.length_pos_iff.mpr hne
    exact ⟨by omega, fun r r0 r1 => ⟨_, atI_of 0 r0 r1, smallS hsm, Tp _ (.inr (hG _ (getD_mem (by omega) 0)))⟩⟩
  have restL : ((rng 0 s.length).filter fun i => !decide (i ∈ path.map (·.1))).length ≤ 4 := by
    have := List.length_filter_le (fun i => !decide (i ∈ path.map (·.1))) (rng 0 s.length)
    rw [rng_len] at this
    omega
  refine nifB (fun hne => ?_) (fun heq => ?_)
  · have hp := ho'.resolve_left hne
    refine nifB (fun hne2 => ?_) (fun heq2 => ?_)
    · rcases List.eq_nil_or_concat path with e0 | ⟨p0', q, e1⟩
      · exact absurd (by rw [e0]; rfl) hne2
      · have e1' : path = p0' ++ [q] := by simpa using e1
        have hlast : atI (path.map (fun q => q.1)) (-1) = some q.1 := by rw [e1', List.map_append]; exact atI_last _ _
        have hq : q.1 ∈ order := hp.mem_iff.mpr (mem_rng.mpr (k2.inn _ (by rw [e1']; simp)))
        obtain ⟨j, j1, j2, j3⟩ := first_idx hq
        have hG : ∀ v ∈ order.drop ((j : Int) + 1).toNat, Good s.length order path v := fun v hv => by
          have ej : ((j : Int) + 1).toNat = j + 1 := by omega
          rw [ej] at hv
          rw [e1']
          exact good_drop hp hne (by rw [← e1']; exact k2) j1 hv
        have hL : (order.drop ((j : Int) + 1).toNat).length ≤ 4 := by
          have := hp.length_eq
          rw [rng_len] at this
          rw [List.length_drop]; omega
        refine ⟨q.1, hlast, j, j1, j2, by omega, ?_⟩
        repeat' first
          | exact ⟨smallS hsm, Tp _ (neg _ (by omega) (by omega))⟩
          | exact pick _ hL hG (by assumption)
          | refine bT rfl ?_
          | refine bF rfl ?_
          | refine ⟨by decide, fun q q0 q1 => ?_⟩
          | refine ifB (fun _ => ?_) (fun _ => ?_)
          | refine nifB (fun _ => ?_) (fun _ => ?_)
    · have hG : ∀ v ∈ (rng 0 s.length).filter (fun i => !decide (i ∈ path.map (·.1))), Good s.length order path v := fun v hv => good_rest (.inr (List.map_eq_nil_iff.mp heq2)) hv
      have hL := restL
      repeat' first
        | exact ⟨smallS hsm, Tp _ (neg _ (by omega) (by omega))⟩
        | exact pick _ hL hG (by assumption)
        | refine bT rfl ?_
        | refine bF rfl ?_
        | refine ⟨by decide, fun q q0 q1 => ?_⟩
        | refine ifB (fun _ => ?_) (fun _ => ?_)
        | refine nifB (fun _ => ?_) (fun _ => ?_)
  · have hG : ∀ v ∈ (rng 0 s.length).filter (fun i => !decide (i ∈ path.map (·.1))), Good s.length order path v := fun v hv => good_rest (.inl heq) hv
    have hL := restL
    refine bF rfl ?_
    repeat' first
      | exact ⟨smallS hsm, Tp _ (neg _ (by omega) (by omega))⟩
      | exact pick _ hL hG (by assumption)
      | refine bT rfl ?_
      | refine bF rfl ?_
      | refine ⟨by decide, fun q q0 q1 => ?_⟩
      | refine ifB (fun _ => ?_) (fun _ => ?_)
      | refine nifB (fun _ => ?_) (fun _ => ?_)
theorem sc__law_figure : FnScope ["pool", "sizes", "forms", "n", "kind", "order", "turn", "dues", "keys", "form", "one", "two", "row", "flat", "size", "told", "m", "i", "value", "near", "far", "key"] ["pool", "sizes", "forms"] (defScope s__law_figure) := ⟨rfl, rfl, rfl, by decide +kernel, rfl, by decide +kernel, by decide +kernel⟩
theorem ok__law_figure (B : Bd P w K mg base) : FnG P w K mg base "_law_figure" 3 ["pool", "sizes", "forms"] (SpP (K := K) (fsC (rL SS.rI) (fs1 (rL (SS.rU SS.rI)))) (rL SS.rI) (fun (a : (List Int) × (List (List Int))) => (fun P => a.1 ∈ SZ ∧ a.2 = forms a.1 ∧ ∀ d, d.length = (forms a.1).length → (∀ x ∈ d, Mid x) → P d : W (List Int)))) := by
  obtain ⟨fd, D⟩ := B.says.def_ 54 (d := d__law_figure) rfl
  refine ⟨_, fd, B.tx.glo__law_figure, D.kp, D.bindsN (fun _ _ _ _ _ _ us hl => match us, hl with | [_, _, _], _ => rfl), fnok_ofP (post := fun p g (_ : Unit) => ([.pool p g, .off, .off, .off, .off, .off, .off, .off, .off, .off, .off, .off, .off, .off, .off, .off, .off, .off, .off, .off, .off, .off] : List (En K))) D sc__law_figure rfl (by decide) (fsE_C fsE_1) (fun p g a => [.pool p g, .fr (rL SS.rI) a.1, .fr (rL (SS.rU SS.rI)) a.2, .off, .off, .off, .off, .off, .off, .off, .off, .off, .off, .off, .off, .off, .off, .off, .off, .off, .off, .off]) (fun _ _ _ => rfl) (fun p g a cdv A outer s H E hr => (b_asg (i := 3) sc__law_figure.nd rfl (by first | exact Or.inl rfl | exact Or.inr rfl) (pr_cb call_len_seq rc_len B.tx.free_len (by decide +kernel) (pa_oneX (pr_name (pv 1) rfl))) (fun x217 => (b_asg (i := 4) sc__law_figure.nd rfl (by first | exact Or.inl rfl | exact Or.inr rfl) (pr_draw (ok__law_below B) (hr.mono (by decide)) (pv 0) rfl (pa_oneX pr_int)) (fun x218 => (b_asg (i := 5) sc__law_figure.nd rfl (by first | exact Or.inl rfl | exact Or.inr rfl) (pr_draw (ok__law_shuffled B) (hr.mono (by decide)) (pv 0) rfl (pa_oneX (pr_frz (pr_listRng1 B.tx.free_list B.tx.free_range (pr_name (pv 3) rfl))))) (fun x219 => (b_asg (i := 6) sc__law_figure.nd rfl (by first | exact Or.inl rfl | exact Or.inr rfl) (pr_frz (pr_lc (own := [("size", 14)]) sc__law_figure.nd (blkOk_by (own := [("size", 14)]) (N := ["pool", "sizes", "forms", "n", "kind", "order", "turn", "dues", "keys", "form", "one", "two", "row", "flat", "size", "told", "m", "i", "value", "near", "far", "key"]) (sc := defScope s__law_figure) (by decide +kernel)) (pi_listX (pr_name (pv 1) rfl)) (fun _ _ _ _ _ => (pg_nameX (pg_name (i := 14) sc__law_figure.nd rfl (by first | exact Or.inl rfl | exact Or.inr rfl)))) (fun x220 _ _ _ _ _ => pts_nilX) (fun x220 _ _ _ _ _ => (pr_draw (ok__law_below B) (hr.mono (by decide)) (pv 0) rfl (pa_oneX (pr_name (pv 14) rfl)))))) (fun x221 => (b_ifr (pt_cmpX (op_eqP hr.units) (r2_eq eqI) (nomark _) (pr_name (pv 4) rfl) pr_int) (b_ret (pr_draw (ok__law_asked B) (hr.mono (by decide)) (pv 0) rfl (pa_consX (pr_name (pv 1) rfl) (pa_consX (pr_name (pv 2) rfl) (pa_oneX (pr_name (pv 5) rfl)))))) (b_ifr (pt_cmpX (op_eqP hr.units) (r2_eq eqI) (nomark _) (pr_name (pv 4) rfl) pr_int) (b_ret (pr_draw (ok__law_asked B) (hr.mono (by decide)) (pv 0) rfl (pa_consX (pr_name (pv 1) rfl) (pa_consX (pr_name (pv 2) rfl) (pa_oneX (pr_frz (pr_lst (R := SS.rI) pa_nilR))))))) (b_ifr (pt_cmpX (op_eqP hr.units) (r2_eq eqI) (nomark _) (pr_name (pv 4) rfl) pr_int) (b_asg (i := 10) sc__law_figure.nd rfl (by first | exact Or.inl rfl | exact Or.inr rfl) (pr_draw (ok__law_asked B) (hr.mono (by decide)) (pv 0) rfl (pa_consX (pr_name (pv 1) rfl) (pa_consX (pr_name (pv 2) rfl) (pa_oneX (pr_frz (pr_lst (R := SS.rI) pa_nilR)))))) (fun x222 => (b_asg (i := 11) sc__law_figure.nd rfl (by first | exact Or.inl rfl | exact Or.inr rfl) (pr_draw (ok__law_asked B) (hr.mono (by decide)) (pv 0) rfl (pa_consX (pr_name (pv 1) rfl) (pa_consX (pr_name (pv 2) rfl) (pa_oneX (pr_frz (pr_lst (R := SS.rI) pa_nilR)))))) (fun x223 => (b_ret (pr_frz (pr_lc (own := [("m", 16)]) sc__law_figure.nd (blkOk_by (own := [("m", 16)]) (N := ["pool", "sizes", "forms", "n", "kind", "order", "turn", "dues", "keys", "form", "one", "two", "row", "flat", "size", "told", "m", "i", "value", "near", "far", "key"]) (sc := defScope s__law_figure) (by decide +kernel)) (pi_rng1X B.tx.free_range (pa_oneX (pr_cb call_len_seq rc_len B.tx.free_len (by decide +kernel) (pa_oneX (pr_name (pv 2) rfl))))) (fun _ _ _ _ _ => (pg_nameX (pg_name (i := 16) sc__law_figure.nd rfl (by first | exact Or.inl rfl | exact Or.inr rfl)))) (fun x224 _ _ _ _ _ => pts_nilX) (fun x224 _ _ _ _ _ => (pr_op op_add r2_add (pr_op op_mul r2_mul (pr_ix ix_list r2_ixL (pr_name (pv 10) rfl) (pr_name (pv 16) rfl)) pr_int) (pr_ix ix_list r2_ixL (pr_name (pv 11) rfl) (pr_name (pv 16) rfl))))))))))) (b_asgL (i := 7) sc__law_figure.nd rfl (by first | exact Or.inl rfl | exact Or.inr rfl) (pr_lst (R := SS.rI) pa_nilR) (fun q225 q225l => (b_asgL (i := 8) sc__law_figure.nd rfl (by first | exact Or.inl rfl | exact Or.inr rfl) (pr_lst (R := (rT (fsC SS.rI (fsC SS.rI (fs1 SS.rI))))) pa_nilR) (fun q226 q226l => (b_for (fun s227 : (List Int) × (List (Int × Int × Int)) => [.pool p g, .fr (rL SS.rI) a.1, .fr (rL (SS.rU SS.rI)) a.2, .fr SS.rI x217, .fr SS.rI x218, .fr (rL SS.rI) x219, .fr (rL SS.rI) x221, .own q225 SS.rI s227.1, .own q226 (rT (fsC SS.rI (fsC SS.rI (fs1 SS.rI)))) s227.2, .off, .off, .off, .off, .off, .off, .off, .off, .off, .off, .off, .off, .off]) (q225l, q226l) (pi_listX (pr_name (pv 2) rfl)) (.same (.same (.same (.same (.same (.same (.same (.same (.same (.same (.same (.same (.same (.same (.same (.same (.same (.same (.same (.same (.same (.same .nil)))))))))))))))))))))) (fun s227 => (pg_nameX (pg_name (i := 9) sc__law_figure.nd rfl (by first | exact Or.inl rfl | exact Or.inr rfl)))) (fun q228 q228x => (b_lcT (i := 12) (own := [("i", 17)]) sc__law_figure.nd rfl rfl rfl (by decide +kernel) (blkOk_by (own := [("i", 17)]) (N := ["pool", "sizes", "forms", "n", "kind", "order", "turn", "dues", "keys", "form", "one", "two", "row", "flat", "size", "told", "m", "i", "value", "near", "far", "key"]) (sc := defScope s__law_figure) (by decide +kernel)) (pi_listX (pr_name (pv 5) rfl)) (fun _ _ _ _ _ => (pg_nameX (pg_name (i := 17) sc__law_figure.nd rfl (by first | exact Or.inl rfl | exact Or.inr rfl)))) (fun x229 _ _ _ _ _ => pts_nilX) (fun x229 _ _ _ _ _ => (pr_op op_modN r2_mod (pr_cty call_int1 rc_int B.tx.free_int (by decide +kernel) (pa_oneX (pr_op op_add r2_add (pr_ix ix_tup r2_ixU (pr_name (pv 9) rfl) (pr_name (pv 17) rfl)) (pr_ix ix_list r2_ixL (pr_name (pv 6) rfl) (pr_name (pv 17) rfl))))) (pr_ix ix_list r2_ixL (pr_name (pv 1) rfl) (pr_name (pv 17) rfl)))) (fun q230 q230l => (b_frz 12 rfl (b_lcT (i := 13) (own := [("value", 18)]) sc__law_figure.nd rfl rfl rfl (by decide +kernel) (blkOk_by (own := [("value", 18)]) (N := ["pool", "sizes", "forms", "n", "kind", "order", "turn", "dues", "keys", "form", "one", "two", "row", "flat", "size", "told", "m", "i", "value", "near", "far", "key"]) (sc := defScope s__law_figure) (by decide +kernel)) (pi_listX (pr_name (pv 12) rfl)) (fun _ _ _ _ _ => (pg_nameX (pg_name (i := 18) sc__law_figure.nd rfl (by first | exact Or.inl rfl | exact Or.inr rfl)))) (fun x231 _ _ _ _ _ => pts_nilX) (fun x231 _ _ _ _ _ => (pr_cb (call_min2 rfl) rc_min2 B.tx.free_min (by decide +kernel) (pa_consX pr_int (pa_oneX (pr_name (pv 18) rfl))))) (fun q232 q232l => (b_frz 13 rfl (b_if (fun s249 : (List Int) × (List (Int × Int × Int)) => [.pool p g, .fr (rL SS.rI) a.1, .fr (rL (SS.rU SS.rI)) a.2, .fr SS.rI x217, .fr SS.rI x218, .fr (rL SS.rI) x219, .fr (rL SS.rI) x221, .own q225 SS.rI s249.1, .own q226 (rT (fsC SS.rI (fsC SS.rI (fs1 SS.rI)))) s249.2, .fr (SS.rU SS.rI) q228x, .off, .off, .fr (rL SS.rI) q230l, .fr (rL SS.rI) q232l, .off, .off, .off, .off, .off, .off, .off, .off]) (PW.pt (pw_andX (pt_cmpX (op_eqP hr.units) (r2_eq eqI) (nomark _) (pr_name (pv 4) rfl) pr_int) (pw_and1X (pt_cmpX op_gt r2_gt (nomark _) (pr_name (pv 3) rfl) pr_int)))) (b_asg (i := 15) sc__law_figure.nd rfl (by first | exact Or.inl rfl | exact Or.inr rfl) (pr_frz (pr_lst (R := (rT (fsC SS.rI (fsC SS.rI (fs1 SS.rI))))) (pa_consR (pr_tup (pa_consX pr_int (pa_consX pr_int (pa_oneX pr_int)))) (pa_consR (pr_tup (pa_consX pr_int (pa_consX pr_int (pa_oneX pr_int)))) (pa_consR (pr_tup (pa_consX pr_int (pa_consX pr_int (pa_oneX pr_int)))) (pa_consR (pr_tup (pa_consX pr_int (pa_consX pr_int (pa_oneX pr_int)))) (pa_consR (pr_tup (pa_consX pr_int (pa_consX pr_int (pa_oneX pr_int)))) (pa_consR (pr_tup (pa_consX pr_int (pa_consX pr_int (pa_oneX pr_int)))) (pa_consR (pr_tup (pa_consX pr_int (pa_consX pr_int (pa_oneX pr_int)))) (pa_consR (pr_tup (pa_consX pr_int (pa_consX pr_int (pa_oneX pr_int)))) pa_nilR)))))))))) (fun x233 => (b_app (pv 7) rfl (pr_ix ix_list r2_ixL (pr_frz (pr_lst (R := SS.rI) (pa_consR pr_int (pa_consR pr_int (pa_consR pr_int (pa_consR pr_int (pa_consR pr_int (pa_consR pr_int (pa_consR pr_int (pa_consR pr_int pa_nilR)))))))))) (pr_index (eqT (eqfC eqI (eqfC eqI (eqf1 eqI)))) hr.u65 (pr_name (pv 15) rfl) (pr_tup (pa_consX (pr_ix ix_list r2_ixL (pr_name (pv 13) rfl) pr_int) (pa_consX (pr_ix ix_list r2_ixL (pr_name (pv 13) rfl) pr_int) (pa_oneX (pr_ix ix_list r2_ixL (pr_name (pv 13) rfl) pr_int))))))) (fun x234 => (b_nil (t := ((q228.1 ++ [x234]), q228.2)) (.same (.same (.same (.same (.same (.same (.same (.same (.same (.same (.same (.same (.same (.same (.same (.off (.same (.same (.same (.same (.same (.same .nil)))))) rfl))))))))))))))))))))) (b_if (fun s248 : (List Int) × (List (Int × Int × Int)) => [.pool p g, .fr (rL SS.rI) a.1, .fr (rL (SS.rU SS.rI)) a.2, .fr SS.rI x217, .fr SS.rI x218, .fr (rL SS.rI) x219, .fr (rL SS.rI) x221, .own q225 SS.rI s248.1, .own q226 (rT (fsC SS.rI (fsC SS.rI (fs1 SS.rI)))) s248.2, .fr (SS.rU SS.rI) q228x, .off, .off, .fr (rL SS.rI) q230l, .fr (rL SS.rI) q232l, .off, .off, .off, .off, .off, .off, .off, .off]) (PW.pt (pw_andX (pt_cmpX (op_eqP hr.units) (r2_eq eqI) (nomark _) (pr_name (pv 4) rfl) pr_int) (pw_and1X (pt_cmpX op_gt r2_gt (nomark _) (pr_name (pv 3) rfl) pr_int)))) (b_app (pv 7) rfl (pr_if (pt_cmpX (op_eqP hr.units) (r2_eq eqI) (nomark _) (pr_ix ix_list r2_ixL (pr_name (pv 13) rfl) pr_int) pr_int) (pr_ix ix_list r2_ixL (pr_name (pv 12) rfl) pr_int) (pr_ix ix_list r2_ixL (pr_name (pv 12) rfl) pr_int)) (fun x235 => (b_nil (t := ((q228.1 ++ [x235]), q228.2)) (.same (.same (.same (.same (.same (.same (.same (.same (.same (.same (.same (.same (.same (.same (.same (.same (.same (.same (.same (.same (.same (.same .nil))))))))))))))))))))))))) (b_if (fun s247 : (List (Int × Int × Int)) × (List Int) => [.pool p g, .fr (rL SS.rI) a.1, .fr (rL (SS.rU SS.rI)) a.2, .fr SS.rI x217, .fr SS.rI x218, .fr (rL SS.rI) x219, .fr (rL SS.rI) x221, .own q225 SS.rI s247.2, .own q226 (rT (fsC SS.rI (fsC SS.rI (fs1 SS.rI)))) s247.1, .fr (SS.rU SS.rI) q228x, .off, .off, .fr (rL SS.rI) q230l, .fr (rL SS.rI) q232l, .off, .off, .off, .off, .off, .off, .off, .off]) (PW.pt (pw_andX (pt_cmpX op_gt r2_gt (nomark _) (pr_name (pv 4) rfl) pr_int) (pw_and1X (pt_cmpX op_gt r2_gt (nomark _) (pr_name (pv 3) rfl) pr_int)))) (b_asg (i := 19) sc__law_figure.nd rfl (by first | exact Or.inl rfl | exact Or.inr rfl) (pr_if (pt_cmpX (op_eqP hr.units) (r2_eq eqI) (nomark _) (pr_ix ix_list r2_ixL (pr_name (pv 13) rfl) pr_int) pr_int) (pr_ix ix_list r2_ixL (pr_name (pv 12) rfl) pr_int) (pr_ix ix_list r2_ixL (pr_name (pv 12) rfl) pr_int)) (fun x236 => (b_asg (i := 20) sc__law_figure.nd rfl (by first | exact Or.inl rfl | exact Or.inr rfl) (pr_if (pt_cmpX (op_eqP hr.units) (r2_eq eqI) (nomark _) (pr_ix ix_list r2_ixL (pr_name (pv 13) rfl) pr_int) pr_int) (pr_ix ix_list r2_ixL (pr_name (pv 12) rfl) pr_int) (pr_ix ix_list r2_ixL (pr_name (pv 12) rfl) pr_int)) (fun x237 => (b_asg (i := 21) sc__law_figure.nd rfl (by first | exact Or.inl rfl | exact Or.inr rfl) (pr_tup (pa_consX (pr_ix ix_list r2_ixL (pr_name (pv 12) rfl) pr_int) (pa_consX (pr_name (pv 19) rfl) (pa_oneX (pr_if (pt_cmpX (op_eqP hr.units) (r2_eq eqI) (nomark _) (pr_name (pv 19) rfl) pr_int) (pr_name (pv 20) rfl) (pr_un un_neg r1_neg pr_int)))))) (fun x238 => (b_if (fun s240 : (List (Int × Int × Int)) => [.pool p g, .fr (rL SS.rI) a.1, .fr (rL (SS.rU SS.rI)) a.2, .fr SS.rI x217, .fr SS.rI x218, .fr (rL SS.rI) x219, .fr (rL SS.rI) x221, .own q225 SS.rI q228.1, .own q226 (rT (fsC SS.rI (fsC SS.rI (fs1 SS.rI)))) s240, .fr (SS.rU SS.rI) q228x, .off, .off, .fr (rL SS.rI) q230l, .fr (rL SS.rI) q232l, .off, .off, .off, .off, .off, .fr SS.rI x236, .fr SS.rI x237, .fr (rT (fsC SS.rI (fsC SS.rI (fs1 SS.rI)))) x238]) (pt_thaw (i := 8) rfl (pt_cmpX (op_notInD hr.u65) (r2_ninD (eqT (eqfC eqI (eqfC eqI (eqf1 eqI))))) (by rfl) (pr_name (pv 21) rfl) (pr_name (pv 8) rfl))) (b_app (pv 8) rfl (pr_name (pv 21) rfl) (fun x239 => (b_nil (t := (q228.2 ++ [x239])) (.same (.same (.same (.same (.same (.same (.same (.same (.same (.same (.same (.same (.same (.same (.same (.same (.same (.same (.same (.same (.same (.same .nil))))))))))))))))))))))))) (b_nil (t := q228.2) (.same (.same (.same (.same (.same (.same (.same (.same (.same (.same (.same (.same (.same (.same (.same (.same (.same (.same (.same (.same (.same (.same .nil))))))))))))))))))))))) (fun s240 => (b_app (pv 7) rfl (pr_thaw (i := 8) rfl (fun _ _ _ _ h => h) (pr_index (eqT (eqfC eqI (eqfC eqI (eqf1 eqI)))) hr.u65 (pr_name (pv 8) rfl) (pr_name (pv 21) rfl))) (fun x241 => (b_nil (t := (s240, (q228.1 ++ [x241]))) (.same (.same (.same (.same (.same (.same (.same (.same (.same (.same (.same (.same (.same (.same (.same (.same (.same (.same (.same (.off (.off (.off .nil rfl) rfl) rfl)))))))))))))))))))))))) (by intro _ _ h; exact h)))))))) (b_if (fun s246 : (List Int) => [.pool p g, .fr (rL SS.rI) a.1, .fr (rL (SS.rU SS.rI)) a.2, .fr SS.rI x217, .fr SS.rI x218, .fr (rL SS.rI) x219, .fr (rL SS.rI) x221, .own q225 SS.rI s246, .own q226 (rT (fsC SS.rI (fsC SS.rI (fs1 SS.rI)))) q228.2, .fr (SS.rU SS.rI) q228x, .off, .off, .fr (rL SS.rI) q230l, .fr (rL SS.rI) q232l, .off, .off, .off, .off, .off, .off, .off, .off]) (pt_cmpX (op_eqP hr.units) (r2_eq eqI) (nomark _) (pr_name (pv 4) rfl) pr_int) (b_app (pv 7) rfl (pr_op op_modN r2_mod (pr_cty call_int1 rc_int B.tx.free_int (by decide +kernel) (pa_oneX (pr_cb (cr_sum rfl) rc_sum B.tx.free_sum (by decide +kernel) (pa_oneX (pr_name (pv 13) rfl))))) pr_int) (fun x242 => (b_nil (t := (q228.1 ++ [x242])) (.same (.same (.same (.same (.same (.same (.same (.same (.same (.same (.same (.same (.same (.same (.same (.same (.same (.same (.same (.same (.same (.same .nil))))))))))))))))))))))))) (b_if (fun s245 : (List Int) => [.pool p g, .fr (rL SS.rI) a.1, .fr (rL (SS.rU SS.rI)) a.2, .fr SS.rI x217, .fr SS.rI x218, .fr (rL SS.rI) x219, .fr (rL SS.rI) x221, .own q225 SS.rI s245, .own q226 (rT (fsC SS.rI (fsC SS.rI (fs1 SS.rI)))) q228.2, .fr (SS.rU SS.rI) q228x, .off, .off, .fr (rL SS.rI) q230l, .fr (rL SS.rI) q232l, .off, .off, .off, .off, .off, .off, .off, .off]) (pt_cmpX (op_eqP hr.units) (r2_eq eqI) (nomark _) (pr_name (pv 4) rfl) pr_int) (b_app (pv 7) rfl (pr_op op_add r2_add (pr_cty call_int1 rc_intB B.tx.free_int (by decide +kernel) (pa_oneX (pr_cmp op_ge r2_ge (nomark _) (pr_cb (cr_sum rfl) rc_sum B.tx.free_sum (by decide +kernel) (pa_oneX (pr_name (pv 12) rfl))) pr_int))) (pr_cty call_int1 rc_intB B.tx.free_int (by decide +kernel) (pa_oneX (pr_cmp op_ge r2_ge (nomark _) (pr_cb (cr_sum rfl) rc_sum B.tx.free_sum (by decide +kernel) (pa_oneX (pr_name (pv 12) rfl))) pr_int)))) (fun x243 => (b_nil (t := (q228.1 ++ [x243])) (.same (.same (.same (.same (.same (.same (.same (.same (.same (.same (.same (.same (.same (.same (.same (.same (.same (.same (.same (.same (.same (.same .nil))))))))))))))))))))))))) (b_app (pv 7) rfl (pr_cb (cr_max rfl) rc_maxL B.tx.free_max (by decide +kernel) (pa_oneX (pr_frz (pr_slcTo (pr_name (pv 13) rfl) pr_int)))) (fun x244 => (b_nil (t := (q228.1 ++ [x244])) (.same (.same (.same (.same (.same (.same (.same (.same (.same (.same (.same (.same (.same (.same (.same (.same (.same (.same (.same (.same (.same (.same .nil))))))))))))))))))))))))) (fun s245 => (b_nil (t := s245) (.same (.same (.same (.same (.same (.same (.same (.same (.same (.same (.same (.same (.same (.same (.same (.same (.same (.same (.same (.same (.same (.same .nil)))))))))))))))))))))))) (by intro _ _ h; exact h)) (fun s246 => (b_nil (t := (q228.2, s246)) (.same (.same (.same (.same (.same (.same (.same (.same (.same (.same (.same (.same (.same (.same (.same (.same (.same (.same (.same (.same (.same (.same .nil)))))))))))))))))))))))) (by intro _ _ h; exact h)) (fun s247 => (b_nil (t := (s247.2, s247.1)) (.same (.same (.same (.same (.same (.same (.same (.same (.same (.same (.same (.same (.same (.same (.same (.same (.same (.same (.same (.same (.same (.same .nil)))))))))))))))))))))))) (by intro _ _ h; exact h)) (fun s248 => (b_nil (t := (s248.1, s248.2)) (.same (.same (.same (.same (.same (.same (.same (.same (.same (.same (.same (.same (.same (.same (.same (.same (.same (.same (.same (.same (.same (.same .nil)))))))))))))))))))))))) (by intro _ _ h; exact h)) (fun s249 => (b_nil (t := (s249.1, s249.2)) (.same (.same (.same (.same (.same (.same (.same (.same (.same (.off (.same (.same (.off (.off (.same (.same (.same (.same (.same (.same (.same (.same .nil)))))))) rfl) rfl))) rfl)))))))))))) (by intro _ _ h; exact h))))))))) (fun s227 => (b_frz 7 rfl (b_ret (pr_name (pv 7) rfl))))))))))))))))))))) (fun p g a Q h => ?_)⟩
  obtain ⟨hz, e, h⟩ := h
  obtain ⟨s, fs⟩ := a
  dsimp only at hz e h ⊢
  subst e
  have hn := sz_n hz
  have hN := sz_N hz
  have hsz : ∀ x ∈ s, 2 ≤ x ∧ x ≤ 3 := fun x hx => SZ_in hz hx
  refine fun _ => ⟨by decide, fun r r0 r1 => ⟨by omega, by rw [rng_len]; omega, fun ys hys => ?_⟩⟩
  have es : ((s.length : Int)).toNat = s.length := by omega
  rw [es] at hys
  refine lcW_all1 (fun _ y => 0 ≤ y ∧ y ≤ 2) _ _ (fun x hx C c => ⟨by have := hsz x hx; omega, fun r r0 r1 => c r (by have := hsz x hx; omega)⟩) (fun ts hts => ?_)
  have htl : s.length = ts.length := paired_len hts
  have toMid : ∀ d : List Int, (∀ x ∈ d, 0 ≤ x ∧ x ≤ 1000) → ∀ x ∈ d, Mid x := fun d hd x hx => by have := hd x hx; exact ⟨by omega, by omega⟩
  refine ifB (fun _ => ⟨hz, rfl, .inr hys, fun d d1 d2 => h d d1 (toMid d d2)⟩) fun _ => ifB (fun _ => ⟨hz, rfl, .inl rfl, fun d d1 d2 => h d d1 (toMid d d2)⟩) fun _ => ifB (fun _ => ⟨hz, rfl, .inl rfl, fun d d1 d2 => ⟨hz, rfl, .inl rfl, fun f f1 f2 _ => ⟨by omega, ?_⟩⟩⟩) fun _ => ?_
  · refine lcW_all1 (fun _ y => Mid y) _ _ (fun i hi C c => ?_) (fun zs hzs => h zs ?_ (paired_right hzs))
    · have hb := rng_in hi
      have g1 := d2 (d.getD i.toNat 0) (getD_mem (by omega) 0)
      have g2 := f2 (f.getD i.toNat 0) (getD_mem (by omega) 0)
      exact ⟨_, atI_of 0 (by omega) (by omega), cmulR (by decide) (by decide), _, atI_of 0 (by omega) (by omega), c _ ⟨by omega, by omega⟩⟩
    · rw [← paired_len hzs, rng_len]; omega
  have hyb : ∀ i ∈ ys, 0 ≤ i ∧ i < (s.length : Int) := fun i hi => mem_rng.mp (hys.subset hi)
  have hyl : ys.length = s.length := by rw [hys.length_eq]; exact rng_len _ _
  refine fun p p' => forW_inv (fun pre _ st => st.1.length = pre.length ∧ (∀ x ∈ st.1, Mid x) ∧ st.2.length ≤ pre.length) ⟨rfl, fun x hx => (by cases hx), Nat.le_refl _⟩ (fun pre x suf st C e hi h1 _ _ _ => ?_) (fun st hst => h _ hst.1 hst.2.1)
  obtain ⟨st1, st2⟩ := st
  obtain ⟨g1, g2, g3⟩ := hi
  dsimp only at g1 g2 g3 h1 ⊢
  have hx : x ∈ forms s := by rw [e]; simp
  obtain ⟨xl, _⟩ := inF hz hx
  have hpl : pre.length ≤ 27 := by
    have : (forms s).length = pre.length + (suf.length + 1) := by rw [e]; simp
    omega
  refine lcW_all1 (fun _ y => 0 ≤ y ∧ y ≤ 2) _ _ (fun i hi C c => ?_) (fun row hrow => ?_)
  · obtain ⟨i0, i1⟩ := hyb i hi
    have hq := hsz (s.getD i.toNat 0) (getD_mem (by omega) 0)
    refine ⟨_, atI_of 0 i0 (by omega), _, atI_of 0 i0 (by omega), _, atI_of 0 i0 (by omega), by omega, c _ ?_⟩
    have m1 := Int.fmod_nonneg_of_pos (x.getD i.toNat 0 + ts.getD i.toNat 0) (b := s.getD i.toNat 0) (by omega)
    have m2 := Int.fmod_lt_of_pos (x.getD i.toNat 0 + ts.getD i.toNat 0) (b := s.getD i.toNat 0) (by omega)
    omega
  have hrl : ys.length = row.length := paired_len hrow
  have hrb : ∀ y ∈ row, 0 ≤ y ∧ y ≤ 2 := paired_right hrow
  refine fun p2 => lcW_map1 (fun y => min 1 y) _ (fun y _ C c => c) fun p3 => ?_
  have hfl : (row.map fun y => min 1 y).length = row.length := List.length_map _
  have hfb : ∀ y ∈ row.map fun y => min 1 y, 0 ≤ y ∧ y ≤ 1 := fun y hy => by
    obtain ⟨z, hz', ez⟩ := List.mem_map.mp hy
    have := hrb z hz'
    subst ez
    omega
  generalize (row.map fun y => min 1 y) = flat at hfl hfb ⊢
  have add : ∀ (v : Int) (ks : List (Int × Int × Int)), -1000000 ≤ v → v ≤ 1000000 → ks.length ≤ pre.length + 1 → C (.nx (st1 ++ [v], ks)) := fun v ks v0 v1 hk => h1 _ ⟨by simp [g1], app_all g2 ⟨v0, v1⟩, by simpa using hk⟩
  have atR : ∀ (i : Int) (A : Int → Prop), 0 ≤ i → i < (s.length : Int) → (∀ y, 0 ≤ y → y ≤ 2 → A y) → ∃ y, atI row i = some y ∧ A y := fun i A i0 i1 hA => ⟨_, atI_of 0 i0 (by omega), by have := hrb (row.getD i.toNat 0) (getD_mem (by omega) 0); exact hA _ this.1 this.2⟩
  have atF : ∀ (i : Int) (A : Int → Prop), 0 ≤ i → i < (s.length : Int) → (∀ y, 0 ≤ y → y ≤ 1 → A y) → ∃ y, atI flat i = some y ∧ A y := fun i A i0 i1 hA => ⟨_, atI_of 0 i0 (by omega), by have := hfb (flat.getD i.toNat 0) (getD_mem (by omega) 0); exact hA _ this.1 this.2⟩
  have hsm1 : st1.length < 1000000 := by omega
  have hsm2 : st2.length < 1000000 := by omega
  have idx : ∀ (ks : List (Int × Int × Int)) (key : Int × Int × Int), key ∈ ks → ks.length ≤ pre.length + 1 → ∃ j : Nat, ks[j]? = some key ∧ (∀ m : Nat, m < j → ks[m]? ≠ some key) ∧ (st1.length ≤ sizeLine → st1.length < sizeLine) ∧ C (.nx (st1 ++ [(j : Int)], ks)) := fun ks key hk hl => by
    obtain ⟨j, j1, j2, j3⟩ := first_idx hk
    exact ⟨j, j1, j2, fun _ => smallS hsm1, add _ _ (by omega) (by omega) hl⟩
  have tri : ∀ x y z : Int, 0 ≤ x → x ≤ 1 → 0 ≤ y → y ≤ 1 → 0 ≤ z → z ≤ 1 → ∃ j : Nat, [((0 : Int), (0 : Int), (0 : Int)), (0, 0, 1), (0, 1, 0), (0, 1, 1), (1, 0, 0), (1, 0, 1), (1, 1, 0), (1, 1, 1)][j]? = some (x, y, z) ∧ (∀ m : Nat, m < j → [((0 : Int), (0 : Int), (0 : Int)), (0, 0, 1), (0, 1, 0), (0, 1, 1), (1, 0, 0), (1, 0, 1), (1, 1, 0), (1, 1, 1)][m]? ≠ some (x, y, z)) ∧ ∃ v, atI [(0 : Int), 2, 1, 1, 3, 2, 3, 4] (j : Int) = some v ∧ (st1.length ≤ sizeLine → st1.length < sizeLine) ∧ C (.nx (st1 ++ [v], st2)) := fun x y z x0 x1 y0 y1 z0 z1 => by
    have hm : (x, y, z) ∈ [((0 : Int), (0 : Int), (0 : Int)), (0, 0, 1), (0, 1, 0), (0, 1, 1), (1, 0, 0), (1, 0, 1), (1, 1, 0), (1, 1, 1)] := by
      rcases (by omega : x = 0 ∨ x = 1) with a | a <;> rcases (by omega : y = 0 ∨ y = 1) with b | b <;> rcases (by omega : z = 0 ∨ z = 1) with c | c <;> subst a b c <;> decide
    obtain ⟨j, j1, j2, j3⟩ := first_idx hm
    have j8 : j < 8 := j3
    have hv : ∀ v ∈ [(0 : Int), 2, 1, 1, 3, 2, 3, 4], 0 ≤ v ∧ v ≤ 4 := by decide
    have hb := hv ([(0 : Int), 2, 1, 1, 3, 2, 3, 4].getD ((j : Int)).toNat 0) (getD_mem (by show _ < 8; omega) 0)
    exact ⟨j, j1, j2, _, atI_of 0 (by omega) (by show (j : Int) < 8; omega), fun _ => smallS hsm1, add _ _ (by omega) (by omega) (by omega)⟩
  have f1 : 0 ≤ flat.sum.fmod 2 := Int.fmod_nonneg_of_pos _ (by decide)
  have f2 : flat.sum.fmod 2 < 2 := Int.fmod_lt_of_pos _ (by decide)
  have b1 := bit01 (decide (2 ≤ row.sum))
  have b2 := bit01 (decide (3 ≤ row.sum))
  have hne : flat.take 2 ≠ [] := fun z => by
    have := congrArg List.length z
    rw [List.length_take, List.length_nil] at this
    omega
  have mx : ∀ m ∈ flat.take 2, 0 ≤ m ∧ m ≤ 1 := fun m hm => hfb m (List.mem_of_mem_take hm)
  repeat' first
    | exact ⟨fun _ => smallS hsm1, add _ _ (by omega) (by omega) (by first | omega | (dsimp only; omega))⟩
    | exact ⟨by decide, fun _ => smallS hsm1, add _ _ (by omega) (by omega) (by first | omega | (dsimp only; omega))⟩
    | exact ⟨by decide, hne, fun m hm _ => ⟨fun _ => smallS hsm1, add _ _ (by have := mx m hm; omega) (by have := mx m hm; omega) (by first | omega | (dsimp only; omega))⟩⟩
    | exact tri _ _ _ (by omega) (by omega) (by omega) (by omega) (by omega) (by omega)
    | refine bF rfl ?_
    | refine nifB (fun _ => ⟨fun _ => smallS hsm2, idx _ _ (by simp) (by rw [List.length_append, List.length_cons, List.length_nil]; omega)⟩) (fun hk => idx _ _ hk (by omega))
    | refine ifB (fun _ => ?_) (fun _ => ?_)
    | refine atF _ _ (by omega) (by omega) (fun y y0 y1 => ?_)
    | refine atR _ _ (by omega) (by omega) (fun y y0 y1 => ?_)
theorem sc__law_dues : FnScope ["pool", "sizes", "forms", "kind", "many", "form"] ["pool", "sizes", "forms"] (defScope s__law_dues) := ⟨rfl, rfl, rfl, by decide +kernel, rfl, by decide +kernel, by decide +kernel⟩
theorem ok__law_dues (B : Bd P w K mg base) : FnG P w K mg base "_law_dues" 4 ["pool", "sizes", "forms"] (SpP (K := K) (fsC (rL SS.rI) (fs1 (rL (SS.rU SS.rI)))) (rL SS.rI) (fun (a : (List Int) × (List (List Int))) => (fun P => a.1 ∈ SZ ∧ a.2 = forms a.1 ∧ ∀ d, d.length = (forms a.1).length → (∀ x ∈ d, Mid x) → P d : W (List Int)))) := by
  obtain ⟨fd, D⟩ := B.says.def_ 55 (d := d__law_dues) rfl
  refine ⟨_, fd, B.tx.glo__law_dues, D.kp, D.bindsN (fun _ _ _ _ _ _ us hl => match us, hl with | [_, _, _], _ => rfl), fnok_ofP (post := fun p g (_ : Unit) => ([.pool p g, .off, .off, .off, .off, .off] : List (En K))) D sc__law_dues rfl (by decide) (fsE_C fsE_1) (fun p g a => [.pool p g, .fr (rL SS.rI) a.1, .fr (rL (SS.rU SS.rI)) a.2, .off, .off, .off]) (fun _ _ _ => rfl) (fun p g a cdv A outer s H E hr => (b_asg (i := 3) sc__law_dues.nd rfl (by first | exact Or.inl rfl | exact Or.inr rfl) (pr_draw (ok__law_below B) (hr.mono (by decide)) (pv 0) rfl (pa_oneX pr_int)) (fun x250 => (b_ifr (pt_cmpX (op_eqP hr.units) (r2_eq eqI) (nomark _) (pr_name (pv 3) rfl) pr_int) (b_ret (pr_draw (ok__law_boxes_laid B) (hr.mono (by decide)) (pv 0) rfl (pa_consX (pr_name (pv 1) rfl) (pa_oneX (pr_name (pv 2) rfl))))) (b_ifr (pt_cmpX (op_eqP hr.units) (r2_eq eqI) (nomark _) (pr_name (pv 3) rfl) pr_int) (b_asg (i := 4) sc__law_dues.nd rfl (by first | exact Or.inl rfl | exact Or.inr rfl) (pr_op op_add r2_add pr_int (pr_draw (ok__law_below B) (hr.mono (by decide)) (pv 0) rfl (pa_oneX pr_int))) (fun x251 => (b_ret (pr_frz (pr_lc (own := [("form", 5)]) sc__law_dues.nd (blkOk_by (own := [("form", 5)]) (N := ["pool", "sizes", "forms", "kind", "many", "form"]) (sc := defScope s__law_dues) (by decide +kernel)) (pi_listX (pr_name (pv 2) rfl)) (fun _ _ _ _ _ => (pg_nameX (pg_name (i := 5) sc__law_dues.nd rfl (by first | exact Or.inl rfl | exact Or.inr rfl)))) (fun x252 _ _ _ _ _ => pts_nilX) (fun x252 _ _ _ _ _ => (pr_draw (ok__law_below B) (hr.mono (by decide)) (pv 0) rfl (pa_oneX (pr_name (pv 4) rfl))))))))) (b_ret (pr_draw (ok__law_figure B) (hr.mono (by decide)) (pv 0) rfl (pa_consX (pr_name (pv 1) rfl) (pa_oneX (pr_name (pv 2) rfl)))))))))) (fun p g a Q h => ?_)⟩
  obtain ⟨hz, e, h⟩ := h
  refine ⟨by decide, fun r r0 r1 => ifB (fun _ => ⟨hz, e, fun d d1 d2 => h d d1 d2⟩) fun _ => ifB (fun _ => ⟨by decide, fun q q0 q1 => lcW_all1 (fun _ y => Mid y) _ _ (fun z _ C c => ⟨by omega, fun r r0 r1 => c r ⟨by omega, by omega⟩⟩) fun ys hys => h _ ?_ ?_⟩) fun _ => ⟨hz, e, fun d d1 d2 => h d d1 d2⟩⟩
  · rw [← paired_len hys, e]
  · exact paired_right hys
theorem sc__law_loud : FnScope ["sizes", "steps", "dues", "loud", "m", "i", "due", "size", "line", "at", "v", "row"] ["sizes", "steps", "dues"] (defScope s__law_loud) := ⟨rfl, rfl, rfl, by decide +kernel, rfl, by decide +kernel, by decide +kernel⟩
theorem ok__law_loud (B : Bd P w K mg base) : FnG P w K mg base "_law_loud" 1 ["sizes", "steps", "dues"] (SpF (K := K) (fsC (rL SS.rI) (fsC (rL SS.rI) (fs1 (rL SS.rI)))) (rL (rL rB)) (fun (a : (List Int) × (List Int) × (List Int)) => (fun P => a.1 ∈ SZ ∧ a.2.1 = steps a.1 ∧ a.2.2.length = (forms a.1).length ∧ P (loudT a.1 a.2.2) : W (List (List Bool))))) := by
  obtain ⟨fd, D⟩ := B.says.def_ 56 (d := d__law_loud) rfl
  refine ⟨_, fd, B.tx.glo__law_loud, D.kp, D.bindsN (fun _ _ _ _ _ _ us hl => match us, hl with | [_, _, _], _ => rfl), fnok_of (post := fun _ : Unit => ([.off, .off, .off, .off, .off, .off, .off, .off, .off, .off, .off, .off] : List (En K))) D sc__law_loud rfl (by decide) (fsE_C (fsE_C fsE_1)) (fun a => [.fr (rL SS.rI) a.1, .fr (rL SS.rI) a.2.1, .fr (rL SS.rI) a.2.2, .off, .off, .off, .off, .off, .off, .off, .off, .off]) (fun _ => rfl) (fun a cdv A outer s H E hr => (b_lcLT (i := 3) (own := [("due", 6)]) sc__law_loud.nd rfl rfl rfl (by decide +kernel) (blkOk_by (own := [("due", 6)]) (N := ["sizes", "steps", "dues", "loud", "m", "i", "due", "size", "line", "at", "v", "row"]) (sc := defScope s__law_loud) (by decide +kernel)) (pi_listX (pr_name (pv 2) rfl)) (fun _ _ _ _ _ => (pg_nameX (pg_name (i := 6) sc__law_loud.nd rfl (by first | exact Or.inl rfl | exact Or.inr rfl)))) (fun x253 _ _ _ _ _ => pts_nilX) (fun x253 _ _ _ _ _ => (pr_lc (own := [("size", 7)]) sc__law_loud.nd (blkOk_BX (blkOk_by (own := [("size", 7)]) (N := ["sizes", "steps", "dues", "loud", "m", "i", "due", "size", "line", "at", "v", "row"]) (by decide +kernel))) (pi_listX (pr_name (pv 0) rfl)) (fun _ _ _ _ _ => (pg_nameX (pg_name (i := 7) sc__law_loud.nd rfl (by first | exact Or.inl rfl | exact Or.inr rfl)))) (fun x254 _ _ _ _ _ => pts_nilX) (fun x254 _ _ _ _ _ => pr_bl))) (fun q255 q255s q255z => (b_for (fun s256 : (List (List Bool)) => [.fr (rL SS.rI) a.1, .fr (rL SS.rI) a.2.1, .fr (rL SS.rI) a.2.2, .rg q255 q255s (llRg rB q255 q255s s256), .off, .off, .off, .off, .off, .off, .off, .off]) q255z (pi_rng1X B.tx.free_range (pa_oneX (pr_cb call_len_seq rc_len B.tx.free_len (by decide +kernel) (pa_oneX (pr_name (pv 2) rfl))))) (.same (.same (.same (.same (.same (.same (.same (.same (.same (.same (.same (.same .nil)))))))))))) (fun s256 => (pg_nameX (pg_name (i := 4) sc__law_loud.nd rfl (by first | exact Or.inl rfl | exact Or.inr rfl)))) (fun q257 q257x => (b_for (fun s258 : (List (List Bool)) => [.fr (rL SS.rI) a.1, .fr (rL SS.rI) a.2.1, .fr (rL SS.rI) a.2.2, .rg q255 q255s (llRg rB q255 q255s s258), .fr SS.rI q257x, .off, .off, .off, .off, .off, .off, .off]) q257 (pi_rng1X B.tx.free_range (pa_oneX (pr_cb call_len_seq rc_len B.tx.free_len (by decide +kernel) (pa_oneX (pr_name (pv 0) rfl))))) (.same (.same (.same (.same (.same (.same (.same (.same (.same (.same (.same (.same .nil)))))))))))) (fun s258 => (pg_nameX (pg_name (i := 5) sc__law_loud.nd rfl (by first | exact Or.inl rfl | exact Or.inr rfl)))) (fun q259 q259x => (b_if (fun s269 : (List (List Bool)) => [.fr (rL SS.rI) a.1, .fr (rL SS.rI) a.2.1, .fr (rL SS.rI) a.2.2, .rg q255 q255s (llRg rB q255 q255s s269), .fr SS.rI q257x, .fr SS.rI q259x, .off, .off, .off, .off, .off, .off]) (pt_cmpX (op_eqP hr.units) (r2_eq eqI) (nomark _) (pr_op op_modN r2_mod (pr_cty call_int1 rc_int B.tx.free_int (by decide +kernel) (pa_oneX (pr_op op_fdivN r2_fdiv (pr_name (pv 4) rfl) (pr_ix ix_list r2_ixL (pr_name (pv 1) rfl) (pr_name (pv 5) rfl))))) (pr_ix ix_list r2_ixL (pr_name (pv 0) rfl) (pr_name (pv 5) rfl))) pr_int) (b_lcT (i := 8) (own := [("v", 10)]) sc__law_loud.nd rfl rfl rfl (by decide +kernel) (blkOk_by (own := [("v", 10)]) (N := ["sizes", "steps", "dues", "loud", "m", "i", "due", "size", "line", "at", "v", "row"]) (sc := defScope s__law_loud) (by decide +kernel)) (pi_rng1X B.tx.free_range (pa_oneX (pr_ix ix_list r2_ixL (pr_name (pv 0) rfl) (pr_name (pv 5) rfl)))) (fun _ _ _ _ _ => (pg_nameX (pg_name (i := 10) sc__law_loud.nd rfl (by first | exact Or.inl rfl | exact Or.inr rfl)))) (fun x260 _ _ _ _ _ => pts_nilX) (fun x260 _ _ _ _ _ => (pr_op op_add r2_add (pr_name (pv 4) rfl) (pr_op op_mul r2_mul (pr_name (pv 10) rfl) (pr_ix ix_list r2_ixL (pr_name (pv 1) rfl) (pr_name (pv 5) rfl))))) (fun q261 q261l => (b_frz 8 rfl (b_if (fun s268 : (List (List Bool)) => [.fr (rL SS.rI) a.1, .fr (rL SS.rI) a.2.1, .fr (rL SS.rI) a.2.2, .rg q255 q255s (llRg rB q255 q255s s268), .fr SS.rI q257x, .fr SS.rI q259x, .off, .off, .fr (rL SS.rI) q261l, .off, .off, .off]) (pt_valX (pr_cb (cr_any rfl) rc_any B.tx.free_any (by decide +kernel) (pa_oneX (pr_frz (pr_lc (own := [("at", 9)]) sc__law_loud.nd (blkOk_by (own := [("at", 9)]) (N := ["sizes", "steps", "dues", "loud", "m", "i", "due", "size", "line", "at", "v", "row"]) (sc := defScope s__law_loud) (by decide +kernel)) (pi_listX (pr_name (pv 8) rfl)) (fun _ _ _ _ _ => (pg_nameX (pg_name (i := 9) sc__law_loud.nd rfl (by first | exact Or.inl rfl | exact Or.inr rfl)))) (fun x262 _ _ _ _ _ => pts_nilX) (fun x262 _ _ _ _ _ => (pr_cmp (op_neP hr.units) (r2_ne eqI) (nomark _) (pr_ix ix_list r2_ixL (pr_name (pv 2) rfl) (pr_name (pv 9) rfl)) (pr_ix ix_list r2_ixL (pr_name (pv 2) rfl) (pr_name (pv 4) rfl))))))))) (b_for (fun s263 : (List (List Bool)) => [.fr (rL SS.rI) a.1, .fr (rL SS.rI) a.2.1, .fr (rL SS.rI) a.2.2, .rg q255 q255s (llRg rB q255 q255s s263), .fr SS.rI q257x, .fr SS.rI q259x, .off, .off, .fr (rL SS.rI) q261l, .off, .off, .off]) q259 (pi_listX (pr_name (pv 8) rfl)) (.same (.same (.same (.same (.same (.same (.same (.same (.same (.same (.same (.same .nil)))))))))))) (fun s263 => (pg_nameX (pg_name (i := 9) sc__law_loud.nd rfl (by first | exact Or.inl rfl | exact Or.inr rfl)))) (fun q264 q264x => (b_llRow (ir := 11) sc__law_loud.nd rfl (by first | exact Or.inl rfl | exact Or.inr rfl) (pv 3) rfl (pr_name (pv 9) rfl) (fun k265 => (b_llRowSet (i := 3) (pv 11) rfl rfl pr_bl (pr_name (pv 5) rfl) (fun l266 x267 => (b_nil (t := (q264.set k265 ((q264.getD k265 []).set l266 x267))) (.same (.same (.same (.same (.same (.same (.same (.same (.same (.off (.same (.off .nil rfl)) rfl)))))))))))))))) (fun s263 => (b_nil (t := s263) (.same (.same (.same (.same (.same (.same (.same (.same (.same (.same (.same (.same .nil))))))))))))))) (b_nil (t := q259) (.same (.same (.same (.same (.same (.same (.same (.same (.same (.same (.same (.same .nil))))))))))))) (fun s268 => (b_nil (t := s268) (.same (.same (.same (.same (.same (.same (.same (.same (.off (.same (.same (.same .nil))) rfl))))))))))) (by intro _ _ h; exact h))))) (b_nil (t := q259) (.same (.same (.same (.same (.same (.same (.same (.same (.same (.same (.same (.same .nil))))))))))))) (fun s269 => (b_nil (t := s269) (.same (.same (.same (.same (.same (.off (.same (.same (.same (.same (.same (.same .nil)))))) rfl)))))))) (by intro _ _ h; exact h))) (fun s258 => (b_nil (t := s258) (.same (.same (.same (.same (.off (.same (.same (.same (.same (.same (.same (.same .nil))))))) rfl))))))))) (fun s256 => (b_frzG 3 fz_ll rfl (b_ret (pr_name (pv 3) rfl)))))))) (fun a Q h => ?_)⟩
  obtain ⟨hz, e, hl, h⟩ := h
  obtain ⟨s, st0, dues⟩ := a
  dsimp only at hz e hl h ⊢
  subst e
  have hn := sz_n hz
  have hN := sz_N hz
  refine lcW_map1 (fun _ => s.map fun _ => false) _ (fun x _ C c => lcW_map1 (fun _ => false) _ (fun _ _ C c => c) c) fun p as _ => ⟨by omega, ?_⟩
  rw [tab_const hl, tab_const (β := Int) (xs := s) rfl false]
  refine forW_inv (fun pre _ st => st = tab (forms s).length fun j => tab s.length fun i => loudN s dues j i && decide (low s j i < pre.length)) ?_ (fun pre m suf st C e hi h1 _ _ _ => ?_) (fun st hst => ?_)
  · refine tab_congr fun j j0 j1 => tab_congr fun i i0 i1 => ?_
    obtain ⟨⟨g1, _⟩, _⟩ := low_facts hz j0 j1 i0 i1
    rw [dF (by simp only [List.length_nil]; omega), Bool.and_false]
  rotate_left
  · show Q st
    rw [hst]
    have : (tab (forms s).length fun j => tab s.length fun i => loudN s dues j i && decide (low s j i < (rng 0 ((dues.length : Int)).toNat).length)) = loudT s dues := by
      rw [loudT_tab]
      refine tab_congr fun j j0 j1 => tab_congr fun i i0 i1 => ?_
      obtain ⟨⟨_, g2, _⟩, _⟩ := low_facts hz j0 j1 i0 i1
      rw [dT (by rw [rng_len]; omega), Bool.and_true]
    rw [this]; exact h
  obtain ⟨em, hm, _⟩ := rng_mem e
  have m0 : 0 ≤ m := by omega
  have m1 : m < (forms s).length := by omega
  refine fun _ => ⟨by omega, forW_inv (fun pre2 _ st2 => st2 = tab (forms s).length fun j => tab s.length fun i => loudN s dues j i && (decide (low s j i < m) || decide (low s j i = m ∧ i < pre2.length))) ?_ (fun pre2 x suf2 st2 C2 e2 hi2 h2 _ _ _ => ?_) (fun st2 hst2 => h1 _ ?_)⟩
  · rw [hi]
    refine tab_congr fun j j0 j1 => tab_congr fun i i0 i1 => ?_
    have e1 : decide (low s j i = m ∧ i < (([] : List Int).length : Int)) = false := dF (by simp only [List.length_nil]; omega)
    rw [e1, Bool.or_false]
    congr 1
    rw [decide_eq_decide]; omega
  rotate_left
  · rw [hst2]
    refine tab_congr fun j j0 j1 => tab_congr fun i i0 i1 => ?_
    congr 1
    rw [Bool.eq_iff_iff, Bool.or_eq_true, decide_eq_true_iff, decide_eq_true_iff, decide_eq_true_iff, rng_len, List.length_append, List.length_cons, List.length_nil]
    omega
  obtain ⟨ex, hx, _⟩ := rng_mem e2
  have x0 : 0 ≤ x := by omega
  have x1 : x < s.length := by omega
  obtain ⟨⟨z0, z1⟩, t0, t1⟩ := st_facts hz x0 x1
  have same : (∀ j : Int, 0 ≤ j → j < (forms s).length → ¬ (loudN s dues j x = true ∧ low s j x = m)) → st2 = tab (forms s).length fun j => tab s.length fun i => loudN s dues j i && (decide (low s j i < m) || decide (low s j i = m ∧ i < (pre2 ++ [x]).length)) := fun hno => by
    rw [hi2]
    refine tab_congr fun j j0 j1 => tab_congr fun i i0 i1 => ?_
    cases hb : loudN s dues j i with
    | false => rfl
    | true =>
      have hq := hno j j0 j1
      rw [Bool.true_and, Bool.true_and, Bool.eq_iff_iff, Bool.or_eq_true, Bool.or_eq_true, decide_eq_true_iff, decide_eq_true_iff, decide_eq_true_iff, List.length_append, List.length_cons, List.length_nil]
      by_cases ei : i = x
      · subst ei
        have : low s j i ≠ m := fun z => hq ⟨hb, z⟩
        omega
      · omega
  refine ⟨_, atI_of 0 x0 (by rw [steps_l hz]; exact x1), ⟨by show stN s x ≠ 0; omega, by show (stN s x).natAbs < _; omega⟩, _, atI_of 0 x0 x1, by show szN s x ≠ 0; omega, ?_⟩
  by_cases hd : dig s m x = 0
  rotate_left
  · refine iF hd (h2 _ (same fun j j0 j1 z => hd ?_))
    obtain ⟨⟨_, _, g3, _⟩, _⟩ := low_facts hz j0 j1 x0 x1
    rw [← z.2]; exact g3
  refine iT hd ⟨_, atI_of 0 x0 x1, by show szN s x < 1000000 ∧ -1000000 < szN s x; omega, ?_⟩
  refine lcW_map1 (fun v => m + v * stN s x) _ (fun v hv C c => ⟨_, atI_of 0 x0 (by rw [steps_l hz]; exact x1), cmulR (by show -(2 ^ 64) < stN s x; omega) (by show stN s x < 2 ^ 64; omega), c⟩) (fun _ => ?_)
  have eline : (rng 0 (s.getD x.toNat 0).toNat).map (fun v => m + v * stN s x) = lineN s m x := (line_self hd).symm
  rw [eline]
  obtain ⟨_, hnd, hin⟩ := low_facts hz m0 m1 x0 x1
  refine lcW_map1 (fun k => !decide (dueN dues k = dueN dues m)) _ (fun k hk C c => ?_) ?_
  · have hk' := (hin k hk).1
    exact ⟨_, atI_of 0 (by omega) (by omega), _, atI_of 0 m0 (by omega), c⟩
  have hany : ((lineN s m x).map fun k => !decide (dueN dues k = dueN dues m)).any id = loudN s dues m x := by
    have hh : (lineN s m x).getD 0 0 = m := by
      rw [line_self hd, show (szN s x).toNat = ((szN s x).toNat - 1) + 1 by omega, rng_cons]
      show m + 0 * stN s x = m
      omega
    unfold loudN sameN
    rw [hh, List.any_map, List.not_all_eq_any_not]
    rfl
  rw [hany]
  cases hq : loudN s dues m x with
  | false =>
    refine bF rfl (h2 _ (same fun j j0 j1 z => ?_))
    have := loud_low hz dues j0 j1 x0 x1
    rw [z.2, hq, z.1] at this
    cases this
  | true =>
    refine bT rfl ?_
    refine forW_inv (fun pre3 _ st3 => st3 = tab (forms s).length fun j => tab s.length fun i => (loudN s dues j i && (decide (low s j i < m) || decide (low s j i = m ∧ i < pre2.length))) || decide (i = x ∧ j ∈ pre3)) ?_ (fun pre3 k suf3 st3 C3 e3 hi3 h3 _ _ _ => ?_) (fun st3 hst3 => h2 _ ?_)
    · rw [hi2]
      exact tab_congr fun j _ _ => tab_congr fun i _ _ => by rw [dF (fun z : i = x ∧ j ∈ ([] : List Int) => by cases z.2), Bool.or_false]
    · obtain ⟨⟨k0, k1⟩, _⟩ := hin k (by rw [e3]; simp)
      refine ⟨k.toNat, ixN_of k0 (by rw [hi3, tab_len]; omega), by rw [hi3, tab_len]; omega, x.toNat, ixN_of x0 (by rw [hi3, tab_get [] k0 k1, tab_len]; omega), h3 _ ?_⟩
      rw [hi3, tab_get [] k0 k1, tab_set _ x0 x1, tab_set _ k0 k1]
      refine tab_congr fun j j0 j1 => ?_
      by_cases ej : j = k
      · subst ej
        rw [if_pos rfl]
        refine tab_congr fun i i0 i1 => ?_
        by_cases ei : i = x
        · rw [if_pos ei, dT (p := i = x ∧ j ∈ pre3 ++ [j]) ⟨ei, by simp⟩, Bool.or_true]
        · rw [if_neg ei, dF (p := i = x ∧ j ∈ pre3 ++ [j]) (fun z => ei z.1), dF (p := i = x ∧ j ∈ pre3) (fun z => ei z.1)]
      · rw [if_neg ej]
        refine tab_congr fun i i0 i1 => ?_
        congr 1
        rw [decide_eq_decide]
        simp [ej]
    · rw [hst3]
      refine tab_congr fun j j0 j1 => tab_congr fun i i0 i1 => ?_
      have hon := on_line hz m0 m1 j0 j1 x0 x1 hd
      rw [Bool.eq_iff_iff, Bool.or_eq_true, Bool.and_eq_true, Bool.and_eq_true, Bool.or_eq_true, Bool.or_eq_true, decide_eq_true_iff, decide_eq_true_iff, decide_eq_true_iff, decide_eq_true_iff, hon, List.length_append, List.length_cons, List.length_nil]
      have hlow := loud_low hz dues j0 j1 x0 x1
      by_cases ei : i = x
      · subst ei
        constructor
        · rintro (⟨a1, a2⟩ | ⟨_, a2⟩)
          · exact ⟨a1, by omega⟩
          · rw [a2, hq] at hlow
            exact ⟨hlow.symm, by omega⟩
        · rintro ⟨a1, a2⟩
          rcases a2 with a2 | a2
          · exact .inl ⟨a1, .inl a2⟩
          · exact .inr ⟨rfl, a2.1⟩
      · constructor
        · rintro (⟨a1, a2⟩ | a2)
          · exact ⟨a1, by omega⟩
          · exact absurd a2.1 ei
        · rintro ⟨a1, a2⟩
          exact .inl ⟨a1, by omega⟩
theorem sc__law_files : FnScope ["sizes", "files", "i", "wider", "file", "v"] ["sizes"] (defScope s__law_files) := ⟨rfl, rfl, rfl, by decide +kernel, rfl, by decide +kernel, by decide +kernel⟩
theorem ok__law_files (B : Bd P w K mg base) : FnG P w K mg base "_law_files" 1 ["sizes"] (SpF (K := K) (fs1 (rL SS.rI)) (rL (SS.rUf (rT (fsC SS.rI (fs1 SS.rI))))) (fun (a : (List Int)) => (fun P => a ∈ SZ ∧ P (files a) : W (List (List (Int × Int)))))) := by
  obtain ⟨fd, D⟩ := B.says.def_ 57 (d := d__law_files) rfl
  refine ⟨_, fd, B.tx.glo__law_files, D.kp, D.bindsN (fun _ _ _ _ _ _ us hl => match us, hl with | [_], _ => rfl), fnok_of (post := fun _ : Unit => ([.off, .off, .off, .off, .off, .off] : List (En K))) D sc__law_files rfl (by decide) fsE_1 (fun a => [.fr (rL SS.rI) a, .off, .off, .off, .off, .off]) (fun _ => rfl) (fun a cdv A outer s H E hr => (b_asg (i := 1) sc__law_files.nd rfl (by first | exact Or.inl rfl | exact Or.inr rfl) (pr_frz (pr_lst (R := (SS.rUf (rT (fsC SS.rI (fs1 SS.rI))))) (pa_consR (pr_tupUF (R := (rT (fsC SS.rI (fs1 SS.rI)))) pa_nilR) pa_nilR))) (fun x270 => (b_for (fun s271 : (List (List (Int × Int))) => [.fr (rL SS.rI) a, .fr (rL (SS.rUf (rT (fsC SS.rI (fs1 SS.rI))))) s271, .off, .off, .off, .off]) x270 (pi_rng1X B.tx.free_range (pa_oneX (pr_cb call_len_seq rc_len B.tx.free_len (by decide +kernel) (pa_oneX (pr_name (pv 0) rfl))))) (.same (.same (.same (.same (.same (.same .nil)))))) (fun s271 => (pg_nameX (pg_name (i := 2) sc__law_files.nd rfl (by first | exact Or.inl rfl | exact Or.inr rfl)))) (fun q272 q272x => (b_asgL (i := 3) sc__law_files.nd rfl (by first | exact Or.inl rfl | exact Or.inr rfl) (pr_ctyL call_list_of rcl_list B.tx.free_list (by decide +kernel) (pa_oneX (pr_name (pv 1) rfl))) (fun q273 q273l => (b_for (fun s274 : (List (List (Int × Int))) => [.fr (rL SS.rI) a, .fr (rL (SS.rUf (rT (fsC SS.rI (fs1 SS.rI))))) q272, .fr SS.rI q272x, .own q273 (SS.rUf (rT (fsC SS.rI (fs1 SS.rI)))) s274, .off, .off]) q273l (pi_listX (pr_name (pv 1) rfl)) (.same (.same (.same (.same (.same (.same .nil)))))) (fun s274 => (pg_nameX (pg_name (i := 4) sc__law_files.nd rfl (by first | exact Or.inl rfl | exact Or.inr rfl)))) (fun q275 q275x => (b_ext (pv 3) rfl (pr_lc (own := [("v", 5)]) sc__law_files.nd (blkOk_by (own := [("v", 5)]) (N := ["sizes", "files", "i", "wider", "file", "v"]) (sc := defScope s__law_files) (by decide +kernel)) (pi_rng1X B.tx.free_range (pa_oneX (pr_ix ix_list r2_ixL (pr_name (pv 0) rfl) (pr_name (pv 2) rfl)))) (fun _ _ _ _ _ => (pg_nameX (pg_name (i := 5) sc__law_files.nd rfl (by first | exact Or.inl rfl | exact Or.inr rfl)))) (fun x276 _ _ _ _ _ => pts_nilX) (fun x276 _ _ _ _ _ => (pr_op op_catF r2_catUF (pr_name (pv 4) rfl) (pr_tupUF (R := (rT (fsC SS.rI (fs1 SS.rI)))) (pa_consR (pr_tup (pa_consX (pr_name (pv 2) rfl) (pa_oneX (pr_name (pv 5) rfl)))) pa_nilR))))) (fun x277 => (b_nil (t := (q275 ++ x277)) (.same (.same (.same (.same (.off (.same .nil) rfl))))))))) (fun s274 => (b_frz 3 rfl (b_asg (i := 1) sc__law_files.nd rfl (by first | exact Or.inl rfl | exact Or.inr rfl) (pr_frz (pr_ctyL call_list_of rcl_list B.tx.free_list (by decide +kernel) (pa_oneX (pr_name (pv 3) rfl)))) (fun x278 => (b_nil (t := x278) (.same (.same (.off (.off (.same (.same .nil)) rfl) rfl)))))))))))) (fun s271 => (b_ret (pr_name (pv 1) rfl))))))) (fun a Q h => ?_)⟩
  obtain ⟨hz, h⟩ := h
  have hn := sz_n hz
  refine fun _ => ⟨by omega, forW_inv (fun pre _ st => st = pre.foldl (fileStep a) [[]]) rfl (fun pre x suf st C e hi h1 _ _ _ => ?_) (fun st hst => ?_)⟩
  rotate_left
  · show Q st
    have e : ((a.length : Int)).toNat = a.length := by omega
    rw [hst, e]
    exact h
  have e' : rng 0 a.length = pre ++ x :: suf := by rw [← e]; congr 1
  obtain ⟨ex, hx, _⟩ := rng_mem e'
  have x0 : 0 ≤ x := by omega
  have x1 : x < a.length := by omega
  obtain ⟨⟨z0, z1⟩, _⟩ := st_facts hz x0 x1
  obtain ⟨b1, b2⟩ := file_pre hz e'
  rw [← hi] at b1 b2
  refine fun _ => forW_inv (fun pre2 _ st2 => st2 = st ++ pre2.flatMap fun f => (rng 0 (szN a x).toNat).map fun v => f ++ [(x, v)]) (by simp) (fun pre2 f suf2 st2 C2 e2 hi2 h2 _ _ _ => ?_) (fun st2 hst2 => h1 _ ?_)
  rotate_left
  · rw [hst2, List.foldl_append, ← hi]; rfl
  have hf := b2 f (by rw [e2]; simp)
  have hl2 : (pre2.flatMap fun f => (rng 0 (szN a x).toNat).map fun v => f ++ [(x, v)]).length ≤ pre2.length * 3 := flat_len _ fun _ _ => by rw [List.length_map, rng_len]; omega
  have hp2 : pre2.length ≤ 81 := by rw [e2, List.length_append] at b1; omega
  refine ⟨_, atI_of 0 x0 x1, by show szN a x < 1000000 ∧ -1000000 < szN a x; omega, lcW_map1 (fun v => f ++ [(x, v)]) _ (fun v _ C c => ⟨small (by simp only [List.length_cons, List.length_nil]; omega), c⟩) ⟨small ?_, h2 _ ?_⟩⟩
  · rw [hi2, List.length_append, List.length_map, rng_len]
    show _ + (szN a x).toNat ≤ _
    omega
  · rw [hi2, List.flatMap_append, List.append_assoc]
    simp only [List.flatMap_cons, List.flatMap_nil, List.append_nil]
    rfl
theorem sc__law_box : FnScope ["sizes", "steps", "file", "known", "numbers", "i", "wider", "at", "v"] ["sizes", "steps", "file"] (defScope s__law_box) := ⟨rfl, rfl, rfl, by decide +kernel, rfl, by decide +kernel, by decide +kernel⟩
theorem ok__law_box (B : Bd P w K mg base) : FnG P w K mg base "_law_box" 1 ["sizes", "steps", "file"] (SpF (K := K) (fsC (rL SS.rI) (fsC (rL SS.rI) (fs1 (SS.rUf (rT (fsC SS.rI (fs1 SS.rI))))))) (rL SS.rI) (fun (a : (List Int) × (List Int) × (List (Int × Int))) => (fun P => a.1 ∈ SZ ∧ a.2.1 = steps a.1 ∧ a.2.2 ∈ files a.1 ∧ P (boxN a.1 a.2.2) : W (List Int)))) := by
  obtain ⟨fd, D⟩ := B.says.def_ 58 (d := d__law_box) rfl
  refine ⟨_, fd, B.tx.glo__law_box, D.kp, D.bindsN (fun _ _ _ _ _ _ us hl => match us, hl with | [_, _, _], _ => rfl), fnok_of (post := fun _ : Unit => ([.off, .off, .off, .off, .off, .off, .off, .off, .off] : List (En K))) D sc__law_box rfl (by decide) (fsE_C (fsE_C fsE_1)) (fun a => [.fr (rL SS.rI) a.1, .fr (rL SS.rI) a.2.1, .fr (SS.rUf (rT (fsC SS.rI (fs1 SS.rI)))) a.2.2, .off, .off, .off, .off, .off, .off]) (fun _ => rfl) (fun a cdv A outer s H E hr => (b_asg (i := 3) sc__law_box.nd rfl (by first | exact Or.inl rfl | exact Or.inr rfl) (pr_dictF (k := kkI) B.tx.free_dict (pr_name (pv 2) rfl)) (fun x279 => (b_asg (i := 4) sc__law_box.nd rfl (by first | exact Or.inl rfl | exact Or.inr rfl) (pr_frz (pr_lst (R := SS.rI) (pa_consR pr_int pa_nilR))) (fun x280 => (b_for (fun s281 : (List Int) => [.fr (rL SS.rI) a.1, .fr (rL SS.rI) a.2.1, .fr (SS.rUf (rT (fsC SS.rI (fs1 SS.rI)))) a.2.2, .fr (rDK kkI SS.rI) x279, .fr (rL SS.rI) s281, .off, .off, .off, .off]) x280 (pi_rng1X B.tx.free_range (pa_oneX (pr_cb call_len_seq rc_len B.tx.free_len (by decide +kernel) (pa_oneX (pr_name (pv 0) rfl))))) (.same (.same (.same (.same (.same (.same (.same (.same (.same .nil))))))))) (fun s281 => (pg_nameX (pg_name (i := 5) sc__law_box.nd rfl (by first | exact Or.inl rfl | exact Or.inr rfl)))) (fun q282 q282x => (b_asgL (i := 6) sc__law_box.nd rfl (by first | exact Or.inl rfl | exact Or.inr rfl) (pr_lst (R := SS.rI) pa_nilR) (fun q283 q283l => (b_for (fun s284 : (List Int) => [.fr (rL SS.rI) a.1, .fr (rL SS.rI) a.2.1, .fr (SS.rUf (rT (fsC SS.rI (fs1 SS.rI)))) a.2.2, .fr (rDK kkI SS.rI) x279, .fr (rL SS.rI) q282, .fr SS.rI q282x, .own q283 SS.rI s284, .off, .off]) q283l (pi_listX (pr_name (pv 4) rfl)) (.same (.same (.same (.same (.same (.same (.same (.same (.same .nil))))))))) (fun s284 => (pg_nameX (pg_name (i := 7) sc__law_box.nd rfl (by first | exact Or.inl rfl | exact Or.inr rfl)))) (fun q285 q285x => (b_ext (pv 6) rfl (pr_lc (own := [("v", 8)]) sc__law_box.nd (blkOk_by (own := [("v", 8)]) (N := ["sizes", "steps", "file", "known", "numbers", "i", "wider", "at", "v"]) (sc := defScope s__law_box) (by decide +kernel)) (pi_rng1X B.tx.free_range (pa_oneX (pr_ix ix_list r2_ixL (pr_name (pv 0) rfl) (pr_name (pv 5) rfl)))) (fun _ _ _ _ _ => (pg_nameX (pg_name (i := 8) sc__law_box.nd rfl (by first | exact Or.inl rfl | exact Or.inr rfl)))) (fun x286 _ _ _ _ _ => (pts_oneX (pt_cmpX (op_eqP hr.units) (r2_eq eqI) (nomark _) (pr_dgetK (hu_of hr) (pr_name (pv 3) rfl) (pr_name (pv 5) rfl) (pr_name (pv 8) rfl) ⟨by rfl, by rfl, by rfl, by rfl⟩) (pr_name (pv 8) rfl)))) (fun x286 _ _ _ _ _ => (pr_op op_add r2_add (pr_name (pv 7) rfl) (pr_op op_mul r2_mul (pr_name (pv 8) rfl) (pr_ix ix_list r2_ixL (pr_name (pv 1) rfl) (pr_name (pv 5) rfl)))))) (fun x287 => (b_nil (t := (q285 ++ x287)) (.same (.same (.same (.same (.same (.same (.same (.off (.same .nil) rfl)))))))))))) (fun s284 => (b_frz 6 rfl (b_asg (i := 4) sc__law_box.nd rfl (by first | exact Or.inl rfl | exact Or.inr rfl) (pr_frz (pr_ctyL call_list_of rcl_list B.tx.free_list (by decide +kernel) (pa_oneX (pr_name (pv 6) rfl)))) (fun x288 => (b_nil (t := x288) (.same (.same (.same (.same (.same (.off (.off (.same (.same .nil)) rfl) rfl))))))))))))))) (fun s281 => (b_ret (pr_name (pv 4) rfl))))))))) (fun a Q h => ?_)⟩
  obtain ⟨hz, e, hf, h⟩ := h
  obtain ⟨s, st0, f⟩ := a
  dsimp only at hz e hf h ⊢
  subst e
  have hn := sz_n hz
  rw [merge_id (file_nodup hz hf)]
  refine fun _ => ⟨by omega, forW_inv (fun pre _ st => st = pre.foldl (boxStep s f) [0]) rfl (fun pre x suf st C e hi h1 _ _ _ => ?_) (fun st hst => ?_)⟩
  rotate_left
  · show Q st
    have e : ((s.length : Int)).toNat = s.length := by omega
    rw [hst, e]
    exact h
  have e' : rng 0 s.length = pre ++ x :: suf := by rw [← e]; congr 1
  obtain ⟨ex, hx, _⟩ := rng_mem e'
  have x0 : 0 ≤ x := by omega
  have x1 : x < s.length := by omega
  obtain ⟨⟨z0, z1⟩, t0, t1⟩ := st_facts hz x0 x1
  have hlen := box_pre hz hf e'
  rw [← hi] at hlen
  refine fun _ => forW_inv (fun pre2 _ st2 => st2 = pre2.flatMap fun q => (valsN s f x).map fun v => q + v * stN s x) rfl (fun pre2 q suf2 st2 C2 e2 hi2 h2 _ _ _ => ?_) (fun st2 hst2 => h1 _ ?_)
  rotate_left
  · rw [hst2, List.foldl_append, ← hi]; rfl
  have hv := vals_len hz f x0 x1
  have hl2 : (pre2.flatMap fun q => (valsN s f x).map fun v => q + v * stN s x).length ≤ pre2.length * 3 := flat_len _ fun _ _ => by rw [List.length_map]; exact hv
  have hp2 : pre2.length ≤ 27 := by rw [e2, List.length_append] at hlen; omega
  refine ⟨_, atI_of 0 x0 x1, by show szN s x < 1000000 ∧ -1000000 < szN s x; omega, lcW_map (fun v => decide ((lookA f x).getD v = v)) (fun v => q + v * stN s x) _ (fun v _ C c => c) (fun v hv _ C c => ⟨_, atI_of 0 x0 (by rw [steps_l hz]; exact x1), cmulR (by show -(2 ^ 64) < stN s x; omega) (by show stN s x < 2 ^ 64; omega), c⟩) ?_⟩
  have hvf := vals_filter hz hf (i := x)
  have hvf' : (rng 0 (s.getD x.toNat 0).toNat).filter (fun v => decide ((lookA f x).getD v = v)) = valsN s f x := hvf
  rw [hvf']
  refine ⟨small (by rw [hi2, List.length_map]; omega), h2 _ ?_⟩
  rw [hi2, List.flatMap_append]
  simp
theorem sc__law_file : FnScope ["form", "fields", "i"] ["form", "fields"] (defScope s__law_file) := ⟨rfl, rfl, rfl, by decide +kernel, rfl, by decide +kernel, by decide +kernel⟩
theorem ok__law_file (B : Bd P w K mg base) : FnG P w K mg base "_law_file" 1 ["form", "fields"] (SpF (K := K) (fsC (SS.rU SS.rI) (fs1 (rL SS.rI))) (SS.rUf (rT (fsC SS.rI (fs1 SS.rI)))) (fun (a : (List Int) × (List Int)) => (fun P => ∃ n : Nat, n ≤ 1000 ∧ a.1.length = n ∧ a.2.Nodup ∧ (∀ i ∈ a.2, 0 ≤ i ∧ i < n) ∧ P (fileOf n a.1 a.2) : W (List (Int × Int))))) := by
  obtain ⟨fd, D⟩ := B.says.def_ 59 (d := d__law_file) rfl
  refine ⟨_, fd, B.tx.glo__law_file, D.kp, D.bindsN (fun _ _ _ _ _ _ us hl => match us, hl with | [_, _], _ => rfl), fnok_of (post := fun _ : Unit => ([.off, .off, .off] : List (En K))) D sc__law_file rfl (by decide) (fsE_C fsE_1) (fun a => [.fr (SS.rU SS.rI) a.1, .fr (rL SS.rI) a.2, .off]) (fun _ => rfl) (fun a cdv A outer s H E hr => (b_ret (pr_cty call_tupleLF rc_tupF B.tx.free_tuple (by decide +kernel) (pa_oneX (pr_frz (pr_lc (own := [("i", 2)]) sc__law_file.nd (blkOk_by (own := [("i", 2)]) (N := ["form", "fields", "i"]) (sc := defScope s__law_file) (by decide +kernel)) (pi_listX (pr_frz (pr_cbL cr_sortedI rcl_sortI B.tx.free_sorted (by decide +kernel) (pa_oneX (pr_name (pv 1) rfl))))) (fun _ _ _ _ _ => (pg_nameX (pg_name (i := 2) sc__law_file.nd rfl (by first | exact Or.inl rfl | exact Or.inr rfl)))) (fun x289 _ _ _ _ _ => pts_nilX) (fun x289 _ _ _ _ _ => (pr_tup (pa_consX (pr_name (pv 2) rfl) (pa_oneX (pr_ix ix_tup r2_ixU (pr_name (pv 0) rfl) (pr_name (pv 2) rfl)))))))))))) (fun a Q h => ?_)⟩
  obtain ⟨n, hn, hl, hnd, hb, h⟩ := h
  obtain ⟨x, K⟩ := a
  dsimp only at hl hnd hb h ⊢
  intro ys hp hs
  have e := sorted_fl hp hs hnd hb
  subst e
  refine lcW_map1 (fun i => (i, vx x i)) _ (fun i hi C c => ?_) h
  obtain ⟨⟨i0, i1⟩, _⟩ := mem_fl.mp hi
  exact ⟨_, atI_of 0 i0 (by rw [hl]; exact i1), c⟩
theorem sc__law_world : FnScope ["sizes", "dues", "steps", "loud", "closed", "file", "numbers", "known", "i", "v", "m"] ["sizes", "dues"] (defScope s__law_world) := ⟨rfl, rfl, rfl, by decide +kernel, rfl, by decide +kernel, by decide +kernel⟩
theorem ok__law_world (B : Bd P w K mg base) : FnG P w K mg base "_law_world" 2 ["sizes", "dues"] (SpF (K := K) (fsC (rL SS.rI) (fs1 (rL SS.rI))) (r_World P w K) (fun (a : (List Int) × (List Int)) => (fun P => a.1 ∈ SZ ∧ a.2.length = (forms a.1).length ∧ P (world a.1 a.2) : W T_World))) := by
  obtain ⟨fd, D⟩ := B.says.def_ 60 (d := d__law_world) rfl
  refine ⟨_, fd, B.tx.glo__law_world, D.kp, D.bindsN (fun _ _ _ _ _ _ us hl => match us, hl with | [_, _], _ => rfl), fnok_of (post := fun _ : Unit => ([.off, .off, .off, .off, .off, .off, .off, .off, .off, .off, .off] : List (En K))) D sc__law_world rfl (by decide) (fsE_C fsE_1) (fun a => [.fr (rL SS.rI) a.1, .fr (rL SS.rI) a.2, .off, .off, .off, .off, .off, .off, .off, .off, .off]) (fun _ => rfl) (fun a cdv A outer s H E hr => (b_asg (i := 2) sc__law_world.nd rfl (by first | exact Or.inl rfl | exact Or.inr rfl) (pr_call (ok__law_steps B) (hr.mono (by decide)) (pa_oneX (pr_name (pv 0) rfl))) (fun x290 => (b_asg (i := 3) sc__law_world.nd rfl (by first | exact Or.inl rfl | exact Or.inr rfl) (pr_call (ok__law_loud B) (hr.mono (by decide)) (pa_consX (pr_name (pv 0) rfl) (pa_consX (pr_name (pv 2) rfl) (pa_oneX (pr_name (pv 1) rfl))))) (fun x291 => (b_newN (i := 4) (kUf (kT (kfC kI (kf1 kI)))) (rL SS.rI) sc__law_world.nd rfl (by first | exact Or.inl rfl | exact Or.inr rfl) (fun d292 => (b_for (fun s293 : (List ((List (Int × Int)) × (List Int))) => [.fr (rL SS.rI) a.1, .fr (rL SS.rI) a.2, .fr (rL SS.rI) x290, .fr (rL (rL rB)) x291, .rg d292 [] (dictRg P w (kUf (kT (kfC kI (kf1 kI)))) (rL SS.rI) d292 s293), .off, .off, .off, .off, .off, .off]) ([] : (List ((List (Int × Int)) × (List Int)))) (pi_listX (pr_call (ok__law_files B) (hr.mono (by decide)) (pa_oneX (pr_name (pv 0) rfl)))) (.same (.same (.same (.same (.same (.same (.same (.same (.same (.same (.same .nil))))))))))) (fun s293 => (pg_nameX (pg_name (i := 5) sc__law_world.nd rfl (by first | exact Or.inl rfl | exact Or.inr rfl)))) (fun q294 q294x => (b_asg (i := 6) sc__law_world.nd rfl (by first | exact Or.inl rfl | exact Or.inr rfl) (pr_call (ok__law_box B) (hr.mono (by decide)) (pa_consX (pr_name (pv 0) rfl) (pa_consX (pr_name (pv 2) rfl) (pa_oneX (pr_name (pv 5) rfl))))) (fun x295 => (b_asg (i := 7) sc__law_world.nd rfl (by first | exact Or.inl rfl | exact Or.inr rfl) (pr_frz (pr_lc (own := [("i", 8), ("v", 9)]) sc__law_world.nd (blkOk_by (own := [("i", 8), ("v", 9)]) (N := ["sizes", "dues", "steps", "loud", "closed", "file", "numbers", "known", "i", "v", "m"]) (sc := defScope s__law_world) (by decide +kernel)) (pi_tupX (pr_to (fun x => x) (pr_name (pv 5) rfl) (fun _ _ _ q => rUf_ok q))) (fun _ _ _ _ _ => (pg_tupX (pgs_consX (pg_name (i := 8) sc__law_world.nd rfl (by first | exact Or.inl rfl | exact Or.inr rfl)) (fun _ => (pgs_oneX (pg_name (i := 9) sc__law_world.nd rfl (by first | exact Or.inl rfl | exact Or.inr rfl))))))) (fun x296 _ _ _ _ _ => pts_nilX) (fun x296 _ _ _ _ _ => (pr_name (pv 8) rfl)))) (fun x297 => (b_setN hr.units (Nat.le_of_ble_eq_true rfl) href_Uf (pv 4) rfl (pr_frz (pr_lc (own := [("i", 8)]) sc__law_world.nd (blkOk_by (own := [("i", 8)]) (N := ["sizes", "dues", "steps", "loud", "closed", "file", "numbers", "known", "i", "v", "m"]) (sc := defScope s__law_world) (by decide +kernel)) (pi_rng1X B.tx.free_range (pa_oneX (pr_cb call_len_seq rc_len B.tx.free_len (by decide +kernel) (pa_oneX (pr_name (pv 0) rfl))))) (fun _ _ _ _ _ => (pg_nameX (pg_name (i := 8) sc__law_world.nd rfl (by first | exact Or.inl rfl | exact Or.inr rfl)))) (fun x298 _ _ _ _ _ => (pts_oneX (PW.pt (pw_orX (pt_cmpX op_in_seq (r2_inL flat_I) (by rfl) (pr_name (pv 8) rfl) (pr_name (pv 7) rfl)) (pw_or1X (pt_notX (pt_valX (pr_cb (cr_any rfl) rc_any B.tx.free_any (by decide +kernel) (pa_oneX (pr_frz (pr_lc (own := [("m", 10)]) sc__law_world.nd (blkOk_BX (blkOk_by (own := [("m", 10)]) (N := ["sizes", "dues", "steps", "loud", "closed", "file", "numbers", "known", "i", "v", "m"]) (by decide +kernel))) (pi_listX (pr_name (pv 6) rfl)) (fun _ _ _ _ _ => (pg_nameX (pg_name (i := 10) sc__law_world.nd rfl (by first | exact Or.inl rfl | exact Or.inr rfl)))) (fun x299 _ _ _ _ _ => pts_nilX) (fun x299 _ _ _ _ _ => (pr_ix ix_list r2_ixL (pr_ix ix_list r2_ixL (pr_name (pv 3) rfl) (pr_name (pv 10) rfl)) (pr_name (pv 8) rfl)))))))))))))) (fun x298 _ _ _ _ _ => (pr_name (pv 8) rfl)))) (pr_name (pv 5) rfl) (fun x300 y301 => (b_nil (t := (putA q294 x300 y301)) (.same (.same (.same (.same (.same (.off (.off (.off (.same (.same (.same .nil))) rfl) rfl) rfl)))))))))))))) (fun s293 => (b_frzG 4 fz_dN rfl (b_ret (pr_rec (prx_cons (pr_name (pv 0) rfl) (prx_cons (pr_call (ok__law_forms B) (hr.mono (by decide)) (pa_oneX (pr_name (pv 0) rfl))) (prx_cons (pr_name (pv 2) rfl) (prx_cons (pr_name (pv 1) rfl) (prx_cons (pr_name (pv 3) rfl) (prx_one (pr_name (pv 4) rfl))))))))))))))))))) (fun a Q h => ?_)⟩
  obtain ⟨hz, hl, h⟩ := h
  obtain ⟨s, dues⟩ := a
  dsimp only at hz hl h ⊢
  have hn := sz_n hz
  have hN := sz_N hz
  obtain ⟨fnd, fl81, _⟩ := fc_files s hz
  refine ⟨hz, hz, rfl, hl, fun d => ⟨hz, forW_inv (fun pre _ st => st = pre.map fun f => (f, settledN s dues f)) rfl (fun pre f suf st C e hi h1 _ _ _ => ?_) (fun st hst => ⟨hz, by rw [hst]; exact h⟩)⟩⟩
  have hf : f ∈ files s := by rw [e]; simp
  have hpl : pre.length ≤ 81 := by rw [e, List.length_append] at fl81; omega
  refine ⟨hz, rfl, hf, lcW_map1 (fun x => x.1) _ (fun _ _ C c => c) fun _ => ⟨by omega, ?_⟩⟩
  refine lcW_map (fun i => decide (i ∈ f.map (·.1)) || !hangF s dues f i) (fun i => i) _ (fun i hi' C c => ?_) (fun _ _ _ C c => c) ?_
  · have hb := rng_in hi'
    have i0 : 0 ≤ i := by omega
    have i1 : i < s.length := by omega
    by_cases hk : i ∈ f.map (·.1)
    · exact iT hk (by rw [dT hk, Bool.true_or] at c; exact c)
    · refine iF hk (lcW_map1 (fun m => loudN s dues m i) _ (fun m hm C' c' => ?_) ?_)
      · obtain ⟨m0, m1⟩ := box_in hz hf hm
        exact ⟨_, tab_atI (T := fun m => tab s.length fun i => loudN s dues m i) m0 m1, _, tab_atI (T := fun i => loudN s dues m i) i0 i1, c'⟩
      · rw [dF hk, Bool.false_or] at c
        rw [List.any_map]
        exact c
  · rw [List.map_id']
    have e2 : ((s.length : Int)).toNat = s.length := by omega
    rw [e2]
    have hkeys : st.map (·.1) = pre := by rw [hi, List.map_map]; exact List.map_id' _
    have hnew : f ∉ st.map (·.1) := by
      rw [hkeys]
      rw [e] at fnd
      exact fun z => (List.nodup_append.mp fnd).2.2 f z f (by simp) rfl
    refine ⟨smallS (by rw [hi, List.length_map]; omega), h1 _ ?_⟩
    rw [put_new hnew, hi, List.map_append]
    rfl
theorem sc__law_drawn_world : FnScope ["pool", "sizes"] ["pool", "sizes"] (defScope s__law_drawn_world) := ⟨rfl, rfl, rfl, by decide +kernel, rfl, by decide +kernel, by decide +kernel⟩
theorem ok__law_drawn_world (B : Bd P w K mg base) : FnG P w K mg base "_law_drawn_world" 5 ["pool", "sizes"] (SpP (K := K) (fs1 (rL SS.rI)) (r_World P w K) (fun (a : (List Int)) => (fun P => a ∈ SZ ∧ ∀ dues, dues.length = (forms a).length → (∀ x ∈ dues, Mid x) → P (world a dues) : W T_World))) := by
  obtain ⟨fd, D⟩ := B.says.def_ 61 (d := d__law_drawn_world) rfl
  refine ⟨_, fd, B.tx.glo__law_drawn_world, D.kp, D.bindsN (fun _ _ _ _ _ _ us hl => match us, hl with | [_, _], _ => rfl), fnok_ofP (post := fun p g (_ : Unit) => ([.pool p g, .off] : List (En K))) D sc__law_drawn_world rfl (by decide) fsE_1 (fun p g a => [.pool p g, .fr (rL SS.rI) a]) (fun _ _ _ => rfl) (fun p g a cdv A outer s H E hr => (b_ret (pr_call (ok__law_world B) (hr.mono (by decide)) (pa_consX (pr_name (pv 1) rfl) (pa_oneX (pr_draw (ok__law_dues B) (hr.mono (by decide)) (pv 0) rfl (pa_consX (pr_name (pv 1) rfl) (pa_oneX (pr_call (ok__law_forms B) (hr.mono (by decide)) (pa_oneX (pr_name (pv 1) rfl))))))))))) (fun p g a Q h => ?_)⟩
  exact ⟨h.1, h.1, rfl, fun d d1 d2 => ⟨h.1, d1, h.2 d d1 d2⟩⟩
theorem sc__law_orders : FnScope ["n", "orders", "k", "wider", "order", "i"] ["n"] (defScope s__law_orders) := ⟨rfl, rfl, rfl, by decide +kernel, rfl, by decide +kernel, by decide +kernel⟩
theorem ok__law_orders (B : Bd P w K mg base) : FnG P w K mg base "_law_orders" 1 ["n"] (SpF (K := K) (fs1 SS.rI) (rL (rL SS.rI)) (fun (a : Int) => (fun P => (0 ≤ a ∧ a ≤ 4) ∧ P (orders a) : W (List (List Int))))) := by
  obtain ⟨fd, D⟩ := B.says.def_ 62 (d := d__law_orders) rfl
  refine ⟨_, fd, B.tx.glo__law_orders, D.kp, D.bindsN (fun _ _ _ _ _ _ us hl => match us, hl with | [_], _ => rfl), fnok_of (post := fun _ : Unit => ([.off, .off, .off, .off, .off, .off] : List (En K))) D sc__law_orders rfl (by decide) fsE_1 (fun a => [.fr SS.rI a, .off, .off, .off, .off, .off]) (fun _ => rfl) (fun a cdv A outer s H E hr => (b_asg (i := 1) sc__law_orders.nd rfl (by first | exact Or.inl rfl | exact Or.inr rfl) (pr_frz (pr_lst (R := (rL SS.rI)) (pa_consR (pr_frz (pr_lst (R := SS.rI) pa_nilR)) pa_nilR))) (fun x302 => (b_for (fun s303 : (List (List Int)) => [.fr SS.rI a, .fr (rL (rL SS.rI)) s303, .off, .off, .off, .off]) x302 (pi_rng1X B.tx.free_range (pa_oneX (pr_name (pv 0) rfl))) (.same (.same (.same (.same (.same (.same .nil)))))) (fun s303 => (pg_nameX (pg_name (i := 2) sc__law_orders.nd rfl (by first | exact Or.inl rfl | exact Or.inr rfl)))) (fun q304 q304x => (b_asgL (i := 3) sc__law_orders.nd rfl (by first | exact Or.inl rfl | exact Or.inr rfl) (pr_lst (R := (rL SS.rI)) pa_nilR) (fun q305 q305l => (b_for (fun s306 : (List (List Int)) => [.fr SS.rI a, .fr (rL (rL SS.rI)) q304, .fr SS.rI q304x, .own q305 (rL SS.rI) s306, .off, .off]) q305l (pi_listX (pr_name (pv 1) rfl)) (.same (.same (.same (.same (.same (.same .nil)))))) (fun s306 => (pg_nameX (pg_name (i := 4) sc__law_orders.nd rfl (by first | exact Or.inl rfl | exact Or.inr rfl)))) (fun q307 q307x => (b_ext (pv 3) rfl (pr_lc (own := [("i", 5)]) sc__law_orders.nd (blkOk_by (own := [("i", 5)]) (N := ["n", "orders", "k", "wider", "order", "i"]) (sc := defScope s__law_orders) (by decide +kernel)) (pi_rng1X B.tx.free_range (pa_oneX (pr_name (pv 0) rfl))) (fun _ _ _ _ _ => (pg_nameX (pg_name (i := 5) sc__law_orders.nd rfl (by first | exact Or.inl rfl | exact Or.inr rfl)))) (fun x308 _ _ _ _ _ => (pts_oneX (pt_cmpX op_notIn_seq (r2_ninL flat_I) (by rfl) (pr_name (pv 5) rfl) (pr_name (pv 4) rfl)))) (fun x308 _ _ _ _ _ => (pr_frz (pr_catL (pr_name (pv 4) rfl) (pr_frz (pr_lst (R := SS.rI) (pa_consR (pr_name (pv 5) rfl) pa_nilR))))))) (fun x309 => (b_nil (t := (q307 ++ x309)) (.same (.same (.same (.same (.off (.same .nil) rfl))))))))) (fun s306 => (b_frz 3 rfl (b_asg (i := 1) sc__law_orders.nd rfl (by first | exact Or.inl rfl | exact Or.inr rfl) (pr_frz (pr_ctyL call_list_of rcl_list B.tx.free_list (by decide +kernel) (pa_oneX (pr_name (pv 3) rfl)))) (fun x310 => (b_nil (t := x310) (.same (.same (.off (.off (.same (.same .nil)) rfl) rfl)))))))))))) (fun s303 => (b_ret (pr_name (pv 1) rfl))))))) (fun a Q h => ?_)⟩
  obtain ⟨⟨a0, a4⟩, h⟩ := h
  have hfo := fc_orders ⟨a.toNat, by omega⟩
  have ea : ((a.toNat : Nat) : Int) = a := by omega
  dsimp only at hfo
  rw [ea] at hfo
  obtain ⟨ho1, _⟩ := hfo
  refine ⟨by omega, forW_inv (fun pre _ st => st = (List.range pre.length).foldl (fun os _ => wideOrd os a) [[]]) rfl (fun pre x suf st C e hi h1 _ _ _ => ?_) (fun st hst => ?_)⟩
  rotate_left
  · show Q st
    rw [hst, rng_len]; exact h
  obtain ⟨_, hx, _⟩ := rng_mem e
  obtain ⟨b1, b2⟩ := ho1 ⟨pre.length, by omega⟩ (by show pre.length ≤ a.toNat; omega)
  dsimp only at b1 b2
  rw [← hi] at b1 b2
  refine fun _ => forW_inv (fun pre2 _ st2 => st2 = pre2.flatMap fun o => ((rng 0 a.toNat).filter fun i => decide (i ∉ o)).map fun i => o ++ [i]) rfl (fun pre2 o suf2 st2 C2 e2 hi2 h2 _ _ _ => ?_) (fun st2 hst2 => h1 _ ?_)
  rotate_left
  · rw [hst2, List.length_append, List.length_cons, List.length_nil, List.range_succ, List.foldl_append, ← hi]; rfl
  have hol := b2 o (by rw [e2]; simp)
  have hfl : ∀ o : List Int, ((rng 0 a.toNat).filter fun i => decide (i ∉ o)).length ≤ 4 := fun o => by
    have := List.length_filter_le (fun i => decide (i ∉ o)) (rng 0 a.toNat)
    rw [rng_len] at this
    omega
  have hl2 : (pre2.flatMap fun o => ((rng 0 a.toNat).filter fun i => decide (i ∉ o)).map fun i => o ++ [i]).length ≤ pre2.length * 4 := flat_len _ fun o _ => by rw [List.length_map]; exact hfl o
  have hp2 : pre2.length ≤ 24 := by rw [e2, List.length_append] at b1; omega
  refine ⟨by omega, lcW_map (fun i => decide (i ∉ o)) (fun i => o ++ [i]) _ (fun i _ C c => by rw [decide_not] at c; exact c) (fun i _ _ C c => ⟨small (by simp only [List.length_cons, List.length_nil]; omega), c⟩) ⟨small ?_, h2 _ ?_⟩⟩
  · rw [hi2, List.length_map]
    have := hfl o
    omega
  · rw [hi2, List.flatMap_append]
    simp
theorem sc__law_subsets : FnScope ["n", "sets", "i", "one"] ["n"] (defScope s__law_subsets) := ⟨rfl, rfl, rfl, by decide +kernel, rfl, by decide +kernel, by decide +kernel⟩
theorem ok__law_subsets (B : Bd P w K mg base) : FnG P w K mg base "_law_subsets" 1 ["n"] (SpF (K := K) (fs1 SS.rI) (rL (rL SS.rI)) (fun (a : Int) => (fun P => ∃ n : Nat, n ≤ 4 ∧ a = (n : Int) ∧ P (partsOf (rng 0 n)) : W (List (List Int))))) := by
  obtain ⟨fd, D⟩ := B.says.def_ 63 (d := d__law_subsets) rfl
  refine ⟨_, fd, B.tx.glo__law_subsets, D.kp, D.bindsN (fun _ _ _ _ _ _ us hl => match us, hl with | [_], _ => rfl), fnok_of (post := fun _ : Unit => ([.off, .off, .off, .off] : List (En K))) D sc__law_subsets rfl (by decide) fsE_1 (fun a => [.fr SS.rI a, .off, .off, .off]) (fun _ => rfl) (fun a cdv A outer s H E hr => (b_asg (i := 1) sc__law_subsets.nd rfl (by first | exact Or.inl rfl | exact Or.inr rfl) (pr_frz (pr_lst (R := (rL SS.rI)) (pa_consR (pr_frz (pr_lst (R := SS.rI) pa_nilR)) pa_nilR))) (fun x311 => (b_for (fun s312 : (List (List Int)) => [.fr SS.rI a, .fr (rL (rL SS.rI)) s312, .off, .off]) x311 (pi_rng1X B.tx.free_range (pa_oneX (pr_name (pv 0) rfl))) (.same (.same (.same (.same .nil)))) (fun s312 => (pg_nameX (pg_name (i := 2) sc__law_subsets.nd rfl (by first | exact Or.inl rfl | exact Or.inr rfl)))) (fun q313 q313x => (b_asg (i := 1) sc__law_subsets.nd rfl (by first | exact Or.inl rfl | exact Or.inr rfl) (pr_frz (pr_catL (pr_name (pv 1) rfl) (pr_frz (pr_lc (own := [("one", 3)]) sc__law_subsets.nd (blkOk_by (own := [("one", 3)]) (N := ["n", "sets", "i", "one"]) (sc := defScope s__law_subsets) (by decide +kernel)) (pi_listX (pr_name (pv 1) rfl)) (fun _ _ _ _ _ => (pg_nameX (pg_name (i := 3) sc__law_subsets.nd rfl (by first | exact Or.inl rfl | exact Or.inr rfl)))) (fun x314 _ _ _ _ _ => pts_nilX) (fun x314 _ _ _ _ _ => (pr_frz (pr_catL (pr_name (pv 3) rfl) (pr_frz (pr_lst (R := SS.rI) (pa_consR (pr_name (pv 2) rfl) pa_nilR)))))))))) (fun x315 => (b_nil (t := x315) (.same (.same (.off (.same .nil) rfl))))))) (fun s312 => (b_ret (pr_name (pv 1) rfl))))))) (fun a Q h => ?_)⟩
  obtain ⟨n, hn, e, h⟩ := h
  subst e
  have en : ((n : Int)).toNat = n := by omega
  rw [en]
  have hl : (rng 0 n).length ≤ 4 := by rw [rng_len]; exact hn
  refine ⟨by omega, ?_⟩
  refine forW_inv (fun pre _ st => st = partsOf pre ∧ pre.length ≤ 4) ⟨rfl, by simp⟩ (fun pre x suf st C e hi h1 _ _ _ => ?_) (fun st hst => ?_)
  rotate_left
  · show Q st
    rw [hst.1]; exact h
  obtain ⟨hi, hp4⟩ := hi
  have hpl : pre.length < 4 := by
    have := congrArg List.length e
    rw [List.length_append, List.length_cons] at this
    omega
  have hst : st.length ≤ 16 := by
    rw [hi, parts_count]
    exact Nat.le_trans (Nat.pow_le_pow_right (by omega) (show pre.length ≤ 4 by omega)) (by decide)
  refine lcW_map1 (fun o => o ++ [x]) _ (fun o ho C c => ⟨small ?_, c⟩) ⟨small (by rw [List.length_map]; omega), h1 _ ⟨?_, ?_⟩⟩
  · rw [hi] at ho
    have := (parts_iff.mp ho).length_le
    simp only [List.length_cons, List.length_nil]
    omega
  · rw [hi]
    unfold partsOf
    rw [List.foldl_append]
    rfl
  · rw [List.length_append, List.length_cons, List.length_nil]; omega
theorem sc__law_opened : FnScope ["world", "form", "order", "found", "i"] ["world", "form", "order"] (defScope s__law_opened) := ⟨rfl, rfl, rfl, by decide +kernel, rfl, by decide +kernel, by decide +kernel⟩
theorem ok__law_opened (B : Bd P w K mg base) : FnG P w K mg base "_law_opened" 2 ["world", "form", "order"] (SpF (K := K) (fsC (r_World P w K) (fsC (SS.rU SS.rI) (fs1 (rL SS.rI)))) (rL SS.rI) (fun (a : T_World × (List Int) × (List Int)) => (fun P => ∃ s dues, a.1 = world s dues ∧ s ∈ SZ ∧ dues.length = (forms s).length ∧ a.2.1 ∈ forms s ∧ a.2.2.Nodup ∧ (∀ i ∈ a.2.2, 0 ≤ i ∧ i < s.length) ∧ P (opnd s dues a.2.1 a.2.2) : W (List Int)))) := by
  obtain ⟨fd, D⟩ := B.says.def_ 64 (d := d__law_opened) rfl
  refine ⟨_, fd, B.tx.glo__law_opened, D.kp, D.bindsN (fun _ _ _ _ _ _ us hl => match us, hl with | [_, _, _], _ => rfl), fnok_of (post := fun _ : Unit => ([.off, .off, .off, .off, .off] : List (En K))) D sc__law_opened rfl (by decide) (fsE_C (fsE_C fsE_1)) (fun a => [.fr (r_World P w K) a.1, .fr (SS.rU SS.rI) a.2.1, .fr (rL SS.rI) a.2.2, .off, .off]) (fun _ => rfl) (fun a cdv A outer s H E hr => (b_asgL (i := 3) sc__law_opened.nd rfl (by first | exact Or.inl rfl | exact Or.inr rfl) (pr_lst (R := SS.rI) pa_nilR) (fun q316 q316l => (b_for (fun s317 : (List Int) => [.fr (r_World P w K) a.1, .fr (SS.rU SS.rI) a.2.1, .fr (rL SS.rI) a.2.2, .own q316 SS.rI s317, .off]) q316l (pi_listX (pr_name (pv 2) rfl)) (.same (.same (.same (.same (.same .nil))))) (fun s317 => (pg_nameX (pg_name (i := 4) sc__law_opened.nd rfl (by first | exact Or.inl rfl | exact Or.inr rfl)))) (fun q318 q318x => (b_if (fun s320 : (List Int) => [.fr (r_World P w K) a.1, .fr (SS.rU SS.rI) a.2.1, .fr (rL SS.rI) a.2.2, .own q316 SS.rI s320, .fr SS.rI q318x]) (pt_thaw (i := 3) rfl (pt_cmpX op_notIn_seq (r2_ninL flat_I) (by rfl) (pr_name (pv 4) rfl) (pr_getN hr.units (Nat.le_of_ble_eq_true rfl) href_Uf (pr_rget (ks := ["sizes", "forms", "steps", "dues", "loud", "settled"]) 5 (hu_of hr) (pr_name (pv 0) rfl) (fsAt_s (fsAt_s (fsAt_s (fsAt_s (fsAt_s fsAt_1))))) (by decide +kernel)) (pr_call (ok__law_file B) (hr.mono (by decide)) (pa_consX (pr_name (pv 1) rfl) (pa_oneX (pr_name (pv 3) rfl))))))) (b_app (pv 3) rfl (pr_name (pv 4) rfl) (fun x319 => (b_nil (t := (q318 ++ [x319])) (.same (.same (.same (.same (.same .nil)))))))) (b_nil (t := q318) (.same (.same (.same (.same (.same .nil)))))) (fun s320 => (b_nil (t := s320) (.same (.same (.same (.same (.off .nil rfl))))))) (by intro _ _ h; exact h))) (fun s317 => (b_frz 3 rfl (b_ret (pr_name (pv 3) rfl)))))))) (fun a Q h => ?_)⟩
  obtain ⟨s, dues, e, hz, hl, ht, hnd, hb, h⟩ := h
  obtain ⟨a1, t, row⟩ := a
  dsimp only at e ht hnd hb h ⊢
  subst e
  have hn := sz_n hz
  refine fun _ => forW_inv (fun pre _ st => st = opnd s dues t pre) rfl (fun pre x suf st C e hi h1 _ _ _ => ?_) (fun st hst => by show Q st; rw [hst]; exact h)
  subst hi
  obtain ⟨x0, x1⟩ := hb x (by rw [e]; simp)
  have hbp : ∀ i ∈ pre, 0 ≤ i ∧ i < (s.length : Int) := fun i hi => hb i (by rw [e]; simp [hi])
  have hndp : pre.Nodup := by rw [e] at hnd; exact (List.nodup_append.mp hnd).1
  have hnew : x ∉ opnd s dues t pre := op_new (suf := suf) (by rw [← e]; exact hnd)
  have hlen : (opnd s dues t pre).length ≤ 4 := by
    have h1 := op_len (s := s) (dues := dues) (t := t) (row := pre)
    have h2 := len_in hnd hb
    rw [e, List.length_append] at h2
    omega
  refine ⟨s.length, by omega, (inF hz ht).1, (opnd_sl s dues t pre).nodup hndp, op_in hbp, settledN s dues (fileOf s.length t (opnd s dues t pre)), look_map (fileOf_in hz ht _), ?_⟩
  have hmem : x ∈ settledN s dues (fileOf s.length t (opnd s dues t pre)) ↔ ¬ hangB s dues t (opnd s dues t pre) x = true := by
    rw [stlN_iff hz ht, hang_iff hz ht x0 x1]
    exact ⟨fun z => z.2.resolve_left hnew, fun z => ⟨⟨x0, x1⟩, .inr z⟩⟩
  by_cases hq : hangB s dues t (opnd s dues t pre) x = true
  · refine nT (fun z => hmem.mp z hq) ⟨fun _ => smallS (by omega), h1 _ ?_⟩
    rw [opnd_snoc]
    unfold opStep
    rw [if_pos ⟨hq, hnew⟩]
  · refine nF (hmem.mpr hq) (h1 _ ?_)
    rw [opnd_snoc]
    unfold opStep
    rw [if_neg (fun z => hq z.1)]
theorem sc__law_book : FnScope ["world"] ["world"] (defScope s__law_book) := ⟨rfl, rfl, rfl, by decide +kernel, rfl, by decide +kernel, by decide +kernel⟩
theorem ok__law_book (B : Bd P w K mg base) : FnG P w K mg base "_law_book" 4 ["world"] (SpF (K := K) (fs1 (r_World P w K)) (r_Book K) (fun (a : T_World) => (fun P => ∃ s dues, a = world s dues ∧ s ∈ SZ ∧ dues.length = (forms s).length ∧ (∀ x ∈ dues, Mid x) ∧ P (spc s, dues) : W T_Book))) := by
  obtain ⟨fd, D⟩ := B.says.def_ 65 (d := d__law_book) rfl
  refine ⟨_, fd, B.tx.glo__law_book, D.kp, D.bindsN (fun _ _ _ _ _ _ us hl => match us, hl with | [_], _ => rfl), fnok_of (post := fun _ : Unit => ([.off] : List (En K))) D sc__law_book rfl (by decide) fsE_1 (fun a => [.fr (r_World P w K) a]) (fun _ => rfl) (fun a cdv A outer s H E hr => (b_ret (pr_make (ok_Book___init__ B) (hr.mono (by decide)) (pa_consX (pr_make (ok_Space___init__ B) (hr.mono (by decide)) (pa_oneX (pr_frz (pr_ctyL call_list_of rcl_list B.tx.free_list (by decide +kernel) (pa_oneX (pr_rget (ks := ["sizes", "forms", "steps", "dues", "loud", "settled"]) 0 (hu_of hr) (pr_name (pv 0) rfl) fsAt_0 (by decide +kernel))))))) (pa_oneX (pr_frz (pr_ctyL call_list_of rcl_list B.tx.free_list (by decide +kernel) (pa_oneX (pr_rget (ks := ["sizes", "forms", "steps", "dues", "loud", "settled"]) 3 (hu_of hr) (pr_name (pv 0) rfl) (fsAt_s (fsAt_s (fsAt_s fsAt_0))) (by decide +kernel)))))))))) (fun a Q h => ?_)⟩
  obtain ⟨s, dues, e, hz, hl, hm, h⟩ := h
  subst e
  exact ⟨hz, fun d hd => by have := hm d hd; unfold Mid at this; unfold Big; omega, hl, h⟩
theorem sc__law_case : FnScope ["pool", "world"] ["pool"] (defScope s__law_case) := ⟨rfl, rfl, rfl, by decide +kernel, rfl, by decide +kernel, by decide +kernel⟩
theorem ok__law_case (B : Bd P w K mg base) : FnG P w K mg base "_law_case" 6 ["pool"] (SpP (K := K) fsN (rTl (fsC (r_World P w K) (fsC (r_Book K) (fs1 (SS.rU SS.rI))))) (fun (a : Unit) => (fun P => ∀ s dues t, s ∈ SZ → dues.length = (forms s).length → (∀ x ∈ dues, Mid x) → t ∈ forms s → P (world s dues, (spc s, dues), t) : W (T_World × T_Book × (List Int))))) := by
  obtain ⟨fd, D⟩ := B.says.def_ 66 (d := d__law_case) rfl
  refine ⟨_, fd, B.tx.glo__law_case, D.kp, D.bindsN (fun _ _ _ _ _ _ us hl => match us, hl with | [_], _ => rfl), fnok_ofP (post := fun p g (_ : Unit) => ([.pool p g, .off] : List (En K))) D sc__law_case rfl (by decide) fsE_N (fun p g a => [.pool p g, .off]) (fun _ _ _ => rfl) (fun p g a cdv A outer s H E hr => (b_asg (i := 1) sc__law_case.nd rfl (by first | exact Or.inl rfl | exact Or.inr rfl) (pr_draw (ok__law_drawn_world B) (hr.mono (by decide)) (pv 0) rfl (pa_oneX (pr_draw (ok__law_sizes B) (hr.mono (by decide)) (pv 0) rfl pa_nilX))) (fun x321 => (b_ret (pr_lstT (pa_consX (pr_name (pv 1) rfl) (pa_consX (pr_call (ok__law_book B) (hr.mono (by decide)) (pa_oneX (pr_name (pv 1) rfl))) (pa_oneX (pr_ix ix_list r2_ixL (pr_rget (ks := ["sizes", "forms", "steps", "dues", "loud", "settled"]) 1 (hu_of hr) (pr_name (pv 1) rfl) (fsAt_s fsAt_0) (by decide +kernel)) (pr_draw (ok__law_below B) (hr.mono (by decide)) (pv 0) rfl (pa_oneX (pr_cb call_len_seq rc_len B.tx.free_len (by decide +kernel) (pa_oneX (pr_rget (ks := ["sizes", "forms", "steps", "dues", "loud", "settled"]) 1 (hu_of hr) (pr_name (pv 1) rfl) (fsAt_s fsAt_0) (by decide +kernel))))))))))))))) (fun p g a Q h => ?_)⟩
  refine fun s hz => ⟨hz, fun dues hd hm => ⟨s, dues, rfl, hz, hd, hm, fun _ => ?_⟩⟩
  have hN := sz_N hz
  refine ⟨by show 0 < ((forms s).length : Int) ∧ ((forms s).length : Int) < 1000000; omega, fun r r0 r1 => ?_⟩
  have r1' : r < ((forms s).length : Int) := r1
  exact ⟨_, atI_of [] r0 r1', h s dues _ hz hd hm (by rw [List.getD_eq_getElem?_getD, List.getElem?_eq_getElem (by omega)]; exact List.getElem_mem _)⟩
theorem sc__law_and_case : FnScope ["pool", "sizes", "forms", "place", "world", "m"] ["pool"] (defScope s__law_and_case) := ⟨rfl, rfl, rfl, by decide +kernel, rfl, by decide +kernel, by decide +kernel⟩
theorem ok__law_and_case (B : Bd P w K mg base) : FnG P w K mg base "_law_and_case" 5 ["pool"] (SpP (K := K) fsN (rTl (fsC (r_World P w K) (fsC (r_Book K) (fs1 (SS.rU SS.rI))))) (fun (a : Unit) => (fun P => ∀ s dues t, s ∈ SZ → dues.length = (forms s).length → (∀ x ∈ dues, Mid x) → t ∈ forms s → P (world s dues, (spc s, dues), t) : W (T_World × T_Book × (List Int))))) := by
  obtain ⟨fd, D⟩ := B.says.def_ 67 (d := d__law_and_case) rfl
  refine ⟨_, fd, B.tx.glo__law_and_case, D.kp, D.bindsN (fun _ _ _ _ _ _ us hl => match us, hl with | [_], _ => rfl), fnok_ofP (post := fun p g (_ : Unit) => ([.pool p g, .off, .off, .off, .off, .off] : List (En K))) D sc__law_and_case rfl (by decide) fsE_N (fun p g a => [.pool p g, .off, .off, .off, .off, .off]) (fun _ _ _ => rfl) (fun p g a cdv A outer s H E hr => (b_asg (i := 1) sc__law_and_case.nd rfl (by first | exact Or.inl rfl | exact Or.inr rfl) (pr_draw (ok__law_sizes B) (hr.mono (by decide)) (pv 0) rfl pa_nilX) (fun x322 => (b_asg (i := 2) sc__law_and_case.nd rfl (by first | exact Or.inl rfl | exact Or.inr rfl) (pr_call (ok__law_forms B) (hr.mono (by decide)) (pa_oneX (pr_name (pv 1) rfl))) (fun x323 => (b_asg (i := 3) sc__law_and_case.nd rfl (by first | exact Or.inl rfl | exact Or.inr rfl) (pr_draw (ok__law_below B) (hr.mono (by decide)) (pv 0) rfl (pa_oneX (pr_cb call_len_seq rc_len B.tx.free_len (by decide +kernel) (pa_oneX (pr_name (pv 2) rfl))))) (fun x324 => (b_asg (i := 4) sc__law_and_case.nd rfl (by first | exact Or.inl rfl | exact Or.inr rfl) (pr_call (ok__law_world B) (hr.mono (by decide)) (pa_consX (pr_name (pv 1) rfl) (pa_oneX (pr_frz (pr_lc (own := [("m", 5)]) sc__law_and_case.nd (blkOk_by (own := [("m", 5)]) (N := ["pool", "sizes", "forms", "place", "world", "m"]) (sc := defScope s__law_and_case) (by decide +kernel)) (pi_rng1X B.tx.free_range (pa_oneX (pr_cb call_len_seq rc_len B.tx.free_len (by decide +kernel) (pa_oneX (pr_name (pv 2) rfl))))) (fun _ _ _ _ _ => (pg_nameX (pg_name (i := 5) sc__law_and_case.nd rfl (by first | exact Or.inl rfl | exact Or.inr rfl)))) (fun x325 _ _ _ _ _ => pts_nilX) (fun x325 _ _ _ _ _ => (pr_cty call_int1 rc_intB B.tx.free_int (by decide +kernel) (pa_oneX (pr_cmp (op_eqP hr.units) (r2_eq eqI) (nomark _) (pr_name (pv 5) rfl) (pr_name (pv 3) rfl)))))))))) (fun x326 => (b_ret (pr_lstT (pa_consX (pr_name (pv 4) rfl) (pa_consX (pr_call (ok__law_book B) (hr.mono (by decide)) (pa_oneX (pr_name (pv 4) rfl))) (pa_oneX (pr_ix ix_list r2_ixL (pr_name (pv 2) rfl) (pr_name (pv 3) rfl)))))))))))))))) (fun p g a Q h => ?_)⟩
  refine fun s hz => ⟨hz, fun _ => ?_⟩
  have hN := sz_N hz
  refine ⟨by omega, fun r r0 r1 _ => ⟨by omega, ?_⟩⟩
  refine lcW_map1 (fun m => if decide (m = r) = true then 1 else 0) _ (fun _ _ C c => c) ?_
  have hl : ((rng 0 ((forms s).length : Int).toNat).map fun m => if decide (m = r) = true then (1 : Int) else 0).length = (forms s).length := by rw [List.length_map, rng_len]; omega
  refine ⟨hz, hl, s, _, rfl, hz, hl, fun x hx => ?_, _, atI_of [] r0 r1, h s _ _ hz hl ?_ (by rw [List.getD_eq_getElem?_getD, List.getElem?_eq_getElem (by omega)]; exact List.getElem_mem _)⟩
  all_goals try intro x hx
  all_goals
    obtain ⟨m, _, em⟩ := List.mem_map.mp hx
    have := bit01 (decide (m = r))
    subst em
    exact ⟨by omega, by omega⟩
theorem sc__law_ints : FnScope ["told", "one"] ["told"] (defScope s__law_ints) := ⟨rfl, rfl, rfl, by decide +kernel, rfl, by decide +kernel, by decide +kernel⟩
theorem ok__law_ints (B : Bd P w K mg base) : FnG P w K mg base "_law_ints" 1 ["told"] (SpF (K := K) (fs1 (rO (rL SS.rI))) rB (fun (a : (Option (List Int))) => (fun P => ∃ L, a = some L ∧ L.length ≤ 1000 ∧ P true : W Bool))) := by
  obtain ⟨fd, D⟩ := B.says.def_ 68 (d := d__law_ints) rfl
  refine ⟨_, fd, B.tx.glo__law_ints, D.kp, D.bindsN (fun _ _ _ _ _ _ us hl => match us, hl with | [_], _ => rfl), fnok_of (post := fun _ : Unit => ([.off, .off] : List (En K))) D sc__law_ints rfl (by decide) fsE_1 (fun a => [.fr (rO (rL SS.rI)) a, .off]) (fun _ => rfl) (fun a cdv A outer s H E hr => (b_ret (pr_andV (pr_isiD kit_L B.tx.free_isinstance B.tx.free_list (pr_to (fun x => ((eqO (eqL eqI) enn_L) : Eqp (rO (rL SS.rI))).enc x) (pr_name (pv 0) rfl) (fun G v x r => ((eqO (eqL eqI) enn_L) : Eqp (rO (rL SS.rI))).dp G v x r)) (by decide +kernel)) (pr_oneV (pr_cb (cr_all rfl) rc_all B.tx.free_all (by decide +kernel) (pa_oneX (pr_frz (pr_lc (own := [("one", 1)]) sc__law_ints.nd (blkOk_by (own := [("one", 1)]) (N := ["told", "one"]) (sc := defScope s__law_ints) (by decide +kernel)) (pi_listX (pr_get (pr_name (pv 0) rfl))) (fun _ _ _ _ _ => (pg_nameX (pg_name (i := 1) sc__law_ints.nd rfl (by first | exact Or.inl rfl | exact Or.inr rfl)))) (fun x327 _ _ _ _ _ => pts_nilX) (fun x327 _ _ _ _ _ => (pr_andV (pr_isiD kit_In B.tx.free_isinstance B.tx.free_int (pr_to (fun x => (eqI : Eqp SS.rI).enc x) (pr_name (pv 1) rfl) (fun G v x r => (eqI : Eqp SS.rI).dp G v x r)) (by decide +kernel)) (pr_oneV (pr_notV (pr_isiD kit_Bl B.tx.free_isinstance B.tx.free_bool (pr_to (fun x => (eqI : Eqp SS.rI).enc x) (pr_name (pv 1) rfl) (fun G v x r => (eqI : Eqp SS.rI).dp G v x r)) (by decide +kernel)))))))))))))) (fun a Q h => ?_)⟩
  obtain ⟨L, e, hl, h⟩ := h
  subst e
  refine bT rfl ⟨L, rfl, lcW_map1 (fun _ => true) _ (fun x _ C c => bT rfl c) ?_⟩
  have : (L.map fun _ => true).all id = true := by
    rw [List.all_eq_true]
    intro b hb
    obtain ⟨_, _, e⟩ := List.mem_map.mp hb
    rw [← e]; rfl
  show Q _
  rw [this]; exact h
theorem sc__law_pair : FnScope ["told", "word"] ["told", "word"] (defScope s__law_pair) := ⟨rfl, rfl, rfl, by decide +kernel, rfl, by decide +kernel, by decide +kernel⟩
theorem ok__law_pair (B : Bd P w K mg base) : FnG P w K mg base "_law_pair" 1 ["told", "word"] (SpF (K := K) (fsC (rT (fsC rS (fs1 (rO (rL SS.rI))))) (fs1 rS)) rB (fun (a : (Str × (Option (List Int))) × Str) => (fun P => P (decide (a.1.1 = a.2)) : W Bool))) := by
  obtain ⟨fd, D⟩ := B.says.def_ 69 (d := d__law_pair) rfl
  refine ⟨_, fd, B.tx.glo__law_pair, D.kp, D.bindsN (fun _ _ _ _ _ _ us hl => match us, hl with | [_, _], _ => rfl), fnok_of (post := fun _ : Unit => ([.off, .off] : List (En K))) D sc__law_pair rfl (by decide) (fsE_C fsE_1) (fun a => [.fr (rT (fsC rS (fs1 (rO (rL SS.rI))))) a.1, .fr rS a.2]) (fun _ => rfl) (fun a cdv A outer s H E hr => (b_ret (pr_andV (pr_isiD kit_T B.tx.free_isinstance B.tx.free_tuple (pr_to (fun x => ((eqT (eqfC eqS (eqf1 (eqO (eqL eqI) enn_L)))) : Eqp (rT (fsC rS (fs1 (rO (rL SS.rI)))))).enc x) (pr_name (pv 0) rfl) (fun G v x r => ((eqT (eqfC eqS (eqf1 (eqO (eqL eqI) enn_L)))) : Eqp (rT (fsC rS (fs1 (rO (rL SS.rI)))))).dp G v x r)) (by decide +kernel)) (pr_andV (pr_cmp (op_eqP hr.units) (r2_eq eqI) (nomark _) (pr_cb call_len_seq (rc_lenTt (F := (fsC rS (fs1 (rO (rL SS.rI)))))) B.tx.free_len (by decide +kernel) (pa_oneX (pr_name (pv 0) rfl))) pr_int) (pr_oneV (pr_cmp (op_eqP hr.units) (r2_eq eqS) (nomark _) (pr_ix ix_tup (r2_ixF (j := 0) fsAt_0) (pr_name (pv 0) rfl) pr_int) (pr_name (pv 1) rfl))))))) (fun a Q h => ?_)⟩
  exact bT rfl ⟨rfl, h⟩
theorem sc__law_rows_of : FnScope ["fields", "rows", "turn", "wider", "row", "i"] ["fields"] (defScope s__law_rows_of) := ⟨rfl, rfl, rfl, by decide +kernel, rfl, by decide +kernel, by decide +kernel⟩
theorem ok__law_rows_of (B : Bd P w K mg base) : FnG P w K mg base "_law_rows_of" 1 ["fields"] (SpF (K := K) (fs1 (rL SS.rI)) (rL (rL SS.rI)) (fun (a : (List Int)) => (fun P => (a.length ≤ 4 ∧ a.Nodup) ∧ ∀ rs, (∀ r ∈ rs, r.Perm a) → P rs : W (List (List Int))))) := by
  obtain ⟨fd, D⟩ := B.says.def_ 70 (d := d__law_rows_of) rfl
  refine ⟨_, fd, B.tx.glo__law_rows_of, D.kp, D.bindsN (fun _ _ _ _ _ _ us hl => match us, hl with | [_], _ => rfl), fnok_of (post := fun _ : Unit => ([.off, .off, .off, .off, .off, .off] : List (En K))) D sc__law_rows_of rfl (by decide) fsE_1 (fun a => [.fr (rL SS.rI) a, .off, .off, .off, .off, .off]) (fun _ => rfl) (fun a cdv A outer s H E hr => (b_asg (i := 1) sc__law_rows_of.nd rfl (by first | exact Or.inl rfl | exact Or.inr rfl) (pr_frz (pr_lst (R := (rL SS.rI)) (pa_consR (pr_frz (pr_lst (R := SS.rI) pa_nilR)) pa_nilR))) (fun x328 => (b_for (fun s329 : (List (List Int)) => [.fr (rL SS.rI) a, .fr (rL (rL SS.rI)) s329, .off, .off, .off, .off]) x328 (pi_rng1X B.tx.free_range (pa_oneX (pr_cb call_len_seq rc_len B.tx.free_len (by decide +kernel) (pa_oneX (pr_name (pv 0) rfl))))) (.same (.same (.same (.same (.same (.same .nil)))))) (fun s329 => (pg_nameX (pg_name (i := 2) sc__law_rows_of.nd rfl (by first | exact Or.inl rfl | exact Or.inr rfl)))) (fun q330 q330x => (b_asgL (i := 3) sc__law_rows_of.nd rfl (by first | exact Or.inl rfl | exact Or.inr rfl) (pr_lst (R := (rL SS.rI)) pa_nilR) (fun q331 q331l => (b_for (fun s332 : (List (List Int)) => [.fr (rL SS.rI) a, .fr (rL (rL SS.rI)) q330, .fr SS.rI q330x, .own q331 (rL SS.rI) s332, .off, .off]) q331l (pi_listX (pr_name (pv 1) rfl)) (.same (.same (.same (.same (.same (.same .nil)))))) (fun s332 => (pg_nameX (pg_name (i := 4) sc__law_rows_of.nd rfl (by first | exact Or.inl rfl | exact Or.inr rfl)))) (fun q333 q333x => (b_ext (pv 3) rfl (pr_lc (own := [("i", 5)]) sc__law_rows_of.nd (blkOk_by (own := [("i", 5)]) (N := ["fields", "rows", "turn", "wider", "row", "i"]) (sc := defScope s__law_rows_of) (by decide +kernel)) (pi_listX (pr_name (pv 0) rfl)) (fun _ _ _ _ _ => (pg_nameX (pg_name (i := 5) sc__law_rows_of.nd rfl (by first | exact Or.inl rfl | exact Or.inr rfl)))) (fun x334 _ _ _ _ _ => (pts_oneX (pt_cmpX op_notIn_seq (r2_ninL flat_I) (by rfl) (pr_name (pv 5) rfl) (pr_name (pv 4) rfl)))) (fun x334 _ _ _ _ _ => (pr_frz (pr_catL (pr_name (pv 4) rfl) (pr_frz (pr_lst (R := SS.rI) (pa_consR (pr_name (pv 5) rfl) pa_nilR))))))) (fun x335 => (b_nil (t := (q333 ++ x335)) (.same (.same (.same (.same (.off (.same .nil) rfl))))))))) (fun s332 => (b_frz 3 rfl (b_asg (i := 1) sc__law_rows_of.nd rfl (by first | exact Or.inl rfl | exact Or.inr rfl) (pr_frz (pr_ctyL call_list_of rcl_list B.tx.free_list (by decide +kernel) (pa_oneX (pr_name (pv 3) rfl)))) (fun x336 => (b_nil (t := x336) (.same (.same (.off (.off (.same (.same .nil)) rfl) rfl)))))))))))) (fun s329 => (b_ret (pr_name (pv 1) rfl))))))) (fun a Q h => ?_)⟩
  obtain ⟨⟨hl, hnd⟩, h⟩ := h
  refine fun _ => ⟨by omega, forW_inv (fun pre _ st => st.length ≤ 4 ^ pre.length ∧ ∀ r ∈ st, r.Nodup ∧ (∀ i ∈ r, i ∈ a) ∧ r.length = pre.length) ⟨by simp, fun r hr => by rw [List.mem_singleton.mp hr]; simp⟩ (fun pre x suf st C e hi h1 _ _ _ => ?_) (fun st hst => h st fun r hr => ?_)⟩
  rotate_left
  · obtain ⟨g1, g2, g3⟩ := hst.2 r hr
    exact perm_full g1 g2 (by rw [g3, rng_len]; omega)
  obtain ⟨_, hx, _⟩ := rng_mem e
  have hpw : 4 ^ pre.length ≤ 4 ^ 4 := Nat.pow_le_pow_right (by omega) (by omega)
  have h44 : 4 ^ 4 = 256 := by decide
  refine fun _ => forW_inv (fun pre2 _ st2 => st2.length ≤ 4 * pre2.length ∧ ∀ r ∈ st2, r.Nodup ∧ (∀ i ∈ r, i ∈ a) ∧ r.length = (pre ++ [x]).length) ⟨by simp, fun r hr => by cases hr⟩ (fun pre2 o suf2 st2 C2 e2 hi2 h2 _ _ _ => ?_) (fun st2 hst2 => h1 _ ⟨?_, hst2.2⟩)
  rotate_left
  · have := hst2.1
    rw [List.length_append, List.length_cons, List.length_nil, Nat.pow_succ]
    omega
  obtain ⟨o1, o2, o3⟩ := hi.2 o (by rw [e2]; simp)
  have hp2 : pre2.length ≤ 256 := by
    have := hi.1
    rw [e2, List.length_append] at this
    omega
  have hfl := List.length_filter_le (fun i => !decide (i ∈ o)) a
  refine lcW_map (fun i => !decide (i ∈ o)) (fun i => o ++ [i]) _ (fun i _ C c => c) (fun i _ _ C c => ⟨small (by simp only [List.length_cons, List.length_nil]; omega), c⟩) ⟨small ?_, h2 _ ⟨?_, fun r hr => ?_⟩⟩
  · have := hi2.1
    rw [List.length_map]
    omega
  · have := hi2.1
    rw [List.length_append, List.length_append, List.length_map, List.length_cons, List.length_nil]
    omega
  · rcases List.mem_append.mp hr with hr | hr
    · exact hi2.2 r hr
    · obtain ⟨i, hi', er⟩ := List.mem_map.mp hr
      obtain ⟨q1, q2⟩ := List.mem_filter.mp hi'
      have q3 : i ∉ o := by simpa using q2
      subst er
      refine ⟨List.nodup_append.mpr ⟨o1, by simp, fun y hy z hz e => q3 ?_⟩, fun j hj => ?_, by rw [List.length_append, List.length_append, o3]; rfl⟩
      · rw [List.mem_singleton.mp hz] at e; rw [← e]; exact hy
      · rcases List.mem_append.mp hj with hj | hj
        · exact o2 j hj
        · rw [List.mem_singleton.mp hj]; exact q1
theorem sc__law_parts : FnScope ["fields", "sets", "i", "one"] ["fields"] (defScope s__law_parts) := ⟨rfl, rfl, rfl, by decide +kernel, rfl, by decide +kernel, by decide +kernel⟩
theorem ok__law_parts (B : Bd P w K mg base) : FnG P w K mg base "_law_parts" 1 ["fields"] (SpF (K := K) (fs1 (rL SS.rI)) (rL (rL SS.rI)) (fun (a : (List Int)) => (fun P => a.length ≤ 4 ∧ P (partsOf a) : W (List (List Int))))) := by
  obtain ⟨fd, D⟩ := B.says.def_ 71 (d := d__law_parts) rfl
  refine ⟨_, fd, B.tx.glo__law_parts, D.kp, D.bindsN (fun _ _ _ _ _ _ us hl => match us, hl with | [_], _ => rfl), fnok_of (post := fun _ : Unit => ([.off, .off, .off, .off] : List (En K))) D sc__law_parts rfl (by decide) fsE_1 (fun a => [.fr (rL SS.rI) a, .off, .off, .off]) (fun _ => rfl) (fun a cdv A outer s H E hr => (b_asg (i := 1) sc__law_parts.nd rfl (by first | exact Or.inl rfl | exact Or.inr rfl) (pr_frz (pr_lst (R := (rL SS.rI)) (pa_consR (pr_frz (pr_lst (R := SS.rI) pa_nilR)) pa_nilR))) (fun x337 => (b_for (fun s338 : (List (List Int)) => [.fr (rL SS.rI) a, .fr (rL (rL SS.rI)) s338, .off, .off]) x337 (pi_listX (pr_name (pv 0) rfl)) (.same (.same (.same (.same .nil)))) (fun s338 => (pg_nameX (pg_name (i := 2) sc__law_parts.nd rfl (by first | exact Or.inl rfl | exact Or.inr rfl)))) (fun q339 q339x => (b_asg (i := 1) sc__law_parts.nd rfl (by first | exact Or.inl rfl | exact Or.inr rfl) (pr_frz (pr_catL (pr_name (pv 1) rfl) (pr_frz (pr_lc (own := [("one", 3)]) sc__law_parts.nd (blkOk_by (own := [("one", 3)]) (N := ["fields", "sets", "i", "one"]) (sc := defScope s__law_parts) (by decide +kernel)) (pi_listX (pr_name (pv 1) rfl)) (fun _ _ _ _ _ => (pg_nameX (pg_name (i := 3) sc__law_parts.nd rfl (by first | exact Or.inl rfl | exact Or.inr rfl)))) (fun x340 _ _ _ _ _ => pts_nilX) (fun x340 _ _ _ _ _ => (pr_frz (pr_catL (pr_name (pv 3) rfl) (pr_frz (pr_lst (R := SS.rI) (pa_consR (pr_name (pv 2) rfl) pa_nilR)))))))))) (fun x341 => (b_nil (t := x341) (.same (.same (.off (.same .nil) rfl))))))) (fun s338 => (b_ret (pr_name (pv 1) rfl))))))) (fun a Q h => ?_)⟩
  obtain ⟨hl, h⟩ := h
  refine forW_inv (fun pre _ st => st = partsOf pre ∧ pre.length ≤ 4) ⟨rfl, by simp⟩ (fun pre x suf st C e hi h1 _ _ _ => ?_) (fun st hst => ?_)
  rotate_left
  · show Q st
    rw [hst.1]; exact h
  obtain ⟨hi, hp4⟩ := hi
  have hpl : pre.length < 4 := by
    have := congrArg List.length e
    rw [List.length_append, List.length_cons] at this
    omega
  have hst : st.length ≤ 16 := by
    rw [hi, parts_count]
    exact Nat.le_trans (Nat.pow_le_pow_right (by omega) (show pre.length ≤ 4 by omega)) (by decide)
  refine lcW_map1 (fun o => o ++ [x]) _ (fun o ho C c => ⟨small ?_, c⟩) ⟨small (by rw [List.length_map]; omega), h1 _ ⟨?_, ?_⟩⟩
  · rw [hi] at ho
    have := (parts_iff.mp ho).length_le
    simp only [List.length_cons, List.length_nil]
    omega
  · rw [hi]
    unfold partsOf
    rw [List.foldl_append]
    rfl
  · rw [List.length_append, List.length_cons, List.length_nil]; omega
theorem sc__law_hang : FnScope ["worlds", "truth", "known", "i", "file", "world"] ["worlds", "truth", "known", "i"] (defScope s__law_hang) := ⟨rfl, rfl, rfl, by decide +kernel, rfl, by decide +kernel, by decide +kernel⟩
theorem ok__law_hang (B : Bd P w K mg base) : FnG P w K mg base "_law_hang" 2 ["worlds", "truth", "known", "i"] (SpF (K := K) (fsC (rL (r_World P w K)) (fsC (SS.rU SS.rI) (fsC (rL SS.rI) (fs1 SS.rI)))) rB (fun (a : (List T_World) × (List Int) × (List Int) × Int) => (fun P => ∃ s dues, a.1 = [world s dues] ∧ s ∈ SZ ∧ dues.length = (forms s).length ∧ a.2.1 ∈ forms s ∧ a.2.2.1.Nodup ∧ (∀ i ∈ a.2.2.1, 0 ≤ i ∧ i < (s.length : Int)) ∧ (0 ≤ a.2.2.2 ∧ a.2.2.2 < (s.length : Int)) ∧ P (decide (a.2.2.2 ∉ a.2.2.1) && hangB s dues a.2.1 a.2.2.1 a.2.2.2) : W Bool))) := by
  obtain ⟨fd, D⟩ := B.says.def_ 72 (d := d__law_hang) rfl
  refine ⟨_, fd, B.tx.glo__law_hang, D.kp, D.bindsN (fun _ _ _ _ _ _ us hl => match us, hl with | [_, _, _, _], _ => rfl), fnok_of (post := fun _ : Unit => ([.off, .off, .off, .off, .off, .off] : List (En K))) D sc__law_hang rfl (by decide) (fsE_C (fsE_C (fsE_C fsE_1))) (fun a => [.fr (rL (r_World P w K)) a.1, .fr (SS.rU SS.rI) a.2.1, .fr (rL SS.rI) a.2.2.1, .fr SS.rI a.2.2.2, .off, .off]) (fun _ => rfl) (fun a cdv A outer s H E hr => (b_asg (i := 4) sc__law_hang.nd rfl (by first | exact Or.inl rfl | exact Or.inr rfl) (pr_call (ok__law_file B) (hr.mono (by decide)) (pa_consX (pr_name (pv 1) rfl) (pa_oneX (pr_name (pv 2) rfl)))) (fun x342 => (b_ret (pr_andV (pr_cmp op_notIn_seq (r2_ninL flat_I) (by rfl) (pr_name (pv 3) rfl) (pr_name (pv 2) rfl)) (pr_oneV (pr_cb (cr_any rfl) rc_any B.tx.free_any (by decide +kernel) (pa_oneX (pr_frz (pr_lc (own := [("world", 5)]) sc__law_hang.nd (blkOk_by (own := [("world", 5)]) (N := ["worlds", "truth", "known", "i", "file", "world"]) (sc := defScope s__law_hang) (by decide +kernel)) (pi_listX (pr_name (pv 0) rfl)) (fun _ _ _ _ _ => (pg_nameX (pg_name (i := 5) sc__law_hang.nd rfl (by first | exact Or.inl rfl | exact Or.inr rfl)))) (fun x343 _ _ _ _ _ => pts_nilX) (fun x343 _ _ _ _ _ => (pr_cmp op_notIn_seq (r2_ninL flat_I) (by rfl) (pr_name (pv 3) rfl) (pr_getN hr.units (Nat.le_of_ble_eq_true rfl) href_Uf (pr_rget (ks := ["sizes", "forms", "steps", "dues", "loud", "settled"]) 5 (hu_of hr) (pr_name (pv 5) rfl) (fsAt_s (fsAt_s (fsAt_s (fsAt_s (fsAt_s fsAt_1))))) (by decide +kernel)) (pr_name (pv 4) rfl)))))))))))))) (fun a Q h => ?_)⟩
  obtain ⟨s, dues, e, hz, hl, ht, hnd, hb, ⟨i0, i1⟩, h⟩ := h
  obtain ⟨a1, t, K, i⟩ := a
  dsimp only at e ht hnd hb i0 i1 h ⊢
  subst e
  have hn := sz_n hz
  refine ⟨s.length, by omega, (inF hz ht).1, hnd, hb, nifB (fun hk => ?_) fun hk => ?_⟩
  · rw [dT (p := i ∉ K) hk, Bool.true_and] at h
    refine lcW_map1 (fun _ => hangB s dues t K i) _ (fun x hx C c => ?_) ?_
    · rw [List.mem_singleton.mp hx]
      refine ⟨settledN s dues (fileOf s.length t K), look_map (fileOf_in hz ht _), ?_⟩
      have hmem : i ∈ settledN s dues (fileOf s.length t K) ↔ ¬ hangB s dues t K i = true := by
        rw [stlN_iff hz ht, hang_iff hz ht i0 i1]
        exact ⟨fun z => z.2.resolve_left hk, fun z => ⟨⟨i0, i1⟩, .inr z⟩⟩
      cases hq : hangB s dues t K i with
      | true => rw [hq] at c; rw [dF fun z => hmem.mp z hq]; exact c
      | false => rw [hq] at c; rw [dT (hmem.mpr (by rw [hq]; decide))]; exact c
    · show Q (hangB s dues t K i || false)
      rw [Bool.or_false]; exact h
  · rw [dF (p := i ∉ K) (fun z => z hk), Bool.false_and] at h
    exact h
theorem sc__law_opens : FnScope ["worlds", "truth", "ahead", "row", "known", "i"] ["worlds", "truth", "ahead", "row"] (defScope s__law_opens) := ⟨rfl, rfl, rfl, by decide +kernel, rfl, by decide +kernel, by decide +kernel⟩
theorem ok__law_opens (B : Bd P w K mg base) : FnG P w K mg base "_law_opens" 3 ["worlds", "truth", "ahead", "row"] (SpF (K := K) (fsC (rL (r_World P w K)) (fsC (SS.rU SS.rI) (fsC (rL SS.rI) (fs1 (rL SS.rI))))) rB (fun (a : (List T_World) × (List Int) × (List Int) × (List Int)) => (fun P => ∃ s dues, a.1 = [world s dues] ∧ s ∈ SZ ∧ dues.length = (forms s).length ∧ a.2.1 ∈ forms s ∧ a.2.2.1 = [] ∧ a.2.2.2.Nodup ∧ (∀ i ∈ a.2.2.2, 0 ≤ i ∧ i < (s.length : Int)) ∧ ∀ b, (b = true ↔ Gd s dues a.2.1 a.2.2.2) → P b : W Bool))) := by
  obtain ⟨fd, D⟩ := B.says.def_ 73 (d := d__law_opens) rfl
  refine ⟨_, fd, B.tx.glo__law_opens, D.kp, D.bindsN (fun _ _ _ _ _ _ us hl => match us, hl with | [_, _, _, _], _ => rfl), fnok_of (post := fun _ : Unit => ([.off, .off, .off, .off, .off, .off] : List (En K))) D sc__law_opens rfl (by decide) (fsE_C (fsE_C (fsE_C fsE_1))) (fun a => [.fr (rL (r_World P w K)) a.1, .fr (SS.rU SS.rI) a.2.1, .fr (rL SS.rI) a.2.2.1, .fr (rL SS.rI) a.2.2.2, .off, .off]) (fun _ => rfl) (fun a cdv A outer s H E hr => (b_asgL (i := 4) sc__law_opens.nd rfl (by first | exact Or.inl rfl | exact Or.inr rfl) (pr_ctyL call_list_of rcl_list B.tx.free_list (by decide +kernel) (pa_oneX (pr_name (pv 2) rfl))) (fun q344 q344l => (b_for (fun s345 : (List Int) => [.fr (rL (r_World P w K)) a.1, .fr (SS.rU SS.rI) a.2.1, .fr (rL SS.rI) a.2.2.1, .fr (rL SS.rI) a.2.2.2, .own q344 SS.rI s345, .off]) q344l (pi_listX (pr_name (pv 3) rfl)) (.same (.same (.same (.same (.same (.same .nil)))))) (fun s345 => (pg_nameX (pg_name (i := 5) sc__law_opens.nd rfl (by first | exact Or.inl rfl | exact Or.inr rfl)))) (fun q346 q346x => (b_ifr (pt_notX (pt_valX (pr_thaw (i := 4) rfl (fun _ _ _ _ h => h) (pr_call (ok__law_hang B) (hr.mono (by decide)) (pa_consX (pr_name (pv 0) rfl) (pa_consX (pr_name (pv 1) rfl) (pa_consX (pr_name (pv 4) rfl) (pa_oneX (pr_name (pv 5) rfl))))))))) (b_ret pr_bl) (b_app (pv 4) rfl (pr_name (pv 5) rfl) (fun x347 => (b_nil (t := (q346 ++ [x347])) (.same (.same (.same (.same (.same (.off .nil rfl))))))))))) (fun s345 => (b_ret pr_bl)))))) (fun a Q h => ?_)⟩
  obtain ⟨s, dues, e, hz, hl, ht, e2, hnd, hb, h⟩ := h
  obtain ⟨a1, t, K, row⟩ := a
  dsimp only at e ht e2 hnd hb h ⊢
  subst e e2
  have hn := sz_n hz
  intro p
  have nil : Gd s dues t [] := fun A i B e => by
    have := congrArg List.length e
    simp at this
  refine forW_inv (fun pre _ st => st = pre ∧ Gd s dues t pre) ⟨rfl, nil⟩ (fun pre x suf st C e hi h1 _ _ h4 => ?_) (fun st hst => h true ⟨fun _ => hst.2, fun _ => rfl⟩)
  obtain ⟨es, hg⟩ := hi
  subst es
  obtain ⟨x0, x1⟩ := hb x (by rw [e]; simp)
  have hx : x ∉ st := fun z => by rw [e] at hnd; exact (List.nodup_append.mp hnd).2.2 x z x (by simp) rfl
  have hnp : st.Nodup := by rw [e] at hnd; exact (List.nodup_append.mp hnd).1
  have hbp : ∀ i ∈ st, 0 ≤ i ∧ i < (s.length : Int) := fun i hi => hb i (by rw [e]; simp [hi])
  have hlp := len_in hnp hbp
  refine ⟨s, dues, rfl, hz, hl, ht, hnp, hbp, ⟨x0, x1⟩, ?_⟩
  cases hq : hangB s dues t st x with
  | true => exact nbF (by rw [dT (p := x ∉ st) hx]; rfl) ⟨fun _ => smallS (by omega), h1 _ ⟨rfl, hg.snoc hq⟩⟩
  | false =>
    refine nbT (by rw [dT (p := x ∉ st) hx]; rfl) (h4 false (h false ⟨fun z => (by cases z), fun z => ?_⟩))
    have := z st x suf e
    rw [hq] at this; cases this
theorem sc__law_is_knot : FnScope ["worlds", "truth", "fields", "i", "k"] ["worlds", "truth", "fields"] (defScope s__law_is_knot) := ⟨rfl, rfl, rfl, by decide +kernel, rfl, by decide +kernel, by decide +kernel⟩
theorem ok__law_is_knot (B : Bd P w K mg base) : FnG P w K mg base "_law_is_knot" 3 ["worlds", "truth", "fields"] (SpF (K := K) (fsC (rL (r_World P w K)) (fsC (SS.rU SS.rI) (fs1 (rL SS.rI)))) rB (fun (a : (List T_World) × (List Int) × (List Int)) => (fun P => ∃ s dues, a.1 = [world s dues] ∧ s ∈ SZ ∧ dues.length = (forms s).length ∧ a.2.1 ∈ forms s ∧ a.2.2.Nodup ∧ (∀ i ∈ a.2.2, 0 ≤ i ∧ i < (s.length : Int)) ∧ P (decide (a.2.2 ≠ []) && kn s dues a.2.1 a.2.2) : W Bool))) := by
  obtain ⟨fd, D⟩ := B.says.def_ 74 (d := d__law_is_knot) rfl
  refine ⟨_, fd, B.tx.glo__law_is_knot, D.kp, D.bindsN (fun _ _ _ _ _ _ us hl => match us, hl with | [_, _, _], _ => rfl), fnok_of (post := fun _ : Unit => ([.off, .off, .off, .off, .off] : List (En K))) D sc__law_is_knot rfl (by decide) (fsE_C (fsE_C fsE_1)) (fun a => [.fr (rL (r_World P w K)) a.1, .fr (SS.rU SS.rI) a.2.1, .fr (rL SS.rI) a.2.2, .off, .off]) (fun _ => rfl) (fun a cdv A outer s H E hr => (b_ret (pr_andV (pr_cmp (op_neP hr.units) (r2_ne (eqL eqI)) (nomark _) (pr_name (pv 2) rfl) (pr_frz (pr_lst (R := SS.rI) pa_nilR))) (pr_oneV (pr_notV (pr_cb (cr_any rfl) rc_any B.tx.free_any (by decide +kernel) (pa_oneX (pr_frz (pr_lc (own := [("i", 3)]) sc__law_is_knot.nd (blkOk_by (own := [("i", 3)]) (N := ["worlds", "truth", "fields", "i", "k"]) (sc := defScope s__law_is_knot) (by decide +kernel)) (pi_listX (pr_name (pv 2) rfl)) (fun _ _ _ _ _ => (pg_nameX (pg_name (i := 3) sc__law_is_knot.nd rfl (by first | exact Or.inl rfl | exact Or.inr rfl)))) (fun x348 _ _ _ _ _ => pts_nilX) (fun x348 _ _ _ _ _ => (pr_call (ok__law_hang B) (hr.mono (by decide)) (pa_consX (pr_name (pv 0) rfl) (pa_consX (pr_name (pv 1) rfl) (pa_consX (pr_frz (pr_lc (own := [("k", 4)]) sc__law_is_knot.nd (blkOk_BX (blkOk_by (own := [("k", 4)]) (N := ["worlds", "truth", "fields", "i", "k"]) (by decide +kernel))) (pi_listX (pr_name (pv 2) rfl)) (fun _ _ _ _ _ => (pg_nameX (pg_name (i := 4) sc__law_is_knot.nd rfl (by first | exact Or.inl rfl | exact Or.inr rfl)))) (fun x349 _ _ _ _ _ => (pts_oneX (pt_cmpX (op_neP hr.units) (r2_ne eqI) (nomark _) (pr_name (pv 4) rfl) (pr_name (pv 3) rfl)))) (fun x349 _ _ _ _ _ => (pr_name (pv 4) rfl)))) (pa_oneX (pr_name (pv 3) rfl)))))))))))))))) (fun a Q h => ?_)⟩
  obtain ⟨s, dues, e, hz, hl, ht, hnd, hb, h⟩ := h
  obtain ⟨a1, t, F⟩ := a
  dsimp only at e ht hnd hb h ⊢
  subst e
  have hn := sz_n hz
  refine nifB (fun ne => ?_) fun e => ?_
  · rw [dT (p := F ≠ []) ne, Bool.true_and] at h
    refine lcW_map1 (fun i => hangB s dues t (but F i) i) _ (fun x hx C c => ?_) ?_
    · refine lcW_map (fun k => !decide (k = x)) (fun k => k) _ (fun _ _ C c => c) (fun _ _ _ C c => c) ?_
      rw [List.map_id']
      have hbut : ∀ j ∈ but F x, 0 ≤ j ∧ j < (s.length : Int) := fun j hj => hb j (mem_but.mp hj).1
      refine ⟨s, dues, rfl, hz, hl, ht, hnd.sublist (but_sub F x), hbut, hb x hx, ?_⟩
      show C (decide (x ∉ but F x) && hangB s dues t (but F x) x)
      rw [dT (p := x ∉ but F x) (fun z => (mem_but.mp z).2 rfl), Bool.true_and]; exact c
    · show Q _
      rw [List.any_map, List.not_any_eq_all_not]
      have : (F.all fun x => !(id ∘ fun i => hangB s dues t (but F i) i) x) = kn s dues t F := rfl
      rw [this]; exact h
  · rw [dF (p := F ≠ []) (fun z => z e), Bool.false_and] at h
    exact h
theorem sc__law_great : FnScope ["worlds", "truth", "fields", "held", "part", "i"] ["worlds", "truth", "fields"] (defScope s__law_great) := ⟨rfl, rfl, rfl, by decide +kernel, rfl, by decide +kernel, by decide +kernel⟩
theorem ok__law_great (B : Bd P w K mg base) : FnG P w K mg base "_law_great" 4 ["worlds", "truth", "fields"] (SpF (K := K) (fsC (rL (r_World P w K)) (fsC (SS.rU SS.rI) (fs1 (rL SS.rI)))) (rL SS.rI) (fun (a : (List T_World) × (List Int) × (List Int)) => (fun P => ∃ s dues, a.1 = [world s dues] ∧ s ∈ SZ ∧ dues.length = (forms s).length ∧ a.2.1 ∈ forms s ∧ a.2.2.Pairwise (· < ·) ∧ (∀ i ∈ a.2.2, 0 ≤ i ∧ i < (s.length : Int)) ∧ ∀ L, Great s dues a.2.1 a.2.2 L → P L : W (List Int)))) := by
  obtain ⟨fd, D⟩ := B.says.def_ 75 (d := d__law_great) rfl
  refine ⟨_, fd, B.tx.glo__law_great, D.kp, D.bindsN (fun _ _ _ _ _ _ us hl => match us, hl with | [_, _, _], _ => rfl), fnok_of (post := fun _ : Unit => ([.off, .off, .off, .off, .off, .off] : List (En K))) D sc__law_great rfl (by decide) (fsE_C (fsE_C fsE_1)) (fun a => [.fr (rL (r_World P w K)) a.1, .fr (SS.rU SS.rI) a.2.1, .fr (rL SS.rI) a.2.2, .off, .off, .off]) (fun _ => rfl) (fun a cdv A outer s H E hr => (b_asg (i := 3) sc__law_great.nd rfl (by first | exact Or.inl rfl | exact Or.inr rfl) (pr_frz (pr_lst (R := SS.rI) pa_nilR)) (fun x350 => (b_for (fun s351 : (List Int) => [.fr (rL (r_World P w K)) a.1, .fr (SS.rU SS.rI) a.2.1, .fr (rL SS.rI) a.2.2, .fr (rL SS.rI) s351, .off, .off]) x350 (pi_listX (pr_call (ok__law_parts B) (hr.mono (by decide)) (pa_oneX (pr_name (pv 2) rfl)))) (.same (.same (.same (.same (.same (.same .nil)))))) (fun s351 => (pg_nameX (pg_name (i := 4) sc__law_great.nd rfl (by first | exact Or.inl rfl | exact Or.inr rfl)))) (fun q352 q352x => (b_if (fun s355 : (List Int) => [.fr (rL (r_World P w K)) a.1, .fr (SS.rU SS.rI) a.2.1, .fr (rL SS.rI) a.2.2, .fr (rL SS.rI) s355, .fr (rL SS.rI) q352x, .off]) (pt_valX (pr_call (ok__law_is_knot B) (hr.mono (by decide)) (pa_consX (pr_name (pv 0) rfl) (pa_consX (pr_name (pv 1) rfl) (pa_oneX (pr_name (pv 4) rfl)))))) (b_asg (i := 3) sc__law_great.nd rfl (by first | exact Or.inl rfl | exact Or.inr rfl) (pr_frz (pr_catL (pr_name (pv 3) rfl) (pr_frz (pr_lc (own := [("i", 5)]) sc__law_great.nd (blkOk_by (own := [("i", 5)]) (N := ["worlds", "truth", "fields", "held", "part", "i"]) (sc := defScope s__law_great) (by decide +kernel)) (pi_listX (pr_name (pv 4) rfl)) (fun _ _ _ _ _ => (pg_nameX (pg_name (i := 5) sc__law_great.nd rfl (by first | exact Or.inl rfl | exact Or.inr rfl)))) (fun x353 _ _ _ _ _ => (pts_oneX (pt_cmpX op_notIn_seq (r2_ninL flat_I) (by rfl) (pr_name (pv 5) rfl) (pr_name (pv 3) rfl)))) (fun x353 _ _ _ _ _ => (pr_name (pv 5) rfl)))))) (fun x354 => (b_nil (t := x354) (.same (.same (.same (.same (.same (.same .nil))))))))) (b_nil (t := q352) (.same (.same (.same (.same (.same (.same .nil))))))) (fun s355 => (b_nil (t := s355) (.same (.same (.same (.same (.off (.same .nil) rfl))))))) (by intro _ _ h; exact h))) (fun s351 => (b_ret (pr_frz (pr_cbL cr_sortedI rcl_sortI B.tx.free_sorted (by decide +kernel) (pa_oneX (pr_name (pv 3) rfl)))))))))) (fun a Q h => ?_)⟩
  obtain ⟨s, dues, e, hz, hl, ht, hs, hb, h⟩ := h
  obtain ⟨a1, t, F⟩ := a
  dsimp only at e ht hs hb h ⊢
  subst e
  have hn := sz_n hz
  have hFl : F.length ≤ 4 := by have := len_in (lt_nodup hs) hb; omega
  refine ⟨hFl, forW_inv (fun pre _ st => st.Nodup ∧ (∀ i ∈ st, i ∈ F) ∧ ∀ i, i ∈ st ↔ ∃ K ∈ pre, kn s dues t K = true ∧ i ∈ K) ⟨List.nodup_nil, fun i hi => (by cases hi), fun i => ⟨fun z => (by cases z), fun ⟨K, hK, _⟩ => (by cases hK)⟩⟩ (fun pre K suf st C e hi h1 _ _ _ => ?_) (fun st hst => ?_)⟩
  rotate_left
  · intro ys hp hy
    obtain ⟨g1, g2, g3⟩ := hst
    have hys := le_lt_of_nodup hy (hp.nodup_iff.mpr g1)
    exact h ys (great_iff hz ht hs hb (sub_of hs hys fun i hi => g2 i (hp.mem_iff.mp hi)) fun i => by rw [hp.mem_iff, g3])
  obtain ⟨g1, g2, g3⟩ := hi
  have hK : K ∈ partsOf F := by rw [e]; simp
  have hsub := parts_iff.mp hK
  have hstl : st.length ≤ 4 := by have := len_in g1 (fun i hi => hb i (g2 i hi)); omega
  refine ⟨s, dues, rfl, hz, hl, ht, (lt_nodup hs).sublist hsub, fun i hi => hb i (hsub.subset hi), ?_⟩
  by_cases hc : K ≠ [] ∧ kn s dues t K = true
  · refine bT (by rw [dT hc.1, hc.2]; rfl) (lcW_map (fun i => !decide (i ∈ st)) (fun i => i) _ (fun _ _ C c => c) (fun _ _ _ C c => c) ?_)
    rw [List.map_id']
    have hfl := List.length_filter_le (fun i => !decide (i ∈ st)) K
    have hKl := hsub.length_le
    refine ⟨small (by omega), h1 _ ⟨List.nodup_append.mpr ⟨g1, ((lt_nodup hs).sublist hsub).filter _, fun x hx y hy e => ?_⟩, fun i hi => ?_, fun i => ?_⟩⟩
    · obtain ⟨_, q⟩ := List.mem_filter.mp hy
      rw [← e] at q
      simp [hx] at q
    · rcases List.mem_append.mp hi with z | z
      · exact g2 i z
      · exact hsub.subset (List.mem_filter.mp z).1
    · rw [List.mem_append, g3, List.mem_filter]
      constructor
      · rintro (⟨K', q1, q2⟩ | ⟨q1, _⟩)
        · exact ⟨K', by simp [q1], q2⟩
        · exact ⟨K, by simp, hc.2, q1⟩
      · rintro ⟨K', q1, q2, q3⟩
        rcases List.mem_append.mp q1 with z | z
        · exact .inl ⟨K', z, q2, q3⟩
        · rw [List.mem_singleton.mp z] at q3
          by_cases w : i ∈ st
          · exact .inl ((g3 i).mp w)
          · exact .inr ⟨q3, by simp [w]⟩
  · refine bF ?_ (h1 _ ⟨g1, g2, fun i => ?_⟩)
    · rw [Bool.and_eq_false_iff, decide_eq_false_iff_not]
      by_cases z : K = []
      · exact .inl fun w => w z
      · right
        cases q : kn s dues t K with
        | false => rfl
        | true => exact absurd ⟨z, q⟩ hc
    · rw [g3]
      constructor
      · rintro ⟨K', q1, q2⟩
        exact ⟨K', by simp [q1], q2⟩
      · rintro ⟨K', q1, q2, q3⟩
        rcases List.mem_append.mp q1 with z | z
        · exact ⟨K', z, q2, q3⟩
        · rw [List.mem_singleton.mp z] at q2 q3
          exact absurd ⟨fun w => (by rw [w] at q3; cases q3), q2⟩ hc
theorem sc__law_off_case : FnScope ["pool", "truth", "i", "world", "book", "form"] ["pool"] (defScope s__law_off_case) := ⟨rfl, rfl, rfl, by decide +kernel, rfl, by decide +kernel, by decide +kernel⟩
theorem ok__law_off_case (B : Bd P w K mg base) : FnG P w K mg base "_law_off_case" 6 ["pool"] (SpP (K := K) fsN (rTl (fsC (r_World P w K) (fsC (r_Book K) (fs1 (SS.rU SS.rI))))) (fun (a : Unit) => (fun P => ∀ s dues t, s ∈ SZ → dues.length = (forms s).length → (∀ x ∈ dues, Mid x) → t ∈ forms s → P (world s dues, (spc s, dues), t) : W (T_World × T_Book × (List Int))))) := by
  obtain ⟨fd, D⟩ := B.says.def_ 76 (d := d__law_off_case) rfl
  refine ⟨_, fd, B.tx.glo__law_off_case, D.kp, D.bindsN (fun _ _ _ _ _ _ us hl => match us, hl with | [_], _ => rfl), fnok_ofP (post := fun p g (_ : Unit) => ([.pool p g, .off, .off, .off, .off, .off] : List (En K))) D sc__law_off_case rfl (by decide) fsE_N (fun p g a => [.pool p g, .off, .off, .off, .off, .off]) (fun _ _ _ => rfl) (fun p g a cdv A outer s H E hr => (b_asgT (pr_draw (ok__law_and_case B) (hr.mono (by decide)) (pv 0) rfl pa_nilX) (pg_tupL (pgs_consX (pg_name (i := 3) sc__law_off_case.nd rfl (by first | exact Or.inl rfl | exact Or.inr rfl)) (fun _ => (pgs_consX (pg_name (i := 4) sc__law_off_case.nd rfl (by first | exact Or.inl rfl | exact Or.inr rfl)) (fun _ => (pgs_oneX (pg_name (i := 5) sc__law_off_case.nd rfl (by first | exact Or.inl rfl | exact Or.inr rfl)))))))) (fun x356 => (b_asgL (i := 1) sc__law_off_case.nd rfl (by first | exact Or.inl rfl | exact Or.inr rfl) (pr_ctyL call_list_of rcl_listU B.tx.free_list (by decide +kernel) (pa_oneX (pr_name (pv 5) rfl))) (fun q357 q357l => (b_for (fun s358 : (List Int) => [.pool p g, .own q357 SS.rI s358, .off, .fr (r_World P w K) x356.1, .fr (r_Book K) x356.2.1, .fr (SS.rU SS.rI) x356.2.2]) q357l (pi_rng1X B.tx.free_range (pa_oneX (pr_cb call_len_seq rc_lenU B.tx.free_len (by decide +kernel) (pa_oneX (pr_name (pv 5) rfl))))) (.same (.same (.same (.same (.same (.same .nil)))))) (fun s358 => (pg_nameX (pg_name (i := 2) sc__law_off_case.nd rfl (by first | exact Or.inl rfl | exact Or.inr rfl)))) (fun q359 q359x => (b_if (fun s361 : (List Int) => [.pool p g, .own q357 SS.rI s361, .fr SS.rI q359x, .fr (r_World P w K) x356.1, .fr (r_Book K) x356.2.1, .fr (SS.rU SS.rI) x356.2.2]) (PW.pt (pw_orX (pt_cmpX op_lt r2_lt (nomark _) (pr_name (pv 2) rfl) pr_int) (pw_or1X (pt_cmpX (op_eqP hr.units) (r2_eq eqI) (nomark _) (pr_draw (ok__law_below B) (hr.mono (by decide)) (pv 0) rfl (pa_oneX pr_int)) pr_int)))) (b_seti (pv 1) rfl (pr_op op_modN r2_mod (pr_cty call_int1 rc_int B.tx.free_int (by decide +kernel) (pa_oneX (pr_op op_add r2_add (pr_op op_add r2_add (pr_ix ix_tup r2_ixU (pr_name (pv 5) rfl) (pr_name (pv 2) rfl)) pr_int) (pr_draw (ok__law_below B) (hr.mono (by decide)) (pv 0) rfl (pa_oneX (pr_op op_sub r2_sub (pr_ix ix_list r2_ixL (pr_rget (ks := ["sizes", "forms", "steps", "dues", "loud", "settled"]) 0 (hu_of hr) (pr_name (pv 3) rfl) fsAt_0 (by decide +kernel)) (pr_name (pv 2) rfl)) pr_int)))))) (pr_ix ix_list r2_ixL (pr_rget (ks := ["sizes", "forms", "steps", "dues", "loud", "settled"]) 0 (hu_of hr) (pr_name (pv 3) rfl) fsAt_0 (by decide +kernel)) (pr_name (pv 2) rfl))) (pr_name (pv 2) rfl) (fun q360 q360l => (b_nil (t := (q359.set q360 q360l)) (.same (.same (.same (.same (.same (.same .nil))))))))) (b_nil (t := q359) (.same (.same (.same (.same (.same (.same .nil))))))) (fun s361 => (b_nil (t := s361) (.same (.same (.off (.same (.same (.same .nil))) rfl))))) (by intro _ _ h; exact h))) (fun s358 => (b_frz 1 rfl (b_ret (pr_lstT (pa_consX (pr_name (pv 3) rfl) (pa_consX (pr_name (pv 4) rfl) (pa_oneX (pr_to (fun x => x) (pr_cty call_tupleLF rc_tupF B.tx.free_tuple (by decide +kernel) (pa_oneX (pr_name (pv 1) rfl))) (fun _ _ _ q => rUf_ok q))))))))))))))) (fun p g a Q h => ?_)⟩
  intro s dues t hz hd hm ht p _
  have hn := sz_n hz
  obtain ⟨tl, tin⟩ := inF hz ht
  have el : ((List.length t : Nat) : Int) = (s.length : Int) := by rw [tl]
  refine ⟨by show ((List.length t : Nat) : Int) < 1000000 ∧ -1000000 < ((List.length t : Nat) : Int); omega, forW_inv (fun _ _ st => st ∈ forms s) ht (fun pre x suf st C e hi h1 _ _ _ => ?_) (fun st hst => h s dues st hz hd hm hst)⟩
  obtain ⟨ex, hx, _⟩ := rng_mem e
  have hx' : pre.length < (((List.length t : Nat) : Int)).toNat := hx
  have x0 : 0 ≤ x := by omega
  have x1 : x < (s.length : Int) := by omega
  obtain ⟨⟨z0, z1⟩, _⟩ := st_facts hz x0 x1
  have go : ∃ x_1, atI t x = some x_1 ∧ ∃ x_2, atI s x = some x_2 ∧ (0 < x_2 - 1 ∧ x_2 - 1 < 1000000) ∧ ∀ r : Int, 0 ≤ r → r < x_2 - 1 → ∃ x_3, atI s x = some x_3 ∧ x_3 ≠ 0 ∧ ∃ k, ixN st.length x = some k ∧ C (.nx (st.set k ((x_1 + 1 + r).fmod x_3))) := by
    refine ⟨_, atI_of 0 x0 (by omega), szN s x, atI_of 0 x0 x1, by omega, fun r r0 r1 => ⟨szN s x, atI_of 0 x0 x1, by omega, x.toNat, ixN_of x0 (by rw [(inF hz hi).1]; exact x1), h1 _ (set_in hz hi x0 x1 (Int.fmod_nonneg_of_pos _ (by omega)) (Int.fmod_lt_of_pos _ (by omega)))⟩⟩
  exact ifB (fun _ => bT rfl go) fun _ => ⟨by decide, fun r _ _ => ifB (fun _ => go) fun _ => h1 _ hi⟩
theorem sc__law_switch_case : FnScope ["pool", "names", "sizes", "forms", "world", "form"] ["pool"] (defScope s__law_switch_case) := ⟨rfl, rfl, rfl, by decide +kernel, rfl, by decide +kernel, by decide +kernel⟩
theorem ok__law_switch_case (B : Bd P w K mg base) : FnG P w K mg base "_law_switch_case" 5 ["pool"] (SpP (K := K) fsN (rTl (fsC (r_World P w K) (fsC (r_Book K) (fs1 (SS.rU SS.rI))))) (fun (a : Unit) => (fun P => ∀ s dues t, s ∈ SZ → dues.length = (forms s).length → (∀ x ∈ dues, Mid x) → t ∈ forms s → P (world s dues, (spc s, dues), t) : W (T_World × T_Book × (List Int))))) := by
  obtain ⟨fd, D⟩ := B.says.def_ 77 (d := d__law_switch_case) rfl
  refine ⟨_, fd, B.tx.glo__law_switch_case, D.kp, D.bindsN (fun _ _ _ _ _ _ us hl => match us, hl with | [_], _ => rfl), fnok_ofP (post := fun p g (_ : Unit) => ([.pool p g, .off, .off, .off, .off, .off] : List (En K))) D sc__law_switch_case rfl (by decide) fsE_N (fun p g a => [.pool p g, .off, .off, .off, .off, .off]) (fun _ _ _ => rfl) (fun p g a cdv A outer s H E hr => (b_asg (i := 1) sc__law_switch_case.nd rfl (by first | exact Or.inl rfl | exact Or.inr rfl) (pr_draw (ok__law_shuffled B) (hr.mono (by decide)) (pv 0) rfl (pa_oneX (pr_frz (pr_lst (R := SS.rI) (pa_consR pr_int (pa_consR pr_int (pa_consR pr_int pa_nilR))))))) (fun x362 => (b_asg (i := 2) sc__law_switch_case.nd rfl (by first | exact Or.inl rfl | exact Or.inr rfl) (pr_frz (pr_lst (R := SS.rI) (pa_consR pr_int (pa_consR pr_int (pa_consR pr_int pa_nilR))))) (fun x363 => (b_asg (i := 3) sc__law_switch_case.nd rfl (by first | exact Or.inl rfl | exact Or.inr rfl) (pr_call (ok__law_forms B) (hr.mono (by decide)) (pa_oneX (pr_name (pv 2) rfl))) (fun x364 => (b_asg (i := 4) sc__law_switch_case.nd rfl (by first | exact Or.inl rfl | exact Or.inr rfl) (pr_call (ok__law_world B) (hr.mono (by decide)) (pa_consX (pr_name (pv 2) rfl) (pa_oneX (pr_frz (pr_lc (own := [("form", 5)]) sc__law_switch_case.nd (blkOk_by (own := [("form", 5)]) (N := ["pool", "names", "sizes", "forms", "world", "form"]) (sc := defScope s__law_switch_case) (by decide +kernel)) (pi_listX (pr_name (pv 3) rfl)) (fun _ _ _ _ _ => (pg_nameX (pg_name (i := 5) sc__law_switch_case.nd rfl (by first | exact Or.inl rfl | exact Or.inr rfl)))) (fun x365 _ _ _ _ _ => pts_nilX) (fun x365 _ _ _ _ _ => (pr_if (pt_cmpX (op_eqP hr.units) (r2_eq eqI) (nomark _) (pr_ix ix_tup r2_ixU (pr_name (pv 5) rfl) (pr_ix ix_list r2_ixL (pr_name (pv 1) rfl) pr_int)) pr_int) (pr_ix ix_tup r2_ixU (pr_name (pv 5) rfl) (pr_ix ix_list r2_ixL (pr_name (pv 1) rfl) pr_int)) (pr_ix ix_tup r2_ixU (pr_name (pv 5) rfl) (pr_ix ix_list r2_ixL (pr_name (pv 1) rfl) pr_int))))))))) (fun x366 => (b_ret (pr_lstT (pa_consX (pr_name (pv 4) rfl) (pa_consX (pr_call (ok__law_book B) (hr.mono (by decide)) (pa_oneX (pr_name (pv 4) rfl))) (pa_oneX (pr_ix ix_list r2_ixL (pr_name (pv 3) rfl) (pr_draw (ok__law_below B) (hr.mono (by decide)) (pv 0) rfl (pa_oneX pr_int))))))))))))))))) (fun p g a Q h => ?_)⟩
  refine ⟨by decide, fun ys hp => ⟨by decide, ?_⟩⟩
  have hz : [2, 2, 2] ∈ SZ := by decide
  have hyl : ys.length = 3 := hp.length_eq
  have hyb : ∀ i ∈ ys, 0 ≤ i ∧ i < 3 := fun i hi => by
    have := hp.mem_iff.mp hi
    simp at this
    omega
  refine lcW_all1 (fun _ y => 0 ≤ y ∧ y ≤ 1) _ _ (fun f hf C c => ?_) (fun dues hd => ?_)
  · have go : ∀ k : Int, 0 ≤ k → k < 3 → ∀ D : Int → Prop, (∀ v, 0 ≤ v → v ≤ 1 → D v) → ∃ x, atI ys k = some x ∧ ∃ y, atI f x = some y ∧ D y := fun k k0 k1 D hD => by
      obtain ⟨y0, y1⟩ := hyb (ys.getD k.toNat 0) (getD_mem (by omega) 0)
      obtain ⟨fl1, fin1⟩ := inF hz hf
      have q : 0 ≤ vx f (ys.getD k.toNat 0) ∧ vx f (ys.getD k.toNat 0) < szN [2, 2, 2] (ys.getD k.toNat 0) := fin1 _ y0 y1
      obtain ⟨⟨_, _⟩, _⟩ := st_facts hz y0 (show ys.getD k.toNat 0 < (([2, 2, 2] : List Int).length : Int) from y1)
      have sz2 : ∀ i ∈ rng 0 3, szN [2, 2, 2] i = 2 := by decide
      have := sz2 _ (mem_rng.mpr ⟨y0, y1⟩)
      exact ⟨_, atI_of 0 k0 (by omega), _, atI_of 0 y0 (by rw [fl1]; exact y1), hD _ q.1 (by have := q.2; show vx f (ys.getD k.toNat 0) ≤ 1; omega)⟩
    exact go 0 (by decide) (by decide) _ fun v _ _ => ifB (fun _ => go 1 (by decide) (by decide) _ fun v a b => c v ⟨a, b⟩) fun _ => go 2 (by decide) (by decide) _ fun v a b => c v ⟨a, b⟩
  · have hl : dues.length = (forms [2, 2, 2]).length := (paired_len hd).symm
    have hm : ∀ x ∈ dues, Mid x := fun x hx => by have := paired_right hd x hx; exact ⟨by omega, by omega⟩
    refine ⟨hz, hl, [2, 2, 2], dues, rfl, hz, hl, hm, by decide, fun r r0 r1 => ?_⟩
    have h8 : (forms [2, 2, 2]).length = 8 := by decide
    exact ⟨_, atI_of [] r0 (by omega), h _ dues _ hz hl hm (by rw [List.getD_eq_getElem?_getD, List.getElem?_eq_getElem (by omega)]; exact List.getElem_mem _)⟩
theorem sc__law_taken_away : FnScope ["pool", "world", "truth", "fields", "left", "turn", "i", "k"] ["pool", "world", "truth", "fields"] (defScope s__law_taken_away) := ⟨rfl, rfl, rfl, by decide +kernel, rfl, by decide +kernel, by decide +kernel⟩
theorem ok__law_taken_away (B : Bd P w K mg base) : FnG P w K mg base "_law_taken_away" 3 ["pool", "world", "truth", "fields"] (SpP (K := K) (fsC (r_World P w K) (fsC (SS.rU SS.rI) (fs1 (rL SS.rI)))) (rL SS.rI) (fun (a : T_World × (List Int) × (List Int)) => (fun P => ∃ s dues, a.1 = world s dues ∧ s ∈ SZ ∧ dues.length = (forms s).length ∧ a.2.1 ∈ forms s ∧ a.2.2.Pairwise (· < ·) ∧ (∀ i ∈ a.2.2, 0 ≤ i ∧ i < (s.length : Int)) ∧ ∀ L, Great s dues a.2.1 a.2.2 L → P L : W (List Int)))) := by
  obtain ⟨fd, D⟩ := B.says.def_ 78 (d := d__law_taken_away) rfl
  refine ⟨_, fd, B.tx.glo__law_taken_away, D.kp, D.bindsN (fun _ _ _ _ _ _ us hl => match us, hl with | [_, _, _, _], _ => rfl), fnok_ofP (post := fun p g (_ : Unit) => ([.pool p g, .off, .off, .off, .off, .off, .off, .off] : List (En K))) D sc__law_taken_away rfl (by decide) (fsE_C (fsE_C fsE_1)) (fun p g a => [.pool p g, .fr (r_World P w K) a.1, .fr (SS.rU SS.rI) a.2.1, .fr (rL SS.rI) a.2.2, .off, .off, .off, .off]) (fun _ _ _ => rfl) (fun p g a cdv A outer s H E hr => (b_asgN (i := 4) (okN__law_shuffled B) (hr.mono (by decide)) sc__law_taken_away.nd rfl (by first | exact Or.inl rfl | exact Or.inr rfl) (pv 0) rfl (pa_oneX (pr_name (pv 3) rfl)) (fun _ _ _ _ h => h) (fun q367 q367l => (b_for (fun s368 : (List Int) => [.pool p g, .fr (r_World P w K) a.1, .fr (SS.rU SS.rI) a.2.1, .fr (rL SS.rI) a.2.2, .own q367 SS.rI s368, .off, .off, .off]) q367l (pi_rng1X B.tx.free_range (pa_oneX (pr_cb call_len_seq rc_len B.tx.free_len (by decide +kernel) (pa_oneX (pr_name (pv 3) rfl))))) (.same (.same (.same (.same (.same (.same (.same (.same .nil)))))))) (fun s368 => (pg_nameX (pg_name (i := 5) sc__law_taken_away.nd rfl (by first | exact Or.inl rfl | exact Or.inr rfl)))) (fun q369 q369x => (b_for (fun s370 : (List Int) => [.pool p g, .fr (r_World P w K) a.1, .fr (SS.rU SS.rI) a.2.1, .fr (rL SS.rI) a.2.2, .own q367 SS.rI s370, .fr SS.rI q369x, .off, .off]) q369 (pi_listX (pr_frz (pr_listOwn B.tx.free_list (pv 4) rfl))) (.same (.same (.same (.same (.same (.same (.same (.same .nil)))))))) (fun s370 => (pg_nameX (pg_name (i := 6) sc__law_taken_away.nd rfl (by first | exact Or.inl rfl | exact Or.inr rfl)))) (fun q371 q371x => (b_ifr (pt_valX (pr_thaw (i := 4) rfl (fun _ _ _ _ h => h) (pr_call (ok__law_hang B) (hr.mono (by decide)) (pa_consX (pr_frz (pr_lst (R := (r_World P w K)) (pa_consR (pr_name (pv 1) rfl) pa_nilR))) (pa_consX (pr_name (pv 2) rfl) (pa_consX (pr_frz (pr_lc (own := [("k", 7)]) sc__law_taken_away.nd (blkOk_by (own := [("k", 7)]) (N := ["pool", "world", "truth", "fields", "left", "turn", "i", "k"]) (sc := defScope s__law_taken_away) (by decide +kernel)) (pi_listX (pr_name (pv 4) rfl)) (fun _ _ _ _ _ => (pg_nameX (pg_name (i := 7) sc__law_taken_away.nd rfl (by first | exact Or.inl rfl | exact Or.inr rfl)))) (fun x373 _ _ _ _ _ => (pts_oneX (pt_cmpX (op_neP hr.units) (r2_ne eqI) (nomark _) (pr_name (pv 7) rfl) (pr_name (pv 6) rfl)))) (fun x373 _ _ _ _ _ => (pr_name (pv 7) rfl)))) (pa_oneX (pr_name (pv 6) rfl)))))))) (b_rem (pv 4) rfl (pr_name (pv 6) rfl) (fun k374 => (b_brk (l := (q371.eraseIdx k374)) (.same (.same (.same (.same (.same (.same (.off (.same .nil) rfl)))))))))) (b_nil (t := q371) (.same (.same (.same (.same (.same (.same (.off (.same .nil) rfl)))))))))) (fun s370 => (b_nil (t := s370) (.same (.same (.same (.same (.same (.off (.same (.same .nil)) rfl)))))))))) (fun s368 => (b_frz 4 rfl (b_ret (pr_frz (pr_cbL cr_sortedI rcl_sortI B.tx.free_sorted (by decide +kernel) (pa_oneX (pr_name (pv 4) rfl))))))))))) (fun p g a Q h => ?_)⟩
  obtain ⟨s, dues, e, hz, hl, ht, hs, hb, h⟩ := h
  obtain ⟨a1, t, F⟩ := a
  dsimp only at e ht hs hb h ⊢
  subst e
  have hn := sz_n hz
  have hFl : F.length ≤ 4 := by have := len_in (lt_nodup hs) hb; omega
  refine ⟨by omega, fun ys hp q _ => ⟨by omega, ?_⟩⟩
  refine forW_inv (fun pre _ st => st.Nodup ∧ (∀ i ∈ st, i ∈ F) ∧ (∀ K : List Int, (∀ i ∈ K, i ∈ F) → kn s dues t K = true → ∀ i ∈ K, i ∈ st) ∧ (kn s dues t st = true ∨ st.length + pre.length ≤ F.length)) ⟨hp.nodup_iff.mpr (lt_nodup hs), fun i hi => hp.mem_iff.mp hi, fun K h1 _ i hi => hp.mem_iff.mpr (h1 i hi), .inr (by rw [hp.length_eq]; simp)⟩ (fun pre x suf L0 C e hi h1 _ _ _ => ?_) (fun st hst => ?_)
  · obtain ⟨i1, i2, i3, i4⟩ := hi
    refine forW_inv (fun pre2 _ cur => cur = L0 ∧ ∀ i ∈ pre2, hangB s dues t (but L0 i) i = false) ⟨rfl, fun i hi => (by cases hi)⟩ (fun pre2 y suf2 cur C2 e2 hi2 h2 _ hbk _ => ?_) (fun st hst => h1 _ ?_)
    · obtain ⟨ec, hc⟩ := hi2
      subst ec
      have hy : y ∈ cur := by rw [e2]; simp
      refine lcW_map (fun k => !decide (k = y)) (fun k => k) _ (fun _ _ C c => c) (fun _ _ _ C c => c) ?_
      rw [List.map_id']
      have hbut : ∀ j ∈ but cur y, 0 ≤ j ∧ j < (s.length : Int) := fun j hj => hb j (i2 j (mem_but.mp hj).1)
      obtain ⟨y0, y1⟩ := hb y (i2 y hy)
      have hny : y ∉ but cur y := fun z => (mem_but.mp z).2 rfl
      refine ⟨s, dues, rfl, hz, hl, ht, i1.sublist (but_sub cur y), hbut, ⟨y0, y1⟩, ?_⟩
      cases hq : hangB s dues t (but cur y) y with
      | true =>
        refine bT (by show (decide (y ∉ but cur y) && hangB s dues t (but cur y) y) = true; rw [dT hny, hq]; rfl) ?_
        obtain ⟨k, k1, k2, k3⟩ := first_idx hy
        have hpe := perm_erase k1
        have hle := len_erase k1
        refine ⟨k, k1, k2, hbk _ (h1 _ ⟨i1.sublist (List.eraseIdx_sublist _ _), fun i hi => i2 i ((List.eraseIdx_sublist _ _).subset hi), fun K a b i hi => ?_, .inr ?_⟩)⟩
        · have := cov_but hz ht y0 y1 hq b (i3 K a b) i hi
          obtain ⟨m1, m2⟩ := mem_but.mp this
          rcases List.mem_cons.mp (hpe.mem_iff.mpr m1) with z | z
          · exact absurd z m2
          · exact z
        · rcases i4 with z | z
          · have := kn_iff.mp z y hy
            rw [hq] at this; cases this
          · rw [List.length_append, List.length_cons, List.length_nil]; omega
      | false =>
        refine bF (by show (decide (y ∉ but cur y) && hangB s dues t (but cur y) y) = false; rw [hq, Bool.and_false]) (h2 _ ⟨rfl, fun i hi => ?_⟩)
        rcases List.mem_append.mp hi with z | z
        · exact hc i z
        · rw [List.mem_singleton.mp z]; exact hq
    · obtain ⟨ec, hc⟩ := hst
      subst ec
      exact ⟨i1, i2, i3, .inl (kn_iff.mpr hc)⟩
  · obtain ⟨i1, i2, i3, i4⟩ := hst
    have hk : kn s dues t st = true := by
      rcases i4 with z | z
      · exact z
      · rw [rng_len] at z
        have : st = [] := List.length_eq_zero_iff.mp (by omega)
        rw [this]; rfl
    intro zs hzp hzs
    have hzn := le_lt_of_nodup hzs (hzp.nodup_iff.mpr i1)
    refine h zs ⟨sub_of hs hzn fun i hi => i2 i (hzp.mem_iff.mp hi), ?_, fun K a b i hi => hzp.mem_iff.mpr (i3 K a b i hi)⟩
    rw [kn_congr hz ht (fun i hi => hb i (i2 i (hzp.mem_iff.mp hi))) (fun j => hzp.mem_iff)]
    exact hk
theorem sc__law_knot_right : FnScope ["case", "told", "orders", "order", "world", "book", "truth", "i"] ["case", "told", "orders"] (defScope s__law_knot_right) := ⟨rfl, rfl, rfl, by decide +kernel, rfl, by decide +kernel, by decide +kernel⟩
theorem ok__law_knot_right (B : Bd P w K mg base) : FnG P w K mg base "_law_knot_right" 7 ["case", "told", "orders"] (SpF (K := K) (fsC (rTl (fsC (r_World P w K) (fsC (r_Book K) (fs1 (SS.rU SS.rI))))) (fsC (rO (rL SS.rI)) (fs1 (rL (rL SS.rI))))) rB (fun (a : (T_World × T_Book × (List Int)) × (Option (List Int)) × (List (List Int))) => (fun P => ∃ s dues t, s ∈ SZ ∧ dues.length = (forms s).length ∧ t ∈ forms s ∧ a.1 = (world s dues, (spc s, dues), t) ∧ ∃ L, a.2.1 = some L ∧ L ≠ [] ∧ L.Pairwise (· < ·) ∧ (∀ i ∈ L, 0 ≤ i ∧ i < (s.length : Int)) ∧ kn s dues t L = true ∧ (∀ o ∈ a.2.2, ∃ i ∈ L, i ∉ o) ∧ P true : W Bool))) := by
  obtain ⟨fd, D⟩ := B.says.def_ 79 (d := d__law_knot_right) rfl
  refine ⟨_, fd, B.tx.glo__law_knot_right, D.kp, D.bindsN (fun _ _ _ _ _ _ us hl => match us, hl with | [_, _, _], _ => rfl), fnok_of (post := fun _ : Unit => ([.off, .off, .off, .off, .off, .off, .off, .off] : List (En K))) D sc__law_knot_right rfl (by decide) (fsE_C (fsE_C fsE_1)) (fun a => [.fr (rTl (fsC (r_World P w K) (fsC (r_Book K) (fs1 (SS.rU SS.rI))))) a.1, .fr (rO (rL SS.rI)) a.2.1, .fr (rL (rL SS.rI)) a.2.2, .off, .off, .off, .off, .off]) (fun _ => rfl) (fun a cdv A outer s H E hr => (b_asgT (pr_name (pv 0) rfl) (pg_tupL (pgs_consX (pg_name (i := 4) sc__law_knot_right.nd rfl (by first | exact Or.inl rfl | exact Or.inr rfl)) (fun _ => (pgs_consX (pg_name (i := 5) sc__law_knot_right.nd rfl (by first | exact Or.inl rfl | exact Or.inr rfl)) (fun _ => (pgs_oneX (pg_name (i := 6) sc__law_knot_right.nd rfl (by first | exact Or.inl rfl | exact Or.inr rfl)))))))) (fun x375 => (b_ifr (PW.pt (pw_orX (pt_cmpX op_notN (r2_notN nn_S) (nomark _) (pr_call (ok_judge_knot B) (hr.mono (by decide)) (pa_consX (pr_name (pv 5) rfl) (pa_consX (pr_name (pv 6) rfl) (pa_oneX (pr_frz (pr_ctyL call_list_of rcl_list B.tx.free_list (by decide +kernel) (pa_oneX (pr_get (pr_name (pv 1) rfl))))))))) pr_nonU) (pw_or1X (pt_notX (pt_valX (pr_call (ok__law_is_knot B) (hr.mono (by decide)) (pa_consX (pr_frz (pr_lst (R := (r_World P w K)) (pa_consR (pr_name (pv 4) rfl) pa_nilR))) (pa_consX (pr_name (pv 6) rfl) (pa_oneX (pr_get (pr_name (pv 1) rfl))))))))))) (b_ret pr_bl) (b_for (fun s376 : Unit => [.fr (rTl (fsC (r_World P w K) (fsC (r_Book K) (fs1 (SS.rU SS.rI))))) a.1, .fr (rO (rL SS.rI)) a.2.1, .fr (rL (rL SS.rI)) a.2.2, .off, .fr (r_World P w K) x375.1, .fr (r_Book K) x375.2.1, .fr (SS.rU SS.rI) x375.2.2, .off]) () (pi_listX (pr_name (pv 2) rfl)) (.same (.same (.same (.same (.same (.same (.same (.same .nil)))))))) (fun s376 => (pg_nameX (pg_name (i := 3) sc__law_knot_right.nd rfl (by first | exact Or.inl rfl | exact Or.inr rfl)))) (fun q377 q377x => (b_ifr (pt_cmpX (op_eqP hr.units) (r2_eq (eqL eqI)) (nomark _) (pr_frz (pr_lc (own := [("i", 7)]) sc__law_knot_right.nd (blkOk_by (own := [("i", 7)]) (N := ["case", "told", "orders", "order", "world", "book", "truth", "i"]) (sc := defScope s__law_knot_right) (by decide +kernel)) (pi_listX (pr_get (pr_name (pv 1) rfl))) (fun _ _ _ _ _ => (pg_nameX (pg_name (i := 7) sc__law_knot_right.nd rfl (by first | exact Or.inl rfl | exact Or.inr rfl)))) (fun x378 _ _ _ _ _ => (pts_oneX (pt_cmpX op_notIn_seq (r2_ninL flat_I) (by rfl) (pr_name (pv 7) rfl) (pr_name (pv 3) rfl)))) (fun x378 _ _ _ _ _ => (pr_name (pv 7) rfl)))) (pr_frz (pr_lst (R := SS.rI) pa_nilR))) (b_ret pr_bl) (b_nil (t := ()) (.same (.same (.same (.off (.same (.same (.same (.same .nil)))) rfl))))))) (fun s376 => (b_ret pr_bl))))))) (fun a Q h => ?_)⟩
  obtain ⟨s, dues, t, hz, hl, ht, e, L, eL, hne, hs, hb, hk, ho, h⟩ := h
  obtain ⟨a1, o1, os⟩ := a
  dsimp only at e eL ho h ⊢
  subst e eL
  refine ⟨L, rfl, s, dues, t, hz, hl, ht, rfl, hs, hb, ?_⟩
  rw [if_neg hne, if_pos hk]
  refine bF rfl ⟨L, rfl, s, dues, rfl, hz, hl, ht, lt_nodup hs, hb, nbF (by rw [dT (p := L ≠ []) hne]; exact hk) ?_⟩
  refine forW_inv (fun _ _ _ => True) trivial (fun pre x suf st C e hi h1 _ _ h4 => ?_) (fun st _ => h)
  refine ⟨L, rfl, lcW_map (fun i => !decide (i ∈ x)) (fun i => i) _ (fun _ _ C c => c) (fun _ _ _ C c => c) ?_⟩
  rw [List.map_id']
  obtain ⟨i, i1, i2⟩ := ho x (by rw [e]; simp)
  refine iF (fun z => ?_) (h1 () trivial)
  have : i ∈ L.filter fun i => !decide (i ∈ x) := List.mem_filter.mpr ⟨i1, by simp [i2]⟩
  rw [z] at this
  cases this
theorem sc__law_row_right : FnScope ["case", "part", "row", "n", "order", "world", "book", "truth", "i"] ["case", "part", "row"] (defScope s__law_row_right) := ⟨rfl, rfl, rfl, by decide +kernel, rfl, by decide +kernel, by decide +kernel⟩
theorem ok__law_row_right (B : Bd P w K mg base) : FnG P w K mg base "_law_row_right" 7 ["case", "part", "row"] (SpF (K := K) (fsC (rTl (fsC (r_World P w K) (fsC (r_Book K) (fs1 (SS.rU SS.rI))))) (fsC (rL SS.rI) (fs1 (rO (rL SS.rI))))) rB (fun (a : (T_World × T_Book × (List Int)) × (List Int) × (Option (List Int))) => (fun P => ∃ s dues t, s ∈ SZ ∧ dues.length = (forms s).length ∧ t ∈ forms s ∧ a.1 = (world s dues, (spc s, dues), t) ∧ a.2.1.Pairwise (· < ·) ∧ (∀ i ∈ a.2.1, 0 ≤ i ∧ i < (s.length : Int)) ∧ ∃ r, a.2.2 = some r ∧ r.Perm a.2.1 ∧ Gd s dues t r ∧ P true : W Bool))) := by
  obtain ⟨fd, D⟩ := B.says.def_ 80 (d := d__law_row_right) rfl
  refine ⟨_, fd, B.tx.glo__law_row_right, D.kp, D.bindsN (fun _ _ _ _ _ _ us hl => match us, hl with | [_, _, _], _ => rfl), fnok_of (post := fun _ : Unit => ([.off, .off, .off, .off, .off, .off, .off, .off, .off] : List (En K))) D sc__law_row_right rfl (by decide) (fsE_C (fsE_C fsE_1)) (fun a => [.fr (rTl (fsC (r_World P w K) (fsC (r_Book K) (fs1 (SS.rU SS.rI))))) a.1, .fr (rL SS.rI) a.2.1, .fr (rO (rL SS.rI)) a.2.2, .off, .off, .off, .off, .off, .off]) (fun _ => rfl) (fun a cdv A outer s H E hr => (b_asgT (pr_name (pv 0) rfl) (pg_tupL (pgs_consX (pg_name (i := 5) sc__law_row_right.nd rfl (by first | exact Or.inl rfl | exact Or.inr rfl)) (fun _ => (pgs_consX (pg_name (i := 6) sc__law_row_right.nd rfl (by first | exact Or.inl rfl | exact Or.inr rfl)) (fun _ => (pgs_oneX (pg_name (i := 7) sc__law_row_right.nd rfl (by first | exact Or.inl rfl | exact Or.inr rfl)))))))) (fun x379 => (b_asg (i := 3) sc__law_row_right.nd rfl (by first | exact Or.inl rfl | exact Or.inr rfl) (pr_cb call_len_seq rc_len B.tx.free_len (by decide +kernel) (pa_oneX (pr_rget (ks := ["sizes", "forms", "steps", "dues", "loud", "settled"]) 0 (hu_of hr) (pr_name (pv 5) rfl) fsAt_0 (by decide +kernel)))) (fun x380 => (b_ifr (PW.pt (pw_orX (pt_notX (pt_valX (pr_call (ok__law_ints B) (hr.mono (by decide)) (pa_oneX (pr_name (pv 2) rfl))))) (pw_orX (pt_cmpX (op_neP hr.units) (r2_ne (eqL eqI)) (nomark _) (pr_frz (pr_cbL cr_sortedI rcl_sortI B.tx.free_sorted (by decide +kernel) (pa_oneX (pr_get (pr_name (pv 2) rfl))))) (pr_name (pv 1) rfl)) (pw_or1X (pt_cmpX op_notN (r2_notN nn_S) (nomark _) (pr_call (ok_judge_order B) (hr.mono (by decide)) (pa_consX (pr_name (pv 6) rfl) (pa_consX (pr_name (pv 7) rfl) (pa_oneX (pr_frz (pr_ctyL call_list_of rcl_list B.tx.free_list (by decide +kernel) (pa_oneX (pr_get (pr_name (pv 2) rfl))))))))) pr_nonU))))) (b_ret pr_bl) (b_ifr (pt_notX (pt_valX (pr_call (ok__law_opens B) (hr.mono (by decide)) (pa_consX (pr_frz (pr_lst (R := (r_World P w K)) (pa_consR (pr_name (pv 5) rfl) pa_nilR))) (pa_consX (pr_name (pv 7) rfl) (pa_consX (pr_frz (pr_lst (R := SS.rI) pa_nilR)) (pa_oneX (pr_get (pr_name (pv 2) rfl))))))))) (b_ret pr_bl) (b_asg (i := 4) sc__law_row_right.nd rfl (by first | exact Or.inl rfl | exact Or.inr rfl) (pr_frz (pr_catL (pr_get (pr_name (pv 2) rfl)) (pr_frz (pr_lc (own := [("i", 8)]) sc__law_row_right.nd (blkOk_by (own := [("i", 8)]) (N := ["case", "part", "row", "n", "order", "world", "book", "truth", "i"]) (sc := defScope s__law_row_right) (by decide +kernel)) (pi_rng1X B.tx.free_range (pa_oneX (pr_name (pv 3) rfl))) (fun _ _ _ _ _ => (pg_nameX (pg_name (i := 8) sc__law_row_right.nd rfl (by first | exact Or.inl rfl | exact Or.inr rfl)))) (fun x381 _ _ _ _ _ => (pts_oneX (pt_cmpX op_notIn_seq (r2_ninL flat_I) (by rfl) (pr_name (pv 8) rfl) (pr_get (pr_name (pv 2) rfl))))) (fun x381 _ _ _ _ _ => (pr_name (pv 8) rfl)))))) (fun x382 => (b_ret (pr_cmp (op_eqP hr.units) (r2_eq (eqO (eqL eqI) enn_L)) (nomark _) (pr_some (pr_frz (pr_slcTo (pr_call (ok_opened B) (hr.mono (by decide)) (pa_consX (pr_name (pv 6) rfl) (pa_consX (pr_name (pv 7) rfl) (pa_oneX (pr_name (pv 4) rfl))))) (pr_cb call_len_seq rc_len B.tx.free_len (by decide +kernel) (pa_oneX (pr_get (pr_name (pv 2) rfl))))))) (pr_name (pv 2) rfl)))))))))))) (fun a Q h => ?_)⟩
  obtain ⟨s, dues, t, hz, hl, ht, e, hs, hb, r, er, hp, hg, h⟩ := h
  obtain ⟨a1, F, o1⟩ := a
  dsimp only at e hs hb er hp h ⊢
  subst e er
  have hn := sz_n hz
  have nd : r.Nodup := hp.nodup_iff.mpr (lt_nodup hs)
  have rb : ∀ i ∈ r, 0 ≤ i ∧ i < (s.length : Int) := fun i hi => hb i (hp.mem_iff.mp hi)
  have rl := len_in nd rb
  refine fun _ => ⟨r, rfl, by omega, nbF rfl ⟨r, rfl, fun ys hy1 hy2 => nF (perm_lt (hy1.trans hp) hy2 hs) ⟨r, rfl, s, dues, t, hz, hl, ht, rfl, nd, rb, ?_⟩⟩⟩
  rw [if_neg fun z => (gd_iff nd).mp z hg]
  refine bF rfl ⟨r, rfl, s, dues, rfl, hz, hl, ht, rfl, nd, rb, fun b hbq => nbF (hbq.mpr hg) ⟨r, rfl, by show (s.length : Int) < 1000000 ∧ -1000000 < (s.length : Int); omega, ?_⟩⟩
  refine lcW_map (fun i => !decide (i ∈ r)) (fun i => i) _ (fun _ _ C c => ⟨r, rfl, c⟩) (fun _ _ _ C c => c) ?_
  rw [List.map_id']
  have es : (((world s dues).1.length : Int)).toNat = s.length := by show ((s.length : Int)).toNat = s.length; omega
  rw [es]
  have hfill := fill_perm nd rb
  have hlen : (r ++ (rng 0 s.length).filter fun i => !decide (i ∈ r)).length = s.length := by rw [hfill.length_eq, rng_len]
  have hl2 := hlen
  rw [List.length_append] at hl2
  refine ⟨small (by omega), s, dues, t, hz, hl, ht, rfl, hfill.nodup_iff.mpr (rng_nodup _), fun i hi => mem_rng.mp (hfill.mem_iff.mp hi), hlen, r, rfl, fun _ => ⟨by omega, ?_⟩⟩
  have e2 : ((r.length : Int)).toNat = r.length := by omega
  show Q _
  rw [e2, opnd_take nd hg, dT rfl]
  exact h
theorem sc__law_sets_right : FnScope ["pool", "case", "n", "orders", "order", "free", "part", "world", "book", "truth", "told", "held", "left", "inner", "i"] ["pool", "case"] (defScope s__law_sets_right) := ⟨rfl, rfl, rfl, by decide +kernel, rfl, by decide +kernel, by decide +kernel⟩
theorem ok__law_sets_right (B : Bd P w K mg base) : FnG P w K mg base "_law_sets_right" 8 ["pool", "case"] (SpP (K := K) (fs1 (rTl (fsC (r_World P w K) (fsC (r_Book K) (fs1 (SS.rU SS.rI)))))) rB (fun (a : (T_World × T_Book × (List Int))) => (fun P => ∃ s dues t, s ∈ SZ ∧ dues.length = (forms s).length ∧ t ∈ forms s ∧ a = (world s dues, (spc s, dues), t) ∧ P true : W Bool))) := by
  obtain ⟨fd, D⟩ := B.says.def_ 81 (d := d__law_sets_right) rfl
  refine ⟨_, fd, B.tx.glo__law_sets_right, D.kp, D.bindsN (fun _ _ _ _ _ _ us hl => match us, hl with | [_, _], _ => rfl), fnok_ofP (post := fun p g (_ : Unit) => ([.pool p g, .off, .off, .off, .off, .off, .off, .off, .off, .off, .off, .off, .off, .off, .off] : List (En K))) D sc__law_sets_right rfl (by decide) fsE_1 (fun p g a => [.pool p g, .fr (rTl (fsC (r_World P w K) (fsC (r_Book K) (fs1 (SS.rU SS.rI))))) a, .off, .off, .off, .off, .off, .off, .off, .off, .off, .off, .off, .off, .off]) (fun _ _ _ => rfl) (fun p g a cdv A outer s H E hr => (b_asgT (pr_name (pv 1) rfl) (pg_tupL (pgs_consX (pg_name (i := 7) sc__law_sets_right.nd rfl (by first | exact Or.inl rfl | exact Or.inr rfl)) (fun _ => (pgs_consX (pg_name (i := 8) sc__law_sets_right.nd rfl (by first | exact Or.inl rfl | exact Or.inr rfl)) (fun _ => (pgs_oneX (pg_name (i := 9) sc__law_sets_right.nd rfl (by first | exact Or.inl rfl | exact Or.inr rfl)))))))) (fun x383 => (b_asg (i := 2) sc__law_sets_right.nd rfl (by first | exact Or.inl rfl | exact Or.inr rfl) (pr_cb call_len_seq rc_len B.tx.free_len (by decide +kernel) (pa_oneX (pr_rget (ks := ["sizes", "forms", "steps", "dues", "loud", "settled"]) 0 (hu_of hr) (pr_name (pv 7) rfl) fsAt_0 (by decide +kernel)))) (fun x384 => (b_asgL (i := 3) sc__law_sets_right.nd rfl (by first | exact Or.inl rfl | exact Or.inr rfl) (pr_lst (R := (rL SS.rI)) pa_nilR) (fun q385 q385l => (b_for (fun s386 : (List (List Int)) => [.pool p g, .fr (rTl (fsC (r_World P w K) (fsC (r_Book K) (fs1 (SS.rU SS.rI))))) a, .fr SS.rI x384, .own q385 (rL SS.rI) s386, .off, .off, .off, .fr (r_World P w K) x383.1, .fr (r_Book K) x383.2.1, .fr (SS.rU SS.rI) x383.2.2, .off, .off, .off, .off, .off]) q385l (pi_listX (pr_call (ok__law_orders B) (hr.mono (by decide)) (pa_oneX (pr_name (pv 2) rfl)))) (.same (.same (.same (.same (.same (.same (.same (.same (.same (.same (.same (.same (.same (.same (.same .nil))))))))))))))) (fun s386 => (pg_nameX (pg_name (i := 4) sc__law_sets_right.nd rfl (by first | exact Or.inl rfl | exact Or.inr rfl)))) (fun q387 q387x => (b_asg (i := 10) sc__law_sets_right.nd rfl (by first | exact Or.inl rfl | exact Or.inr rfl) (pr_call (ok_opened B) (hr.mono (by decide)) (pa_consX (pr_name (pv 8) rfl) (pa_consX (pr_name (pv 9) rfl) (pa_oneX (pr_frz (pr_ctyL call_list_of rcl_list B.tx.free_list (by decide +kernel) (pa_oneX (pr_name (pv 4) rfl)))))))) (fun x388 => (b_ifr (PW.pt (pw_orX (pt_notX (pt_valX (pr_call (ok__law_ints B) (hr.mono (by decide)) (pa_oneX (pr_some (pr_name (pv 10) rfl)))))) (pw_or1X (pt_cmpX (op_neP hr.units) (r2_ne (eqL eqI)) (nomark _) (pr_name (pv 10) rfl) (pr_call (ok__law_opened B) (hr.mono (by decide)) (pa_consX (pr_name (pv 7) rfl) (pa_consX (pr_name (pv 9) rfl) (pa_oneX (pr_name (pv 4) rfl))))))))) (b_ret pr_bl) (b_app (pv 3) rfl (pr_name (pv 10) rfl) (fun x389 => (b_nil (t := (q387 ++ [x389])) (.same (.same (.same (.same (.off (.same (.same (.same (.same (.same (.off (.same (.same (.same (.same .nil)))) rfl)))))) rfl)))))))))))) (fun s386 => (b_asgL (i := 5) sc__law_sets_right.nd rfl (by first | exact Or.inl rfl | exact Or.inr rfl) (pr_lst (R := (rL SS.rI)) pa_nilR) (fun q390 q390l => (b_frz 3 rfl (b_for (fun s391 : (List (List Int)) => [.pool p g, .fr (rTl (fsC (r_World P w K) (fsC (r_Book K) (fs1 (SS.rU SS.rI))))) a, .fr SS.rI x384, .fr (rL (rL SS.rI)) s386, .off, .own q390 (rL SS.rI) s391, .off, .fr (r_World P w K) x383.1, .fr (r_Book K) x383.2.1, .fr (SS.rU SS.rI) x383.2.2, .off, .off, .off, .off, .off]) q390l (pi_listX (pr_call (ok__law_subsets B) (hr.mono (by decide)) (pa_oneX (pr_name (pv 2) rfl)))) (.same (.same (.same (.same (.same (.same (.same (.same (.same (.same (.same (.same (.same (.same (.same .nil))))))))))))))) (fun s391 => (pg_nameX (pg_name (i := 6) sc__law_sets_right.nd rfl (by first | exact Or.inl rfl | exact Or.inr rfl)))) (fun q392 q392x => (b_asg (i := 11) sc__law_sets_right.nd rfl (by first | exact Or.inl rfl | exact Or.inr rfl) (pr_call (ok__law_great B) (hr.mono (by decide)) (pa_consX (pr_frz (pr_lst (R := (r_World P w K)) (pa_consR (pr_name (pv 7) rfl) pa_nilR))) (pa_consX (pr_name (pv 9) rfl) (pa_oneX (pr_name (pv 6) rfl))))) (fun x393 => (b_asg (i := 10) sc__law_sets_right.nd rfl (by first | exact Or.inl rfl | exact Or.inr rfl) (pr_call (ok_order_for B) (hr.mono (by decide)) (pa_consX (pr_name (pv 8) rfl) (pa_consX (pr_name (pv 9) rfl) (pa_oneX (pr_frz (pr_ctyL call_list_of rcl_list B.tx.free_list (by decide +kernel) (pa_oneX (pr_name (pv 6) rfl)))))))) (fun x394 => (b_ifr (pt_notX (pt_valX (pr_call (ok__law_pair B) (hr.mono (by decide)) (pa_consX (pr_name (pv 10) rfl) (pa_oneX (pr_if (pt_cmpX (op_eqP hr.units) (r2_eq (eqL eqI)) (nomark _) (pr_name (pv 11) rfl) (pr_frz (pr_lst (R := SS.rI) pa_nilR))) pr_str pr_str)))))) (b_ret pr_bl) (b_if (fun s396 : (List (List Int)) => [.pool p g, .fr (rTl (fsC (r_World P w K) (fsC (r_Book K) (fs1 (SS.rU SS.rI))))) a, .fr SS.rI x384, .fr (rL (rL SS.rI)) s386, .off, .own q390 (rL SS.rI) s396, .fr (rL SS.rI) q392x, .fr (r_World P w K) x383.1, .fr (r_Book K) x383.2.1, .fr (SS.rU SS.rI) x383.2.2, .fr (rT (fsC rS (fs1 (rO (rL SS.rI))))) x394, .fr (rL SS.rI) x393, .off, .off, .off]) (pt_cmpX (op_eqP hr.units) (r2_eq (eqL eqI)) (nomark _) (pr_name (pv 11) rfl) (pr_frz (pr_lst (R := SS.rI) pa_nilR))) (b_app (pv 5) rfl (pr_name (pv 6) rfl) (fun x395 => (b_ifr (pt_notX (pt_valX (pr_call (ok__law_row_right B) (hr.mono (by decide)) (pa_consX (pr_name (pv 1) rfl) (pa_consX (pr_name (pv 6) rfl) (pa_oneX (pr_ix ix_tup (r2_ixF (j := 1) (fsAt_s fsAt_1)) (pr_name (pv 10) rfl) pr_int))))))) (b_ret pr_bl) (b_nil (t := (q392 ++ [x395])) (.same (.same (.same (.same (.same (.same (.same (.same (.same (.same (.same (.same (.same (.same (.same .nil))))))))))))))))))) (b_ifr (PW.pt (pw_orX (pt_cmpX (op_neP hr.units) (r2_ne (eqO (eqL eqI) enn_L)) (nomark _) (pr_ix ix_tup (r2_ixF (j := 1) (fsAt_s fsAt_1)) (pr_name (pv 10) rfl) pr_int) (pr_some (pr_name (pv 11) rfl))) (pw_or1X (pt_notX (pt_valX (pr_call (ok__law_knot_right B) (hr.mono (by decide)) (pa_consX (pr_name (pv 1) rfl) (pa_consX (pr_ix ix_tup (r2_ixF (j := 1) (fsAt_s fsAt_1)) (pr_name (pv 10) rfl) pr_int) (pa_oneX (pr_name (pv 3) rfl)))))))))) (b_ret pr_bl) (b_nil (t := q392) (.same (.same (.same (.same (.same (.same (.same (.same (.same (.same (.same (.same (.same (.same (.same .nil))))))))))))))))) (fun s396 => (b_asg (i := 12) sc__law_sets_right.nd rfl (by first | exact Or.inl rfl | exact Or.inr rfl) (pr_call (ok_knot B) (hr.mono (by decide)) (pa_consX (pr_name (pv 8) rfl) (pa_consX (pr_name (pv 9) rfl) (pa_oneX (pr_frz (pr_ctyL call_list_of rcl_list B.tx.free_list (by decide +kernel) (pa_oneX (pr_name (pv 6) rfl)))))))) (fun x397 => (b_ifr (PW.pt (pw_orX (pt_cmpX (op_neP hr.units) (r2_ne (eqL eqI)) (nomark _) (pr_name (pv 12) rfl) (pr_name (pv 11) rfl)) (pw_or1X (pt_cmpX (op_neP hr.units) (r2_ne (eqL eqI)) (nomark _) (pr_draw (ok__law_taken_away B) (hr.mono (by decide)) (pv 0) rfl (pa_consX (pr_name (pv 7) rfl) (pa_consX (pr_name (pv 9) rfl) (pa_oneX (pr_name (pv 6) rfl))))) (pr_name (pv 11) rfl))))) (b_ret pr_bl) (b_ifr (pt_cmpX (op_neP hr.units) (r2_ne eqB) (nomark _) (pr_cmp op_isN (r2_isN nn_S) (nomark _) (pr_call (ok_judge_knot B) (hr.mono (by decide)) (pa_consX (pr_name (pv 8) rfl) (pa_consX (pr_name (pv 9) rfl) (pa_oneX (pr_frz (pr_ctyL call_list_of rcl_list B.tx.free_list (by decide +kernel) (pa_oneX (pr_name (pv 6) rfl)))))))) pr_nonU) (pr_call (ok__law_is_knot B) (hr.mono (by decide)) (pa_consX (pr_frz (pr_lst (R := (r_World P w K)) (pa_consR (pr_name (pv 7) rfl) pa_nilR))) (pa_consX (pr_name (pv 9) rfl) (pa_oneX (pr_name (pv 6) rfl)))))) (b_ret pr_bl) (b_lcT (i := 13) (own := [("i", 14)]) sc__law_sets_right.nd rfl rfl rfl (by decide +kernel) (blkOk_by (own := [("i", 14)]) (N := ["pool", "case", "n", "orders", "order", "free", "part", "world", "book", "truth", "told", "held", "left", "inner", "i"]) (sc := defScope s__law_sets_right) (by decide +kernel)) (pi_listX (pr_name (pv 6) rfl)) (fun _ _ _ _ _ => (pg_nameX (pg_name (i := 14) sc__law_sets_right.nd rfl (by first | exact Or.inl rfl | exact Or.inr rfl)))) (fun x398 _ _ _ _ _ => (pts_oneX (pt_cmpX (op_eqP hr.units) (r2_eq eqI) (nomark _) (pr_draw (ok__law_below B) (hr.mono (by decide)) (pv 0) rfl (pa_oneX pr_int)) pr_int))) (fun x398 _ _ _ _ _ => (pr_name (pv 14) rfl)) (fun q399 q399l => (b_frz 13 rfl (b_ifr (PW.pt (pw_andX (pt_thaw (i := 5) rfl (pt_cmpX (op_inD hr.u65) (r2_inD (eqL eqI)) (by rfl) (pr_name (pv 6) rfl) (pr_name (pv 5) rfl))) (pw_and1X (pt_cmpX (op_neP hr.units) (r2_ne eqS) (nomark _) (pr_ix ix_tup (r2_ixF (j := 0) fsAt_0) (pr_call (ok_order_for B) (hr.mono (by decide)) (pa_consX (pr_name (pv 8) rfl) (pa_consX (pr_name (pv 9) rfl) (pa_oneX (pr_name (pv 13) rfl))))) pr_int) pr_str)))) (b_ret pr_bl) (b_nil (t := s396) (.same (.same (.same (.same (.same (.same (.off (.same (.same (.same (.off (.off (.off (.off (.same .nil) rfl) rfl) rfl) rfl)))) rfl))))))))))))))))) (by intro _ _ h; exact h)))))))) (fun s391 => (b_ret pr_bl))))))))))))))) (fun p g a Q h => ?_)⟩
  obtain ⟨s, dues, t, hz, hl, ht, e, h⟩ := h
  subst e
  have hn := sz_n hz
  have ho := (fc_orders ⟨s.length, by omega⟩).2
  have tl := (inF hz ht).1
  refine fun _ p0 => ⟨by show 0 ≤ (s.length : Int) ∧ (s.length : Int) ≤ 4; omega, forW_inv (fun pre _ st => (∀ o ∈ st, Gd s dues t o) ∧ st.length ≤ pre.length) ⟨fun o hh => (by cases hh), by simp⟩ (fun pre x suf st C e hi h1 _ _ _ => ?_) (fun st hst p1 => ?_)⟩
  · have e' : orders ((s.length : Nat) : Int) = pre ++ x :: suf := e
    obtain ⟨hnd, hlen, hb⟩ := ho x (by
      have : x ∈ orders ((s.length : Nat) : Int) := by rw [e']; simp
      exact this)
    dsimp only at hlen hb
    have h24 : pre.length ≤ 24 := by
      have := ((fc_orders ⟨s.length, by omega⟩).1 ⟨s.length, by omega⟩ (Nat.le_refl _)).1
      dsimp only at this
      have h2 : (orders ((s.length : Nat) : Int)).length ≤ 24 := this
      rw [e', List.length_append] at h2
      omega
    have hol := op_len (s := s) (dues := dues) (t := t) (row := x)
    refine ⟨s, dues, t, hz, hl, ht, rfl, hnd, hb, hlen, opnd s dues t x, rfl, by omega, nbF rfl ⟨s, dues, rfl, hz, hl, ht, hnd, hb, nF rfl ⟨fun _ => smallS (by omega), h1 _ ⟨fun o hh => ?_, ?_⟩⟩⟩⟩
    · rcases List.mem_append.mp hh with z | z
      · exact hi.1 o z
      · rw [List.mem_singleton.mp z]; exact gd_opnd s dues t x
    · rw [List.length_append, List.length_append, List.length_cons, List.length_nil, List.length_cons, List.length_nil]
      omega
  obtain ⟨hgds, _⟩ := hst
  refine ⟨s.length, hn.2, rfl, forW_inv (fun pre _ free => (∀ K ∈ free, Great s dues t K []) ∧ free.length ≤ pre.length) ⟨fun o hh => (by cases hh), by simp⟩ (fun pre K suf free C e hi h1 _ _ _ => ?_) (fun _ _ => h)⟩
  have hKp : K ∈ partsOf (rng 0 s.length) := by rw [e]; simp
  have hK := parts_iff.mp hKp
  have hs : K.Pairwise (· < ·) := (rng_sorted _).sublist hK
  have hb : ∀ i ∈ K, 0 ≤ i ∧ i < (s.length : Int) := fun i hi => mem_rng.mp (hK.subset hi)
  have h16 : pre.length ≤ 16 := by
    have h2 : (partsOf (rng 0 s.length)).length ≤ 16 := by
      rw [parts_count, rng_len]
      exact Nat.le_trans (Nat.pow_le_pow_right (by omega) hn.2) (by decide)
    rw [e, List.length_append] at h2
    omega
  have hKl := hK.length_le
  rw [rng_len] at hKl
  obtain ⟨f1, f2⟩ := hi
  refine ⟨s, dues, rfl, hz, hl, ht, hs, hb, fun L hL => ⟨s, dues, t, hz, hl, ht, rfl, hs, hb, fun L1 hL1 ne1 => ?_, fun h0 row hp hg => ?_⟩⟩
  · have eL := hL.uniq hs hL1
    subst eL
    have F1 := f1
    have F2 : free.length ≤ (pre ++ [K]).length := by rw [List.length_append]; omega
    have hLb : ∀ i ∈ L, 0 ≤ i ∧ i < (s.length : Int) := fun i hi => hb i (hL.sub.subset hi)
    refine iF ne1 (nF rfl (iF ne1 ⟨rfl, nF rfl ⟨rfl, s, dues, t, hz, hl, ht, rfl, L, rfl, ne1, hs.sublist hL.sub, hLb, hL.kn, fun o hh => Classical.byContradiction fun hc => ne1 (gd_knot hz ht (hgds o hh) hLb hL.kn fun i hi => Classical.byContradiction fun w => hc ⟨i, hi, w⟩), nbF rfl ?_⟩⟩))
    dsimp only [onx]
    refine ⟨s, dues, t, hz, hl, ht, rfl, hs, hb, fun L2 hL2 => ?_⟩
    have e2 := hL.uniq hs hL2
    subst e2
    refine nF rfl ⟨s, dues, rfl, hz, hl, ht, hs, hb, fun L3 hL3 => ?_⟩
    have e3 := hL.uniq hs hL3
    subst e3
    refine nF rfl ⟨s, dues, t, hz, hl, ht, rfl, hs, hb, s, dues, rfl, hz, hl, ht, lt_nodup hs, hb, nF ?_ ?_⟩
    · by_cases z : K = []
      · rw [if_pos z, dF (p := K ≠ []) (fun w => w z)]; rfl
      · rw [if_neg z, dT (p := K ≠ []) z]
        cases kn s dues t K <;> rfl
    refine lcW_sub _ _ (fun i _ C c => ⟨by decide, fun r _ _ => c _⟩) (fun _ _ C c => c) (fun ys hys => fun p => ifB (fun hin => ⟨s, dues, t, hz, hl, ht, rfl, hs.sublist hys, fun i hi => hb i (hys.subset hi), fun L4 hL4 ne4 => absurd ?_ ne4, fun _ row _ _ => ⟨rfl, nF rfl (h1 _ ⟨F1, F2⟩)⟩⟩) fun _ => bF rfl (h1 _ ⟨F1, F2⟩))
    have hg0 := F1 K hin
    cases L4 with
    | nil => rfl
    | cons z L4 => have := hg0.all _ (fun i hi => hys.subset (hL4.sub.subset hi)) hL4.kn z (by simp); cases this
  · have eL := hL.uniq hs h0
    subst eL
    have F1 : ∀ K' ∈ free ++ [K], Great s dues t K' [] := fun K' hK' => by
      rcases List.mem_append.mp hK' with z | z
      · exact f1 K' z
      · rw [List.mem_singleton.mp z]; exact h0
    have F2 : (free ++ [K]).length ≤ (pre ++ [K]).length := by rw [List.length_append, List.length_append]; omega
    refine iT rfl (nF rfl (iT rfl ⟨fun _ => smallS (by omega), rfl, s, dues, t, hz, hl, ht, rfl, hs, hb, row, rfl, hp, hg, nbF rfl ?_⟩))
    dsimp only [onx]
    refine ⟨s, dues, t, hz, hl, ht, rfl, hs, hb, fun L2 hL2 => ?_⟩
    have e2 := hL.uniq hs hL2
    subst e2
    refine nF rfl ⟨s, dues, rfl, hz, hl, ht, hs, hb, fun L3 hL3 => ?_⟩
    have e3 := hL.uniq hs hL3
    subst e3
    refine nF rfl ⟨s, dues, t, hz, hl, ht, rfl, hs, hb, s, dues, rfl, hz, hl, ht, lt_nodup hs, hb, nF ?_ ?_⟩
    · by_cases z : K = []
      · rw [if_pos z, dF (p := K ≠ []) (fun w => w z)]; rfl
      · rw [if_neg z, dT (p := K ≠ []) z]
        cases kn s dues t K <;> rfl
    refine lcW_sub _ _ (fun i _ C c => ⟨by decide, fun r _ _ => c _⟩) (fun _ _ C c => c) (fun ys hys => fun p => ifB (fun hin => ⟨s, dues, t, hz, hl, ht, rfl, hs.sublist hys, fun i hi => hb i (hys.subset hi), fun L4 hL4 ne4 => absurd ?_ ne4, fun _ row _ _ => ⟨rfl, nF rfl (h1 _ ⟨F1, F2⟩)⟩⟩) fun _ => bF rfl (h1 _ ⟨F1, F2⟩))
    have hg0 := F1 K hin
    cases L4 with
    | nil => rfl
    | cons z L4 => have := hg0.all _ (fun i hi => hys.subset (hL4.sub.subset hi)) hL4.kn z (by simp); cases this
theorem sc__law_rows_right : FnScope ["case", "part", "world", "book", "truth", "row"] ["case"] (defScope s__law_rows_right) := ⟨rfl, rfl, rfl, by decide +kernel, rfl, by decide +kernel, by decide +kernel⟩
theorem ok__law_rows_right (B : Bd P w K mg base) : FnG P w K mg base "_law_rows_right" 7 ["case"] (SpF (K := K) (fs1 (rTl (fsC (r_World P w K) (fsC (r_Book K) (fs1 (SS.rU SS.rI)))))) rB (fun (a : (T_World × T_Book × (List Int))) => (fun P => ∃ s dues t, s ∈ SZ ∧ dues.length = (forms s).length ∧ t ∈ forms s ∧ a = (world s dues, (spc s, dues), t) ∧ P true : W Bool))) := by
  obtain ⟨fd, D⟩ := B.says.def_ 82 (d := d__law_rows_right) rfl
  refine ⟨_, fd, B.tx.glo__law_rows_right, D.kp, D.bindsN (fun _ _ _ _ _ _ us hl => match us, hl with | [_], _ => rfl), fnok_of (post := fun _ : Unit => ([.off, .off, .off, .off, .off, .off] : List (En K))) D sc__law_rows_right rfl (by decide) fsE_1 (fun a => [.fr (rTl (fsC (r_World P w K) (fsC (r_Book K) (fs1 (SS.rU SS.rI))))) a, .off, .off, .off, .off, .off]) (fun _ => rfl) (fun a cdv A outer s H E hr => (b_asgT (pr_name (pv 0) rfl) (pg_tupL (pgs_consX (pg_name (i := 2) sc__law_rows_right.nd rfl (by first | exact Or.inl rfl | exact Or.inr rfl)) (fun _ => (pgs_consX (pg_name (i := 3) sc__law_rows_right.nd rfl (by first | exact Or.inl rfl | exact Or.inr rfl)) (fun _ => (pgs_oneX (pg_name (i := 4) sc__law_rows_right.nd rfl (by first | exact Or.inl rfl | exact Or.inr rfl)))))))) (fun x400 => (b_for (fun s401 : Unit => [.fr (rTl (fsC (r_World P w K) (fsC (r_Book K) (fs1 (SS.rU SS.rI))))) a, .off, .fr (r_World P w K) x400.1, .fr (r_Book K) x400.2.1, .fr (SS.rU SS.rI) x400.2.2, .off]) () (pi_listX (pr_call (ok__law_subsets B) (hr.mono (by decide)) (pa_oneX (pr_cb call_len_seq rc_len B.tx.free_len (by decide +kernel) (pa_oneX (pr_rget (ks := ["sizes", "forms", "steps", "dues", "loud", "settled"]) 0 (hu_of hr) (pr_name (pv 2) rfl) fsAt_0 (by decide +kernel))))))) (.same (.same (.same (.same (.same (.same .nil)))))) (fun s401 => (pg_nameX (pg_name (i := 1) sc__law_rows_right.nd rfl (by first | exact Or.inl rfl | exact Or.inr rfl)))) (fun q402 q402x => (b_for (fun s403 : Unit => [.fr (rTl (fsC (r_World P w K) (fsC (r_Book K) (fs1 (SS.rU SS.rI))))) a, .fr (rL SS.rI) q402x, .fr (r_World P w K) x400.1, .fr (r_Book K) x400.2.1, .fr (SS.rU SS.rI) x400.2.2, .off]) () (pi_listX (pr_call (ok__law_rows_of B) (hr.mono (by decide)) (pa_oneX (pr_name (pv 1) rfl)))) (.same (.same (.same (.same (.same (.same .nil)))))) (fun s403 => (pg_nameX (pg_name (i := 5) sc__law_rows_right.nd rfl (by first | exact Or.inl rfl | exact Or.inr rfl)))) (fun q404 q404x => (b_ifr (PW.pt (pw_andX (pt_cmpX op_lt r2_lt (nomark _) (pr_cb call_len_seq rc_len B.tx.free_len (by decide +kernel) (pa_oneX (pr_name (pv 5) rfl))) pr_int) (pw_and1X (pt_cmpX (op_neP hr.units) (r2_ne eqB) (nomark _) (pr_cmp op_isN (r2_isN nn_S) (nomark _) (pr_call (ok_judge_order B) (hr.mono (by decide)) (pa_consX (pr_name (pv 3) rfl) (pa_consX (pr_name (pv 4) rfl) (pa_oneX (pr_frz (pr_ctyL call_list_of rcl_list B.tx.free_list (by decide +kernel) (pa_oneX (pr_name (pv 5) rfl)))))))) pr_nonU) (pr_call (ok__law_opens B) (hr.mono (by decide)) (pa_consX (pr_frz (pr_lst (R := (r_World P w K)) (pa_consR (pr_name (pv 2) rfl) pa_nilR))) (pa_consX (pr_name (pv 4) rfl) (pa_consX (pr_frz (pr_lst (R := SS.rI) pa_nilR)) (pa_oneX (pr_name (pv 5) rfl)))))))))) (b_ret pr_bl) (b_nil (t := ()) (.same (.same (.same (.same (.same (.off .nil rfl))))))))) (fun s403 => (b_nil (t := ()) (.same (.off (.same (.same (.same (.same .nil)))) rfl)))))) (fun s401 => (b_ret pr_bl)))))) (fun a Q h => ?_)⟩
  obtain ⟨s, dues, t, hz, hl, ht, e, h⟩ := h
  subst e
  have hn := sz_n hz
  refine fun _ => ⟨s.length, hn.2, rfl, forW_inv (fun _ _ _ => True) trivial (fun pre K suf st C e hi h1 _ _ h4 => ?_) (fun st _ => h)⟩
  have hK := parts_iff.mp (show K ∈ partsOf (rng 0 s.length) by rw [e]; simp)
  have kl := hK.length_le
  rw [rng_len] at kl
  refine ⟨⟨by omega, (rng_nodup _).sublist hK⟩, fun rs hrs => forW_inv (fun _ _ _ => True) trivial (fun pre2 r suf2 st2 C2 e2 hi2 h2 _ _ h5 => ?_) (fun st _ => h1 () trivial)⟩
  have hp := hrs r (by rw [e2]; simp)
  have nd : r.Nodup := hp.nodup_iff.mpr ((rng_nodup _).sublist hK)
  have rb : ∀ i ∈ r, 0 ≤ i ∧ i < (s.length : Int) := fun i hi => mem_rng.mp (hK.subset (hp.mem_iff.mp hi))
  refine fun _ => ifB (fun _ => ⟨s, dues, t, hz, hl, ht, rfl, nd, rb, s, dues, rfl, hz, hl, ht, rfl, nd, rb, fun b hb => nF ?_ (h2 () trivial)⟩) fun _ => bF rfl (h2 () trivial)
  have hgd := gd_iff (s := s) (dues := dues) (t := t) nd
  cases b with
  | true => rw [if_neg fun z => hgd.mp z (hb.mp rfl)]; rfl
  | false => rw [if_pos (hgd.mpr fun z => by have := hb.mpr z; cases this)]; rfl
theorem sc_law : FnScope ["script", "pool", "cases", "case"] ["script"] (defScope s_law) := ⟨rfl, rfl, rfl, by decide +kernel, rfl, by decide +kernel, by decide +kernel⟩
theorem okf_law (B : Bd P w K mg base) {fd : FuncData} (D : FunD K d_law.name d_law.qual d_law.params d_law.body d_law.scope (He.DefD.dvs K d_law) (He.DefD.kws K d_law) (He.fAd K d_law.at_) fd) : FnOk P w K mg base CX0 9 (He.fAd K d_law.at_) fd ["script"] (SpF (K := K) (fs1 (rL SS.rI)) rB (fun (a : (List Int)) => (fun P => a.length ≤ 63 ∧ P true : W Bool))) := by
  refine fnok_of (post := fun _ : Unit => ([.off, .off, .off, .off] : List (En K))) D sc_law rfl (by decide) fsE_1 (fun a => [.fr (rL SS.rI) a, .off, .off, .off]) (fun _ => rfl) (fun a cdv A outer s H E hr => (b_begin (i := 1) (ok__law_begin B) (hr.mono (by decide)) sc_law.nd rfl (by first | exact Or.inl rfl | exact Or.inr rfl) (pa_oneX (pr_name (pv 0) rfl)) (fun p g => (b_asg (i := 2) sc_law.nd rfl (by first | exact Or.inl rfl | exact Or.inr rfl) (pr_frz (pr_lst (R := (rTl (fsC (r_World P w K) (fsC (r_Book K) (fs1 (SS.rU SS.rI)))))) (pa_consR (pr_draw (ok__law_case B) (hr.mono (by decide)) (pv 1) rfl pa_nilX) (pa_consR (pr_draw (ok__law_off_case B) (hr.mono (by decide)) (pv 1) rfl pa_nilX) (pa_consR (pr_draw (ok__law_switch_case B) (hr.mono (by decide)) (pv 1) rfl pa_nilX) pa_nilR))))) (fun x405 => (b_for (fun s406 : Unit => [.fr (rL SS.rI) a, .pool p g, .fr (rL (rTl (fsC (r_World P w K) (fsC (r_Book K) (fs1 (SS.rU SS.rI)))))) x405, .off]) () (pi_listX (pr_name (pv 2) rfl)) (.same (.same (.same (.same .nil)))) (fun s406 => (pg_nameX (pg_name (i := 3) sc_law.nd rfl (by first | exact Or.inl rfl | exact Or.inr rfl)))) (fun q407 q407x => (b_ifr (PW.pt (pw_orX (pt_notX (pt_valX (pr_draw (ok__law_sets_right B) (hr.mono (by decide)) (pv 1) rfl (pa_oneX (pr_name (pv 3) rfl))))) (pw_or1X (pt_notX (pt_valX (pr_call (ok__law_rows_right B) (hr.mono (by decide)) (pa_oneX (pr_name (pv 3) rfl)))))))) (b_ret pr_bl) (b_nil (t := ()) (.same (.same (.same (.off .nil rfl))))))) (fun s406 => (b_ret pr_bl)))))))) (fun a Q h => ?_)
  obtain ⟨hl, h⟩ := h
  refine ⟨hl, fun p g s dues t hz hd hm ht s1 dues1 t1 hz1 hd1 hm1 ht1 s2 dues2 t2 hz2 hd2 hm2 ht2 => ?_⟩
  refine forW_inv (fun _ _ _ => True) trivial (fun pre x suf st C e hi h1 _ _ h4 => ?_) (fun st _ => h)
  have hx : x ∈ [(world s dues, (spc s, dues), t), (world s1 dues1, (spc s1, dues1), t1), (world s2 dues2, (spc s2, dues2), t2)] := by rw [e]; simp
  have ok : ∃ s dues t, s ∈ SZ ∧ dues.length = (forms s).length ∧ t ∈ forms s ∧ x = (world s dues, (spc s, dues), t) := by
    rcases List.mem_cons.mp hx with q | hx
    · exact ⟨s, dues, t, hz, hd, ht, q⟩
    rcases List.mem_cons.mp hx with q | hx
    · exact ⟨s1, dues1, t1, hz1, hd1, ht1, q⟩
    · exact ⟨s2, dues2, t2, hz2, hd2, ht2, List.mem_singleton.mp hx⟩
  obtain ⟨s', d', t', z1, z2, z3, e'⟩ := ok
  exact ⟨s', d', t', z1, z2, z3, e', nbF rfl ⟨s', d', t', z1, z2, z3, e', nbF rfl (h1 () trivial)⟩⟩
abbrev spLaw (K : PySem.W.Frag) : Sp := (SpF (K := K) (fs1 (rL SS.rI)) rB (fun (a : (List Int)) => (fun P => a.length ≤ 63 ∧ P true : W Bool)))
theorem facts {h : Heap} {f : Addr} (X : K.In h) (G : h.Ns mainGlobals mg) (hfa : mg ("law" : Str) = some (.ref f)) (c : SaysE fa fn tb K) :
    ∃ fd : FuncData, (∀ (s : Shared) (v : Value), BindsTo s fd ⟨[v], []⟩ [("script", v)]) ∧ ∀ base : Heap, K.In base → base.Ns mainGlobals mg → FnOk P w K mg base CX0 9 f fd ["script"] (spLaw K) := by
  obtain ⟨fd, D⟩ := c.d.def_ 83 (d := d_law) rfl
  have tx := tx_of X G c
  have e := hfa.symm.trans tx.glo_law
  cases e
  have b := FunD.bindsA (ps := ["script"]) D fun _ _ _ _ _ _ us hl => match us, hl with | [_], _ => rfl
  exact ⟨fd, fun s v => b s [v] rfl, fun base _ _ => okf_law ⟨c.d, tx⟩ D⟩
theorem kept (H : Hp) (a : Addr) (ns : List Int) (hl : ns.length ≤ 63) (hS : SqL K H a (ns.map V.int)) : spLaw K [.ref a] H (fun v _ => v = .bl true) fun _ _ _ => False :=
  ⟨H, ns, (fun b => b = true), Same.refl H, ⟨.ref a, rfl, a, _, rfl, hS, ints_pair ns, by have := szl; rw [List.length_map]; omega⟩, ⟨hl, rfl⟩, fun G' H' v b _ eb rb => by
    have e : v = V.bl b := rb
    rw [e, eb]⟩
end
end KK

set_option maxHeartbeats 0
open PySem PySem.W PySem.Calls PyProof.Rows
theorem PySem.Challenge.cw_stillsealed_k46_whole_every_set_has_an_o_holds : PySem.Challenge.rw_stillsealed_k46_whole_every_set_has_an_o.Holds := by
  w_on; o_law
  refine HandSHeadRun.head_any (r := OpenLaw.row PySem.Challenge.rw_stillsealed_k46_whole_every_set_has_an_o) (q := view (OpenLaw.row PySem.Challenge.rw_stillsealed_k46_whole_every_set_has_an_o).prog [78]) (H := KK.hk) (ob := KK.ob) (M := 6000) (loose := KK.loose) (d := HandSHeadRun.topDef (OpenLaw.row PySem.Challenge.rw_stillsealed_k46_whole_every_set_has_an_o).prog 78) (kwd := []) KK.ob_eq
    (by kernel_rfl) (fun s => by kernel_rfl) KK.run (by kernel_rfl) (by kernel_rfl) (by kernel_rfl) (by rfl) (by first | assumption | decide +kernel) (by decide +kernel) ⟨rfl, rfl, rfl, rfl, rfl, by decide +kernel⟩ ?hw ?hc
  case hw => w_witness2
  case hc =>
    refine L2.walk_ofE (l := PySem.Challenge.rw_stillsealed_k46_whole_every_set_has_an_o) (n := 63) (k := 9) (x := "script") (CX := L2.CX0) rfl (by decide) (by kernel_rfl) ⟨rfl, by decide, by decide⟩ ?F (fun _ _ _ _ z => z)
    intro w mg fa h Y G hmg0
    obtain ⟨K, KX, c⟩ := Y
    have hmg : mg ("law" : PySem.Str) = some (.ref fa) := by
      have e : (HandSHeadRun.topDef (OpenLaw.row PySem.Challenge.rw_stillsealed_k46_whole_every_set_has_an_o).prog 78).name = ("law" : PySem.Str) := by kernel_rfl
      rw [← e]
      exact hmg0
    obtain ⟨fd, hb, hF⟩ := KK.facts (P := (PySem.Challenge.rw_stillsealed_k46_whole_every_set_has_an_o).prog) (w := w) KX G hmg c
    exact ⟨K, fd, KK.spLaw K, KX, hb, fun H a ns hl _ hS => KK.kept H a ns hl hS, hF⟩
