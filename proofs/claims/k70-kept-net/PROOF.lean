import PyProof.Rows.All
import Wide.All
import OpenK.AllK
import Wide.FinOn
import KE.KStateDown
import HandS.Base
import HandS.Call
import HandS.List
import HandS.Comp
import HandS.Dict
import HandS.Ends
import HandS.More
import HandS.Exc
import HandS.ExcInit
import HandS.ExcOwn
import HandS.TryOnly
import HandS.Words
import HandS.WordsList
import HandS.WordsExc
import HandS.Defaults
import HandS.HeadHook1
import HandS.HeadHook2
import HandS.OwnEq
import HandS.Gcd
import HandS.Wide
import HandS.Zip
import HandS.Iter
import HandS.TupAny
import HandS.Conv
import PyProof.InstNe
import HandS.Walk
import HandS.Codes
import KE.GoesEnum
import KE.GoesZip
import HandS.Flow
import HandS.SetFor
import HandS.Text
import KE.DataFind
import KE.KRevSl
import HandS.Style
import HandS.WideBits
import HandS.Head0
import HandS.Head1
import HandS.Head2
import HandS.Head3
import HandS.HeadEnd
import PySem.Challenge.RW_plumbnet_k70_whole_a_kept_net_is_a_new_o
set_option Elab.async false
set_option linter.all false
set_option maxRecDepth 100000
set_option autoImplicit false
set_option maxHeartbeats 4000000
/-! printed by gen_top.py: the text by places, the facts that the head tells -/
namespace Pn
open PySem PySem.Spec PyProof.Rows L2
def top (i : Nat) : Stmt := PySem.Challenge.pw_plumbnet_k70_whole_a_kept_net_is_a_new_o.main.body.getD i (.Pass ⟨0, 0, 0, 0⟩)
abbrev PP : Program := PySem.Challenge.pw_plumbnet_k70_whole_a_kept_net_is_a_new_o

def names0 : List Str := ["gcd", "_wall", "SurveyError", "BadNumber", "ZeroDivisor", "UnknownPoint", "UnknownReading", "DuplicateName", "BadReading", "LimitReached", "NothingToUndo", "MOST_DIGITS", "DIGITS", "read_digits", "Ratio", "MOST_POINTS_books", "MOST_READINGS_books", "MOST_COEFFICIENT", "Reading", "terms_fit"]
def names1 : List Str := ["Book", "dot", "scale", "plus", "minus", "is_zero", "transpose", "apply", "outer", "sum_of", "scaled", "pivot_row", "cleared", "reduced", "rank", "rank_echelon", "solve", "span_of", "add_term", "with_added"]
def names2 : List Str := ["with_removed", "MOST_POINTS_adjust", "MOST_READINGS_adjust", "widened", "Net", "net_of", "MOST_DEEDS", "perform", "Log", "sum_at", "squares_at", "weighted_sum", "fault_of", "_law_tape", "_law_draw", "_law_take", "_law_common", "_law_pair", "_law_number", "_law_made"]
def names3 : List Str := ["_law_menu", "_law_weight", "_law_terms", "_law_spoilt", "_law_deed", "_law_deed_of", "_law_turn"]
def names : List Str := names0 ++ names1 ++ names2 ++ names3
abbrev s_UnknownPoint_init : Stmt := inClass (top 6) 0
def d_UnknownPoint_init : He.DefD := ⟨("UnknownPoint", some "__init__"), "__init__", "UnknownPoint.__init__", defArgs s_UnknownPoint_init, defBody s_UnknownPoint_init, defScope s_UnknownPoint_init, [], []⟩
abbrev s_UnknownReading_init : Stmt := inClass (top 7) 0
def d_UnknownReading_init : He.DefD := ⟨("UnknownReading", some "__init__"), "__init__", "UnknownReading.__init__", defArgs s_UnknownReading_init, defBody s_UnknownReading_init, defScope s_UnknownReading_init, [], []⟩
abbrev s_DuplicateName_init : Stmt := inClass (top 8) 0
def d_DuplicateName_init : He.DefD := ⟨("DuplicateName", some "__init__"), "__init__", "DuplicateName.__init__", defArgs s_DuplicateName_init, defBody s_DuplicateName_init, defScope s_DuplicateName_init, [], []⟩
abbrev s_BadReading_init : Stmt := inClass (top 9) 0
def d_BadReading_init : He.DefD := ⟨("BadReading", some "__init__"), "__init__", "BadReading.__init__", defArgs s_BadReading_init, defBody s_BadReading_init, defScope s_BadReading_init, [], []⟩
abbrev s_LimitReached_init : Stmt := inClass (top 10) 0
def d_LimitReached_init : He.DefD := ⟨("LimitReached", some "__init__"), "__init__", "LimitReached.__init__", defArgs s_LimitReached_init, defBody s_LimitReached_init, defScope s_LimitReached_init, [], []⟩
abbrev s_Ratio_init : Stmt := inClass (top 16) 0
def d_Ratio_init : He.DefD := ⟨("Ratio", some "__init__"), "__init__", "Ratio.__init__", defArgs s_Ratio_init, defBody s_Ratio_init, defScope s_Ratio_init, [.int 1], []⟩
abbrev s_Ratio_add : Stmt := inClass (top 16) 1
def d_Ratio_add : He.DefD := ⟨("Ratio", some "__add__"), "__add__", "Ratio.__add__", defArgs s_Ratio_add, defBody s_Ratio_add, defScope s_Ratio_add, [], []⟩
abbrev s_Ratio_sub : Stmt := inClass (top 16) 2
def d_Ratio_sub : He.DefD := ⟨("Ratio", some "__sub__"), "__sub__", "Ratio.__sub__", defArgs s_Ratio_sub, defBody s_Ratio_sub, defScope s_Ratio_sub, [], []⟩
abbrev s_Ratio_mul : Stmt := inClass (top 16) 3
def d_Ratio_mul : He.DefD := ⟨("Ratio", some "__mul__"), "__mul__", "Ratio.__mul__", defArgs s_Ratio_mul, defBody s_Ratio_mul, defScope s_Ratio_mul, [], []⟩
abbrev s_Ratio_neg : Stmt := inClass (top 16) 4
def d_Ratio_neg : He.DefD := ⟨("Ratio", some "__neg__"), "__neg__", "Ratio.__neg__", defArgs s_Ratio_neg, defBody s_Ratio_neg, defScope s_Ratio_neg, [], []⟩
abbrev s_Ratio_eq : Stmt := inClass (top 16) 6
def d_Ratio_eq : He.DefD := ⟨("Ratio", some "__eq__"), "__eq__", "Ratio.__eq__", defArgs s_Ratio_eq, defBody s_Ratio_eq, defScope s_Ratio_eq, [], []⟩
abbrev s_Ratio_over : Stmt := inClass (top 16) 12
def d_Ratio_over : He.DefD := ⟨("Ratio", some "over"), "over", "Ratio.over", defArgs s_Ratio_over, defBody s_Ratio_over, defScope s_Ratio_over, [], []⟩
abbrev s_Reading_init : Stmt := inClass (top 21) 0
def d_Reading_init : He.DefD := ⟨("Reading", some "__init__"), "__init__", "Reading.__init__", defArgs s_Reading_init, defBody s_Reading_init, defScope s_Reading_init, [], []⟩
abbrev s_terms_fit : Stmt := top 22
def d_terms_fit : He.DefD := ⟨("terms_fit", none), "terms_fit", "terms_fit", defArgs s_terms_fit, defBody s_terms_fit, defScope s_terms_fit, [], []⟩
abbrev s_Book_init : Stmt := inClass (top 23) 0
def d_Book_init : He.DefD := ⟨("Book", some "__init__"), "__init__", "Book.__init__", defArgs s_Book_init, defBody s_Book_init, defScope s_Book_init, [], []⟩
abbrev s_Book_place_of : Stmt := inClass (top 23) 1
def d_Book_place_of : He.DefD := ⟨("Book", some "place_of"), "place_of", "Book.place_of", defArgs s_Book_place_of, defBody s_Book_place_of, defScope s_Book_place_of, [], []⟩
abbrev s_Book_require_point : Stmt := inClass (top 23) 2
def d_Book_require_point : He.DefD := ⟨("Book", some "require_point"), "require_point", "Book.require_point", defArgs s_Book_require_point, defBody s_Book_require_point, defScope s_Book_require_point, [], []⟩
abbrev s_Book_add_point : Stmt := inClass (top 23) 3
def d_Book_add_point : He.DefD := ⟨("Book", some "add_point"), "add_point", "Book.add_point", defArgs s_Book_add_point, defBody s_Book_add_point, defScope s_Book_add_point, [], []⟩
abbrev s_Book_add_reading : Stmt := inClass (top 23) 4
def d_Book_add_reading : He.DefD := ⟨("Book", some "add_reading"), "add_reading", "Book.add_reading", defArgs s_Book_add_reading, defBody s_Book_add_reading, defScope s_Book_add_reading, [], []⟩
abbrev s_Book_change_approximation : Stmt := inClass (top 23) 5
def d_Book_change_approximation : He.DefD := ⟨("Book", some "change_approximation"), "change_approximation", "Book.change_approximation", defArgs s_Book_change_approximation, defBody s_Book_change_approximation, defScope s_Book_change_approximation, [], []⟩
abbrev s_Book_change_value : Stmt := inClass (top 23) 6
def d_Book_change_value : He.DefD := ⟨("Book", some "change_value"), "change_value", "Book.change_value", defArgs s_Book_change_value, defBody s_Book_change_value, defScope s_Book_change_value, [], []⟩
abbrev s_Book_change_weight : Stmt := inClass (top 23) 7
def d_Book_change_weight : He.DefD := ⟨("Book", some "change_weight"), "change_weight", "Book.change_weight", defArgs s_Book_change_weight, defBody s_Book_change_weight, defScope s_Book_change_weight, [], []⟩
abbrev s_Book_withdraw : Stmt := inClass (top 23) 8
def d_Book_withdraw : He.DefD := ⟨("Book", some "withdraw"), "withdraw", "Book.withdraw", defArgs s_Book_withdraw, defBody s_Book_withdraw, defScope s_Book_withdraw, [], []⟩
abbrev s_Book_remove_point : Stmt := inClass (top 23) 9
def d_Book_remove_point : He.DefD := ⟨("Book", some "remove_point"), "remove_point", "Book.remove_point", defArgs s_Book_remove_point, defBody s_Book_remove_point, defScope s_Book_remove_point, [], []⟩
abbrev s_Book_reading : Stmt := inClass (top 23) 10
def d_Book_reading : He.DefD := ⟨("Book", some "reading"), "reading", "Book.reading", defArgs s_Book_reading, defBody s_Book_reading, defScope s_Book_reading, [], []⟩
abbrev s_Book_twin : Stmt := inClass (top 23) 11
def d_Book_twin : He.DefD := ⟨("Book", some "twin"), "twin", "Book.twin", defArgs s_Book_twin, defBody s_Book_twin, defScope s_Book_twin, [], []⟩
abbrev s_dot : Stmt := top 25
def d_dot : He.DefD := ⟨("dot", none), "dot", "dot", defArgs s_dot, defBody s_dot, defScope s_dot, [], []⟩
abbrev s_scale : Stmt := top 26
def d_scale : He.DefD := ⟨("scale", none), "scale", "scale", defArgs s_scale, defBody s_scale, defScope s_scale, [], []⟩
abbrev s_plus : Stmt := top 27
def d_plus : He.DefD := ⟨("plus", none), "plus", "plus", defArgs s_plus, defBody s_plus, defScope s_plus, [], []⟩
abbrev s_minus : Stmt := top 28
def d_minus : He.DefD := ⟨("minus", none), "minus", "minus", defArgs s_minus, defBody s_minus, defScope s_minus, [], []⟩
abbrev s_is_zero : Stmt := top 29
def d_is_zero : He.DefD := ⟨("is_zero", none), "is_zero", "is_zero", defArgs s_is_zero, defBody s_is_zero, defScope s_is_zero, [], []⟩
abbrev s_transpose : Stmt := top 31
def d_transpose : He.DefD := ⟨("transpose", none), "transpose", "transpose", defArgs s_transpose, defBody s_transpose, defScope s_transpose, [], []⟩
abbrev s_apply : Stmt := top 32
def d_apply : He.DefD := ⟨("apply", none), "apply", "apply", defArgs s_apply, defBody s_apply, defScope s_apply, [], []⟩
abbrev s_outer : Stmt := top 33
def d_outer : He.DefD := ⟨("outer", none), "outer", "outer", defArgs s_outer, defBody s_outer, defScope s_outer, [], []⟩
abbrev s_sum_of : Stmt := top 34
def d_sum_of : He.DefD := ⟨("sum_of", none), "sum_of", "sum_of", defArgs s_sum_of, defBody s_sum_of, defScope s_sum_of, [], []⟩
abbrev s_scaled : Stmt := top 35
def d_scaled : He.DefD := ⟨("scaled", none), "scaled", "scaled", defArgs s_scaled, defBody s_scaled, defScope s_scaled, [], []⟩
abbrev s_pivot_row : Stmt := top 37
def d_pivot_row : He.DefD := ⟨("pivot_row", none), "pivot_row", "pivot_row", defArgs s_pivot_row, defBody s_pivot_row, defScope s_pivot_row, [], []⟩
abbrev s_cleared : Stmt := top 38
def d_cleared : He.DefD := ⟨("cleared", none), "cleared", "cleared", defArgs s_cleared, defBody s_cleared, defScope s_cleared, [], []⟩
abbrev s_reduced : Stmt := top 39
def d_reduced : He.DefD := ⟨("reduced", none), "reduced", "reduced", defArgs s_reduced, defBody s_reduced, defScope s_reduced, [], []⟩
abbrev s_rank : Stmt := top 40
def d_rank : He.DefD := ⟨("rank", none), "rank", "rank", defArgs s_rank, defBody s_rank, defScope s_rank, [], []⟩
abbrev s_solve : Stmt := top 42
def d_solve : He.DefD := ⟨("solve", none), "solve", "solve", defArgs s_solve, defBody s_solve, defScope s_solve, [], []⟩
abbrev s_span_of : Stmt := top 43
def d_span_of : He.DefD := ⟨("span_of", none), "span_of", "span_of", defArgs s_span_of, defBody s_span_of, defScope s_span_of, [], []⟩
abbrev s_add_term : Stmt := top 45
def d_add_term : He.DefD := ⟨("add_term", none), "add_term", "add_term", defArgs s_add_term, defBody s_add_term, defScope s_add_term, [], []⟩
abbrev s_with_added : Stmt := top 46
def d_with_added : He.DefD := ⟨("with_added", none), "with_added", "with_added", defArgs s_with_added, defBody s_with_added, defScope s_with_added, [], []⟩
abbrev s_with_removed : Stmt := top 47
def d_with_removed : He.DefD := ⟨("with_removed", none), "with_removed", "with_removed", defArgs s_with_removed, defBody s_with_removed, defScope s_with_removed, [], []⟩
abbrev s_widened : Stmt := top 51
def d_widened : He.DefD := ⟨("widened", none), "widened", "widened", defArgs s_widened, defBody s_widened, defScope s_widened, [], []⟩
abbrev s_Net_init : Stmt := inClass (top 52) 0
def d_Net_init : He.DefD := ⟨("Net", some "__init__"), "__init__", "Net.__init__", defArgs s_Net_init, defBody s_Net_init, defScope s_Net_init, [], []⟩
abbrev s_Net_add_point : Stmt := inClass (top 52) 1
def d_Net_add_point : He.DefD := ⟨("Net", some "add_point"), "add_point", "Net.add_point", defArgs s_Net_add_point, defBody s_Net_add_point, defScope s_Net_add_point, [], []⟩
abbrev s_Net_row : Stmt := inClass (top 52) 2
def d_Net_row : He.DefD := ⟨("Net", some "row"), "row", "Net.row", defArgs s_Net_row, defBody s_Net_row, defScope s_Net_row, [], []⟩
abbrev s_Net_place_of : Stmt := inClass (top 52) 3
def d_Net_place_of : He.DefD := ⟨("Net", some "place_of"), "place_of", "Net.place_of", defArgs s_Net_place_of, defBody s_Net_place_of, defScope s_Net_place_of, [], []⟩
abbrev s_Net_tally : Stmt := inClass (top 52) 4
def d_Net_tally : He.DefD := ⟨("Net", some "tally"), "tally", "Net.tally", defArgs s_Net_tally, defBody s_Net_tally, defScope s_Net_tally, [], []⟩
abbrev s_Net_put : Stmt := inClass (top 52) 5
def d_Net_put : He.DefD := ⟨("Net", some "put"), "put", "Net.put", defArgs s_Net_put, defBody s_Net_put, defScope s_Net_put, [], []⟩
abbrev s_Net_take : Stmt := inClass (top 52) 6
def d_Net_take : He.DefD := ⟨("Net", some "take"), "take", "Net.take", defArgs s_Net_take, defBody s_Net_take, defScope s_Net_take, [], []⟩
abbrev s_Net_add : Stmt := inClass (top 52) 7
def d_Net_add : He.DefD := ⟨("Net", some "add"), "add", "Net.add", defArgs s_Net_add, defBody s_Net_add, defScope s_Net_add, [], []⟩
abbrev s_Net_withdraw : Stmt := inClass (top 52) 8
def d_Net_withdraw : He.DefD := ⟨("Net", some "withdraw"), "withdraw", "Net.withdraw", defArgs s_Net_withdraw, defBody s_Net_withdraw, defScope s_Net_withdraw, [], []⟩
abbrev s_Net_change_value : Stmt := inClass (top 52) 9
def d_Net_change_value : He.DefD := ⟨("Net", some "change_value"), "change_value", "Net.change_value", defArgs s_Net_change_value, defBody s_Net_change_value, defScope s_Net_change_value, [], []⟩
abbrev s_Net_change_weight : Stmt := inClass (top 52) 10
def d_Net_change_weight : He.DefD := ⟨("Net", some "change_weight"), "change_weight", "Net.change_weight", defArgs s_Net_change_weight, defBody s_Net_change_weight, defScope s_Net_change_weight, [], []⟩
abbrev s_Net_rows : Stmt := inClass (top 52) 11
def d_Net_rows : He.DefD := ⟨("Net", some "rows"), "rows", "Net.rows", defArgs s_Net_rows, defBody s_Net_rows, defScope s_Net_rows, [], []⟩
abbrev s_Net_heights : Stmt := inClass (top 52) 12
def d_Net_heights : He.DefD := ⟨("Net", some "heights"), "heights", "Net.heights", defArgs s_Net_heights, defBody s_Net_heights, defScope s_Net_heights, [], []⟩
abbrev s_Net_misfits : Stmt := inClass (top 52) 13
def d_Net_misfits : He.DefD := ⟨("Net", some "misfits"), "misfits", "Net.misfits", defArgs s_Net_misfits, defBody s_Net_misfits, defScope s_Net_misfits, [], []⟩
abbrev s_Net_squares : Stmt := inClass (top 52) 14
def d_Net_squares : He.DefD := ⟨("Net", some "squares"), "squares", "Net.squares", defArgs s_Net_squares, defBody s_Net_squares, defScope s_Net_squares, [], []⟩
abbrev s_Net_rank : Stmt := inClass (top 52) 15
def d_Net_rank : He.DefD := ⟨("Net", some "rank"), "rank", "Net.rank", defArgs s_Net_rank, defBody s_Net_rank, defScope s_Net_rank, [], []⟩
abbrev s_Net_paper : Stmt := inClass (top 52) 18
def d_Net_paper : He.DefD := ⟨("Net", some "paper"), "paper", "Net.paper", defArgs s_Net_paper, defBody s_Net_paper, defScope s_Net_paper, [], []⟩
abbrev s_net_of : Stmt := top 53
def d_net_of : He.DefD := ⟨("net_of", none), "net_of", "net_of", defArgs s_net_of, defBody s_net_of, defScope s_net_of, [], []⟩
abbrev s_perform : Stmt := top 56
def d_perform : He.DefD := ⟨("perform", none), "perform", "perform", defArgs s_perform, defBody s_perform, defScope s_perform, [], []⟩
abbrev s_Log_init : Stmt := inClass (top 57) 0
def d_Log_init : He.DefD := ⟨("Log", some "__init__"), "__init__", "Log.__init__", defArgs s_Log_init, defBody s_Log_init, defScope s_Log_init, [], []⟩
abbrev s_Log_advance : Stmt := inClass (top 57) 1
def d_Log_advance : He.DefD := ⟨("Log", some "advance"), "advance", "Log.advance", defArgs s_Log_advance, defBody s_Log_advance, defScope s_Log_advance, [], []⟩
abbrev s_Log_follow : Stmt := inClass (top 57) 2
def d_Log_follow : He.DefD := ⟨("Log", some "follow"), "follow", "Log.follow", defArgs s_Log_follow, defBody s_Log_follow, defScope s_Log_follow, [], []⟩
abbrev s_Log_do : Stmt := inClass (top 57) 3
def d_Log_do : He.DefD := ⟨("Log", some "do"), "do", "Log.do", defArgs s_Log_do, defBody s_Log_do, defScope s_Log_do, [], []⟩
abbrev s_Log_undo : Stmt := inClass (top 57) 4
def d_Log_undo : He.DefD := ⟨("Log", some "undo"), "undo", "Log.undo", defArgs s_Log_undo, defBody s_Log_undo, defScope s_Log_undo, [], []⟩
abbrev s_Log_redo : Stmt := inClass (top 57) 5
def d_Log_redo : He.DefD := ⟨("Log", some "redo"), "redo", "Log.redo", defArgs s_Log_redo, defBody s_Log_redo, defScope s_Log_redo, [], []⟩
abbrev s_Log_book : Stmt := inClass (top 57) 8
def d_Log_book : He.DefD := ⟨("Log", some "book"), "book", "Log.book", defArgs s_Log_book, defBody s_Log_book, defScope s_Log_book, [], []⟩
abbrev s_Log_heights : Stmt := inClass (top 57) 9
def d_Log_heights : He.DefD := ⟨("Log", some "heights"), "heights", "Log.heights", defArgs s_Log_heights, defBody s_Log_heights, defScope s_Log_heights, [], []⟩
abbrev s_Log_misfits : Stmt := inClass (top 57) 10
def d_Log_misfits : He.DefD := ⟨("Log", some "misfits"), "misfits", "Log.misfits", defArgs s_Log_misfits, defBody s_Log_misfits, defScope s_Log_misfits, [], []⟩
abbrev s_Log_squares : Stmt := inClass (top 57) 11
def d_Log_squares : He.DefD := ⟨("Log", some "squares"), "squares", "Log.squares", defArgs s_Log_squares, defBody s_Log_squares, defScope s_Log_squares, [], []⟩
abbrev s_Log_rank : Stmt := inClass (top 57) 12
def d_Log_rank : He.DefD := ⟨("Log", some "rank"), "rank", "Log.rank", defArgs s_Log_rank, defBody s_Log_rank, defScope s_Log_rank, [], []⟩
abbrev s_sum_at : Stmt := top 59
def d_sum_at : He.DefD := ⟨("sum_at", none), "sum_at", "sum_at", defArgs s_sum_at, defBody s_sum_at, defScope s_sum_at, [], []⟩
abbrev s_squares_at : Stmt := top 60
def d_squares_at : He.DefD := ⟨("squares_at", none), "squares_at", "squares_at", defArgs s_squares_at, defBody s_squares_at, defScope s_squares_at, [], []⟩
abbrev s_weighted_sum : Stmt := top 61
def d_weighted_sum : He.DefD := ⟨("weighted_sum", none), "weighted_sum", "weighted_sum", defArgs s_weighted_sum, defBody s_weighted_sum, defScope s_weighted_sum, [], []⟩
abbrev s_fault_of : Stmt := top 62
def d_fault_of : He.DefD := ⟨("fault_of", none), "fault_of", "fault_of", defArgs s_fault_of, defBody s_fault_of, defScope s_fault_of, [], []⟩
abbrev s__law_tape : Stmt := top 64
def d__law_tape : He.DefD := ⟨("_law_tape", none), "_law_tape", "_law_tape", defArgs s__law_tape, defBody s__law_tape, defScope s__law_tape, [], []⟩
abbrev s__law_draw : Stmt := top 65
def d__law_draw : He.DefD := ⟨("_law_draw", none), "_law_draw", "_law_draw", defArgs s__law_draw, defBody s__law_draw, defScope s__law_draw, [], []⟩
abbrev s__law_take : Stmt := top 66
def d__law_take : He.DefD := ⟨("_law_take", none), "_law_take", "_law_take", defArgs s__law_take, defBody s__law_take, defScope s__law_take, [], []⟩
abbrev s__law_common : Stmt := top 67
def d__law_common : He.DefD := ⟨("_law_common", none), "_law_common", "_law_common", defArgs s__law_common, defBody s__law_common, defScope s__law_common, [], []⟩
abbrev s__law_pair : Stmt := top 68
def d__law_pair : He.DefD := ⟨("_law_pair", none), "_law_pair", "_law_pair", defArgs s__law_pair, defBody s__law_pair, defScope s__law_pair, [], []⟩
abbrev s__law_number : Stmt := top 69
def d__law_number : He.DefD := ⟨("_law_number", none), "_law_number", "_law_number", defArgs s__law_number, defBody s__law_number, defScope s__law_number, [], []⟩
abbrev s__law_made : Stmt := top 70
def d__law_made : He.DefD := ⟨("_law_made", none), "_law_made", "_law_made", defArgs s__law_made, defBody s__law_made, defScope s__law_made, [], []⟩
abbrev s__law_menu : Stmt := top 71
def d__law_menu : He.DefD := ⟨("_law_menu", none), "_law_menu", "_law_menu", defArgs s__law_menu, defBody s__law_menu, defScope s__law_menu, [], []⟩
abbrev s__law_weight : Stmt := top 72
def d__law_weight : He.DefD := ⟨("_law_weight", none), "_law_weight", "_law_weight", defArgs s__law_weight, defBody s__law_weight, defScope s__law_weight, [], []⟩
abbrev s__law_terms : Stmt := top 73
def d__law_terms : He.DefD := ⟨("_law_terms", none), "_law_terms", "_law_terms", defArgs s__law_terms, defBody s__law_terms, defScope s__law_terms, [], []⟩
abbrev s__law_spoilt : Stmt := top 74
def d__law_spoilt : He.DefD := ⟨("_law_spoilt", none), "_law_spoilt", "_law_spoilt", defArgs s__law_spoilt, defBody s__law_spoilt, defScope s__law_spoilt, [], []⟩
abbrev s__law_deed : Stmt := top 75
def d__law_deed : He.DefD := ⟨("_law_deed", none), "_law_deed", "_law_deed", defArgs s__law_deed, defBody s__law_deed, defScope s__law_deed, [], []⟩
abbrev s__law_deed_of : Stmt := top 76
def d__law_deed_of : He.DefD := ⟨("_law_deed_of", none), "_law_deed_of", "_law_deed_of", defArgs s__law_deed_of, defBody s__law_deed_of, defScope s__law_deed_of, [], []⟩
abbrev s__law_turn : Stmt := top 77
def d__law_turn : He.DefD := ⟨("_law_turn", none), "_law_turn", "_law_turn", defArgs s__law_turn, defBody s__law_turn, defScope s__law_turn, [], []⟩
abbrev s_law : Stmt := top 78
def d_law : He.DefD := ⟨("law", none), "law", "law", defArgs s_law, defBody s_law, defScope s_law, [], []⟩
def d_rank_echelon : He.DefD := ⟨("rank_echelon", none), "rank", "rank", defArgs s_rank, defBody s_rank, defScope s_rank, [], []⟩
def fn0 : List He.DefD := [d_UnknownPoint_init, d_UnknownReading_init, d_DuplicateName_init, d_BadReading_init, d_LimitReached_init, d_Ratio_init, d_Ratio_add, d_Ratio_sub, d_Ratio_mul, d_Ratio_neg, d_Ratio_eq, d_Ratio_over, d_Reading_init, d_terms_fit, d_Book_init, d_Book_place_of]
def fn1 : List He.DefD := [d_Book_require_point, d_Book_add_point, d_Book_add_reading, d_Book_change_approximation, d_Book_change_value, d_Book_change_weight, d_Book_withdraw, d_Book_remove_point, d_Book_reading, d_Book_twin, d_dot, d_scale, d_plus, d_minus, d_is_zero, d_transpose]
def fn2 : List He.DefD := [d_apply, d_outer, d_sum_of, d_scaled, d_pivot_row, d_cleared, d_reduced, d_rank, d_solve, d_span_of, d_add_term, d_with_added, d_with_removed, d_widened, d_Net_init, d_Net_add_point]
def fn3 : List He.DefD := [d_Net_row, d_Net_place_of, d_Net_tally, d_Net_put, d_Net_take, d_Net_add, d_Net_withdraw, d_Net_change_value, d_Net_change_weight, d_Net_rows, d_Net_heights, d_Net_misfits, d_Net_squares, d_Net_rank, d_Net_paper, d_net_of]
def fn4 : List He.DefD := [d_perform, d_Log_init, d_Log_advance, d_Log_follow, d_Log_do, d_Log_undo, d_Log_redo, d_Log_book, d_Log_heights, d_Log_misfits, d_Log_squares, d_Log_rank, d_sum_at, d_squares_at, d_weighted_sum, d_fault_of]
def fn5 : List He.DefD := [d__law_tape, d__law_draw, d__law_take, d__law_common, d__law_pair, d__law_number, d__law_made, d__law_menu, d__law_weight, d__law_terms, d__law_spoilt, d__law_deed, d__law_deed_of, d__law_turn, d_law, d_rank_echelon]
def fn : List He.DefD := fn0 ++ fn1 ++ fn2 ++ fn3 ++ fn4 ++ fn5
def fa0 : List He.Fa := [.glo "terms_fit", .glo "dot", .glo "scale", .glo "plus", .glo "minus", .glo "is_zero", .glo "transpose", .glo "apply", .glo "outer", .glo "sum_of", .glo "scaled", .glo "pivot_row", .glo "cleared", .glo "reduced", .glo "rank", .glo "solve", .glo "span_of", .glo "add_term", .glo "with_added", .glo "with_removed", .glo "widened", .glo "net_of", .glo "perform", .glo "sum_at"]
def fa1 : List He.Fa := [.glo "squares_at", .glo "weighted_sum", .glo "fault_of", .glo "_law_tape", .glo "_law_draw", .glo "_law_take", .glo "_law_common", .glo "_law_pair", .glo "_law_number", .glo "_law_made", .glo "_law_menu", .glo "_law_weight", .glo "_law_terms", .glo "_law_spoilt", .glo "_law_deed", .glo "_law_deed_of", .glo "_law_turn", .glo "law", .glo "rank_echelon", .keep "rank_echelon", .glo "Ratio", .cls "Ratio", .mkr "Ratio", .glo "Reading"]
def fa2 : List He.Fa := [.cls "Reading", .mkr "Reading", .glo "Book", .cls "Book", .mkr "Book", .glo "Net", .cls "Net", .mkr "Net", .glo "Log", .cls "Log", .mkr "Log", .noat "Ratio" "top", .noat "Ratio" "bottom", .noat "Reading" "name", .noat "Reading" "terms", .noat "Reading" "value", .noat "Reading" "weight", .noat "Book" "points", .noat "Book" "approximations", .noat "Book" "readings", .noat "Net" "points", .noat "Net" "approximations", .noat "Net" "readings", .noat "Net" "normal"]
def fa3 : List He.Fa := [.noat "Net" "inverse", .noat "Net" "right", .noat "Net" "total", .noat "Log" "done", .noat "Log" "books", .noat "Log" "later", .noat "Log" "net", .meth "Ratio" "__init__", .meth "Ratio" "__add__", .meth "Ratio" "__sub__", .meth "Ratio" "__mul__", .meth "Ratio" "__neg__", .meth "Ratio" "__eq__", .meth "Ratio" "over", .meth "Reading" "__init__", .meth "Book" "__init__", .meth "Book" "place_of", .meth "Book" "require_point", .meth "Book" "add_point", .meth "Book" "add_reading", .meth "Book" "change_approximation", .meth "Book" "change_value", .meth "Book" "change_weight", .meth "Book" "withdraw"]
def fa4 : List He.Fa := [.meth "Book" "remove_point", .meth "Book" "reading", .meth "Book" "twin", .meth "Net" "__init__", .meth "Net" "add_point", .meth "Net" "row", .meth "Net" "place_of", .meth "Net" "tally", .meth "Net" "put", .meth "Net" "take", .meth "Net" "add", .meth "Net" "withdraw", .meth "Net" "change_value", .meth "Net" "change_weight", .meth "Net" "rows", .meth "Net" "heights", .meth "Net" "misfits", .meth "Net" "squares", .meth "Net" "rank", .meth "Net" "paper", .meth "Log" "__init__", .meth "Log" "advance", .meth "Log" "follow", .meth "Log" "do"]
def fa5 : List He.Fa := [.meth "Log" "undo", .meth "Log" "redo", .meth "Log" "book", .meth "Log" "heights", .meth "Log" "misfits", .meth "Log" "squares", .meth "Log" "rank", .free "len", .free "tuple", .free "list", .free "range", .free "zip", .free "enumerate", .free "int", .free "abs", .free "isinstance", .int "MOST_POINTS_books" 12, .int "MOST_READINGS_books" 24, .int "MOST_COEFFICIENT" 9, .int "MOST_POINTS_adjust" 12, .int "MOST_READINGS_adjust" 24, .int "MOST_DEEDS" 200, .glo "SurveyError", .keep "SurveyError"]
def fa6 : List He.Fa := [.glo "BadNumber", .keep "BadNumber", .glo "ZeroDivisor", .keep "ZeroDivisor", .glo "UnknownPoint", .keep "UnknownPoint", .glo "UnknownReading", .keep "UnknownReading", .glo "DuplicateName", .keep "DuplicateName", .glo "BadReading", .keep "BadReading", .glo "LimitReached", .keep "LimitReached", .glo "NothingToUndo", .keep "NothingToUndo", .exm "BadNumber" "SurveyError" true, .exm "ZeroDivisor" "SurveyError" true, .exm "UnknownPoint" "SurveyError" true, .exm "UnknownReading" "SurveyError" true, .exm "DuplicateName" "SurveyError" true, .exm "BadReading" "SurveyError" true, .exm "LimitReached" "SurveyError" true, .exm "NothingToUndo" "SurveyError" true]
def fa : List He.Fa := fa0 ++ fa1 ++ fa2 ++ fa3 ++ fa4 ++ fa5 ++ fa6

/-! ### further facts, by one Bool -/
def excB (K : PySem.W.Frag) (C : Addr) : Bool := match K.lookup C with
  | some ⟨.type "type", _, .cls cd, sl⟩ => (match cd.mro, sl.toList with
    | .ref C' :: bm, [_, _, _, _, some (.builtin n), _] => decide (C' = C) && decide (n = "ValueError.__new__") && !cd.hasDel && cd.hasDict && PySem.HandSPX.refsVE bm
    | _, _ => false)
  | _ => false
def xcB (K : PySem.W.Frag) (x : Str) : Bool := excB K (He.ga K x) && (He.eqO (PySem.W.findIn K (.ref (He.ga K x)) "__setattr__") (some (some (.builtin "object.__setattr__"))) &&
  (decide (PySem.W.subIn K (.ref (He.ga K x)) (.type "BaseException") = some true) && (decide (PySem.W.typeIn K (.ref (He.ga K x)) = some (.type "type")) && PySem.W.keepIn K (.ref (He.ga K x)))))
/-- an own error class with an __init__, f its field -/
def xiB (K : PySem.W.Frag) (x f : Str) : Bool := xcB K x && (He.eqO (PySem.W.findIn K (.ref (He.ga K x)) f) (some none) && (He.eqO (PySem.W.findIn K (.ref (He.ga K x)) "__init__") (some (some (.ref (He.ma K (He.ga K x) "__init__")))) &&
  decide (PySem.W.typeIn K (.ref (He.ma K (He.ga K x) "__init__")) = some (.type "function"))))
def gcdB (K : PySem.W.Frag) : Bool := match PySem.W.nsIn K mainGlobals "gcd" with
  | some (some (.builtin n)) => decide (n = "math.gcd")
  | _ => false
/-- a class that has an own == and no own !=: C the class, f its == -/
def neB (K : PySem.W.Frag) (C f : Addr) : Bool := match K.lookup C with
  | some ⟨.type "type", _, .cls cd, sl⟩ => (match cd.mro, sl.toList with
    | [.ref C', .type o], [_, _, _, _, some (.builtin _), _] => decide (C' = C) && (decide (o = "object") && (!cd.hasDel && (PySem.W.nsOkIn K cd.ns && (He.eqO (PySem.W.nsIn K cd.ns "__eq__") (some (some (.ref f))) && He.eqO (PySem.W.nsIn K cd.ns "__ne__") (some none)))))
    | _, _ => false)
  | _ => false
/-- isinstance of an own class -/
def isB (K : PySem.W.Frag) (C : Addr) : Bool := He.eqO (PySem.W.findIn K (.ref C) "__class__") (some (some (.builtin "object.__class__"))) && (He.eqO (PySem.W.specialIn K (.builtin "object.__class__") "__get__") (some (some (.builtin "getset_descriptor.__get__"))) &&
  (decide (PySem.W.takesIn K (.builtin "object.__class__") = some true) && (decide (PySem.W.mroIn K C (.type "object") = some true) && decide (PySem.W.kitOne K (.ref C) (.ref C) = some true))))
def veB : List Value := [.type "ValueError", .type "Exception", .type "BaseException", .type "object"]
def ex (K : PySem.W.Frag) : Bool := gcdB K && (PySem.W.selfFirst K (He.ga K "Ratio") && ((xiB K "UnknownPoint" "name" && xiB K "UnknownReading" "name" && xiB K "DuplicateName" "name" && xiB K "BadReading" "reason" && xiB K "LimitReached" "what" && (PySem.W.excIn K (He.ga K "ZeroDivisor") veB "ValueError.__new__" && xcB K "ZeroDivisor") && (PySem.W.excIn K (He.ga K "NothingToUndo") veB "ValueError.__new__" && xcB K "NothingToUndo")) && (neB K (He.ga K "Ratio") (He.ma K (He.ga K "Ratio") "__eq__") && isB K (He.ga K "Ratio"))))

/-! ### the addresses that are looked at -/
def gA (g : Addr → Option Obj) (x : Str) : Addr := match g mainGlobals with
  | some o => (match PySem.W.lookIn x o with
    | some (some (.ref a)) => a
    | _ => 0)
  | none => 0
def fnAs (g : Addr → Option Obj) (a : Addr) : List Addr := match g a with
  | some o => a :: (match o.data with
    | .func fd => (match fd.code with
      | .ref c => [c]
      | _ => []) ++ (match fd.defaults with
      | .ref c => [c]
      | _ => [])
    | _ => [])
  | none => []
def clsNs (g : Addr → Option Obj) (a : Addr) : Addr := match g a with
  | some o => (match o.data with
    | .cls cd => cd.ns
    | _ => 0)
  | none => 0
def nsAs (g : Addr → Option Obj) (n : Addr) (ms : List Str) : List Addr := match g n with
  | some o => ms.flatMap fun m => (match PySem.W.lookIn m o with
      | some (some (.ref f)) => fnAs g f
      | _ => [])
  | none => []
def clsAs (g : Addr → Option Obj) (x : Str × List Str) : List Addr := gA g x.1 :: clsNs g (gA g x.1) :: nsAs g (clsNs g (gA g x.1)) x.2

def lf0 : List Str := ["terms_fit", "dot", "scale", "plus", "minus", "is_zero", "transpose", "apply", "outer", "sum_of", "scaled", "pivot_row", "cleared", "reduced", "rank", "solve", "span_of", "add_term", "with_added", "with_removed"]
def lf1 : List Str := ["widened", "net_of", "perform", "sum_at", "squares_at", "weighted_sum", "fault_of", "_law_tape", "_law_draw", "_law_take", "_law_common", "_law_pair", "_law_number", "_law_made", "_law_menu", "_law_weight", "_law_terms", "_law_spoilt", "_law_deed", "_law_deed_of"]
def lf2 : List Str := ["_law_turn", "law"]
def lf : List Str := lf0 ++ lf1 ++ lf2
def lc : List (Str × List Str) := [("SurveyError", []),
  ("BadNumber", []),
  ("ZeroDivisor", []),
  ("UnknownPoint", ["__init__"]),
  ("UnknownReading", ["__init__"]),
  ("DuplicateName", ["__init__"]),
  ("BadReading", ["__init__"]),
  ("LimitReached", ["__init__"]),
  ("NothingToUndo", []),
  ("Ratio", ["__init__", "__add__", "__sub__", "__mul__", "__neg__", "__eq__", "over"]),
  ("Reading", ["__init__"]),
  ("Book", ["__init__", "place_of", "require_point", "add_point", "add_reading", "change_approximation", "change_value", "change_weight", "withdraw", "remove_point", "reading", "twin"]),
  ("Net", ["__init__", "add_point", "row", "place_of", "tally", "put", "take", "add", "withdraw", "change_value", "change_weight", "rows", "heights", "misfits", "squares", "rank", "paper"]),
  ("Log", ["__init__", "advance", "follow", "do", "undo", "redo", "book", "heights", "misfits", "squares", "rank"])]
def asP (g : Addr → Option Obj) : List Addr := mainGlobals :: (lc.flatMap (clsAs g) ++ lf.flatMap fun x => fnAs g (gA g x))
abbrev AlP : Type := Bool × He.AlD
def obsP (g : Addr → Option Obj) : AlP := (ex (He.frG g (asP g)), He.obsD fa fn (He.frG g (asP g)))
def valP : AlP := (true, He.valD fn)
structure SaysP (K : PySem.W.Frag) : Prop where
  ex : ex K = true
  d : He.SaysD fa fn K
def hookP : PySem.W.Hook where
  α := AlP
  obs := fun s => obsP s.heap.get?
  val := fun _ => valP
  says := fun _ h => ∃ K : PySem.W.Frag, K.In h ∧ SaysP K
  of := fun _ _ e => ⟨_, He.frG_in, ⟨congrArg (fun z : AlP => z.1) e, congrArg (fun z : AlP => z.2) e⟩⟩
  keeps := fun _ _ _ ⟨K, hK, c⟩ k => ⟨K, PySem.W.Frag.In.keeps hK k, c⟩
theorem obsP_eq {g : Addr → Option Obj} {s : Shared} (h : ∀ a, g a = s.heap.get? a) : obsP g = hookP.obs s := by
  have e : g = s.heap.get? := funext h
  rw [e] <;> rfl

/-- what the walk may lean on: the written part and the module's names -/
structure Txt (K : PySem.W.Frag) (mg : Str → Option Value) : Prop where
  c : SaysP K
  h : ∃ h : Heap, K.In h ∧ h.Ns mainGlobals mg
section
variable {K : PySem.W.Frag} {mg : Str → Option Value}
theorem Txt.glo (T : Txt K mg) (i : Nat) {x : Str} (e : fa[i]? = some (.glo x)) : mg x = some (.ref (He.ga K x)) := by
  obtain ⟨h, KX, G⟩ := T.h
  exact He.glo_ok KX G (T.c.d.fact i e)
theorem Txt.free (T : Txt K mg) (i : Nat) {x : Str} (e : fa[i]? = some (.free x)) : mg x = none := by
  obtain ⟨h, KX, G⟩ := T.h
  exact He.free_ok KX G (T.c.d.fact i e)
theorem Txt.int (T : Txt K mg) (i : Nat) {x : Str} {n : Int} (e : fa[i]? = some (.int x n)) : ∃ t, mg x = some (.int n t) := by
  obtain ⟨h, KX, G⟩ := T.h
  exact He.int_ok KX G (T.c.d.fact i e)
theorem Txt.exl (T : Txt K mg) : gcdB K = true ∧ PySem.W.selfFirst K (He.ga K "Ratio") = true := by
  have e := T.c.ex
  unfold ex at e
  obtain ⟨e1, e2⟩ := He.ba e
  exact ⟨e1, (He.ba e2).1⟩
theorem Txt.neq (T : Txt K mg) : neB K (He.ga K "Ratio") (He.ma K (He.ga K "Ratio") "__eq__") = true := by
  have e := T.c.ex
  unfold ex at e
  obtain ⟨e1, e2⟩ := He.ba e
  obtain ⟨e3, e4⟩ := He.ba e2
  exact (He.ba (He.ba e4).2).1
theorem Txt.isC (T : Txt K mg) : isB K (He.ga K "Ratio") = true := by
  have e := T.c.ex
  unfold ex at e
  obtain ⟨e1, e2⟩ := He.ba e
  obtain ⟨e3, e4⟩ := He.ba e2
  exact (He.ba (He.ba e4).2).2
theorem Txt.xcl (T : Txt K mg) : (xiB K "UnknownPoint" "name" && xiB K "UnknownReading" "name" && xiB K "DuplicateName" "name" && xiB K "BadReading" "reason" && xiB K "LimitReached" "what" && (PySem.W.excIn K (He.ga K "ZeroDivisor") veB "ValueError.__new__" && xcB K "ZeroDivisor") && (PySem.W.excIn K (He.ga K "NothingToUndo") veB "ValueError.__new__" && xcB K "NothingToUndo")) = true := by
  have e := T.c.ex
  unfold ex at e
  obtain ⟨e1, e2⟩ := He.ba e
  obtain ⟨e3, e4⟩ := He.ba e2
  exact (He.ba e4).1
theorem Txt.gcd (T : Txt K mg) : mg "gcd" = some (.builtin "math.gcd") := by
  obtain ⟨h, KX, G⟩ := T.h
  have e := T.exl.1
  unfold gcdB at e
  split at e
  · rename_i n q
    rw [of_decide_eq_true e] at q
    exact PySem.W.mg_of KX G q
  · cases e

theorem Txt.g_terms_fit (T : Txt K mg) : mg "terms_fit" = some (.ref (He.ga K "terms_fit")) := T.glo 0 rfl
theorem Txt.g_dot (T : Txt K mg) : mg "dot" = some (.ref (He.ga K "dot")) := T.glo 1 rfl
theorem Txt.g_scale (T : Txt K mg) : mg "scale" = some (.ref (He.ga K "scale")) := T.glo 2 rfl
theorem Txt.g_plus (T : Txt K mg) : mg "plus" = some (.ref (He.ga K "plus")) := T.glo 3 rfl
theorem Txt.g_minus (T : Txt K mg) : mg "minus" = some (.ref (He.ga K "minus")) := T.glo 4 rfl
theorem Txt.g_is_zero (T : Txt K mg) : mg "is_zero" = some (.ref (He.ga K "is_zero")) := T.glo 5 rfl
theorem Txt.g_transpose (T : Txt K mg) : mg "transpose" = some (.ref (He.ga K "transpose")) := T.glo 6 rfl
theorem Txt.g_apply (T : Txt K mg) : mg "apply" = some (.ref (He.ga K "apply")) := T.glo 7 rfl
theorem Txt.g_outer (T : Txt K mg) : mg "outer" = some (.ref (He.ga K "outer")) := T.glo 8 rfl
theorem Txt.g_sum_of (T : Txt K mg) : mg "sum_of" = some (.ref (He.ga K "sum_of")) := T.glo 9 rfl
theorem Txt.g_scaled (T : Txt K mg) : mg "scaled" = some (.ref (He.ga K "scaled")) := T.glo 10 rfl
theorem Txt.g_pivot_row (T : Txt K mg) : mg "pivot_row" = some (.ref (He.ga K "pivot_row")) := T.glo 11 rfl
theorem Txt.g_cleared (T : Txt K mg) : mg "cleared" = some (.ref (He.ga K "cleared")) := T.glo 12 rfl
theorem Txt.g_reduced (T : Txt K mg) : mg "reduced" = some (.ref (He.ga K "reduced")) := T.glo 13 rfl
theorem Txt.g_rank (T : Txt K mg) : mg "rank" = some (.ref (He.ga K "rank")) := T.glo 14 rfl
theorem Txt.g_solve (T : Txt K mg) : mg "solve" = some (.ref (He.ga K "solve")) := T.glo 15 rfl
theorem Txt.g_span_of (T : Txt K mg) : mg "span_of" = some (.ref (He.ga K "span_of")) := T.glo 16 rfl
theorem Txt.g_add_term (T : Txt K mg) : mg "add_term" = some (.ref (He.ga K "add_term")) := T.glo 17 rfl
theorem Txt.g_with_added (T : Txt K mg) : mg "with_added" = some (.ref (He.ga K "with_added")) := T.glo 18 rfl
theorem Txt.g_with_removed (T : Txt K mg) : mg "with_removed" = some (.ref (He.ga K "with_removed")) := T.glo 19 rfl
theorem Txt.g_widened (T : Txt K mg) : mg "widened" = some (.ref (He.ga K "widened")) := T.glo 20 rfl
theorem Txt.g_net_of (T : Txt K mg) : mg "net_of" = some (.ref (He.ga K "net_of")) := T.glo 21 rfl
theorem Txt.g_perform (T : Txt K mg) : mg "perform" = some (.ref (He.ga K "perform")) := T.glo 22 rfl
theorem Txt.g_sum_at (T : Txt K mg) : mg "sum_at" = some (.ref (He.ga K "sum_at")) := T.glo 23 rfl
theorem Txt.g_squares_at (T : Txt K mg) : mg "squares_at" = some (.ref (He.ga K "squares_at")) := T.glo 24 rfl
theorem Txt.g_weighted_sum (T : Txt K mg) : mg "weighted_sum" = some (.ref (He.ga K "weighted_sum")) := T.glo 25 rfl
theorem Txt.g_fault_of (T : Txt K mg) : mg "fault_of" = some (.ref (He.ga K "fault_of")) := T.glo 26 rfl
theorem Txt.g__law_tape (T : Txt K mg) : mg "_law_tape" = some (.ref (He.ga K "_law_tape")) := T.glo 27 rfl
theorem Txt.g__law_draw (T : Txt K mg) : mg "_law_draw" = some (.ref (He.ga K "_law_draw")) := T.glo 28 rfl
theorem Txt.g__law_take (T : Txt K mg) : mg "_law_take" = some (.ref (He.ga K "_law_take")) := T.glo 29 rfl
theorem Txt.g__law_common (T : Txt K mg) : mg "_law_common" = some (.ref (He.ga K "_law_common")) := T.glo 30 rfl
theorem Txt.g__law_pair (T : Txt K mg) : mg "_law_pair" = some (.ref (He.ga K "_law_pair")) := T.glo 31 rfl
theorem Txt.g__law_number (T : Txt K mg) : mg "_law_number" = some (.ref (He.ga K "_law_number")) := T.glo 32 rfl
theorem Txt.g__law_made (T : Txt K mg) : mg "_law_made" = some (.ref (He.ga K "_law_made")) := T.glo 33 rfl
theorem Txt.g__law_menu (T : Txt K mg) : mg "_law_menu" = some (.ref (He.ga K "_law_menu")) := T.glo 34 rfl
theorem Txt.g__law_weight (T : Txt K mg) : mg "_law_weight" = some (.ref (He.ga K "_law_weight")) := T.glo 35 rfl
theorem Txt.g__law_terms (T : Txt K mg) : mg "_law_terms" = some (.ref (He.ga K "_law_terms")) := T.glo 36 rfl
theorem Txt.g__law_spoilt (T : Txt K mg) : mg "_law_spoilt" = some (.ref (He.ga K "_law_spoilt")) := T.glo 37 rfl
theorem Txt.g__law_deed (T : Txt K mg) : mg "_law_deed" = some (.ref (He.ga K "_law_deed")) := T.glo 38 rfl
theorem Txt.g__law_deed_of (T : Txt K mg) : mg "_law_deed_of" = some (.ref (He.ga K "_law_deed_of")) := T.glo 39 rfl
theorem Txt.g__law_turn (T : Txt K mg) : mg "_law_turn" = some (.ref (He.ga K "_law_turn")) := T.glo 40 rfl
theorem Txt.g_law (T : Txt K mg) : mg "law" = some (.ref (He.ga K "law")) := T.glo 41 rfl
theorem Txt.g_rank_echelon (T : Txt K mg) : mg "rank_echelon" = some (.ref (He.ga K "rank_echelon")) := T.glo 42 rfl
theorem Txt.q_rank_echelon (T : Txt K mg) : PySem.W.keepIn K (.ref (He.ga K "rank_echelon")) = true := He.keep_ok (T.c.d.fact 43 rfl)
theorem Txt.g_Ratio (T : Txt K mg) : mg "Ratio" = some (.ref (He.ga K "Ratio")) := T.glo 44 rfl
theorem Txt.c_Ratio (T : Txt K mg) : Cls K (He.ga K "Ratio") := He.cls_ok (T.c.d.fact 45 rfl)
theorem Txt.k_Ratio (T : Txt K mg) : Mk K (He.ga K "Ratio") (He.ma K (He.ga K "Ratio") "__init__") := He.mkr_ok (T.c.d.fact 46 rfl)
theorem Txt.g_Reading (T : Txt K mg) : mg "Reading" = some (.ref (He.ga K "Reading")) := T.glo 47 rfl
theorem Txt.c_Reading (T : Txt K mg) : Cls K (He.ga K "Reading") := He.cls_ok (T.c.d.fact 48 rfl)
theorem Txt.k_Reading (T : Txt K mg) : Mk K (He.ga K "Reading") (He.ma K (He.ga K "Reading") "__init__") := He.mkr_ok (T.c.d.fact 49 rfl)
theorem Txt.g_Book (T : Txt K mg) : mg "Book" = some (.ref (He.ga K "Book")) := T.glo 50 rfl
theorem Txt.c_Book (T : Txt K mg) : Cls K (He.ga K "Book") := He.cls_ok (T.c.d.fact 51 rfl)
theorem Txt.k_Book (T : Txt K mg) : Mk K (He.ga K "Book") (He.ma K (He.ga K "Book") "__init__") := He.mkr_ok (T.c.d.fact 52 rfl)
theorem Txt.g_Net (T : Txt K mg) : mg "Net" = some (.ref (He.ga K "Net")) := T.glo 53 rfl
theorem Txt.c_Net (T : Txt K mg) : Cls K (He.ga K "Net") := He.cls_ok (T.c.d.fact 54 rfl)
theorem Txt.k_Net (T : Txt K mg) : Mk K (He.ga K "Net") (He.ma K (He.ga K "Net") "__init__") := He.mkr_ok (T.c.d.fact 55 rfl)
theorem Txt.g_Log (T : Txt K mg) : mg "Log" = some (.ref (He.ga K "Log")) := T.glo 56 rfl
theorem Txt.c_Log (T : Txt K mg) : Cls K (He.ga K "Log") := He.cls_ok (T.c.d.fact 57 rfl)
theorem Txt.k_Log (T : Txt K mg) : Mk K (He.ga K "Log") (He.ma K (He.ga K "Log") "__init__") := He.mkr_ok (T.c.d.fact 58 rfl)
theorem Txt.n_Ratio_top (T : Txt K mg) : NoAttr K (He.ga K "Ratio") "top" := He.noat_ok (T.c.d.fact 59 rfl)
theorem Txt.n_Ratio_bottom (T : Txt K mg) : NoAttr K (He.ga K "Ratio") "bottom" := He.noat_ok (T.c.d.fact 60 rfl)
theorem Txt.n_Reading_name (T : Txt K mg) : NoAttr K (He.ga K "Reading") "name" := He.noat_ok (T.c.d.fact 61 rfl)
theorem Txt.n_Reading_terms (T : Txt K mg) : NoAttr K (He.ga K "Reading") "terms" := He.noat_ok (T.c.d.fact 62 rfl)
theorem Txt.n_Reading_value (T : Txt K mg) : NoAttr K (He.ga K "Reading") "value" := He.noat_ok (T.c.d.fact 63 rfl)
theorem Txt.n_Reading_weight (T : Txt K mg) : NoAttr K (He.ga K "Reading") "weight" := He.noat_ok (T.c.d.fact 64 rfl)
theorem Txt.n_Book_points (T : Txt K mg) : NoAttr K (He.ga K "Book") "points" := He.noat_ok (T.c.d.fact 65 rfl)
theorem Txt.n_Book_approximations (T : Txt K mg) : NoAttr K (He.ga K "Book") "approximations" := He.noat_ok (T.c.d.fact 66 rfl)
theorem Txt.n_Book_readings (T : Txt K mg) : NoAttr K (He.ga K "Book") "readings" := He.noat_ok (T.c.d.fact 67 rfl)
theorem Txt.n_Net_points (T : Txt K mg) : NoAttr K (He.ga K "Net") "points" := He.noat_ok (T.c.d.fact 68 rfl)
theorem Txt.n_Net_approximations (T : Txt K mg) : NoAttr K (He.ga K "Net") "approximations" := He.noat_ok (T.c.d.fact 69 rfl)
theorem Txt.n_Net_readings (T : Txt K mg) : NoAttr K (He.ga K "Net") "readings" := He.noat_ok (T.c.d.fact 70 rfl)
theorem Txt.n_Net_normal (T : Txt K mg) : NoAttr K (He.ga K "Net") "normal" := He.noat_ok (T.c.d.fact 71 rfl)
theorem Txt.n_Net_inverse (T : Txt K mg) : NoAttr K (He.ga K "Net") "inverse" := He.noat_ok (T.c.d.fact 72 rfl)
theorem Txt.n_Net_right (T : Txt K mg) : NoAttr K (He.ga K "Net") "right" := He.noat_ok (T.c.d.fact 73 rfl)
theorem Txt.n_Net_total (T : Txt K mg) : NoAttr K (He.ga K "Net") "total" := He.noat_ok (T.c.d.fact 74 rfl)
theorem Txt.n_Log_done (T : Txt K mg) : NoAttr K (He.ga K "Log") "done" := He.noat_ok (T.c.d.fact 75 rfl)
theorem Txt.n_Log_books (T : Txt K mg) : NoAttr K (He.ga K "Log") "books" := He.noat_ok (T.c.d.fact 76 rfl)
theorem Txt.n_Log_later (T : Txt K mg) : NoAttr K (He.ga K "Log") "later" := He.noat_ok (T.c.d.fact 77 rfl)
theorem Txt.n_Log_net (T : Txt K mg) : NoAttr K (He.ga K "Log") "net" := He.noat_ok (T.c.d.fact 78 rfl)
theorem Txt.m_Ratio_init (T : Txt K mg) : Meth K (He.ga K "Ratio") "__init__" (He.ma K (He.ga K "Ratio") "__init__") := He.meth_ok (T.c.d.fact 79 rfl)
theorem Txt.m_Ratio_add (T : Txt K mg) : Meth K (He.ga K "Ratio") "__add__" (He.ma K (He.ga K "Ratio") "__add__") := He.meth_ok (T.c.d.fact 80 rfl)
theorem Txt.m_Ratio_sub (T : Txt K mg) : Meth K (He.ga K "Ratio") "__sub__" (He.ma K (He.ga K "Ratio") "__sub__") := He.meth_ok (T.c.d.fact 81 rfl)
theorem Txt.m_Ratio_mul (T : Txt K mg) : Meth K (He.ga K "Ratio") "__mul__" (He.ma K (He.ga K "Ratio") "__mul__") := He.meth_ok (T.c.d.fact 82 rfl)
theorem Txt.m_Ratio_neg (T : Txt K mg) : Meth K (He.ga K "Ratio") "__neg__" (He.ma K (He.ga K "Ratio") "__neg__") := He.meth_ok (T.c.d.fact 83 rfl)
theorem Txt.m_Ratio_eq (T : Txt K mg) : Meth K (He.ga K "Ratio") "__eq__" (He.ma K (He.ga K "Ratio") "__eq__") := He.meth_ok (T.c.d.fact 84 rfl)
theorem Txt.m_Ratio_over (T : Txt K mg) : Meth K (He.ga K "Ratio") "over" (He.ma K (He.ga K "Ratio") "over") := He.meth_ok (T.c.d.fact 85 rfl)
theorem Txt.m_Reading_init (T : Txt K mg) : Meth K (He.ga K "Reading") "__init__" (He.ma K (He.ga K "Reading") "__init__") := He.meth_ok (T.c.d.fact 86 rfl)
theorem Txt.m_Book_init (T : Txt K mg) : Meth K (He.ga K "Book") "__init__" (He.ma K (He.ga K "Book") "__init__") := He.meth_ok (T.c.d.fact 87 rfl)
theorem Txt.m_Book_place_of (T : Txt K mg) : Meth K (He.ga K "Book") "place_of" (He.ma K (He.ga K "Book") "place_of") := He.meth_ok (T.c.d.fact 88 rfl)
theorem Txt.m_Book_require_point (T : Txt K mg) : Meth K (He.ga K "Book") "require_point" (He.ma K (He.ga K "Book") "require_point") := He.meth_ok (T.c.d.fact 89 rfl)
theorem Txt.m_Book_add_point (T : Txt K mg) : Meth K (He.ga K "Book") "add_point" (He.ma K (He.ga K "Book") "add_point") := He.meth_ok (T.c.d.fact 90 rfl)
theorem Txt.m_Book_add_reading (T : Txt K mg) : Meth K (He.ga K "Book") "add_reading" (He.ma K (He.ga K "Book") "add_reading") := He.meth_ok (T.c.d.fact 91 rfl)
theorem Txt.m_Book_change_approximation (T : Txt K mg) : Meth K (He.ga K "Book") "change_approximation" (He.ma K (He.ga K "Book") "change_approximation") := He.meth_ok (T.c.d.fact 92 rfl)
theorem Txt.m_Book_change_value (T : Txt K mg) : Meth K (He.ga K "Book") "change_value" (He.ma K (He.ga K "Book") "change_value") := He.meth_ok (T.c.d.fact 93 rfl)
theorem Txt.m_Book_change_weight (T : Txt K mg) : Meth K (He.ga K "Book") "change_weight" (He.ma K (He.ga K "Book") "change_weight") := He.meth_ok (T.c.d.fact 94 rfl)
theorem Txt.m_Book_withdraw (T : Txt K mg) : Meth K (He.ga K "Book") "withdraw" (He.ma K (He.ga K "Book") "withdraw") := He.meth_ok (T.c.d.fact 95 rfl)
theorem Txt.m_Book_remove_point (T : Txt K mg) : Meth K (He.ga K "Book") "remove_point" (He.ma K (He.ga K "Book") "remove_point") := He.meth_ok (T.c.d.fact 96 rfl)
theorem Txt.m_Book_reading (T : Txt K mg) : Meth K (He.ga K "Book") "reading" (He.ma K (He.ga K "Book") "reading") := He.meth_ok (T.c.d.fact 97 rfl)
theorem Txt.m_Book_twin (T : Txt K mg) : Meth K (He.ga K "Book") "twin" (He.ma K (He.ga K "Book") "twin") := He.meth_ok (T.c.d.fact 98 rfl)
theorem Txt.m_Net_init (T : Txt K mg) : Meth K (He.ga K "Net") "__init__" (He.ma K (He.ga K "Net") "__init__") := He.meth_ok (T.c.d.fact 99 rfl)
theorem Txt.m_Net_add_point (T : Txt K mg) : Meth K (He.ga K "Net") "add_point" (He.ma K (He.ga K "Net") "add_point") := He.meth_ok (T.c.d.fact 100 rfl)
theorem Txt.m_Net_row (T : Txt K mg) : Meth K (He.ga K "Net") "row" (He.ma K (He.ga K "Net") "row") := He.meth_ok (T.c.d.fact 101 rfl)
theorem Txt.m_Net_place_of (T : Txt K mg) : Meth K (He.ga K "Net") "place_of" (He.ma K (He.ga K "Net") "place_of") := He.meth_ok (T.c.d.fact 102 rfl)
theorem Txt.m_Net_tally (T : Txt K mg) : Meth K (He.ga K "Net") "tally" (He.ma K (He.ga K "Net") "tally") := He.meth_ok (T.c.d.fact 103 rfl)
theorem Txt.m_Net_put (T : Txt K mg) : Meth K (He.ga K "Net") "put" (He.ma K (He.ga K "Net") "put") := He.meth_ok (T.c.d.fact 104 rfl)
theorem Txt.m_Net_take (T : Txt K mg) : Meth K (He.ga K "Net") "take" (He.ma K (He.ga K "Net") "take") := He.meth_ok (T.c.d.fact 105 rfl)
theorem Txt.m_Net_add (T : Txt K mg) : Meth K (He.ga K "Net") "add" (He.ma K (He.ga K "Net") "add") := He.meth_ok (T.c.d.fact 106 rfl)
theorem Txt.m_Net_withdraw (T : Txt K mg) : Meth K (He.ga K "Net") "withdraw" (He.ma K (He.ga K "Net") "withdraw") := He.meth_ok (T.c.d.fact 107 rfl)
theorem Txt.m_Net_change_value (T : Txt K mg) : Meth K (He.ga K "Net") "change_value" (He.ma K (He.ga K "Net") "change_value") := He.meth_ok (T.c.d.fact 108 rfl)
theorem Txt.m_Net_change_weight (T : Txt K mg) : Meth K (He.ga K "Net") "change_weight" (He.ma K (He.ga K "Net") "change_weight") := He.meth_ok (T.c.d.fact 109 rfl)
theorem Txt.m_Net_rows (T : Txt K mg) : Meth K (He.ga K "Net") "rows" (He.ma K (He.ga K "Net") "rows") := He.meth_ok (T.c.d.fact 110 rfl)
theorem Txt.m_Net_heights (T : Txt K mg) : Meth K (He.ga K "Net") "heights" (He.ma K (He.ga K "Net") "heights") := He.meth_ok (T.c.d.fact 111 rfl)
theorem Txt.m_Net_misfits (T : Txt K mg) : Meth K (He.ga K "Net") "misfits" (He.ma K (He.ga K "Net") "misfits") := He.meth_ok (T.c.d.fact 112 rfl)
theorem Txt.m_Net_squares (T : Txt K mg) : Meth K (He.ga K "Net") "squares" (He.ma K (He.ga K "Net") "squares") := He.meth_ok (T.c.d.fact 113 rfl)
theorem Txt.m_Net_rank (T : Txt K mg) : Meth K (He.ga K "Net") "rank" (He.ma K (He.ga K "Net") "rank") := He.meth_ok (T.c.d.fact 114 rfl)
theorem Txt.m_Net_paper (T : Txt K mg) : Meth K (He.ga K "Net") "paper" (He.ma K (He.ga K "Net") "paper") := He.meth_ok (T.c.d.fact 115 rfl)
theorem Txt.m_Log_init (T : Txt K mg) : Meth K (He.ga K "Log") "__init__" (He.ma K (He.ga K "Log") "__init__") := He.meth_ok (T.c.d.fact 116 rfl)
theorem Txt.m_Log_advance (T : Txt K mg) : Meth K (He.ga K "Log") "advance" (He.ma K (He.ga K "Log") "advance") := He.meth_ok (T.c.d.fact 117 rfl)
theorem Txt.m_Log_follow (T : Txt K mg) : Meth K (He.ga K "Log") "follow" (He.ma K (He.ga K "Log") "follow") := He.meth_ok (T.c.d.fact 118 rfl)
theorem Txt.m_Log_do (T : Txt K mg) : Meth K (He.ga K "Log") "do" (He.ma K (He.ga K "Log") "do") := He.meth_ok (T.c.d.fact 119 rfl)
theorem Txt.m_Log_undo (T : Txt K mg) : Meth K (He.ga K "Log") "undo" (He.ma K (He.ga K "Log") "undo") := He.meth_ok (T.c.d.fact 120 rfl)
theorem Txt.m_Log_redo (T : Txt K mg) : Meth K (He.ga K "Log") "redo" (He.ma K (He.ga K "Log") "redo") := He.meth_ok (T.c.d.fact 121 rfl)
theorem Txt.m_Log_book (T : Txt K mg) : Meth K (He.ga K "Log") "book" (He.ma K (He.ga K "Log") "book") := He.meth_ok (T.c.d.fact 122 rfl)
theorem Txt.m_Log_heights (T : Txt K mg) : Meth K (He.ga K "Log") "heights" (He.ma K (He.ga K "Log") "heights") := He.meth_ok (T.c.d.fact 123 rfl)
theorem Txt.m_Log_misfits (T : Txt K mg) : Meth K (He.ga K "Log") "misfits" (He.ma K (He.ga K "Log") "misfits") := He.meth_ok (T.c.d.fact 124 rfl)
theorem Txt.m_Log_squares (T : Txt K mg) : Meth K (He.ga K "Log") "squares" (He.ma K (He.ga K "Log") "squares") := He.meth_ok (T.c.d.fact 125 rfl)
theorem Txt.m_Log_rank (T : Txt K mg) : Meth K (He.ga K "Log") "rank" (He.ma K (He.ga K "Log") "rank") := He.meth_ok (T.c.d.fact 126 rfl)
theorem Txt.f_len (T : Txt K mg) : mg "len" = none := T.free 127 rfl
theorem Txt.f_tuple (T : Txt K mg) : mg "tuple" = none := T.free 128 rfl
theorem Txt.f_list (T : Txt K mg) : mg "list" = none := T.free 129 rfl
theorem Txt.f_range (T : Txt K mg) : mg "range" = none := T.free 130 rfl
theorem Txt.f_zip (T : Txt K mg) : mg "zip" = none := T.free 131 rfl
theorem Txt.f_enumerate (T : Txt K mg) : mg "enumerate" = none := T.free 132 rfl
theorem Txt.f_int (T : Txt K mg) : mg "int" = none := T.free 133 rfl
theorem Txt.f_abs (T : Txt K mg) : mg "abs" = none := T.free 134 rfl
theorem Txt.f_isinstance (T : Txt K mg) : mg "isinstance" = none := T.free 135 rfl
theorem Txt.i_MOST_POINTS_books (T : Txt K mg) : ∃ t, mg "MOST_POINTS_books" = some (.int 12 t) := T.int 136 rfl
theorem Txt.i_MOST_READINGS_books (T : Txt K mg) : ∃ t, mg "MOST_READINGS_books" = some (.int 24 t) := T.int 137 rfl
theorem Txt.i_MOST_COEFFICIENT (T : Txt K mg) : ∃ t, mg "MOST_COEFFICIENT" = some (.int 9 t) := T.int 138 rfl
theorem Txt.i_MOST_POINTS_adjust (T : Txt K mg) : ∃ t, mg "MOST_POINTS_adjust" = some (.int 12 t) := T.int 139 rfl
theorem Txt.i_MOST_READINGS_adjust (T : Txt K mg) : ∃ t, mg "MOST_READINGS_adjust" = some (.int 24 t) := T.int 140 rfl
theorem Txt.i_MOST_DEEDS (T : Txt K mg) : ∃ t, mg "MOST_DEEDS" = some (.int 200 t) := T.int 141 rfl
theorem Txt.g_SurveyError (T : Txt K mg) : mg "SurveyError" = some (.ref (He.ga K "SurveyError")) := T.glo 142 rfl
theorem Txt.q_SurveyError (T : Txt K mg) : PySem.W.keepIn K (.ref (He.ga K "SurveyError")) = true := He.keep_ok (T.c.d.fact 143 rfl)
theorem Txt.g_BadNumber (T : Txt K mg) : mg "BadNumber" = some (.ref (He.ga K "BadNumber")) := T.glo 144 rfl
theorem Txt.q_BadNumber (T : Txt K mg) : PySem.W.keepIn K (.ref (He.ga K "BadNumber")) = true := He.keep_ok (T.c.d.fact 145 rfl)
theorem Txt.g_ZeroDivisor (T : Txt K mg) : mg "ZeroDivisor" = some (.ref (He.ga K "ZeroDivisor")) := T.glo 146 rfl
theorem Txt.q_ZeroDivisor (T : Txt K mg) : PySem.W.keepIn K (.ref (He.ga K "ZeroDivisor")) = true := He.keep_ok (T.c.d.fact 147 rfl)
theorem Txt.g_UnknownPoint (T : Txt K mg) : mg "UnknownPoint" = some (.ref (He.ga K "UnknownPoint")) := T.glo 148 rfl
theorem Txt.q_UnknownPoint (T : Txt K mg) : PySem.W.keepIn K (.ref (He.ga K "UnknownPoint")) = true := He.keep_ok (T.c.d.fact 149 rfl)
theorem Txt.g_UnknownReading (T : Txt K mg) : mg "UnknownReading" = some (.ref (He.ga K "UnknownReading")) := T.glo 150 rfl
theorem Txt.q_UnknownReading (T : Txt K mg) : PySem.W.keepIn K (.ref (He.ga K "UnknownReading")) = true := He.keep_ok (T.c.d.fact 151 rfl)
theorem Txt.g_DuplicateName (T : Txt K mg) : mg "DuplicateName" = some (.ref (He.ga K "DuplicateName")) := T.glo 152 rfl
theorem Txt.q_DuplicateName (T : Txt K mg) : PySem.W.keepIn K (.ref (He.ga K "DuplicateName")) = true := He.keep_ok (T.c.d.fact 153 rfl)
theorem Txt.g_BadReading (T : Txt K mg) : mg "BadReading" = some (.ref (He.ga K "BadReading")) := T.glo 154 rfl
theorem Txt.q_BadReading (T : Txt K mg) : PySem.W.keepIn K (.ref (He.ga K "BadReading")) = true := He.keep_ok (T.c.d.fact 155 rfl)
theorem Txt.g_LimitReached (T : Txt K mg) : mg "LimitReached" = some (.ref (He.ga K "LimitReached")) := T.glo 156 rfl
theorem Txt.q_LimitReached (T : Txt K mg) : PySem.W.keepIn K (.ref (He.ga K "LimitReached")) = true := He.keep_ok (T.c.d.fact 157 rfl)
theorem Txt.g_NothingToUndo (T : Txt K mg) : mg "NothingToUndo" = some (.ref (He.ga K "NothingToUndo")) := T.glo 158 rfl
theorem Txt.q_NothingToUndo (T : Txt K mg) : PySem.W.keepIn K (.ref (He.ga K "NothingToUndo")) = true := He.keep_ok (T.c.d.fact 159 rfl)
theorem Txt.x_BadNumber (T : Txt K mg) : PySem.W.exmOne K (.ref (He.ga K "BadNumber")) (.ref (He.ga K "SurveyError")) = some true := He.exm_ok (T.c.d.fact 160 rfl)
theorem Txt.x_ZeroDivisor (T : Txt K mg) : PySem.W.exmOne K (.ref (He.ga K "ZeroDivisor")) (.ref (He.ga K "SurveyError")) = some true := He.exm_ok (T.c.d.fact 161 rfl)
theorem Txt.x_UnknownPoint (T : Txt K mg) : PySem.W.exmOne K (.ref (He.ga K "UnknownPoint")) (.ref (He.ga K "SurveyError")) = some true := He.exm_ok (T.c.d.fact 162 rfl)
theorem Txt.x_UnknownReading (T : Txt K mg) : PySem.W.exmOne K (.ref (He.ga K "UnknownReading")) (.ref (He.ga K "SurveyError")) = some true := He.exm_ok (T.c.d.fact 163 rfl)
theorem Txt.x_DuplicateName (T : Txt K mg) : PySem.W.exmOne K (.ref (He.ga K "DuplicateName")) (.ref (He.ga K "SurveyError")) = some true := He.exm_ok (T.c.d.fact 164 rfl)
theorem Txt.x_BadReading (T : Txt K mg) : PySem.W.exmOne K (.ref (He.ga K "BadReading")) (.ref (He.ga K "SurveyError")) = some true := He.exm_ok (T.c.d.fact 165 rfl)
theorem Txt.x_LimitReached (T : Txt K mg) : PySem.W.exmOne K (.ref (He.ga K "LimitReached")) (.ref (He.ga K "SurveyError")) = some true := He.exm_ok (T.c.d.fact 166 rfl)
theorem Txt.x_NothingToUndo (T : Txt K mg) : PySem.W.exmOne K (.ref (He.ga K "NothingToUndo")) (.ref (He.ga K "SurveyError")) = some true := He.exm_ok (T.c.d.fact 167 rfl)
abbrev a_UnknownPoint_init (K : PySem.W.Frag) : Addr := He.ma K (He.ga K "UnknownPoint") "__init__"
theorem Txt.d_UnknownPoint_init (T : Txt K mg) : ∃ fd, FunD K "__init__" "UnknownPoint.__init__" (defArgs s_UnknownPoint_init) (defBody s_UnknownPoint_init) (defScope s_UnknownPoint_init) [] [] (a_UnknownPoint_init K) fd := T.c.d.def_ 0 (d := Pn.d_UnknownPoint_init) rfl
abbrev a_UnknownReading_init (K : PySem.W.Frag) : Addr := He.ma K (He.ga K "UnknownReading") "__init__"
theorem Txt.d_UnknownReading_init (T : Txt K mg) : ∃ fd, FunD K "__init__" "UnknownReading.__init__" (defArgs s_UnknownReading_init) (defBody s_UnknownReading_init) (defScope s_UnknownReading_init) [] [] (a_UnknownReading_init K) fd := T.c.d.def_ 1 (d := Pn.d_UnknownReading_init) rfl
abbrev a_DuplicateName_init (K : PySem.W.Frag) : Addr := He.ma K (He.ga K "DuplicateName") "__init__"
theorem Txt.d_DuplicateName_init (T : Txt K mg) : ∃ fd, FunD K "__init__" "DuplicateName.__init__" (defArgs s_DuplicateName_init) (defBody s_DuplicateName_init) (defScope s_DuplicateName_init) [] [] (a_DuplicateName_init K) fd := T.c.d.def_ 2 (d := Pn.d_DuplicateName_init) rfl
abbrev a_BadReading_init (K : PySem.W.Frag) : Addr := He.ma K (He.ga K "BadReading") "__init__"
theorem Txt.d_BadReading_init (T : Txt K mg) : ∃ fd, FunD K "__init__" "BadReading.__init__" (defArgs s_BadReading_init) (defBody s_BadReading_init) (defScope s_BadReading_init) [] [] (a_BadReading_init K) fd := T.c.d.def_ 3 (d := Pn.d_BadReading_init) rfl
abbrev a_LimitReached_init (K : PySem.W.Frag) : Addr := He.ma K (He.ga K "LimitReached") "__init__"
theorem Txt.d_LimitReached_init (T : Txt K mg) : ∃ fd, FunD K "__init__" "LimitReached.__init__" (defArgs s_LimitReached_init) (defBody s_LimitReached_init) (defScope s_LimitReached_init) [] [] (a_LimitReached_init K) fd := T.c.d.def_ 4 (d := Pn.d_LimitReached_init) rfl
abbrev a_Ratio_init (K : PySem.W.Frag) : Addr := He.ma K (He.ga K "Ratio") "__init__"
theorem Txt.d_Ratio_init (T : Txt K mg) : ∃ fd, FunD K "__init__" "Ratio.__init__" (defArgs s_Ratio_init) (defBody s_Ratio_init) (defScope s_Ratio_init) [V.int 1] [] (a_Ratio_init K) fd := T.c.d.def_ 5 (d := Pn.d_Ratio_init) rfl
abbrev a_Ratio_add (K : PySem.W.Frag) : Addr := He.ma K (He.ga K "Ratio") "__add__"
theorem Txt.d_Ratio_add (T : Txt K mg) : ∃ fd, FunD K "__add__" "Ratio.__add__" (defArgs s_Ratio_add) (defBody s_Ratio_add) (defScope s_Ratio_add) [] [] (a_Ratio_add K) fd := T.c.d.def_ 6 (d := Pn.d_Ratio_add) rfl
abbrev a_Ratio_sub (K : PySem.W.Frag) : Addr := He.ma K (He.ga K "Ratio") "__sub__"
theorem Txt.d_Ratio_sub (T : Txt K mg) : ∃ fd, FunD K "__sub__" "Ratio.__sub__" (defArgs s_Ratio_sub) (defBody s_Ratio_sub) (defScope s_Ratio_sub) [] [] (a_Ratio_sub K) fd := T.c.d.def_ 7 (d := Pn.d_Ratio_sub) rfl
abbrev a_Ratio_mul (K : PySem.W.Frag) : Addr := He.ma K (He.ga K "Ratio") "__mul__"
theorem Txt.d_Ratio_mul (T : Txt K mg) : ∃ fd, FunD K "__mul__" "Ratio.__mul__" (defArgs s_Ratio_mul) (defBody s_Ratio_mul) (defScope s_Ratio_mul) [] [] (a_Ratio_mul K) fd := T.c.d.def_ 8 (d := Pn.d_Ratio_mul) rfl
abbrev a_Ratio_neg (K : PySem.W.Frag) : Addr := He.ma K (He.ga K "Ratio") "__neg__"
theorem Txt.d_Ratio_neg (T : Txt K mg) : ∃ fd, FunD K "__neg__" "Ratio.__neg__" (defArgs s_Ratio_neg) (defBody s_Ratio_neg) (defScope s_Ratio_neg) [] [] (a_Ratio_neg K) fd := T.c.d.def_ 9 (d := Pn.d_Ratio_neg) rfl
abbrev a_Ratio_eq (K : PySem.W.Frag) : Addr := He.ma K (He.ga K "Ratio") "__eq__"
theorem Txt.d_Ratio_eq (T : Txt K mg) : ∃ fd, FunD K "__eq__" "Ratio.__eq__" (defArgs s_Ratio_eq) (defBody s_Ratio_eq) (defScope s_Ratio_eq) [] [] (a_Ratio_eq K) fd := T.c.d.def_ 10 (d := Pn.d_Ratio_eq) rfl
abbrev a_Ratio_over (K : PySem.W.Frag) : Addr := He.ma K (He.ga K "Ratio") "over"
theorem Txt.d_Ratio_over (T : Txt K mg) : ∃ fd, FunD K "over" "Ratio.over" (defArgs s_Ratio_over) (defBody s_Ratio_over) (defScope s_Ratio_over) [] [] (a_Ratio_over K) fd := T.c.d.def_ 11 (d := Pn.d_Ratio_over) rfl
abbrev a_Reading_init (K : PySem.W.Frag) : Addr := He.ma K (He.ga K "Reading") "__init__"
theorem Txt.d_Reading_init (T : Txt K mg) : ∃ fd, FunD K "__init__" "Reading.__init__" (defArgs s_Reading_init) (defBody s_Reading_init) (defScope s_Reading_init) [] [] (a_Reading_init K) fd := T.c.d.def_ 12 (d := Pn.d_Reading_init) rfl
abbrev a_terms_fit (K : PySem.W.Frag) : Addr := He.ga K "terms_fit"
theorem Txt.d_terms_fit (T : Txt K mg) : ∃ fd, FunD K "terms_fit" "terms_fit" (defArgs s_terms_fit) (defBody s_terms_fit) (defScope s_terms_fit) [] [] (a_terms_fit K) fd := T.c.d.def_ 13 (d := Pn.d_terms_fit) rfl
abbrev a_Book_init (K : PySem.W.Frag) : Addr := He.ma K (He.ga K "Book") "__init__"
theorem Txt.d_Book_init (T : Txt K mg) : ∃ fd, FunD K "__init__" "Book.__init__" (defArgs s_Book_init) (defBody s_Book_init) (defScope s_Book_init) [] [] (a_Book_init K) fd := T.c.d.def_ 14 (d := Pn.d_Book_init) rfl
abbrev a_Book_place_of (K : PySem.W.Frag) : Addr := He.ma K (He.ga K "Book") "place_of"
theorem Txt.d_Book_place_of (T : Txt K mg) : ∃ fd, FunD K "place_of" "Book.place_of" (defArgs s_Book_place_of) (defBody s_Book_place_of) (defScope s_Book_place_of) [] [] (a_Book_place_of K) fd := T.c.d.def_ 15 (d := Pn.d_Book_place_of) rfl
abbrev a_Book_require_point (K : PySem.W.Frag) : Addr := He.ma K (He.ga K "Book") "require_point"
theorem Txt.d_Book_require_point (T : Txt K mg) : ∃ fd, FunD K "require_point" "Book.require_point" (defArgs s_Book_require_point) (defBody s_Book_require_point) (defScope s_Book_require_point) [] [] (a_Book_require_point K) fd := T.c.d.def_ 16 (d := Pn.d_Book_require_point) rfl
abbrev a_Book_add_point (K : PySem.W.Frag) : Addr := He.ma K (He.ga K "Book") "add_point"
theorem Txt.d_Book_add_point (T : Txt K mg) : ∃ fd, FunD K "add_point" "Book.add_point" (defArgs s_Book_add_point) (defBody s_Book_add_point) (defScope s_Book_add_point) [] [] (a_Book_add_point K) fd := T.c.d.def_ 17 (d := Pn.d_Book_add_point) rfl
abbrev a_Book_add_reading (K : PySem.W.Frag) : Addr := He.ma K (He.ga K "Book") "add_reading"
theorem Txt.d_Book_add_reading (T : Txt K mg) : ∃ fd, FunD K "add_reading" "Book.add_reading" (defArgs s_Book_add_reading) (defBody s_Book_add_reading) (defScope s_Book_add_reading) [] [] (a_Book_add_reading K) fd := T.c.d.def_ 18 (d := Pn.d_Book_add_reading) rfl
abbrev a_Book_change_approximation (K : PySem.W.Frag) : Addr := He.ma K (He.ga K "Book") "change_approximation"
theorem Txt.d_Book_change_approximation (T : Txt K mg) : ∃ fd, FunD K "change_approximation" "Book.change_approximation" (defArgs s_Book_change_approximation) (defBody s_Book_change_approximation) (defScope s_Book_change_approximation) [] [] (a_Book_change_approximation K) fd := T.c.d.def_ 19 (d := Pn.d_Book_change_approximation) rfl
abbrev a_Book_change_value (K : PySem.W.Frag) : Addr := He.ma K (He.ga K "Book") "change_value"
theorem Txt.d_Book_change_value (T : Txt K mg) : ∃ fd, FunD K "change_value" "Book.change_value" (defArgs s_Book_change_value) (defBody s_Book_change_value) (defScope s_Book_change_value) [] [] (a_Book_change_value K) fd := T.c.d.def_ 20 (d := Pn.d_Book_change_value) rfl
abbrev a_Book_change_weight (K : PySem.W.Frag) : Addr := He.ma K (He.ga K "Book") "change_weight"
theorem Txt.d_Book_change_weight (T : Txt K mg) : ∃ fd, FunD K "change_weight" "Book.change_weight" (defArgs s_Book_change_weight) (defBody s_Book_change_weight) (defScope s_Book_change_weight) [] [] (a_Book_change_weight K) fd := T.c.d.def_ 21 (d := Pn.d_Book_change_weight) rfl
abbrev a_Book_withdraw (K : PySem.W.Frag) : Addr := He.ma K (He.ga K "Book") "withdraw"
theorem Txt.d_Book_withdraw (T : Txt K mg) : ∃ fd, FunD K "withdraw" "Book.withdraw" (defArgs s_Book_withdraw) (defBody s_Book_withdraw) (defScope s_Book_withdraw) [] [] (a_Book_withdraw K) fd := T.c.d.def_ 22 (d := Pn.d_Book_withdraw) rfl
abbrev a_Book_remove_point (K : PySem.W.Frag) : Addr := He.ma K (He.ga K "Book") "remove_point"
theorem Txt.d_Book_remove_point (T : Txt K mg) : ∃ fd, FunD K "remove_point" "Book.remove_point" (defArgs s_Book_remove_point) (defBody s_Book_remove_point) (defScope s_Book_remove_point) [] [] (a_Book_remove_point K) fd := T.c.d.def_ 23 (d := Pn.d_Book_remove_point) rfl
abbrev a_Book_reading (K : PySem.W.Frag) : Addr := He.ma K (He.ga K "Book") "reading"
theorem Txt.d_Book_reading (T : Txt K mg) : ∃ fd, FunD K "reading" "Book.reading" (defArgs s_Book_reading) (defBody s_Book_reading) (defScope s_Book_reading) [] [] (a_Book_reading K) fd := T.c.d.def_ 24 (d := Pn.d_Book_reading) rfl
abbrev a_Book_twin (K : PySem.W.Frag) : Addr := He.ma K (He.ga K "Book") "twin"
theorem Txt.d_Book_twin (T : Txt K mg) : ∃ fd, FunD K "twin" "Book.twin" (defArgs s_Book_twin) (defBody s_Book_twin) (defScope s_Book_twin) [] [] (a_Book_twin K) fd := T.c.d.def_ 25 (d := Pn.d_Book_twin) rfl
abbrev a_dot (K : PySem.W.Frag) : Addr := He.ga K "dot"
theorem Txt.d_dot (T : Txt K mg) : ∃ fd, FunD K "dot" "dot" (defArgs s_dot) (defBody s_dot) (defScope s_dot) [] [] (a_dot K) fd := T.c.d.def_ 26 (d := Pn.d_dot) rfl
abbrev a_scale (K : PySem.W.Frag) : Addr := He.ga K "scale"
theorem Txt.d_scale (T : Txt K mg) : ∃ fd, FunD K "scale" "scale" (defArgs s_scale) (defBody s_scale) (defScope s_scale) [] [] (a_scale K) fd := T.c.d.def_ 27 (d := Pn.d_scale) rfl
abbrev a_plus (K : PySem.W.Frag) : Addr := He.ga K "plus"
theorem Txt.d_plus (T : Txt K mg) : ∃ fd, FunD K "plus" "plus" (defArgs s_plus) (defBody s_plus) (defScope s_plus) [] [] (a_plus K) fd := T.c.d.def_ 28 (d := Pn.d_plus) rfl
abbrev a_minus (K : PySem.W.Frag) : Addr := He.ga K "minus"
theorem Txt.d_minus (T : Txt K mg) : ∃ fd, FunD K "minus" "minus" (defArgs s_minus) (defBody s_minus) (defScope s_minus) [] [] (a_minus K) fd := T.c.d.def_ 29 (d := Pn.d_minus) rfl
abbrev a_is_zero (K : PySem.W.Frag) : Addr := He.ga K "is_zero"
theorem Txt.d_is_zero (T : Txt K mg) : ∃ fd, FunD K "is_zero" "is_zero" (defArgs s_is_zero) (defBody s_is_zero) (defScope s_is_zero) [] [] (a_is_zero K) fd := T.c.d.def_ 30 (d := Pn.d_is_zero) rfl
abbrev a_transpose (K : PySem.W.Frag) : Addr := He.ga K "transpose"
theorem Txt.d_transpose (T : Txt K mg) : ∃ fd, FunD K "transpose" "transpose" (defArgs s_transpose) (defBody s_transpose) (defScope s_transpose) [] [] (a_transpose K) fd := T.c.d.def_ 31 (d := Pn.d_transpose) rfl
abbrev a_apply (K : PySem.W.Frag) : Addr := He.ga K "apply"
theorem Txt.d_apply (T : Txt K mg) : ∃ fd, FunD K "apply" "apply" (defArgs s_apply) (defBody s_apply) (defScope s_apply) [] [] (a_apply K) fd := T.c.d.def_ 32 (d := Pn.d_apply) rfl
abbrev a_outer (K : PySem.W.Frag) : Addr := He.ga K "outer"
theorem Txt.d_outer (T : Txt K mg) : ∃ fd, FunD K "outer" "outer" (defArgs s_outer) (defBody s_outer) (defScope s_outer) [] [] (a_outer K) fd := T.c.d.def_ 33 (d := Pn.d_outer) rfl
abbrev a_sum_of (K : PySem.W.Frag) : Addr := He.ga K "sum_of"
theorem Txt.d_sum_of (T : Txt K mg) : ∃ fd, FunD K "sum_of" "sum_of" (defArgs s_sum_of) (defBody s_sum_of) (defScope s_sum_of) [] [] (a_sum_of K) fd := T.c.d.def_ 34 (d := Pn.d_sum_of) rfl
abbrev a_scaled (K : PySem.W.Frag) : Addr := He.ga K "scaled"
theorem Txt.d_scaled (T : Txt K mg) : ∃ fd, FunD K "scaled" "scaled" (defArgs s_scaled) (defBody s_scaled) (defScope s_scaled) [] [] (a_scaled K) fd := T.c.d.def_ 35 (d := Pn.d_scaled) rfl
abbrev a_pivot_row (K : PySem.W.Frag) : Addr := He.ga K "pivot_row"
theorem Txt.d_pivot_row (T : Txt K mg) : ∃ fd, FunD K "pivot_row" "pivot_row" (defArgs s_pivot_row) (defBody s_pivot_row) (defScope s_pivot_row) [] [] (a_pivot_row K) fd := T.c.d.def_ 36 (d := Pn.d_pivot_row) rfl
abbrev a_cleared (K : PySem.W.Frag) : Addr := He.ga K "cleared"
theorem Txt.d_cleared (T : Txt K mg) : ∃ fd, FunD K "cleared" "cleared" (defArgs s_cleared) (defBody s_cleared) (defScope s_cleared) [] [] (a_cleared K) fd := T.c.d.def_ 37 (d := Pn.d_cleared) rfl
abbrev a_reduced (K : PySem.W.Frag) : Addr := He.ga K "reduced"
theorem Txt.d_reduced (T : Txt K mg) : ∃ fd, FunD K "reduced" "reduced" (defArgs s_reduced) (defBody s_reduced) (defScope s_reduced) [] [] (a_reduced K) fd := T.c.d.def_ 38 (d := Pn.d_reduced) rfl
abbrev a_rank (K : PySem.W.Frag) : Addr := He.ga K "rank"
theorem Txt.d_rank (T : Txt K mg) : ∃ fd, FunD K "rank" "rank" (defArgs s_rank) (defBody s_rank) (defScope s_rank) [] [] (a_rank K) fd := T.c.d.def_ 39 (d := Pn.d_rank) rfl
abbrev a_solve (K : PySem.W.Frag) : Addr := He.ga K "solve"
theorem Txt.d_solve (T : Txt K mg) : ∃ fd, FunD K "solve" "solve" (defArgs s_solve) (defBody s_solve) (defScope s_solve) [] [] (a_solve K) fd := T.c.d.def_ 40 (d := Pn.d_solve) rfl
abbrev a_span_of (K : PySem.W.Frag) : Addr := He.ga K "span_of"
theorem Txt.d_span_of (T : Txt K mg) : ∃ fd, FunD K "span_of" "span_of" (defArgs s_span_of) (defBody s_span_of) (defScope s_span_of) [] [] (a_span_of K) fd := T.c.d.def_ 41 (d := Pn.d_span_of) rfl
abbrev a_add_term (K : PySem.W.Frag) : Addr := He.ga K "add_term"
theorem Txt.d_add_term (T : Txt K mg) : ∃ fd, FunD K "add_term" "add_term" (defArgs s_add_term) (defBody s_add_term) (defScope s_add_term) [] [] (a_add_term K) fd := T.c.d.def_ 42 (d := Pn.d_add_term) rfl
abbrev a_with_added (K : PySem.W.Frag) : Addr := He.ga K "with_added"
theorem Txt.d_with_added (T : Txt K mg) : ∃ fd, FunD K "with_added" "with_added" (defArgs s_with_added) (defBody s_with_added) (defScope s_with_added) [] [] (a_with_added K) fd := T.c.d.def_ 43 (d := Pn.d_with_added) rfl
abbrev a_with_removed (K : PySem.W.Frag) : Addr := He.ga K "with_removed"
theorem Txt.d_with_removed (T : Txt K mg) : ∃ fd, FunD K "with_removed" "with_removed" (defArgs s_with_removed) (defBody s_with_removed) (defScope s_with_removed) [] [] (a_with_removed K) fd := T.c.d.def_ 44 (d := Pn.d_with_removed) rfl
abbrev a_widened (K : PySem.W.Frag) : Addr := He.ga K "widened"
theorem Txt.d_widened (T : Txt K mg) : ∃ fd, FunD K "widened" "widened" (defArgs s_widened) (defBody s_widened) (defScope s_widened) [] [] (a_widened K) fd := T.c.d.def_ 45 (d := Pn.d_widened) rfl
abbrev a_Net_init (K : PySem.W.Frag) : Addr := He.ma K (He.ga K "Net") "__init__"
theorem Txt.d_Net_init (T : Txt K mg) : ∃ fd, FunD K "__init__" "Net.__init__" (defArgs s_Net_init) (defBody s_Net_init) (defScope s_Net_init) [] [] (a_Net_init K) fd := T.c.d.def_ 46 (d := Pn.d_Net_init) rfl
abbrev a_Net_add_point (K : PySem.W.Frag) : Addr := He.ma K (He.ga K "Net") "add_point"
theorem Txt.d_Net_add_point (T : Txt K mg) : ∃ fd, FunD K "add_point" "Net.add_point" (defArgs s_Net_add_point) (defBody s_Net_add_point) (defScope s_Net_add_point) [] [] (a_Net_add_point K) fd := T.c.d.def_ 47 (d := Pn.d_Net_add_point) rfl
abbrev a_Net_row (K : PySem.W.Frag) : Addr := He.ma K (He.ga K "Net") "row"
theorem Txt.d_Net_row (T : Txt K mg) : ∃ fd, FunD K "row" "Net.row" (defArgs s_Net_row) (defBody s_Net_row) (defScope s_Net_row) [] [] (a_Net_row K) fd := T.c.d.def_ 48 (d := Pn.d_Net_row) rfl
abbrev a_Net_place_of (K : PySem.W.Frag) : Addr := He.ma K (He.ga K "Net") "place_of"
theorem Txt.d_Net_place_of (T : Txt K mg) : ∃ fd, FunD K "place_of" "Net.place_of" (defArgs s_Net_place_of) (defBody s_Net_place_of) (defScope s_Net_place_of) [] [] (a_Net_place_of K) fd := T.c.d.def_ 49 (d := Pn.d_Net_place_of) rfl
abbrev a_Net_tally (K : PySem.W.Frag) : Addr := He.ma K (He.ga K "Net") "tally"
theorem Txt.d_Net_tally (T : Txt K mg) : ∃ fd, FunD K "tally" "Net.tally" (defArgs s_Net_tally) (defBody s_Net_tally) (defScope s_Net_tally) [] [] (a_Net_tally K) fd := T.c.d.def_ 50 (d := Pn.d_Net_tally) rfl
abbrev a_Net_put (K : PySem.W.Frag) : Addr := He.ma K (He.ga K "Net") "put"
theorem Txt.d_Net_put (T : Txt K mg) : ∃ fd, FunD K "put" "Net.put" (defArgs s_Net_put) (defBody s_Net_put) (defScope s_Net_put) [] [] (a_Net_put K) fd := T.c.d.def_ 51 (d := Pn.d_Net_put) rfl
abbrev a_Net_take (K : PySem.W.Frag) : Addr := He.ma K (He.ga K "Net") "take"
theorem Txt.d_Net_take (T : Txt K mg) : ∃ fd, FunD K "take" "Net.take" (defArgs s_Net_take) (defBody s_Net_take) (defScope s_Net_take) [] [] (a_Net_take K) fd := T.c.d.def_ 52 (d := Pn.d_Net_take) rfl
abbrev a_Net_add (K : PySem.W.Frag) : Addr := He.ma K (He.ga K "Net") "add"
theorem Txt.d_Net_add (T : Txt K mg) : ∃ fd, FunD K "add" "Net.add" (defArgs s_Net_add) (defBody s_Net_add) (defScope s_Net_add) [] [] (a_Net_add K) fd := T.c.d.def_ 53 (d := Pn.d_Net_add) rfl
abbrev a_Net_withdraw (K : PySem.W.Frag) : Addr := He.ma K (He.ga K "Net") "withdraw"
theorem Txt.d_Net_withdraw (T : Txt K mg) : ∃ fd, FunD K "withdraw" "Net.withdraw" (defArgs s_Net_withdraw) (defBody s_Net_withdraw) (defScope s_Net_withdraw) [] [] (a_Net_withdraw K) fd := T.c.d.def_ 54 (d := Pn.d_Net_withdraw) rfl
abbrev a_Net_change_value (K : PySem.W.Frag) : Addr := He.ma K (He.ga K "Net") "change_value"
theorem Txt.d_Net_change_value (T : Txt K mg) : ∃ fd, FunD K "change_value" "Net.change_value" (defArgs s_Net_change_value) (defBody s_Net_change_value) (defScope s_Net_change_value) [] [] (a_Net_change_value K) fd := T.c.d.def_ 55 (d := Pn.d_Net_change_value) rfl
abbrev a_Net_change_weight (K : PySem.W.Frag) : Addr := He.ma K (He.ga K "Net") "change_weight"
theorem Txt.d_Net_change_weight (T : Txt K mg) : ∃ fd, FunD K "change_weight" "Net.change_weight" (defArgs s_Net_change_weight) (defBody s_Net_change_weight) (defScope s_Net_change_weight) [] [] (a_Net_change_weight K) fd := T.c.d.def_ 56 (d := Pn.d_Net_change_weight) rfl
abbrev a_Net_rows (K : PySem.W.Frag) : Addr := He.ma K (He.ga K "Net") "rows"
theorem Txt.d_Net_rows (T : Txt K mg) : ∃ fd, FunD K "rows" "Net.rows" (defArgs s_Net_rows) (defBody s_Net_rows) (defScope s_Net_rows) [] [] (a_Net_rows K) fd := T.c.d.def_ 57 (d := Pn.d_Net_rows) rfl
abbrev a_Net_heights (K : PySem.W.Frag) : Addr := He.ma K (He.ga K "Net") "heights"
theorem Txt.d_Net_heights (T : Txt K mg) : ∃ fd, FunD K "heights" "Net.heights" (defArgs s_Net_heights) (defBody s_Net_heights) (defScope s_Net_heights) [] [] (a_Net_heights K) fd := T.c.d.def_ 58 (d := Pn.d_Net_heights) rfl
abbrev a_Net_misfits (K : PySem.W.Frag) : Addr := He.ma K (He.ga K "Net") "misfits"
theorem Txt.d_Net_misfits (T : Txt K mg) : ∃ fd, FunD K "misfits" "Net.misfits" (defArgs s_Net_misfits) (defBody s_Net_misfits) (defScope s_Net_misfits) [] [] (a_Net_misfits K) fd := T.c.d.def_ 59 (d := Pn.d_Net_misfits) rfl
abbrev a_Net_squares (K : PySem.W.Frag) : Addr := He.ma K (He.ga K "Net") "squares"
theorem Txt.d_Net_squares (T : Txt K mg) : ∃ fd, FunD K "squares" "Net.squares" (defArgs s_Net_squares) (defBody s_Net_squares) (defScope s_Net_squares) [] [] (a_Net_squares K) fd := T.c.d.def_ 60 (d := Pn.d_Net_squares) rfl
abbrev a_Net_rank (K : PySem.W.Frag) : Addr := He.ma K (He.ga K "Net") "rank"
theorem Txt.d_Net_rank (T : Txt K mg) : ∃ fd, FunD K "rank" "Net.rank" (defArgs s_Net_rank) (defBody s_Net_rank) (defScope s_Net_rank) [] [] (a_Net_rank K) fd := T.c.d.def_ 61 (d := Pn.d_Net_rank) rfl
abbrev a_Net_paper (K : PySem.W.Frag) : Addr := He.ma K (He.ga K "Net") "paper"
theorem Txt.d_Net_paper (T : Txt K mg) : ∃ fd, FunD K "paper" "Net.paper" (defArgs s_Net_paper) (defBody s_Net_paper) (defScope s_Net_paper) [] [] (a_Net_paper K) fd := T.c.d.def_ 62 (d := Pn.d_Net_paper) rfl
abbrev a_net_of (K : PySem.W.Frag) : Addr := He.ga K "net_of"
theorem Txt.d_net_of (T : Txt K mg) : ∃ fd, FunD K "net_of" "net_of" (defArgs s_net_of) (defBody s_net_of) (defScope s_net_of) [] [] (a_net_of K) fd := T.c.d.def_ 63 (d := Pn.d_net_of) rfl
abbrev a_perform (K : PySem.W.Frag) : Addr := He.ga K "perform"
theorem Txt.d_perform (T : Txt K mg) : ∃ fd, FunD K "perform" "perform" (defArgs s_perform) (defBody s_perform) (defScope s_perform) [] [] (a_perform K) fd := T.c.d.def_ 64 (d := Pn.d_perform) rfl
abbrev a_Log_init (K : PySem.W.Frag) : Addr := He.ma K (He.ga K "Log") "__init__"
theorem Txt.d_Log_init (T : Txt K mg) : ∃ fd, FunD K "__init__" "Log.__init__" (defArgs s_Log_init) (defBody s_Log_init) (defScope s_Log_init) [] [] (a_Log_init K) fd := T.c.d.def_ 65 (d := Pn.d_Log_init) rfl
abbrev a_Log_advance (K : PySem.W.Frag) : Addr := He.ma K (He.ga K "Log") "advance"
theorem Txt.d_Log_advance (T : Txt K mg) : ∃ fd, FunD K "advance" "Log.advance" (defArgs s_Log_advance) (defBody s_Log_advance) (defScope s_Log_advance) [] [] (a_Log_advance K) fd := T.c.d.def_ 66 (d := Pn.d_Log_advance) rfl
abbrev a_Log_follow (K : PySem.W.Frag) : Addr := He.ma K (He.ga K "Log") "follow"
theorem Txt.d_Log_follow (T : Txt K mg) : ∃ fd, FunD K "follow" "Log.follow" (defArgs s_Log_follow) (defBody s_Log_follow) (defScope s_Log_follow) [] [] (a_Log_follow K) fd := T.c.d.def_ 67 (d := Pn.d_Log_follow) rfl
abbrev a_Log_do (K : PySem.W.Frag) : Addr := He.ma K (He.ga K "Log") "do"
theorem Txt.d_Log_do (T : Txt K mg) : ∃ fd, FunD K "do" "Log.do" (defArgs s_Log_do) (defBody s_Log_do) (defScope s_Log_do) [] [] (a_Log_do K) fd := T.c.d.def_ 68 (d := Pn.d_Log_do) rfl
abbrev a_Log_undo (K : PySem.W.Frag) : Addr := He.ma K (He.ga K "Log") "undo"
theorem Txt.d_Log_undo (T : Txt K mg) : ∃ fd, FunD K "undo" "Log.undo" (defArgs s_Log_undo) (defBody s_Log_undo) (defScope s_Log_undo) [] [] (a_Log_undo K) fd := T.c.d.def_ 69 (d := Pn.d_Log_undo) rfl
abbrev a_Log_redo (K : PySem.W.Frag) : Addr := He.ma K (He.ga K "Log") "redo"
theorem Txt.d_Log_redo (T : Txt K mg) : ∃ fd, FunD K "redo" "Log.redo" (defArgs s_Log_redo) (defBody s_Log_redo) (defScope s_Log_redo) [] [] (a_Log_redo K) fd := T.c.d.def_ 70 (d := Pn.d_Log_redo) rfl
abbrev a_Log_book (K : PySem.W.Frag) : Addr := He.ma K (He.ga K "Log") "book"
theorem Txt.d_Log_book (T : Txt K mg) : ∃ fd, FunD K "book" "Log.book" (defArgs s_Log_book) (defBody s_Log_book) (defScope s_Log_book) [] [] (a_Log_book K) fd := T.c.d.def_ 71 (d := Pn.d_Log_book) rfl
abbrev a_Log_heights (K : PySem.W.Frag) : Addr := He.ma K (He.ga K "Log") "heights"
theorem Txt.d_Log_heights (T : Txt K mg) : ∃ fd, FunD K "heights" "Log.heights" (defArgs s_Log_heights) (defBody s_Log_heights) (defScope s_Log_heights) [] [] (a_Log_heights K) fd := T.c.d.def_ 72 (d := Pn.d_Log_heights) rfl
abbrev a_Log_misfits (K : PySem.W.Frag) : Addr := He.ma K (He.ga K "Log") "misfits"
theorem Txt.d_Log_misfits (T : Txt K mg) : ∃ fd, FunD K "misfits" "Log.misfits" (defArgs s_Log_misfits) (defBody s_Log_misfits) (defScope s_Log_misfits) [] [] (a_Log_misfits K) fd := T.c.d.def_ 73 (d := Pn.d_Log_misfits) rfl
abbrev a_Log_squares (K : PySem.W.Frag) : Addr := He.ma K (He.ga K "Log") "squares"
theorem Txt.d_Log_squares (T : Txt K mg) : ∃ fd, FunD K "squares" "Log.squares" (defArgs s_Log_squares) (defBody s_Log_squares) (defScope s_Log_squares) [] [] (a_Log_squares K) fd := T.c.d.def_ 74 (d := Pn.d_Log_squares) rfl
abbrev a_Log_rank (K : PySem.W.Frag) : Addr := He.ma K (He.ga K "Log") "rank"
theorem Txt.d_Log_rank (T : Txt K mg) : ∃ fd, FunD K "rank" "Log.rank" (defArgs s_Log_rank) (defBody s_Log_rank) (defScope s_Log_rank) [] [] (a_Log_rank K) fd := T.c.d.def_ 75 (d := Pn.d_Log_rank) rfl
abbrev a_sum_at (K : PySem.W.Frag) : Addr := He.ga K "sum_at"
theorem Txt.d_sum_at (T : Txt K mg) : ∃ fd, FunD K "sum_at" "sum_at" (defArgs s_sum_at) (defBody s_sum_at) (defScope s_sum_at) [] [] (a_sum_at K) fd := T.c.d.def_ 76 (d := Pn.d_sum_at) rfl
abbrev a_squares_at (K : PySem.W.Frag) : Addr := He.ga K "squares_at"
theorem Txt.d_squares_at (T : Txt K mg) : ∃ fd, FunD K "squares_at" "squares_at" (defArgs s_squares_at) (defBody s_squares_at) (defScope s_squares_at) [] [] (a_squares_at K) fd := T.c.d.def_ 77 (d := Pn.d_squares_at) rfl
abbrev a_weighted_sum (K : PySem.W.Frag) : Addr := He.ga K "weighted_sum"
theorem Txt.d_weighted_sum (T : Txt K mg) : ∃ fd, FunD K "weighted_sum" "weighted_sum" (defArgs s_weighted_sum) (defBody s_weighted_sum) (defScope s_weighted_sum) [] [] (a_weighted_sum K) fd := T.c.d.def_ 78 (d := Pn.d_weighted_sum) rfl
abbrev a_fault_of (K : PySem.W.Frag) : Addr := He.ga K "fault_of"
theorem Txt.d_fault_of (T : Txt K mg) : ∃ fd, FunD K "fault_of" "fault_of" (defArgs s_fault_of) (defBody s_fault_of) (defScope s_fault_of) [] [] (a_fault_of K) fd := T.c.d.def_ 79 (d := Pn.d_fault_of) rfl
abbrev a__law_tape (K : PySem.W.Frag) : Addr := He.ga K "_law_tape"
theorem Txt.d__law_tape (T : Txt K mg) : ∃ fd, FunD K "_law_tape" "_law_tape" (defArgs s__law_tape) (defBody s__law_tape) (defScope s__law_tape) [] [] (a__law_tape K) fd := T.c.d.def_ 80 (d := Pn.d__law_tape) rfl
abbrev a__law_draw (K : PySem.W.Frag) : Addr := He.ga K "_law_draw"
theorem Txt.d__law_draw (T : Txt K mg) : ∃ fd, FunD K "_law_draw" "_law_draw" (defArgs s__law_draw) (defBody s__law_draw) (defScope s__law_draw) [] [] (a__law_draw K) fd := T.c.d.def_ 81 (d := Pn.d__law_draw) rfl
abbrev a__law_take (K : PySem.W.Frag) : Addr := He.ga K "_law_take"
theorem Txt.d__law_take (T : Txt K mg) : ∃ fd, FunD K "_law_take" "_law_take" (defArgs s__law_take) (defBody s__law_take) (defScope s__law_take) [] [] (a__law_take K) fd := T.c.d.def_ 82 (d := Pn.d__law_take) rfl
abbrev a__law_common (K : PySem.W.Frag) : Addr := He.ga K "_law_common"
theorem Txt.d__law_common (T : Txt K mg) : ∃ fd, FunD K "_law_common" "_law_common" (defArgs s__law_common) (defBody s__law_common) (defScope s__law_common) [] [] (a__law_common K) fd := T.c.d.def_ 83 (d := Pn.d__law_common) rfl
abbrev a__law_pair (K : PySem.W.Frag) : Addr := He.ga K "_law_pair"
theorem Txt.d__law_pair (T : Txt K mg) : ∃ fd, FunD K "_law_pair" "_law_pair" (defArgs s__law_pair) (defBody s__law_pair) (defScope s__law_pair) [] [] (a__law_pair K) fd := T.c.d.def_ 84 (d := Pn.d__law_pair) rfl
abbrev a__law_number (K : PySem.W.Frag) : Addr := He.ga K "_law_number"
theorem Txt.d__law_number (T : Txt K mg) : ∃ fd, FunD K "_law_number" "_law_number" (defArgs s__law_number) (defBody s__law_number) (defScope s__law_number) [] [] (a__law_number K) fd := T.c.d.def_ 85 (d := Pn.d__law_number) rfl
abbrev a__law_made (K : PySem.W.Frag) : Addr := He.ga K "_law_made"
theorem Txt.d__law_made (T : Txt K mg) : ∃ fd, FunD K "_law_made" "_law_made" (defArgs s__law_made) (defBody s__law_made) (defScope s__law_made) [] [] (a__law_made K) fd := T.c.d.def_ 86 (d := Pn.d__law_made) rfl
abbrev a__law_menu (K : PySem.W.Frag) : Addr := He.ga K "_law_menu"
theorem Txt.d__law_menu (T : Txt K mg) : ∃ fd, FunD K "_law_menu" "_law_menu" (defArgs s__law_menu) (defBody s__law_menu) (defScope s__law_menu) [] [] (a__law_menu K) fd := T.c.d.def_ 87 (d := Pn.d__law_menu) rfl
abbrev a__law_weight (K : PySem.W.Frag) : Addr := He.ga K "_law_weight"
theorem Txt.d__law_weight (T : Txt K mg) : ∃ fd, FunD K "_law_weight" "_law_weight" (defArgs s__law_weight) (defBody s__law_weight) (defScope s__law_weight) [] [] (a__law_weight K) fd := T.c.d.def_ 88 (d := Pn.d__law_weight) rfl
abbrev a__law_terms (K : PySem.W.Frag) : Addr := He.ga K "_law_terms"
theorem Txt.d__law_terms (T : Txt K mg) : ∃ fd, FunD K "_law_terms" "_law_terms" (defArgs s__law_terms) (defBody s__law_terms) (defScope s__law_terms) [] [] (a__law_terms K) fd := T.c.d.def_ 89 (d := Pn.d__law_terms) rfl
abbrev a__law_spoilt (K : PySem.W.Frag) : Addr := He.ga K "_law_spoilt"
theorem Txt.d__law_spoilt (T : Txt K mg) : ∃ fd, FunD K "_law_spoilt" "_law_spoilt" (defArgs s__law_spoilt) (defBody s__law_spoilt) (defScope s__law_spoilt) [] [] (a__law_spoilt K) fd := T.c.d.def_ 90 (d := Pn.d__law_spoilt) rfl
abbrev a__law_deed (K : PySem.W.Frag) : Addr := He.ga K "_law_deed"
theorem Txt.d__law_deed (T : Txt K mg) : ∃ fd, FunD K "_law_deed" "_law_deed" (defArgs s__law_deed) (defBody s__law_deed) (defScope s__law_deed) [] [] (a__law_deed K) fd := T.c.d.def_ 91 (d := Pn.d__law_deed) rfl
abbrev a__law_deed_of (K : PySem.W.Frag) : Addr := He.ga K "_law_deed_of"
theorem Txt.d__law_deed_of (T : Txt K mg) : ∃ fd, FunD K "_law_deed_of" "_law_deed_of" (defArgs s__law_deed_of) (defBody s__law_deed_of) (defScope s__law_deed_of) [] [] (a__law_deed_of K) fd := T.c.d.def_ 92 (d := Pn.d__law_deed_of) rfl
abbrev a__law_turn (K : PySem.W.Frag) : Addr := He.ga K "_law_turn"
theorem Txt.d__law_turn (T : Txt K mg) : ∃ fd, FunD K "_law_turn" "_law_turn" (defArgs s__law_turn) (defBody s__law_turn) (defScope s__law_turn) [] [] (a__law_turn K) fd := T.c.d.def_ 93 (d := Pn.d__law_turn) rfl
abbrev a_law (K : PySem.W.Frag) : Addr := He.ga K "law"
theorem Txt.d_law (T : Txt K mg) : ∃ fd, FunD K "law" "law" (defArgs s_law) (defBody s_law) (defScope s_law) [] [] (a_law K) fd := T.c.d.def_ 94 (d := Pn.d_law) rfl
theorem Txt.d_rank_echelon (T : Txt K mg) : ∃ fd, FunD K "rank" "rank" (defArgs s_rank) (defBody s_rank) (defScope s_rank) [] [] (He.ga K "rank_echelon") fd := T.c.d.def_ 95 (d := Pn.d_rank_echelon) rfl
end
end Pn
/-! plain: fractions as the program makes them; how large they are -/
namespace Pn
/-- the divisor that Ratio.__init__ takes -/
def comI (t b : Int) : Int := if b < 0 then -((Nat.gcd t.natAbs b.natAbs : Nat) : Int) else ((Nat.gcd t.natAbs b.natAbs : Nat) : Int)
theorem comI_ne {t b : Int} (h : b ≠ 0) : comI t b ≠ 0 := by
  have : 0 < Nat.gcd t.natAbs b.natAbs := Nat.gcd_pos_of_pos_right _ (Int.natAbs_pos.mpr h)
  unfold comI
  split <;> omega
theorem fdiv_exact {a g : Int} (h : g ∣ a) : a.fdiv g = a / g := by
  obtain ⟨c, rfl⟩ := h
  by_cases hg : g = 0
  · subst hg; simp
  · rw [Int.mul_fdiv_cancel_left _ hg, Int.mul_ediv_cancel_left _ hg]
theorem comI_top {t b : Int} (h : b ≠ 0) : t.fdiv (comI t b) = (Rat.divInt t b).num := by
  have d1 : ((Nat.gcd t.natAbs b.natAbs : Nat) : Int) ∣ t := Int.natAbs_dvd_natAbs.mp (show Nat.gcd t.natAbs b.natAbs ∣ t.natAbs from Nat.gcd_dvd_left _ _)
  have g1 : b.gcd t = Nat.gcd t.natAbs b.natAbs := by
    unfold Int.gcd
    exact Nat.gcd_comm _ _
  rw [Rat.num_divInt, g1]
  unfold comI
  split
  · rename_i hb
    rw [fdiv_exact (by rw [Int.neg_dvd]; exact d1), Int.sign_eq_neg_one_of_neg hb]
    rw [Int.ediv_neg, Int.neg_one_mul, Int.neg_ediv_of_dvd d1]
  · rename_i hb
    rw [fdiv_exact d1, Int.sign_eq_one_of_pos (by omega), Int.one_mul]
theorem comI_bot {t b : Int} (h : b ≠ 0) : b.fdiv (comI t b) = ((Rat.divInt t b).den : Int) := by
  have d1 : ((Nat.gcd t.natAbs b.natAbs : Nat) : Int) ∣ b := Int.natAbs_dvd_natAbs.mp (show Nat.gcd t.natAbs b.natAbs ∣ b.natAbs from Nat.gcd_dvd_right _ _)
  have g1 : b.gcd t = Nat.gcd t.natAbs b.natAbs := by
    unfold Int.gcd
    exact Nat.gcd_comm _ _
  rw [Rat.den_divInt, g1, if_neg h, Int.natCast_ediv]
  unfold comI
  split
  · rename_i hb
    rw [fdiv_exact (by rw [Int.neg_dvd]; exact d1), Int.ediv_neg, ← Int.neg_ediv_of_dvd d1]
    congr 1
    omega
  · rename_i hb
    rw [fdiv_exact d1]
    congr 1
    omega
theorem den_ne (q : Rat) : (q.den : Int) ≠ 0 := by
  have := q.den_pos
  omega
theorem mk_add (p q : Rat) : Rat.divInt (p.num * q.den + q.num * p.den) (p.den * q.den) = p + q := by
  rw [← Rat.divInt_add_divInt _ _ (den_ne p) (den_ne q), Rat.num_divInt_den, Rat.num_divInt_den]
theorem mk_sub (p q : Rat) : Rat.divInt (p.num * q.den - q.num * p.den) (p.den * q.den) = p - q := by
  rw [← Rat.divInt_sub_divInt _ _ (den_ne p) (den_ne q), Rat.num_divInt_den, Rat.num_divInt_den]
theorem mk_mul (p q : Rat) : Rat.divInt (p.num * q.num) (p.den * q.den) = p * q := by
  rw [← Rat.divInt_mul_divInt, Rat.num_divInt_den, Rat.num_divInt_den]
theorem mk_neg (p : Rat) : Rat.divInt (-p.num) p.den = -p := by
  rw [← Rat.neg_divInt, Rat.num_divInt_den]
theorem mk_over (p q : Rat) : Rat.divInt (p.num * q.den) (p.den * q.num) = p / q := by
  rw [Rat.div_def, Rat.inv_def]
  conv => rhs; rw [← Rat.num_divInt_den p]
  rw [Rat.divInt_mul_divInt]
theorem over_ne {p q : Rat} (h : q ≠ 0) : (p.den : Int) * q.num ≠ 0 := by
  have h1 := den_ne p
  have h2 : q.num ≠ 0 := fun e => h (Rat.num_eq_zero.mp e)
  exact Int.mul_ne_zero h1 h2
theorem mk_int (n : Int) : Rat.divInt n 1 = (n : Rat) := by
  rw [Rat.divInt_eq_div]
  show (n : Rat) / ((1 : Int) : Rat) = n
  rw [Rat.intCast_one]
  grind

/-! ### sizes -/
/-- the program's numbers keep below 2 ^ LIM -/
def LIM : Nat := 33554432
structure Fit (q : Rat) : Prop where
  n : q.num.natAbs < 2 ^ LIM
  d : q.den < 2 ^ LIM
/-- q times D is an int, at most N in size -/
def Cn (D N : Nat) (q : Rat) : Prop := ∃ z : Int, q * ((D : Int) : Rat) = (z : Rat) ∧ z.natAbs ≤ N
theorem Cn.mono {D N M : Nat} {q : Rat} (h : Cn D N q) (l : N ≤ M) : Cn D M q := by
  obtain ⟨z, e, b⟩ := h
  exact ⟨z, e, Nat.le_trans b l⟩
theorem Cn.parts {D N : Nat} {q : Rat} (h : Cn D N q) (hD : 0 < D) : q.num.natAbs ≤ N ∧ q.den ≤ D := by
  obtain ⟨z, e, b⟩ := h
  have hd : (D : Int) ≠ 0 := by omega
  have hd' : ((D : Int) : Rat) ≠ 0 := by simpa using hd
  have e2 : Rat.divInt z D = q := by
    rw [Rat.divInt_eq_div, ← e]
    grind
  obtain ⟨m, hm, h1, h2⟩ := Rat.divInt_num_den (n := z) (d := D) (n' := q.num) (d' := q.den) (z' := q.den_nz) (c := q.reduced) hd e2
  have m1 : 1 ≤ m.natAbs := by omega
  constructor
  · rw [h1, Int.natAbs_mul] at b
    exact Nat.le_trans (Nat.le_mul_of_pos_right _ m1) b
  · have h3 : D = q.den * m.natAbs := by
      have := congrArg Int.natAbs h2
      rwa [Int.natAbs_mul, Int.natAbs_natCast, Int.natAbs_natCast] at this
    rw [h3]
    exact Nat.le_mul_of_pos_right _ m1
theorem Cn.fit {D N : Nat} {q : Rat} (h : Cn D N q) (hD : 0 < D) (h1 : D < 2 ^ LIM) (h2 : N < 2 ^ LIM) : Fit q :=
  ⟨Nat.lt_of_le_of_lt (h.parts hD).1 h2, Nat.lt_of_le_of_lt (h.parts hD).2 h1⟩
theorem Cn.mul {D N E M : Nat} {p q : Rat} (h : Cn D N p) (k : Cn E M q) : Cn (D * E) (N * M) (p * q) := by
  obtain ⟨z, e, b⟩ := h
  obtain ⟨y, f, c⟩ := k
  refine ⟨z * y, ?_, ?_⟩
  · rw [Int.natCast_mul, Rat.intCast_mul, Rat.intCast_mul, ← e, ← f]
    grind
  · rw [Int.natAbs_mul]
    exact Nat.mul_le_mul b c
theorem Cn.add {D N M : Nat} {p q : Rat} (h : Cn D N p) (k : Cn D M q) : Cn D (N + M) (p + q) := by
  obtain ⟨z, e, b⟩ := h
  obtain ⟨y, f, c⟩ := k
  refine ⟨z + y, ?_, by omega⟩
  rw [Rat.intCast_add, ← e, ← f]
  grind
theorem Cn.neg {D N : Nat} {p : Rat} (h : Cn D N p) : Cn D N (-p) := by
  obtain ⟨z, e, b⟩ := h
  refine ⟨-z, ?_, by omega⟩
  rw [Rat.intCast_neg, ← e]
  grind
theorem Cn.sub {D N M : Nat} {p q : Rat} (h : Cn D N p) (k : Cn D M q) : Cn D (N + M) (p - q) := by
  rw [Rat.sub_eq_add_neg]
  exact h.add k.neg
/-- by a larger denominator -/
theorem Cn.up {D N E : Nat} {p : Rat} (h : Cn D N p) : Cn (D * E) (N * E) p := by
  obtain ⟨z, e, b⟩ := h
  refine ⟨z * E, ?_, ?_⟩
  · rw [Int.natCast_mul, Rat.intCast_mul, Rat.intCast_mul, ← e]
    grind
  · rw [Int.natAbs_mul, Int.natAbs_natCast]
    exact Nat.mul_le_mul_right _ b
theorem Cn.up' {D N E : Nat} {p : Rat} (h : Cn D N p) : Cn (E * D) (E * N) p := by
  rw [Nat.mul_comm E, Nat.mul_comm E]
  exact h.up
/-- of unlike denominators -/
theorem Cn.add2 {D N E M : Nat} {p q : Rat} (h : Cn D N p) (k : Cn E M q) : Cn (D * E) (N * E + D * M) (p + q) := h.up.add k.up'
theorem Cn.sub2 {D N E M : Nat} {p q : Rat} (h : Cn D N p) (k : Cn E M q) : Cn (D * E) (N * E + D * M) (p - q) := h.up.sub k.up'
theorem Cn.zero {D N : Nat} : Cn D N 0 := ⟨0, by simp, by simp⟩
theorem Cn.int {D N : Nat} {n : Int} (h : n.natAbs * D ≤ N) : Cn D N (n : Rat) := by
  refine ⟨n * D, ?_, by rw [Int.natAbs_mul, Int.natAbs_natCast]; exact h⟩
  rw [Rat.intCast_mul]
/-- the inverse: the denominator is the numerator, of its size -/
theorem Cn.inv {D N : Nat} {q : Rat} (h : Cn D N q) (hq : q ≠ 0) (hD : 0 < D) : ∃ E, 0 < E ∧ E ≤ N ∧ Cn E D (1 / q) := by
  obtain ⟨z, e, b⟩ := h
  have hz : z ≠ 0 := by
    intro h0
    subst h0
    have : ((D : Int) : Rat) ≠ 0 := by
      have : (D : Int) ≠ 0 := by omega
      simpa using this
    have e' : q * ((D : Int) : Rat) = 0 := by rw [e]; simp
    grind
  refine ⟨z.natAbs, by omega, b, ?_⟩
  have hz' : (z : Rat) ≠ 0 := by simpa using hz
  rcases Int.natAbs_eq z with h1 | h1
  · refine ⟨D, ?_, by omega⟩
    rw [← h1]
    grind
  · refine ⟨-D, ?_, by omega⟩
    have h2 : ((z.natAbs : Nat) : Int) = -z := by omega
    rw [h2, Rat.intCast_neg, Rat.intCast_neg]
    grind
end Pn
/-! plain: what the program's functions reckon, over lists of fractions; what has to fit on the way -/
namespace Pn
abbrev Vec := List Rat
abbrev Mat := List (List Rat)
def dotM (a b : Vec) : Rat := (List.zipWith (· * ·) a b).foldl (· + ·) 0
def scaleM (f : Rat) (a : Vec) : Vec := a.map (f * ·)
def plusM (a b : Vec) : Vec := List.zipWith (· + ·) a b
def minusM (a b : Vec) : Vec := List.zipWith (· - ·) a b
def transM (m : Mat) (w : Nat) : Mat := (List.range w).map fun c => m.map fun r => r.getD c 0
def applyM (m : Mat) (v : Vec) : Vec := m.map fun r => dotM r v
def outerM (a b : Vec) : Mat := a.map fun x => scaleM x b
def sumM (m n : Mat) : Mat := List.zipWith plusM m n
def scaledM (f : Rat) (m : Mat) : Mat := m.map (scaleM f)
def widenM (m : Mat) : Mat := m.map (· ++ [0]) ++ [List.replicate (m.length + 1) 0]

theorem dotM_nil : dotM [] [] = 0 := rfl
theorem dotM_take {a b : Vec} {i : Nat} {p q : Rat} (ha : a[i]? = some p) (hb : b[i]? = some q) : dotM (a.take (i + 1)) (b.take (i + 1)) = dotM (a.take i) (b.take i) + p * q := by
  unfold dotM
  rw [← List.take_zipWith, ← List.take_zipWith]
  have hz : (List.zipWith (· * ·) a b)[i]? = some (p * q) := by simp [List.getElem?_zipWith, ha, hb]
  rw [List.take_add_one, hz]
  simp
theorem dotM_all {a b : Vec} {n : Nat} (h : n = min a.length b.length) : dotM (a.take n) (b.take n) = dotM a b := by
  unfold dotM
  rw [← List.take_zipWith, List.take_of_length_le (by rw [List.length_zipWith]; omega)]

/-! ### what has to fit -/
def FAll (a : Vec) : Prop := ∀ x ∈ a, Fit x
def FDot (a b : Vec) : Prop := ∀ (i : Nat) p q, a[i]? = some p → b[i]? = some q → Fit p ∧ Fit q ∧ Fit (p * q) ∧ Fit (dotM (a.take i) (b.take i))
def FApply (m : Mat) (v : Vec) : Prop := ∀ r ∈ m, FDot r v
def FAllM (m : Mat) : Prop := ∀ r ∈ m, FAll r
end Pn
namespace Pn
def isZeroM (a : Vec) : Bool := a.all fun x => x.num == 0
end Pn
namespace Pn
def addTermM (m : Mat) (r : Vec) (w : Rat) : Mat := sumM m (scaledM w (outerM r r))
/-- sizes of lists alone -/
structure Sz (m : Mat) : Prop where
  n : m.length ≤ 1000
  r : ∀ r ∈ m, r.length ≤ 1000
theorem len_scale {f : Rat} {a : Vec} : (scaleM f a).length = a.length := by simp [scaleM]
theorem len_apply {m : Mat} {v : Vec} : (applyM m v).length = m.length := by simp [applyM]
theorem len_plus {a b : Vec} : (plusM a b).length = min a.length b.length := by simp [plusM]
theorem len_minus {a b : Vec} : (minusM a b).length = min a.length b.length := by simp [minusM]
theorem sz_outer {a b : Vec} (ha : a.length ≤ 1000) (hb : b.length ≤ 1000) : Sz (outerM a b) := by
  refine ⟨by simp [outerM]; exact ha, fun r hr => ?_⟩
  unfold outerM at hr
  obtain ⟨x, _, rfl⟩ := List.mem_map.mp hr
  rw [len_scale]
  exact hb
theorem sz_scaled {f : Rat} {m : Mat} (h : Sz m) : Sz (scaledM f m) := by
  refine ⟨by simp [scaledM]; exact h.n, fun r hr => ?_⟩
  unfold scaledM at hr
  obtain ⟨x, hx, rfl⟩ := List.mem_map.mp hr
  rw [len_scale]
  exact h.r x hx
theorem sz_sum {m n : Mat} (h : Sz m) : Sz (sumM m n) := by
  refine ⟨by simp [sumM]; have := h.n; omega, fun r hr => ?_⟩
  unfold sumM at hr
  obtain ⟨i, hi, rfl⟩ := List.getElem_of_mem hr
  rw [List.length_zipWith] at hi
  rw [List.getElem_zipWith, len_plus]
  have := h.r (m[i]'(by omega)) (List.getElem_mem _)
  omega
structure FAddTerm (m : Mat) (r : Vec) (w : Rat) : Prop where
  hr : FAll r
  hw : Fit w
  hm : FAllM m
  ho : FAllM (outerM r r)
  hs : FAllM (scaledM w (outerM r r))
/-- with_added, with_removed -/
def withAddedM (M P : Mat) (a : Vec) (w : Rat) : Mat :=
  if isZeroM (minusM a (applyM M (applyM P a))) then sumM P (scaledM (-(w / (1 + w * dotM a (applyM P a)))) (outerM (applyM P a) (applyM P a)))
  else sumM (sumM (sumM P (scaledM (-1) (outerM (scaleM (1 / dotM (minusM a (applyM M (applyM P a))) (minusM a (applyM M (applyM P a)))) (minusM a (applyM M (applyM P a)))) (applyM P a))))
    (scaledM (-1) (outerM (applyM P a) (scaleM (1 / dotM (minusM a (applyM M (applyM P a))) (minusM a (applyM M (applyM P a)))) (minusM a (applyM M (applyM P a)))))))
    (scaledM (1 / w + dotM a (applyM P a)) (outerM (scaleM (1 / dotM (minusM a (applyM M (applyM P a))) (minusM a (applyM M (applyM P a)))) (minusM a (applyM M (applyM P a)))) (scaleM (1 / dotM (minusM a (applyM M (applyM P a))) (minusM a (applyM M (applyM P a)))) (minusM a (applyM M (applyM P a))))))
/-- what has to fit of sum_of(p, scaled(f, outer(a, b))) -/
structure FStep (p : Mat) (f : Rat) (a b : Vec) : Prop where
  hp : FAllM p
  hf : Fit f
  ha : FAll a
  hb : FAll b
  ho : FAllM (outerM a b)
  hs : FAllM (scaledM f (outerM a b))
structure FWithAdded (M P : Mat) (a : Vec) (w : Rat) : Prop where
  ha : FAll a
  hg : FApply P a
  hmg : FApply M (applyM P a)
  hmgf : FAll (applyM M (applyM P a))
  hs : FDot a (applyM P a)
  hsf : Fit (dotM a (applyM P a))
  hw : Fit w
  hone : Fit 1
  yes : isZeroM (minusM a (applyM M (applyM P a))) = true → Fit (w * dotM a (applyM P a)) ∧ Fit (1 + w * dotM a (applyM P a)) ∧ 1 + w * dotM a (applyM P a) ≠ 0 ∧ FStep P (-(w / (1 + w * dotM a (applyM P a)))) (applyM P a) (applyM P a)
  no : isZeroM (minusM a (applyM M (applyM P a))) = false → ∀ u c, u = minusM a (applyM M (applyM P a)) → c = scaleM (1 / dotM u u) u →
    FDot u u ∧ FAll u ∧ Fit (dotM u u) ∧ dotM u u ≠ 0 ∧ Fit (1 / dotM u u) ∧ w ≠ 0 ∧ Fit (1 / w) ∧ FStep P (-1) c (applyM P a) ∧ FStep (sumM P (scaledM (-1) (outerM c (applyM P a)))) (-1) (applyM P a) c ∧
      FStep (sumM (sumM P (scaledM (-1) (outerM c (applyM P a)))) (scaledM (-1) (outerM (applyM P a) c))) (1 / w + dotM a (applyM P a)) c c
def withRemovedM (P : Mat) (a : Vec) (w : Rat) : Mat :=
  if (1 - w * dotM a (applyM P a)).num ≠ 0 then sumM P (scaledM (w / (1 - w * dotM a (applyM P a))) (outerM (applyM P a) (applyM P a)))
  else sumM (sumM (sumM P (scaledM (-1 / dotM (applyM P a) (applyM P a)) (outerM (applyM P (applyM P a)) (applyM P a)))) (scaledM (-1 / dotM (applyM P a) (applyM P a)) (outerM (applyM P a) (applyM P (applyM P a)))))
    (scaledM (dotM (applyM P a) (applyM P (applyM P a)) / (dotM (applyM P a) (applyM P a) * dotM (applyM P a) (applyM P a))) (outerM (applyM P a) (applyM P a)))
structure FWithRemoved (P : Mat) (a : Vec) (w : Rat) : Prop where
  hg : FApply P a
  hs : FDot a (applyM P a)
  hsf : Fit (dotM a (applyM P a))
  hw : Fit w
  hone : Fit 1
  hws : Fit (w * dotM a (applyM P a))
  hl : Fit (1 - w * dotM a (applyM P a))
  yes : (1 - w * dotM a (applyM P a)).num ≠ 0 → FStep P (w / (1 - w * dotM a (applyM P a))) (applyM P a) (applyM P a)
  no : (1 - w * dotM a (applyM P a)).num = 0 → ∀ g h q, g = applyM P a → h = applyM P g → q = dotM g g → FApply P g ∧ FDot g g ∧ Fit q ∧ q ≠ 0 ∧ Fit (-1) ∧ FStep P (-1 / q) h g ∧ FStep P (-1 / q) g h ∧ FStep P (dotM g h / (q * q)) g g ∧ FDot g h ∧ Fit (dotM g h) ∧ Fit (q * q) ∧
    FAllM (sumM P (scaledM (-1 / q) (outerM h g))) ∧ FAllM (sumM (sumM P (scaledM (-1 / q) (outerM h g))) (scaledM (-1 / q) (outerM g h)))
end Pn
namespace Pn
def pivM (m : Mat) (start col : Nat) : Option Nat := (List.range' start (m.length - start)).find? fun i => ((m.getD i []).getD col 0).num != 0
theorem piv_some {m : Mat} {start col i : Nat} (hi : i < m.length - start) (hz : ∀ j, j < i → ((m.getD (start + j) []).getD col 0).num = 0) (hn : ((m.getD (start + i) []).getD col 0).num ≠ 0) : pivM m start col = some (start + i) := by
  unfold pivM
  rw [List.find?_eq_some_iff_getElem]
  refine ⟨by simpa using hn, i, by simpa using hi, by simp, fun j hj => ?_⟩
  have := hz j hj
  simpa using this
theorem piv_none {m : Mat} {start col : Nat} (hz : ∀ j, j < m.length - start → ((m.getD (start + j) []).getD col 0).num = 0) : pivM m start col = none := by
  unfold pivM
  rw [List.find?_eq_none]
  intro x hx
  obtain ⟨h1, h2⟩ := List.mem_range'_1.mp hx
  have := hz (x - start) (by omega)
  rw [show start + (x - start) = x by omega] at this
  simpa using this
theorem piv_spec {m : Mat} {start col f : Nat} (h : pivM m start col = some f) : start ≤ f ∧ f < m.length ∧ ((m.getD f []).getD col 0).num ≠ 0 := by
  unfold pivM at h
  have h1 := List.mem_of_find?_eq_some h
  have h2 := List.find?_some h
  obtain ⟨a, b⟩ := List.mem_range'_1.mp h1
  exact ⟨a, by omega, by simpa using h2⟩
def unitM (lead : Vec) (col : Nat) : Vec := scaleM (1 / lead.getD col 0) lead
def rowM (unit : Vec) (place col i : Nat) (row : Vec) : Vec := if i = place then unit else if (row.getD col 0).num = 0 then row else minusM row (scaleM (row.getD col 0) unit)
def clearM (m : Mat) (place col : Nat) : Mat := m.mapIdx fun i row => rowM (unitM (m.getD place []) col) place col i row
structure FClear (m : Mat) (place col : Nat) : Prop where
  one : Fit 1
  nz : (m.getD place []).getD col 0 ≠ 0
  lc : Fit ((m.getD place []).getD col 0)
  inv : Fit (1 / (m.getD place []).getD col 0)
  lead : FAll (m.getD place [])
  unit : FAll (unitM (m.getD place []) col)
  rows : ∀ r ∈ m, FAll r ∧ Fit (r.getD col 0) ∧ FAll (scaleM (r.getD col 0) (unitM (m.getD place []) col))
def swapM (m : Mat) (i j : Nat) : Mat := (m.set i (m.getD j [])).set j (m.getD i [])
def redStep (s : Mat × List Nat) (col : Nat) : Mat × List Nat := match pivM s.1 s.2.length col with
  | none => s
  | some f => (clearM (swapM s.1 s.2.length f) s.2.length col, s.2 ++ [col])
def redTo (m : Mat) (j : Nat) : Mat × List Nat := (List.range j).foldl redStep (m, [])
theorem redTo_succ (m : Mat) (j : Nat) : redTo m (j + 1) = redStep (redTo m j) j := by
  unfold redTo
  rw [List.range_succ, List.foldl_append]
  rfl
def redM (m : Mat) (w : Nat) : Mat × List Nat := ((redTo m w).1.take (redTo m w).2.length, (redTo m w).2)
def FRed (m : Mat) (w : Nat) : Prop := ∀ j f, j < w → pivM (redTo m j).1 (redTo m j).2.length j = some f → FClear (swapM (redTo m j).1 (redTo m j).2.length f) (redTo m j).2.length j
/-- sizes along the way -/
structure Rect (m : Mat) (w : Nat) : Prop where
  n : m.length ≤ 1000
  w : ∀ r ∈ m, r.length = w
theorem rect_getD {m : Mat} {w i : Nat} (h : Rect m w) (hi : i < m.length) : (m.getD i []).length = w := by
  rw [List.getD_eq_getElem?_getD, List.getElem?_eq_getElem hi]
  exact h.w _ (List.getElem_mem _)
theorem rect_set {m : Mat} {w i : Nat} {r : Vec} (h : Rect m w) (hr : r.length = w) : Rect (m.set i r) w :=
  ⟨by rw [List.length_set]; exact h.n, fun q hq => by
    rcases List.mem_or_eq_of_mem_set hq with z | z
    · exact h.w q z
    · rw [z]; exact hr⟩
theorem rect_swap {m : Mat} {w i j : Nat} (h : Rect m w) (hi : i < m.length) (hj : j < m.length) : Rect (swapM m i j) w := rect_set (rect_set h (rect_getD h hj)) (rect_getD h hi)
theorem len_swap {m : Mat} {i j : Nat} : (swapM m i j).length = m.length := by simp [swapM]
theorem len_clear {m : Mat} {p c : Nat} : (clearM m p c).length = m.length := by simp [clearM]
theorem len_unit {l : Vec} {c : Nat} : (unitM l c).length = l.length := len_scale
theorem len_row {u r : Vec} {p c i w : Nat} (hu : u.length = w) (hr : r.length = w) : (rowM u p c i r).length = w := by
  unfold rowM
  split
  · exact hu
  · split
    · exact hr
    · rw [len_minus, len_scale, hu, hr]
      omega
theorem rect_clear {m : Mat} {w p c : Nat} (h : Rect m w) (hp : p < m.length) : Rect (clearM m p c) w := by
  refine ⟨by rw [len_clear]; exact h.n, fun r hr => ?_⟩
  unfold clearM at hr
  obtain ⟨i, hi, rfl⟩ := List.getElem_of_mem hr
  rw [List.length_mapIdx] at hi
  rw [List.getElem_mapIdx]
  exact len_row (by rw [len_unit]; exact rect_getD h hp) (h.w _ (List.getElem_mem _))
theorem redTo_ok {m : Mat} {w : Nat} (h : Rect m w) : ∀ j, Rect (redTo m j).1 w ∧ (redTo m j).1.length = m.length ∧ (redTo m j).2.length ≤ m.length ∧ (redTo m j).2.length ≤ j ∧ ∀ c ∈ (redTo m j).2, c < j
  | 0 => ⟨h, rfl, Nat.zero_le _, Nat.le_refl _, fun c hc => by simp [redTo] at hc⟩
  | j + 1 => by
    obtain ⟨h1, h2, h3, h4, h5⟩ := redTo_ok h j
    rw [redTo_succ]
    unfold redStep
    cases hp : pivM (redTo m j).1 (redTo m j).2.length j with
    | none => exact ⟨h1, h2, h3, Nat.le_succ_of_le h4, fun c hc => Nat.lt_succ_of_lt (h5 c hc)⟩
    | some f =>
      obtain ⟨a, b, _⟩ := piv_spec hp
      refine ⟨rect_clear (rect_swap h1 (by omega) b) (by rw [len_swap]; omega), by rw [len_clear, len_swap]; exact h2, by rw [List.length_append]; simp; omega, by rw [List.length_append]; simp; omega, fun c hc => ?_⟩
      rcases List.mem_append.mp hc with z | z
      · exact Nat.lt_succ_of_lt (h5 c z)
      · have : c = j := by simpa using z
        omega
def rankM (m : Mat) (w : Nat) : Nat := (redM m w).2.length
def joinM (m : Mat) (v : Vec) : Mat := List.zipWith (fun r x => r ++ [x]) m v
def fillM (rows : Mat) (pivots : List Nat) (w : Nat) : Vec := (List.range pivots.length).foldl (fun acc i => acc.set (pivots.getD i 0) ((rows.getD i []).getD w 0)) (List.replicate w 0)
def solveM (m : Mat) (w : Nat) (v : Vec) : Option Vec := if w ∈ (redM (joinM m v) (w + 1)).2 then none else some (fillM (redM (joinM m v) (w + 1)).1 (redM (joinM m v) (w + 1)).2 w)
def spanM (rows : Mat) (w : Nat) (v : Vec) : Option Vec := solveM (transM rows w) rows.length v
end Pn
set_option maxHeartbeats 4000000
/-! rules of my own over the hand layer: // of numbers of any size, operators by own methods, != by own == -/
namespace Pn
open PySem PySem.Spec PyProof.Rows L2

/-! ### // by a divisor of any size -/
theorem seer_keeps {b h : Heap} (x : b.NoSeer) (k : ∀ a o, b.get? a = some o → h.get? a = some o) : h.NoSeer := x.keeps k
section
variable {X : Cx}
/-- what a body of a def has: its own frame on top, no generator -/
structure Plain (X : Cx) : Prop where
  stk : X.stack = X.env :: X.outer
  gen : X.env.scope.isGenerator = false
  co : X.env.scope.isCoroutine = false
  tree : X.prog.given.tree = none
theorem op_fdivP (p : Plain X) (hN : X.base.NoSeer) (hr : Room 40 X.A) : OpR X (binaryOp .FloorDiv) (rI (fun _ j => j ≠ 0) fun i j => .int (i.fdiv j)) := by
  intro pins s σ H x y v u Q I rx ry h
  obtain ⟨i, j, rfl, rfl, hc, q⟩ := h
  obtain ⟨t, rfl⟩ := rx
  obtain ⟨t', rfl⟩ := ry
  refine floordiv_int hc ⟨.int (i.fdiv j), H, I.tok _, ⟨_, rfl⟩, q⟩ (.inr (PySem.PylongRoom.of I.nolimit ?_ ?_))
  · have := hr.dp
    show X.A.depth + Builtin.pylongFrames < recursionLimit
    have e : Builtin.pylongFrames = 100 := rfl
    omega
  · refine PySem.SeerAt.of (env := X.env) (l := X.outer) (hN.keeps I.bk) p.tree ?_ p.gen p.co I.ok.blt I.ok.glob
    rw [I.ok.frames, p.stk]
end

/-! ### products of great ints -/
def CMulB (i j : Int) : Prop := i.natAbs.log2 + j.natAbs.log2 < 134217720
theorem CMulB.ok {i j : Int} (h : CMulB i j) : IntMulOk i j := by
  have b : ∀ x : Int, Builtin.Int.intBits x ≤ x.natAbs.log2 + 1 := fun x => by
    unfold Builtin.Int.intBits
    split <;> omega
  have h1 := b i
  have h2 := b j
  have h3 : i.natAbs.log2 + j.natAbs.log2 < 134217720 := h
  have e : bitsLine = 134217728 := by decide
  unfold IntMulOk
  intro z
  rw [Bool.and_eq_true] at z
  have z2 := z.2
  unfold Builtin.Int.intTooBig at z2
  have z3 := of_decide_eq_true z2
  rw [e] at z3
  omega
theorem op_mulB {X : Cx} : OpR X (binaryOp .Mult) (rI CMulB fun i j => .int (i * j)) := opI fun _ _ _ _ _ _ _ hc q => mul_int q hc.ok

/-! ### operators by own methods -/
section
variable {X : Cx} {k : Nat} {C f : Addr} {fd : FuncData} {ps : List Str} {sp : Sp}
/-- a op b by the own method of a's class: two instances of the class at C -/
def rOwn (C : Addr) (sp : Sp) : R2 := fun x y H Q => ∃ a b dx dy fs gs, x = .ref a ∧ y = .ref b ∧ H a = some (.ins C dx fs) ∧ H b = some (.ins C dy gs) ∧ sp [x, y] H (fun v H' => (∃ c, v = .ref c) ∧ Q v H') E0
theorem op_own {op : Operator} (F : FnOk X.prog X.w X.K X.mg X.base CX0 k f fd ps sp) (hr : Room k X.A) (sf : PySem.W.selfFirst X.K C = true) (hm : Meth X.K C (PySem.dunder op.info.2) f) (hb : Binds X.K fd ps []) : OpR X (binaryOp op) (rOwn C sp) := by
  intro pins s σ H x y v u Q I rx ry h
  obtain ⟨a, b, dx, dy, fs, gs, rfl, rfl, ha, hb', q⟩ := h
  cases rx
  cases ry
  obtain ⟨mA, J, _⟩ := ins_get I.hok ha
  obtain ⟨mB, J', _⟩ := ins_get I.hok hb'
  obtain ⟨od, J, _⟩ := J.look
  obtain ⟨od', J', _⟩ := J'.look
  obtain ⟨m, hF⟩ := I.fr
  refine PySem.W.binop_K hF I.ok.mod.kin J J'.type sf hm.at_ hm.fn ?_
  refine thn (run_fn F hr hb .nil pass0 I (vs := [V.ref a, V.ref b]) (.cons rfl (.cons rfl .nil)) (by simpa using q)) fun v s' z => ?_
  obtain ⟨v', H', I', rv, ⟨c, rfl⟩, q'⟩ := z
  cases rv
  exact ⟨.ref c, H', I', rfl, q'⟩
/-- -a by the own method -/
def rOwn1 (C : Addr) (sp : Sp) : V → Hp → VK → Prop := fun x H Q => ∃ a dx fs, x = .ref a ∧ H a = some (.ins C dx fs) ∧ sp [x] H Q E0
theorem un_own (F : FnOk X.prog X.w X.K X.mg X.base CX0 k f fd ps sp) (hr : Room k X.A) (hm : Meth X.K C "__neg__" f) (hb : Binds X.K fd ps []) : UnR X (unaryOp .USub) (rOwn1 C sp) := by
  intro pins s σ H x v Q I rx h
  obtain ⟨a, dx, fs, rfl, ha, q⟩ := h
  cases rx
  obtain ⟨mA, J, _⟩ := ins_get I.hok ha
  obtain ⟨od, J, _⟩ := J.look
  unfold unaryOp
  refine wpAny_holding ?_
  show wpAny _ _ (do
    if (UnaryOp.USub == UnaryOp.Not) = true then return Value.bool (!(← truthy (.ref a)))
    match ← callSpecial? (.ref a) "__neg__" [] with
    | some r => pure r
    | none => raiseError "TypeError" s!"bad operand type for unary {("-" : String)}: '{← typeNameOf (.ref a)}'") _ _ _
  rw [if_neg (by decide)]
  refine wpAny_bind (PySem.W.special_fn I.kIn J hm.at_ (beq_iff_eq.mp hm.fn) ?_)
  refine thn (run_fn F hr hb .nil pass0 I (vs := [V.ref a]) (.cons rfl .nil) (by simpa using q)) fun v s' z => ?_
  exact wpAny_pure z
end
end Pn

namespace Pn
open PySem PySem.Spec PyProof.Rows L2
/-! ### a != b by the own == (no own !=), where the two are equal -/
section
variable {X : Cx} {k : Nat} {C f : Addr} {fd : FuncData} {ps : List Str} {sp : Sp} {pins : List (Addr × Obj)} {σ : L2.St} {H : Hp} {s : Shared}
theorem run_at (F : FnOk X.prog X.w X.K X.mg X.base CX0 k f fd ps sp) {A : Around} (hr : Room k A) (hfr : A.frames = X.A.frames) (hb : Binds X.K fd ps []) (I : Inv X pins σ H s) {us : List Value} {vs : List V} {Q : VK} (r : Vals vs us) (h : sp vs H Q E0) :
    wpAny (model X.prog X.w) A (call (.ref f) us) (EP X pins σ Q) X.xe s := by
  have e0 : Env0 X.prog X.w X.K X.mg X.base A X.stack s H := by
    have e := I.env0
    exact ⟨by rw [hfr]; exact e.frames, e.mod, e.bs, e.bsz, e.funs, e.frf, e.hok, e.bare⟩
  have hl := F.len _ _ _ _ h
  have hl2 : us.length = ps.length := by rw [← r.length]; exact hl
  refine wpAny_call (codeAny_mono (F.run A X.stack s H ⟨us, []⟩ us vs _ E0 hr e0 (by
    have := hb s us I.kIn (by simpa using hl2)
    simpa using this) r h) fun r s' hq => ?_)
  cases r with
  | error e => exact hq.elim
  | ok fl =>
    cases fl with
    | ret w => exact I.after hq
    | next => exact False.elim hq
    | brk => exact False.elim hq
    | cont => exact False.elim hq
theorem ns_of {K : PySem.W.Frag} {h : Heap} {N : Addr} {m : Str → Option Value} {n : Str} {v : Value} (X : K.In h) (G : h.Ns N m) (e : PySem.W.nsIn K N n = some (some v)) : m n = some v := by
  obtain ⟨o, es, ep, ho, hd, _, hf⟩ := G
  unfold PySem.W.nsIn at e
  split at e
  · rename_i c d es' n' sl q
    have := X _ _ q
    rw [ho] at this
    cases this
    cases hd
    split at e
    · rename_i en he
      cases e
      rw [← hf]
      unfold nsFind findBy
      rw [← Array.find?_toList, he]
      rfl
    · split at e <;> cases e
  · cases e
theorem own_ne {K : PySem.W.Frag} {h : Heap} {x C f : Addr} {o : Obj} (X : K.In h) (e : neB K C f = true) (hf : PySem.W.isFn K (.ref f) = true) (hx : h.get? x = some o) (hc : o.cls = .ref C) : h.OwnEqNoNe x C f "object" [.type "object"] := by
  unfold neB at e
  split at e
  · rename_i dd cd sl ho
    split at e
    · rename_i C' ob k0 k1 k2 k3 n k5 hm hs
      obtain ⟨e1, e⟩ := He.ba e
      obtain ⟨e2, e⟩ := He.ba e
      obtain ⟨e3, e⟩ := He.ba e
      obtain ⟨e4, e⟩ := He.ba e
      obtain ⟨e5, e6⟩ := He.ba e
      obtain rfl := of_decide_eq_true e1
      obtain rfl := of_decide_eq_true e2
      obtain ⟨nm, bs, mro, ns, qn, hd, sn, sub, ab, col, del⟩ := cd
      dsimp only at hm e3 e4 e5 e6
      have hdel : del = false := by simpa using e3
      subst hm hdel
      have hsl : sl = #[k0, k1, k2, k3, some (.builtin n), k5] := by
        obtain ⟨l⟩ := sl
        simp only at hs
        rw [hs]
      subst hsl
      have tf : PySem.W.typeIn K (.ref f) = some (.type "function") := beq_iff_eq.mp hf
      obtain ⟨of, hof, hofc⟩ : ∃ of, K.lookup f = some of ∧ of.cls = .type "function" := by
        unfold PySem.W.typeIn at tf
        cases q : K.lookup f with
        | none => simp [q] at tf
        | some u => exact ⟨u, rfl, by simpa [q] using tf⟩
      refine ⟨o, of, nm, qn, ns, bs, hd, sn, sub, ab, col, dd, k0, k1, k2, k3, k5, n, h.nsMap ns, _, hx, hc, X _ _ ho, .of_isNs (PySem.W.isNs_of_in X e4), ?_, X _ _ hof, hofc, F.cmp_object.mro, F.cmp_object.eq.lookup, ?_⟩
      · exact ns_of X (.of_isNs (PySem.W.isNs_of_in X e4)) (He.eqO_ok e5)
      · exact PySem.W.nsMap_none_of_in X e4 (He.eqO_ok e6)
    · cases e
  · cases e
/-- a != b: False, where the own == says True -/
def rNeI (C : Addr) (R : Addr → Addr → Hp → Prop) : R2 := fun x y H Q => DIns C R x y H ∧ ∀ H', L2.Ext H H' → Q (.bl false) H'
theorem op_neI {R : Addr → Addr → Hp → Prop} (F : FnOk X.prog X.w X.K X.mg X.base CX0 k f fd ps (spEq R)) (hr : Room (k + 1) X.A) (hb : Binds X.K fd ps []) (hm : Meth X.K C "__eq__" f) (hn : neB X.K C f = true) : OpR X (compareOp .NotEq) (rNeI C R) := by
  intro pins s σ H x y v u Q I rx ry h
  obtain ⟨⟨a, b, dx, dy, fs, gs, rfl, rfl, ha, hb', hR⟩, q⟩ := h
  cases rx
  cases ry
  obtain ⟨mA, J, _⟩ := ins_get I.hok ha
  obtain ⟨mB, J', _⟩ := ins_get I.hok hb'
  obtain ⟨od, J, _⟩ := J.look
  obtain ⟨od', J', _⟩ := J'.look
  have X1 := own_ne I.kIn hn hm.fn J.1 rfl
  have hu : X.A.units + 1 < cLine := by have := hr.un; omega
  obtain ⟨hp, g, d, t, os⟩ := s
  refine compareOp_ne_ownEq PySem.F.cmp_object X1 J'.1 rfl hu ?_
  refine thn (run_at F (A := X.A.in1) hr.in1 rfl hb I (vs := [V.ref a, V.ref b]) (Q := fun v H' => v = .bl true ∧ L2.Ext H H') (.cons rfl (.cons rfl .nil)) ⟨a, b, rfl, hR, fun H' e => ⟨rfl, e⟩⟩) fun v s' z => ?_
  obtain ⟨v', H', I', rv, rfl, e⟩ := z
  cases rv
  exact ⟨true, rfl, .bl false, H', I', rfl, q H' e⟩
end
end Pn

namespace GQ2
open PySem PySem.SeqAt GQ
open AutoSeq1 (wpAny_loadPart')
open MeetsSeq MeetsSeq2 MeetsSeq3 SeqRoads2
section
variable {prog : Program} {w : World} {A : Around} {R : Result → Shared → Prop}
theorem tuple_neG (l b : Addr) (items items2 : Array Value) (n n2 : Nat) (dd dd2 : Option Addr) (sl sl2 : Array (Option Value)) (hsz : items.size = items2.size) (I : Nat → Shared → Prop)
    (turn : ∀ i (h1 : i < items.size) (h2 : i < items2.size) s, I i s → wpAny (model prog w) A.in1 (eqBool items[i] items2[i]) (fun r s' => r = true ∧ I (i + 1) s') (fun e s' => R (.error e) s') s)
    (fin : ∀ s, I items.size s → R (.ok (.ret (.bool false))) s) {s : Shared} (hl1 : s.heap.get? l = some { cls := .type "tuple", dict := dd, data := .seq items n, slots := sl }) (hb1 : s.heap.get? b = some { cls := .type "tuple", dict := dd2, data := .seq items2 n2, slots := sl2 }) (h : I 0 s) :
    wpAny (model prog w) A.in1 (Builtin.«tuple.__ne__» ⟨[.ref l, .ref b], []⟩) (FinOf prog w A R) (fun e s' => R (.error e) s') s := by
  have f2 := AutoSeq1.sub_tuple_tuple
  have hZ : (items.toList.zip items2.toList).length = items.size := by simp [hsz]
  have h0 := h
  obtain ⟨hp, g, d, tk, os⟩ := s
  wp_walk using wpAny_loadPart' hl1, wpAny_loadPart' hb1, wpAny_forIn_list _ (fun rest b s' => b.1 = none ∧ ∃ i, rest = (items.toList.zip items2.toList).drop i ∧ i ≤ items.size ∧ I i s') _
  case turn =>
    rintro ⟨y, x⟩ rest b s' ⟨hb', i, hz, hi, hI⟩
    have hlt : i < (items.toList.zip items2.toList).length := by
      rcases Nat.lt_or_ge i (items.toList.zip items2.toList).length with h' | h'
      · exact h'
      · rw [List.drop_of_length_le h'] at hz; cases hz
    have h1 : i < items.size := hZ ▸ hlt
    have h2 : i < items2.size := hsz ▸ h1
    rw [List.drop_eq_getElem_cons hlt] at hz
    injection hz with hyx hrest
    have hy : y = items[i] := by have := congrArg Prod.fst hyx; simpa using this
    have hx : x = items2[i] := by have := congrArg Prod.snd hyx; simpa using this
    subst hy hx
    refine wpAny_bind (wpAny_mono (turn i h1 h2 s' hI) (fun r s2 q2 => ?_) fun _ _ x => x)
    obtain ⟨hr, q2⟩ := q2
    subst hr
    wp_walk
    exact ⟨rfl, i + 1, hrest, h1, q2⟩
  case fin =>
    rintro ⟨b1, b2⟩ s' ⟨hb', i, hz, hi, hI⟩
    simp only at hb'
    subst hb'
    have hge : items.size ≤ i := by
      rcases Nat.lt_or_ge i (items.toList.zip items2.toList).length with h' | h'
      · rw [List.drop_eq_getElem_cons h'] at hz; cases hz
      · exact hZ ▸ h'
    have hi' : i = items.size := by omega
    have hR : R (.ok (.ret (.bool false))) s' := fin s' (hi' ▸ hI)
    wp_walk
    simpa [Builtin.Tuple.tupleCompareSizes, hsz] using hR
  case h =>
    exact ⟨rfl, 0, rfl, Nat.zero_le _, h0⟩
end
section
variable {prog : Program} {w : World} {A : Around} {E : Value → Shared → Prop} {s : Shared}
theorem rc_tupNe {l b : Addr} {items items2 : Array Value} {Q : Value → Shared → Prop} (hsz : items.size = items2.size) (hu : A.units < cLine) (I : Nat → Shared → Prop)
    (hl : s.heap.IsTuple l items) (hb : s.heap.IsTuple b items2)
    (turn : ∀ i (h1 : i < items.size) (h2 : i < items2.size) s, I i s → wpAny (model prog w) A.in1 (eqBool items[i] items2[i]) (fun r s' => r = true ∧ I (i + 1) s') E s)
    (fin : ∀ s, I items.size s → Q (.bool false) s) (h : I 0 s) : wpAny (model prog w) A (richCompare .NotEq (.ref l) (.ref b)) Q E s := by
  obtain ⟨⟨cls, dd, data, sl⟩, ho, hc, n, hd⟩ := id hl
  obtain ⟨⟨cls2, dd2, data2, sl2⟩, ho2, hc2, n2, hd2⟩ := id hb
  simp only at hc hd hc2 hd2
  subst hc hd hc2 hd2
  refine wpAny_richCompare_same_room (op := .NotEq) ⟨_, ho, rfl⟩ ⟨_, ho2, rfl⟩ F.slot_tuple_ne (call_here F.slot_tuple_ne ⟨_, ho, rfl⟩ F.entry_tuple_ne (F.args_tuple_ne_2 _ _) ?_) hu
  exact tuple_neG (R := wants (fun v s' => v ≠ .notImplemented ∧ Q v s') E) l b items items2 n n2 dd dd2 sl sl2 hsz I turn (fun s' q => ⟨(fun x => nomatch x), fin s' q⟩) ho ho2 h
end
end GQ2
namespace Pn
open PySem PySem.Spec PyProof.Rows L2
section
variable {X : Cx} {n : Nat} {D : Eqv}
/-- t != u of two tuples whose items are equal one by one: False -/
def rNeT (K : PySem.W.Frag) (D : Eqv) : R2 := fun x y H Q => DTup K D x y H ∧ ∀ H', L2.Ext H H' → Q (.bl false) H'
theorem op_neT (hD : Mon D) (h : EqG X n D) (hr : Room (n + 1) X.A) : OpR X (compareOp .NotEq) (rNeT X.K D) := by
  intro pins s σ H x y v u Q I rx ry hq
  obtain ⟨⟨a, b, xs, ys, rfl, rfl, ha, hb, p⟩, q⟩ := hq
  cases rx
  cases ry
  obtain ⟨its, r, e, z⟩ := I.tuple ha
  obtain ⟨its2, r2, e2, z2⟩ := I.tuple hb
  have hsz : its.toArray.size = its2.toArray.size := by rw [List.size_toArray, List.size_toArray, ← r.length, ← r2.length]; exact p.1
  have sb : Sub X (n + 1) X.A := ⟨hr, rfl⟩
  show wpAny (model X.prog X.w) X.A (richCompare .NotEq _ _) _ _ _
  refine GQ2.rc_tupNe hsz hr.units0 (fun _ s' => LoopI X pins σ H s') e e2 (fun i h1 h2 s' q => turnG hD h sb p r r2 i h1 h2 s' q) (fun s' l => ?_) ⟨H, I, Ext.rfl'⟩
  obtain ⟨H', I', ex⟩ := l
  exact ⟨.bl false, H', I', rfl, q H' ex⟩
end
end Pn
set_option maxHeartbeats 4000000
/-! what stands for what: fractions, vectors, matrices; defs as words; comprehensions over anything -/
namespace Pn
open PySem PySem.Spec PyProof.Rows L2

abbrev CRt (K : PySem.W.Frag) : Addr := He.ga K "Ratio"
abbrev CRd (K : PySem.W.Frag) : Addr := He.ga K "Reading"
/-- objects that nothing changes -/
def Im (K : PySem.W.Frag) : HO → Prop
  | .tup _ => True
  | .ins C _ _ => C = CRt K ∨ C = CRd K
  | _ => False
/-- they are as they were -/
def Kp (K : PySem.W.Frag) (H H' : Hp) : Prop := ∀ a o, H a = some o → Im K o → H' a = some o
def Ex (H H' : Hp) : Prop := ∀ a o, H a = some o → H' a = some o
section
variable {K : PySem.W.Frag} {H H1 H2 H' : Hp} {p : Addr} {o u : HO}
theorem Ex.refl (H : Hp) : Ex H H := fun _ _ h => h
theorem Ex.trans (a : Ex H H1) (b : Ex H1 H2) : Ex H H2 := fun c o h => b c o (a c o h)
theorem Ex.kp (e : Ex H H') : Kp K H H' := fun a o h _ => e a o h
theorem Kp.refl : Kp K H H := fun _ _ h _ => h
theorem Kp.trans (a : Kp K H H1) (b : Kp K H1 H2) : Kp K H H2 := fun c o h i => b c o (a c o h i) i
theorem Kp.upd (e : Kp K H H') (h : H' p = some u) (n : ¬ Im K u) : Kp K H (L2.upd H' p o) := fun a v ha i => by
  have h1 := e a v ha i
  have ne : a ≠ p := fun z => by
    rw [z, h] at h1
    cases h1
    exact n i
  rw [upd_ne ne]
  exact h1
theorem Kp.new (e : Kp K H H') (h : H' p = none) : Kp K H (L2.upd H' p o) := fun a v ha i => by
  have h1 := e a v ha i
  rw [upd_ne (ne_of_none h1 h)]
  exact h1
theorem Ex.new (e : Ex H H') (h : H' p = none) : Ex H (L2.upd H' p o) := fun a v ha => by
  have h1 := e a v ha
  rw [upd_ne (ne_of_none h1 h)]
  exact h1
/-- what was new at H may change -/
theorem Ex.mut (e : Ex H H') (h : H p = none) : Ex H (L2.upd H' p o) := fun a v ha => by
  rw [upd_ne (ne_of_none ha h)]
  exact e a v ha
theorem Ex.free (e : Ex H H') (h : H' p = none) : H p = none := by
  cases q : H p with
  | none => rfl
  | some o => rw [e p o q] at h; cases h
end

/-! ### values -/
def rf (t b : Int) : List (Str × V) := [("top", .int t), ("bottom", .int b)]
/-- v is the fraction q -/
def IsR (K : PySem.W.Frag) (H : Hp) (v : V) (q : Rat) : Prop := ∃ p dx, v = .ref p ∧ H p = some (.ins (CRt K) dx (rf q.num q.den))
theorem IsR.kp {K : PySem.W.Frag} {H H' : Hp} {v : V} {q : Rat} (h : IsR K H v q) (e : Kp K H H') : IsR K H' v q := by
  obtain ⟨p, dx, rfl, h⟩ := h
  exact ⟨p, dx, rfl, e p _ h (.inl rfl)⟩
theorem IsR.ex {K : PySem.W.Frag} {H H' : Hp} {v : V} {q : Rat} (h : IsR K H v q) (e : Ex H H') : IsR K H' v q := h.kp e.kp
/-- item by item -/
structure Al {α β : Type} (R : α → β → Prop) (vs : List α) (xs : List β) : Prop where
  len : vs.length = xs.length
  at_ : ∀ (i : Nat) v x, vs[i]? = some v → xs[i]? = some x → R v x
theorem Al.imp {α β : Type} {R S : α → β → Prop} {vs : List α} {xs : List β} (h : Al R vs xs) (f : ∀ v x, R v x → S v x) : Al S vs xs := ⟨h.len, fun i v x a b => f v x (h.at_ i v x a b)⟩
theorem Al.get {α β : Type} {R : α → β → Prop} {vs : List α} {xs : List β} (h : Al R vs xs) {i : Nat} {v : α} (e : vs[i]? = some v) : ∃ x, xs[i]? = some x ∧ R v x := by
  have hi : i < xs.length := by
    rw [← h.len]
    exact (List.getElem?_eq_some_iff.mp e).1
  exact ⟨xs[i], List.getElem?_eq_getElem hi, h.at_ i _ _ e (List.getElem?_eq_getElem hi)⟩
theorem Al.get' {α β : Type} {R : α → β → Prop} {vs : List α} {xs : List β} (h : Al R vs xs) {i : Nat} {x : β} (e : xs[i]? = some x) : ∃ v, vs[i]? = some v ∧ R v x := by
  have hi : i < vs.length := by
    rw [h.len]
    exact (List.getElem?_eq_some_iff.mp e).1
  exact ⟨vs[i], List.getElem?_eq_getElem hi, h.at_ i _ _ (List.getElem?_eq_getElem hi) e⟩
theorem Al.nil {α β : Type} {R : α → β → Prop} : Al R [] [] := ⟨rfl, fun i v x a => by simp at a⟩
theorem Al.cons {α β : Type} {R : α → β → Prop} {vs : List α} {xs : List β} {v : α} {x : β} (h : R v x) (t : Al R vs xs) : Al R (v :: vs) (x :: xs) := by
  refine ⟨by simp [t.len], fun i a b ha hb => ?_⟩
  cases i with
  | zero =>
    simp at ha hb
    subst ha hb
    exact h
  | succ i => exact t.at_ i a b (by simpa using ha) (by simpa using hb)
theorem Al.append {α β : Type} {R : α → β → Prop} {vs ws : List α} {xs ys : List β} (h : Al R vs xs) (k : Al R ws ys) : Al R (vs ++ ws) (xs ++ ys) := by
  refine ⟨by simp [h.len, k.len], fun i a b ha hb => ?_⟩
  rw [List.getElem?_append] at ha hb
  rw [h.len] at ha
  split at ha
  · rename_i hi
    rw [if_pos hi] at hb
    exact h.at_ i a b ha hb
  · rename_i hi
    rw [if_neg hi] at hb
    exact k.at_ _ a b ha hb
theorem Al.set {α β : Type} {R : α → β → Prop} {vs : List α} {xs : List β} (h : Al R vs xs) (i : Nat) {v : α} {x : β} (r : R v x) : Al R (vs.set i v) (xs.set i x) := by
  refine ⟨by simp [h.len], fun j a b ha hb => ?_⟩
  rw [List.getElem?_set] at ha hb
  by_cases hj : i = j
  · subst hj
    rw [if_pos rfl] at ha hb
    split at ha
    · split at hb
      · cases ha
        cases hb
        exact r
      · cases hb
    · cases ha
  · rw [if_neg hj] at ha hb
    exact h.at_ j a b ha hb
theorem Al.take {α β : Type} {R : α → β → Prop} {vs : List α} {xs : List β} (h : Al R vs xs) (n : Nat) : Al R (vs.take n) (xs.take n) := by
  refine ⟨by simp [h.len], fun j a b ha hb => ?_⟩
  rw [List.getElem?_take] at ha hb
  split at ha
  · rename_i hj
    rw [if_pos hj] at hb
    exact h.at_ j a b ha hb
  · cases ha
theorem Al.inv {α β : Type} {R : α → β → Prop} {v : α} {vs : List α} {x : β} {xs : List β} (h : Al R (v :: vs) (x :: xs)) : R v x ∧ Al R vs xs :=
  ⟨h.at_ 0 v x rfl rfl, by have := h.len; simpa using this, fun i a b ha hb => h.at_ (i + 1) a b (by simpa using ha) (by simpa using hb)⟩
/-- v is a tuple of these -/
def IsT {α : Type} (R : Hp → V → α → Prop) (H : Hp) (v : V) (xs : List α) : Prop := ∃ p vs, v = .ref p ∧ H p = some (.tup vs) ∧ Al (R H) vs xs
/-- v is a list of these, at p -/
def IsL {α : Type} (R : Hp → V → α → Prop) (H : Hp) (p : Addr) (xs : List α) : Prop := ∃ vs, H p = some (.lst vs) ∧ Al (R H) vs xs
/-- what immutables carry stays -/
def Stay (K : PySem.W.Frag) {α : Type} (R : Hp → V → α → Prop) : Prop := ∀ H H' v x, Kp K H H' → R H v x → R H' v x
theorem stayR {K : PySem.W.Frag} : Stay K (IsR K) := fun _ _ _ _ e h => h.kp e
theorem stayT {K : PySem.W.Frag} {α : Type} {R : Hp → V → α → Prop} (s : Stay K R) : Stay K (IsT R) := fun H H' v xs e ⟨p, vs, h1, h2, h3⟩ => ⟨p, vs, h1, e p _ h2 trivial, h3.imp fun v x => s H H' v x e⟩
abbrev IsV (K : PySem.W.Frag) : Hp → V → List Rat → Prop := IsT (IsR K)
abbrev IsM (K : PySem.W.Frag) : Hp → V → List (List Rat) → Prop := IsT (IsV K)
theorem stayV {K : PySem.W.Frag} : Stay K (IsV K) := stayT stayR
theorem stayM {K : PySem.W.Frag} : Stay K (IsM K) := stayT stayV
theorem IsV.kp {K : PySem.W.Frag} {H H' : Hp} {v : V} {q : List Rat} (h : IsV K H v q) (e : Kp K H H') : IsV K H' v q := stayV _ _ _ _ e h
theorem IsV.ex {K : PySem.W.Frag} {H H' : Hp} {v : V} {q : List Rat} (h : IsV K H v q) (e : Ex H H') : IsV K H' v q := stayV _ _ _ _ e.kp h
theorem IsM.kp {K : PySem.W.Frag} {H H' : Hp} {v : V} {q : List (List Rat)} (h : IsM K H v q) (e : Kp K H H') : IsM K H' v q := stayM _ _ _ _ e h
theorem IsM.ex {K : PySem.W.Frag} {H H' : Hp} {v : V} {q : List (List Rat)} (h : IsM K H v q) (e : Ex H H') : IsM K H' v q := stayM _ _ _ _ e.kp h
theorem IsL.kp {K : PySem.W.Frag} {α : Type} {R : Hp → V → α → Prop} (s : Stay K R) {H H' : Hp} {p : Addr} {xs : List α} (h : IsL R H p xs) (e : Kp K H H') (k : ∀ vs, H p = some (.lst vs) → H' p = some (.lst vs)) : IsL R H' p xs := by
  obtain ⟨vs, h1, h2⟩ := h
  exact ⟨vs, k vs h1, h2.imp fun v x => s H H' v x e⟩
theorem IsL.ex {K : PySem.W.Frag} {α : Type} {R : Hp → V → α → Prop} (s : Stay K R) {H H' : Hp} {p : Addr} {xs : List α} (h : IsL R H p xs) (e : Ex H H') : IsL R H' p xs := h.kp s e.kp fun vs q => e _ _ q

/-! ### defs as words -/
section
variable (P : Program) (w : World) (K : PySem.W.Frag) (mg : Str → Option Value) (base : Heap) (CX : CXT)
/-- the def that the module's name x stands for keeps sp -/
structure Def (x : Str) (f : Addr) (k : Nat) (ps : List Str) (sp : Sp) : Prop where
  ok : ∃ fd, FnOk P w K mg base CX k f fd ps sp ∧ L2.Binds K fd ps []
  g : mg x = some (.ref f)
  kp : PySem.W.keepIn K (.ref f) = true
/-- the method m of the class at C keeps sp -/
structure MDef (C : Addr) (m : Str) (f : Addr) (k : Nat) (ps : List Str) (sp : Sp) : Prop where
  ok : ∃ fd, FnOk P w K mg base CX k f fd ps sp ∧ L2.Binds K fd ps []
  m : Meth K C m f
  c : Cls K C
/-- making an instance of the class that x stands for; dvs the defaults that fill up -/
structure KDef (x : Str) (C f : Addr) (k : Nat) (ps : List Str) (dvs : List V) (sp : Sp) : Prop where
  ok : ∃ fd ds, FnOk P w K mg base CX k f fd ps sp ∧ Vals dvs ds ∧ L2.Binds K fd ps ds
  g : mg x = some (.ref C)
  m : Mk K C f
end
section
variable {X : Cx} {CX : CXT} {k : Nat} {f C : Addr} {ps : List Str} {sp : Sp} {dvs : List V} {E : XK} {x m : Str} {p pos apos : Pos} {e o : Expr} {es : List Expr} {ta : TE} {t : TA}
theorem pe_callD (D : Def X.prog X.w X.K X.mg X.base CX0 x f k ps sp) (hr : Room k X.A) (ha : PA X (e :: es) t) (hg : Gl X x := by rfl) (hdb : (x == ("__debug__" : Str)) = false := by decide) (he : starEach (e :: es) X.env = (false, eval e X.env) :: starEach es X.env := by rfl)
    (hpl : (backTo pos (starEach es X.env)).any (·.1) = false := by rfl) : PE X (.Call (.Name x p) (e :: es) [] pos) (tCall sp [] E0 t) := by
  obtain ⟨fd, F, b⟩ := D.ok
  exact pe_call F hr hg D.g D.kp b .nil pass0 ha hdb he hpl
theorem pe_callD0 (D : Def X.prog X.w X.K X.mg X.base CX0 x f k ps sp) (hr : Room k X.A) (hg : Gl X x := by rfl) (hdb : (x == ("__debug__" : Str)) = false := by decide) : PE X (.Call (.Name x p) [] [] pos) (tCall sp [] E0 tNil) := by
  obtain ⟨fd, F, b⟩ := D.ok
  exact pe_call0 F hr hg D.g D.kp b .nil pass0 hdb
theorem pe_methD {pl : Sem Bool} (D : MDef X.prog X.w X.K X.mg X.base CX0 C m f k ps sp) (hr : Room k X.A) (he : PE X o ta) (ha : PA X (e :: es) t)
    (hst : starEach (e :: es) X.env = (false, eval e X.env) :: starEach es X.env := by rfl) (hpl : (backTo pos (starEach es X.env)).any (·.1) = false := by rfl)
    (ht : eval (.Call (.Attribute o m apos) (e :: es) [] pos) X.env = (do
      let ov ← eval o X.env
      standAt apos.atName
      let (f, first) ← holding [ov] (getMethod ov m pl)
      callWith pos f first (backTo pos (starEach (e :: es) X.env)) (backToKw pos (keywordEach [] X.env))) := by rfl) :
    PE X (.Call (.Attribute o m apos) (e :: es) [] pos) (tMeth C m sp [] E0 ta t) := by
  obtain ⟨fd, F, b⟩ := D.ok
  exact pe_meth he D.c D.m F hr b .nil pass0 ha hst hpl ht
theorem pe_methD0 {pl : Sem Bool} (D : MDef X.prog X.w X.K X.mg X.base CX0 C m f k ps sp) (hr : Room k X.A) (he : PE X o ta)
    (ht : eval (.Call (.Attribute o m apos) [] [] pos) X.env = (do
      let ov ← eval o X.env
      standAt apos.atName
      let (f, first) ← holding [ov] (getMethod ov m pl)
      callWith pos f first (backTo pos (starEach [] X.env)) (backToKw pos (keywordEach [] X.env))) := by rfl) :
    PE X (.Call (.Attribute o m apos) [] [] pos) (tMeth C m sp [] E0 ta tNil) := by
  obtain ⟨fd, F, b⟩ := D.ok
  exact pe_meth0 he D.c D.m F hr b .nil pass0 ht
theorem pe_makeD (D : KDef X.prog X.w X.K X.mg X.base CX0 x C f k ps dvs sp) (hr : Room (k + 1) X.A) (ha : PA X (e :: es) t) (hg : Gl X x := by rfl) (hdb : (x == ("__debug__" : Str)) = false := by decide) (he : starEach (e :: es) X.env = (false, eval e X.env) :: starEach es X.env := by rfl)
    (hpl : (backTo pos (starEach es X.env)).any (·.1) = false := by rfl) : PE X (.Call (.Name x p) (e :: es) [] pos) (tMake C sp dvs E0 t) := by
  obtain ⟨fd, ds, F, hd, b⟩ := D.ok
  exact pe_make D.m F hr hg D.g b hd pass0 ha hdb he hpl
theorem pe_makeD0 (D : KDef X.prog X.w X.K X.mg X.base CX0 x C f k ps dvs sp) (hr : Room (k + 1) X.A) (hg : Gl X x := by rfl) (hdb : (x == ("__debug__" : Str)) = false := by decide) : PE X (.Call (.Name x p) [] [] pos) (tMake C sp dvs E0 tNil) := by
  obtain ⟨fd, ds, F, hd, b⟩ := D.ok
  exact pe_make0 D.m F hr hg D.g b hd pass0 hdb
theorem op_ownD {op : Operator} (D : MDef X.prog X.w X.K X.mg X.base CX0 C (PySem.dunder op.info.2) f k ps sp) (hr : Room k X.A) (sf : PySem.W.selfFirst X.K C = true) : OpR X (binaryOp op) (rOwn C sp) := by
  obtain ⟨fd, F, b⟩ := D.ok
  exact op_own F hr sf D.m b
theorem un_ownD (D : MDef X.prog X.w X.K X.mg X.base CX0 C "__neg__" f k ps sp) (hr : Room k X.A) : UnR X (unaryOp .USub) (rOwn1 C sp) := by
  obtain ⟨fd, F, b⟩ := D.ok
  exact un_own F hr D.m b
/-- a module's int -/
theorem pe_gi {n : Int} (h : ∃ t, X.mg x = some (.int n t)) (hg : Gl X x := by rfl) (hd : (x == ("__debug__" : Str)) = false := by decide) : PE X (.Name x pos) (tC (.int n)) := by
  obtain ⟨t, e⟩ := h
  exact pe_glob hg e ⟨t, rfl⟩ hd
end

/-! ### comprehensions -/
section
variable {K : PySem.W.Frag} {J : It} {n : Nat} {G : Hp → Prop} {Y : Nat → Hp → V → Hp → Prop}
/-- [te for g in a walk]: the list at D holds the items of res, as R says -/
theorem lc_al {α : Type} (w : Walk J n G Y) {R : Hp → V → α → Prop} (hR : Stay K R) (res : List α) (hn : n = res.length) (hz : n ≤ 100000) {g : TG} {te : TE} {vs : List Nat} {σ : L2.St} {H1 : Hp} {D : Addr} {Qd : Hp → Prop} (hD : H1 D = none)
    (hG : ∀ H, Ex H1 H → G H) (hY : ∀ i H x H', Y i H x H' → Ex H H')
    (el : ∀ (i : Nat) (x : V) (y : α) (H H' : Hp), i < n → res[i]? = some y → Ex H1 H → Y i H x H' → ∀ Rk : VK, (∀ v H4, Ex H' H4 → R H4 v y → Rk v H4) → g x (wipe σ vs) H' fun σ2 H2 => wipe σ2 vs = wipe σ vs ∧ te σ2 H2 Rk)
    (hd : ∀ H acc, Ex H1 H → H D = some (.lst acc) → Al (R H) acc res → Qd H) :
    ∃ W : Nat → Nat → Hp → Prop, (∃ m, W 0 m (upd H1 D (.lst []))) ∧ ∀ i m H, W i m H →
      (J.stop i H ∧ Qd H) ∨ (J.go i H ∧ ∃ Nx : Hp → Prop, (∀ H', Nx H' → ∃ m', m' < m ∧ W (i + 1) m' H') ∧ ∀ x H', J.yld i H x H' → g x (wipe σ vs) H' fun σ2 H2 => wipe σ2 vs = wipe σ vs ∧ tYes σ2 H2 fun b H3 =>
        if b = true then te σ2 H3 fun y H4 => ∃ acc, H4 D = some (.lst acc) ∧ acc.length < sizeLine ∧ Nx (upd H4 D (.lst (acc ++ [y]))) else Nx H3) := by
  refine lc_it w (fun i H => Ex H1 H ∧ ∃ acc, H D = some (.lst acc) ∧ acc.length = i ∧ ∀ (j : Nat) v y, acc[j]? = some v → res[j]? = some y → R H v y) ⟨(Ex.refl H1).new hD, [], upd_same, rfl, fun j v y a => by simp at a⟩ (fun i H _ p => hG H p.1) ?_ ?_
  · rintro i x H H' hi ⟨e, acc, h1, h2, h3⟩ y
    have hi' : i < res.length := by omega
    have e2 := hY i H x H' y
    refine el i x res[i] H H' hi (List.getElem?_eq_getElem hi') e y _ fun v H4 e4 r => ?_
    have hD4 : H4 D = some (.lst acc) := e4 _ _ (e2 _ _ h1)
    refine ⟨acc, hD4, by rw [sizeLine_eq]; omega, (e.trans (e2.trans e4)).mut hD, acc ++ [v], upd_same, by rw [List.length_append, h2]; rfl, fun j u z a b => ?_⟩
    have kp : Kp K H (upd H4 D (.lst (acc ++ [v]))) := ((e2.trans e4).kp).upd hD4 (fun z => z)
    have kp4 : Kp K H4 (upd H4 D (.lst (acc ++ [v]))) := Kp.refl.upd hD4 (fun z => z)
    rw [List.getElem?_append] at a
    split at a
    · exact hR _ _ _ _ kp (h3 j u z a b)
    · rename_i hj
      have ej : j = acc.length := by
        have := (List.getElem?_eq_some_iff.mp a).1
        simp at this
        omega
      subst ej
      have eu : v = u := by simpa using a
      subst eu
      have ez : res[i]? = some z := by rw [← h2]; exact b
      rw [List.getElem?_eq_getElem hi'] at ez
      cases ez
      exact hR _ _ _ _ kp4 r
  · rintro H ⟨e, acc, h1, h2, h3⟩
    exact hd H acc e h1 ⟨by rw [h2, hn], h3⟩
/-- tuple(the list at D) -/
theorem tup_of {D : Addr} {acc : List V} {H : Hp} {Q : VK} (h : H D = some (.lst acc)) (q : ∀ l, H l = none → Q (.ref l) (upd H l (.tup acc))) :
    ∃ p ys, [V.ref D] = [.ref p] ∧ ((SqL K H p ys ∧ ∀ l, H l = none → Q (.ref l) (upd H l (.tup ys))) ∨ (SqT K H p ys ∧ Q (.ref p) H)) := ⟨D, acc, rfl, .inl ⟨.inl (.inl h), q⟩⟩
theorem SqL.of' {H : Hp} {p : Addr} {xs : List V} (h : H p = some (.lst xs)) : SqL K H p xs := .inl (.inl h)
theorem SqT.of' {H : Hp} {p : Addr} {xs : List V} (h : H p = some (.tup xs)) : SqT K H p xs := .inl (.inl h)
theorem yat_ex {xs : List V} : ∀ i H x H', YAt xs i H x H' → Ex H H' := fun i H x H' y => by
  rw [y.1]
  exact Ex.refl H
theorem yfn_ex {f : Nat → V} : ∀ i H x H', YFn f i H x H' → Ex H H' := fun i H x H' y => by
  rw [y.1]
  exact Ex.refl H
theorem ypair_ex {xs ys : Nat → Option V} : ∀ i H x H', YPair xs ys i H x H' → Ex H H' := fun i H x H' y => by
  obtain ⟨T, a, b, _, hT, rfl, _⟩ := y
  exact (Ex.refl H).new hT
/-- zip of two tuples -/
theorem walk_zipT {a b : Addr} {xs ys : List V} {n : Nat} (hn : n = min xs.length ys.length) : Walk (RZ.ItzT K a b) n (fun H => SqT K H a xs ∧ SqT K H b ys) (YPair (fun i => xs[i]?) (fun i => ys[i]?)) := by
  subst hn
  refine ⟨fun i _ hi q => ?_, fun _ q => ⟨xs, ys, q.1, q.2, by omega⟩, fun i H v H' _ q y => ?_⟩
  · have h1 : i < xs.length := by omega
    have h2 : i < ys.length := by omega
    exact ⟨xs, ys, xs[i], ys[i], q.1, q.2, by simp [h1], by simp [h2]⟩
  · obtain ⟨T, x, z, h1, h2, h3, h4, h5⟩ := y
    exact ⟨T, x, z, h1, h2, h3, h4 xs q.1, h5 ys q.2⟩
end
end Pn
set_option maxHeartbeats 4000000
/-! the class Ratio -/
namespace Pn
open PySem PySem.Spec PyProof.Rows L2
section
variable {P : Program} {w : World} {K : PySem.W.Frag} {mg : Str → Option Value} {base : Heap} {x qual : Str} {params : Arguments} {body : List Stmt} {scope : Scope} {dvs : List V} {kws : List (Str × V)} {f : Addr} {fd : FuncData}
/-- a def that lets no exception out -/
theorem ok0 {N ps : List Str} {k : Nat} {sp : Sp} (F : FunD K x qual params body scope dvs kws f fd) (S : FnScope N ps scope) (len : ∀ vs H Q E, sp vs H Q E → vs.length = ps.length)
    (hbody : ∀ (cdv : Value) (A : Around) (outer : List Env) (s : Shared) (H : Hp) (vs : List V) (Q : VK) (E : XK), Room k (A.deeper (envOfC qual scope s.heap.objs.size f cdv)) → sp vs H Q E →
      ∃ t, PSs (cxOf CX0 P w K mg base N qual scope f cdv A outer s H E).nox body t ∧ t { nx := fun _ H' => Q .non H', rt := Q } (start N vs) H) : FnOk P w K mg base CX0 (k + 1) f fd ps sp :=
  F.ok S len fun cdv A outer s H vs Q E hr h => by
    obtain ⟨t, h1, h2⟩ := hbody cdv A outer s H vs Q E hr h
    exact ⟨t, h1.nox, h2⟩
end

/-! ### the fields -/
theorem tb_ : ¬ (("top" : Str) = "bottom") := by decide +kernel
theorem bt_ : ¬ (("bottom" : Str) = "top") := by decide +kernel
theorem rf_put (t b : Int) : putF "bottom" (.int b) (putF "top" (.int t) []) = rf t b := by
  show (if ("top" : Str) = "bottom" then [(("top" : Str), V.int b)] else (("top" : Str), V.int t) :: putF "bottom" (.int b) []) = rf t b
  rw [if_neg tb_]
  rfl
theorem rf_top (t b : Int) : (rf t b).lookup ("top" : Str) = some (.int t) := by
  rw [← rf_put, lookup_putF, if_neg tb_, lookup_putF, if_pos rfl]
theorem rf_bot (t b : Int) : (rf t b).lookup ("bottom" : Str) = some (.int b) := by
  rw [← rf_put, lookup_putF, if_pos rfl]
theorem rf_no (t b : Int) {m : Str} (h1 : ¬ m = "bottom") (h2 : ¬ m = "top") : (rf t b).lookup m = none := by
  rw [← rf_put, lookup_putF, if_neg h1, lookup_putF, if_neg h2]
  rfl

/-! ### promises -/
def spRInit (K : PySem.W.Frag) : Sp := fun vs H Q _ => ∃ (x dx : Addr) (t b : Int), vs = [.ref x, .int t, .int b] ∧ b ≠ 0 ∧ H x = some (.ins (CRt K) dx []) ∧ Q .non (upd H x (.ins (CRt K) dx (rf (Rat.divInt t b).num (Rat.divInt t b).den)))

section
variable {w : World} {K : PySem.W.Frag} {mg : Str → Option Value} {base : Heap}
theorem sc_Ratio_init : FnScope ["self", "top", "bottom", "common"] ["self", "top", "bottom"] (defScope s_Ratio_init) := ⟨rfl, rfl, rfl, by decide +kernel, rfl, by decide +kernel, by decide +kernel⟩
theorem ok_Ratio_init (T : Txt K mg) (hN : base.NoSeer) {fd : FuncData} (F : FunD K "__init__" "Ratio.__init__" (defArgs s_Ratio_init) (defBody s_Ratio_init) (defScope s_Ratio_init) [V.int 1] [] (a_Ratio_init K) fd) :
    FnOk PP w K mg base CX0 41 (a_Ratio_init K) fd ["self", "top", "bottom"] (spRInit K) := by
  refine ok0 F sc_Ratio_init (fun vs H Q E h => ?_) (fun cdv A outer s H vs Q E hr h => ?_)
  · obtain ⟨x, dx, t, b, rfl, _⟩ := h
    rfl
  · obtain ⟨x, dx, t, b, rfl, hb, hx, k⟩ := h
    have nd := sc_Ratio_init.nd
    refine ⟨_, pss_cons (ps_if (pt_cmpR op_eq (pv 2) pe_int (nomark _)) pss_never pss_nil)
      (pss_cons (ps_set (i := 3) nd rfl (Or.inl rfl) (pe_callBfun cr_gcd (by rfl) T.gcd (pa_cons (pv 1) (pa_cons (pv 2) pa_nil))))
      (pss_cons (ps_if (pt_cmpR op_lt (pv 2) pe_int (nomark _)) (pss_one (ps_set (i := 3) nd rfl (Or.inl rfl) (pe_un un_neg (pv 3)))) pss_nil)
      (pss_cons (ps_fld (pv 0) (pe_op (op_fdivP ⟨rfl, rfl, rfl, rfl⟩ hN hr) (pv 1) (pv 3)) rfl)
       (pss_one (ps_fld (pv 0) (pe_op (op_fdivP ⟨rfl, rfl, rfl, rfl⟩ hN hr) (pv 2) (pv 3)) rfl))))), ?_⟩
    refine ⟨_, rfl, rfl, _, rfl, ?_⟩
    refine ite2 (fun h => absurd (by simpa using h) hb) (fun _ => ?_)
    refine ⟨_, rfl, _, rfl, _, _, rfl, ?_⟩
    have key : ∀ c : Int, c = comI t b → tSeq (sFld K (tVar 0) (tOp (rI (fun _ j => j ≠ 0) fun i j => .int (i.fdiv j)) (tVar 1) (tVar 3)) "top") (sFld K (tVar 0) (tOp (rI (fun _ j => j ≠ 0) fun i j => .int (i.fdiv j)) (tVar 2) (tVar 3)) "bottom")
        { nx := fun _ H' => Q .non H', rt := Q } [some (.ref x), some (.int t), some (.int b), some (.int c)] H := by
      rintro c rfl
      have hc := comI_ne (t := t) hb
      refine ⟨_, rfl, _, rfl, _, _, rfl, rfl, hc, _, rfl, x, CRt K, dx, [], rfl, hx, T.c_Ratio, T.n_Ratio_top, (by show 0 < 1000; decide), ?_⟩
      refine ⟨_, rfl, _, rfl, _, _, rfl, rfl, hc, _, rfl, x, CRt K, dx, _, rfl, upd_same, T.c_Ratio, T.n_Ratio_bottom, (by show 1 < 1000; decide), ?_⟩
      rw [upd_upd, rf_put, comI_top hb, comI_bot hb]
      exact k
    refine ⟨_, rfl, _, _, rfl, rfl, _, rfl, ?_⟩
    refine ite2 (fun h => ?_) (fun h => ?_)
    · have h' : b < 0 := by simpa using h
      refine ⟨_, rfl, _, rfl, ?_⟩
      exact key _ (by unfold comI; rw [if_pos h'])
    · have h' : ¬ b < 0 := by simpa using h
      exact key _ (by unfold comI; rw [if_neg h'])
/-- Ratio(t, b), Ratio(n) -/
theorem mkR {H : Hp} {t b : Int} (hb : b ≠ 0) {Q : VK} (q : ∀ v H', Ex H H' → IsR K H' v (Rat.divInt t b) → Q v H') : ∀ x dx, H x = none → H dx = none → dx ≠ x →
    spRInit K [.ref x, .int t, .int b] (upd (upd H dx (.own x)) x (.ins (CRt K) dx [])) (fun v H2 => v = .non ∧ Q (.ref x) H2) E0 := fun x dx nx nd ne => by
  refine ⟨x, dx, t, b, rfl, hb, upd_same, rfl, ?_⟩
  rw [upd_upd]
  refine q _ _ (((Ex.refl H).new nd).new ?_) ⟨x, dx, rfl, upd_same⟩
  rw [upd_ne (Ne.symm ne)]
  exact nx
theorem k_Ratio2 (T : Txt K mg) (hN : base.NoSeer) : KDef PP w K mg base CX0 "Ratio" (CRt K) (a_Ratio_init K) 41 ["self", "top", "bottom"] [] (spRInit K) := by
  obtain ⟨fd, F⟩ := T.d_Ratio_init
  obtain ⟨ds, hd, hb⟩ := F.binds1 (ps := ["self", "top", "bottom"]) 3 1 (by simp) rfl fun T kV doc pm an cdv ct us its h1 h2 => match us, its, h1, h2 with | [_, _, _], [_], _, _ => ⟨_, rfl, rfl⟩
  exact ⟨⟨fd, ds, ok_Ratio_init T hN F, hd, hb⟩, T.g_Ratio, T.k_Ratio⟩
theorem k_Ratio1 (T : Txt K mg) (hN : base.NoSeer) : KDef PP w K mg base CX0 "Ratio" (CRt K) (a_Ratio_init K) 41 ["self", "top", "bottom"] [.int 1] (spRInit K) := by
  obtain ⟨fd, F⟩ := T.d_Ratio_init
  obtain ⟨ds, hd, hb⟩ := F.binds1 (ps := ["self", "top", "bottom"]) 2 0 (by simp) rfl fun T kV doc pm an cdv ct us its h1 h2 => match us, its, h1, h2 with | [_, _], [_], _, _ => ⟨_, rfl, rfl⟩
  exact ⟨⟨fd, ds, ok_Ratio_init T hN F, hd, hb⟩, T.g_Ratio, T.k_Ratio⟩
/-- what Fit asks of a product -/
theorem fit_mul {a b : Int} (ha : a.natAbs < 2 ^ LIM) (hb : b.natAbs < 2 ^ LIM) : CMulB a b := by
  have h1 : ∀ n : Nat, n < 2 ^ LIM → n.log2 ≤ LIM := fun n h => by
    by_cases h0 : n = 0
    · subst h0
      rw [Nat.log2_zero]
      exact Nat.zero_le _
    · exact Nat.le_of_lt ((Nat.log2_lt h0).mpr h)
  have h2 := h1 _ ha
  have h3 := h1 _ hb
  unfold CMulB
  unfold LIM at h2 h3
  omega
theorem fit_d {q : Rat} (h : Fit q) : ((q.den : Int)).natAbs < 2 ^ LIM := by
  rw [Int.natAbs_natCast]
  exact h.d
def spBin (K : PySem.W.Frag) (f : Rat → Rat → Rat) (ok : Rat → Rat → Prop) : Sp := fun vs H Q _ => ∃ v u p q, vs = [v, u] ∧ IsR K H v p ∧ IsR K H u q ∧ Fit p ∧ Fit q ∧ ok p q ∧ ∀ r H', Ex H H' → IsR K H' r (f p q) → Q r H'
def spNeg (K : PySem.W.Frag) : Sp := fun vs H Q _ => ∃ v p, vs = [v] ∧ IsR K H v p ∧ ∀ r H', Ex H H' → IsR K H' r (-p) → Q r H'
theorem len2 {K : PySem.W.Frag} {f : Rat → Rat → Rat} {ok : Rat → Rat → Prop} : ∀ vs H Q E, spBin K f ok vs H Q E → vs.length = 2 := fun vs H Q E h => by
  obtain ⟨v, u, p, q, rfl, _⟩ := h
  rfl
theorem sc_Ratio_add : FnScope ["self", "other"] ["self", "other"] (defScope s_Ratio_add) := ⟨rfl, rfl, rfl, by decide +kernel, rfl, by decide +kernel, by decide +kernel⟩
theorem m_Ratio_add (T : Txt K mg) (hN : base.NoSeer) : MDef PP w K mg base CX0 (CRt K) "__add__" (a_Ratio_add K) 43 ["self", "other"] (spBin K (· + ·) fun _ _ => True) := by
  obtain ⟨fd, F⟩ := T.d_Ratio_add
  refine ⟨⟨fd, ok0 F sc_Ratio_add len2 (fun cdv A outer s H vs Q E hr h => ?_), F.bindsN fun _ _ _ _ _ _ us hl => match us, hl with | [_, _], _ => rfl⟩, T.m_Ratio_add, T.c_Ratio⟩
  obtain ⟨_, _, p, q, rfl, ⟨a, da, rfl, ha⟩, ⟨b, db, rfl, hb⟩, fp, fq, _, k⟩ := h
  refine ⟨_, pss_one (ps_ret (pe_makeD (k_Ratio2 T hN) hr (pa_cons (pe_op op_add (pe_op op_mulB (pe_fld (pv 0) rfl) (pe_fld (pv 1) rfl)) (pe_op op_mulB (pe_fld (pv 1) rfl) (pe_fld (pv 0) rfl))) (pa_cons (pe_op op_mulB (pe_fld (pv 0) rfl) (pe_fld (pv 1) rfl)) pa_nil)))), ?_⟩
  refine ⟨_, rfl, a, CRt K, da, _, _, rfl, ha, T.c_Ratio, T.n_Ratio_top, rf_top _ _, _, rfl, b, CRt K, db, _, _, rfl, hb, T.c_Ratio, T.n_Ratio_bottom, rf_bot _ _, _, _, rfl, rfl, fit_mul fp.n (fit_d fq), ?_⟩
  refine ⟨_, rfl, b, CRt K, db, _, _, rfl, hb, T.c_Ratio, T.n_Ratio_top, rf_top _ _, _, rfl, a, CRt K, da, _, _, rfl, ha, T.c_Ratio, T.n_Ratio_bottom, rf_bot _ _, _, _, rfl, rfl, fit_mul fq.n (fit_d fp), _, _, rfl, rfl, ?_⟩
  refine ⟨_, rfl, a, CRt K, da, _, _, rfl, ha, T.c_Ratio, T.n_Ratio_bottom, rf_bot _ _, _, rfl, b, CRt K, db, _, _, rfl, hb, T.c_Ratio, T.n_Ratio_bottom, rf_bot _ _, _, _, rfl, rfl, fit_mul (fit_d fp) (fit_d fq), ?_⟩
  refine mkR (Int.mul_ne_zero (den_ne p) (den_ne q)) fun v H' e r => k v H' e ?_
  show IsR K H' v (p + q)
  rw [← mk_add]
  exact r
theorem sc_Ratio_sub : FnScope ["self", "other"] ["self", "other"] (defScope s_Ratio_sub) := ⟨rfl, rfl, rfl, by decide +kernel, rfl, by decide +kernel, by decide +kernel⟩
theorem m_Ratio_sub (T : Txt K mg) (hN : base.NoSeer) : MDef PP w K mg base CX0 (CRt K) "__sub__" (a_Ratio_sub K) 43 ["self", "other"] (spBin K (· - ·) fun _ _ => True) := by
  obtain ⟨fd, F⟩ := T.d_Ratio_sub
  refine ⟨⟨fd, ok0 F sc_Ratio_sub len2 (fun cdv A outer s H vs Q E hr h => ?_), F.bindsN fun _ _ _ _ _ _ us hl => match us, hl with | [_, _], _ => rfl⟩, T.m_Ratio_sub, T.c_Ratio⟩
  obtain ⟨_, _, p, q, rfl, ⟨a, da, rfl, ha⟩, ⟨b, db, rfl, hb⟩, fp, fq, _, k⟩ := h
  refine ⟨_, pss_one (ps_ret (pe_makeD (k_Ratio2 T hN) hr (pa_cons (pe_op op_sub (pe_op op_mulB (pe_fld (pv 0) rfl) (pe_fld (pv 1) rfl)) (pe_op op_mulB (pe_fld (pv 1) rfl) (pe_fld (pv 0) rfl))) (pa_cons (pe_op op_mulB (pe_fld (pv 0) rfl) (pe_fld (pv 1) rfl)) pa_nil)))), ?_⟩
  refine ⟨_, rfl, a, CRt K, da, _, _, rfl, ha, T.c_Ratio, T.n_Ratio_top, rf_top _ _, _, rfl, b, CRt K, db, _, _, rfl, hb, T.c_Ratio, T.n_Ratio_bottom, rf_bot _ _, _, _, rfl, rfl, fit_mul fp.n (fit_d fq), ?_⟩
  refine ⟨_, rfl, b, CRt K, db, _, _, rfl, hb, T.c_Ratio, T.n_Ratio_top, rf_top _ _, _, rfl, a, CRt K, da, _, _, rfl, ha, T.c_Ratio, T.n_Ratio_bottom, rf_bot _ _, _, _, rfl, rfl, fit_mul fq.n (fit_d fp), _, _, rfl, rfl, ?_⟩
  refine ⟨_, rfl, a, CRt K, da, _, _, rfl, ha, T.c_Ratio, T.n_Ratio_bottom, rf_bot _ _, _, rfl, b, CRt K, db, _, _, rfl, hb, T.c_Ratio, T.n_Ratio_bottom, rf_bot _ _, _, _, rfl, rfl, fit_mul (fit_d fp) (fit_d fq), ?_⟩
  refine mkR (Int.mul_ne_zero (den_ne p) (den_ne q)) fun v H' e r => k v H' e ?_
  show IsR K H' v (p - q)
  rw [← mk_sub]
  exact r
theorem sc_Ratio_mul : FnScope ["self", "other"] ["self", "other"] (defScope s_Ratio_mul) := ⟨rfl, rfl, rfl, by decide +kernel, rfl, by decide +kernel, by decide +kernel⟩
theorem m_Ratio_mul (T : Txt K mg) (hN : base.NoSeer) : MDef PP w K mg base CX0 (CRt K) "__mul__" (a_Ratio_mul K) 43 ["self", "other"] (spBin K (· * ·) fun _ _ => True) := by
  obtain ⟨fd, F⟩ := T.d_Ratio_mul
  refine ⟨⟨fd, ok0 F sc_Ratio_mul len2 (fun cdv A outer s H vs Q E hr h => ?_), F.bindsN fun _ _ _ _ _ _ us hl => match us, hl with | [_, _], _ => rfl⟩, T.m_Ratio_mul, T.c_Ratio⟩
  obtain ⟨_, _, p, q, rfl, ⟨a, da, rfl, ha⟩, ⟨b, db, rfl, hb⟩, fp, fq, _, k⟩ := h
  refine ⟨_, pss_one (ps_ret (pe_makeD (k_Ratio2 T hN) hr (pa_cons (pe_op op_mulB (pe_fld (pv 0) rfl) (pe_fld (pv 1) rfl)) (pa_cons (pe_op op_mulB (pe_fld (pv 0) rfl) (pe_fld (pv 1) rfl)) pa_nil)))), ?_⟩
  refine ⟨_, rfl, a, CRt K, da, _, _, rfl, ha, T.c_Ratio, T.n_Ratio_top, rf_top _ _, _, rfl, b, CRt K, db, _, _, rfl, hb, T.c_Ratio, T.n_Ratio_top, rf_top _ _, _, _, rfl, rfl, fit_mul fp.n fq.n, ?_⟩
  refine ⟨_, rfl, a, CRt K, da, _, _, rfl, ha, T.c_Ratio, T.n_Ratio_bottom, rf_bot _ _, _, rfl, b, CRt K, db, _, _, rfl, hb, T.c_Ratio, T.n_Ratio_bottom, rf_bot _ _, _, _, rfl, rfl, fit_mul (fit_d fp) (fit_d fq), ?_⟩
  refine mkR (Int.mul_ne_zero (den_ne p) (den_ne q)) fun v H' e r => k v H' e ?_
  show IsR K H' v (p * q)
  rw [← mk_mul]
  exact r
theorem sc_Ratio_neg : FnScope ["self"] ["self"] (defScope s_Ratio_neg) := ⟨rfl, rfl, rfl, by decide +kernel, rfl, by decide +kernel, by decide +kernel⟩
theorem m_Ratio_neg (T : Txt K mg) (hN : base.NoSeer) : MDef PP w K mg base CX0 (CRt K) "__neg__" (a_Ratio_neg K) 43 ["self"] (spNeg K) := by
  obtain ⟨fd, F⟩ := T.d_Ratio_neg
  refine ⟨⟨fd, ok0 F sc_Ratio_neg (fun vs H Q E h => ?_) (fun cdv A outer s H vs Q E hr h => ?_), F.bindsN fun _ _ _ _ _ _ us hl => match us, hl with | [_], _ => rfl⟩, T.m_Ratio_neg, T.c_Ratio⟩
  · obtain ⟨v, p, rfl, _⟩ := h
    rfl
  obtain ⟨_, p, rfl, ⟨a, da, rfl, ha⟩, k⟩ := h
  refine ⟨_, pss_one (ps_ret (pe_makeD (k_Ratio2 T hN) hr (pa_cons (pe_un un_neg (pe_fld (pv 0) rfl)) (pa_cons (pe_fld (pv 0) rfl) pa_nil)))), ?_⟩
  refine ⟨_, rfl, a, CRt K, da, _, _, rfl, ha, T.c_Ratio, T.n_Ratio_top, rf_top _ _, _, rfl, _, rfl, a, CRt K, da, _, _, rfl, ha, T.c_Ratio, T.n_Ratio_bottom, rf_bot _ _, ?_⟩
  refine mkR (den_ne p) fun v H' e r => k v H' e ?_
  rw [← mk_neg]
  exact r
theorem sc_Ratio_over : FnScope ["self", "other"] ["self", "other"] (defScope s_Ratio_over) := ⟨rfl, rfl, rfl, by decide +kernel, rfl, by decide +kernel, by decide +kernel⟩
theorem m_Ratio_over (T : Txt K mg) (hN : base.NoSeer) : MDef PP w K mg base CX0 (CRt K) "over" (a_Ratio_over K) 43 ["self", "other"] (spBin K (· / ·) fun _ q => q ≠ 0) := by
  obtain ⟨fd, F⟩ := T.d_Ratio_over
  refine ⟨⟨fd, ok0 F sc_Ratio_over len2 (fun cdv A outer s H vs Q E hr h => ?_), F.bindsN fun _ _ _ _ _ _ us hl => match us, hl with | [_, _], _ => rfl⟩, T.m_Ratio_over, T.c_Ratio⟩
  obtain ⟨_, _, p, q, rfl, ⟨a, da, rfl, ha⟩, ⟨b, db, rfl, hb⟩, fp, fq, hq, k⟩ := h
  refine ⟨_, pss_one (ps_ret (pe_makeD (k_Ratio2 T hN) hr (pa_cons (pe_op op_mulB (pe_fld (pv 0) rfl) (pe_fld (pv 1) rfl)) (pa_cons (pe_op op_mulB (pe_fld (pv 0) rfl) (pe_fld (pv 1) rfl)) pa_nil)))), ?_⟩
  refine ⟨_, rfl, a, CRt K, da, _, _, rfl, ha, T.c_Ratio, T.n_Ratio_top, rf_top _ _, _, rfl, b, CRt K, db, _, _, rfl, hb, T.c_Ratio, T.n_Ratio_bottom, rf_bot _ _, _, _, rfl, rfl, fit_mul fp.n (fit_d fq), ?_⟩
  refine ⟨_, rfl, a, CRt K, da, _, _, rfl, ha, T.c_Ratio, T.n_Ratio_bottom, rf_bot _ _, _, rfl, b, CRt K, db, _, _, rfl, hb, T.c_Ratio, T.n_Ratio_top, rf_top _ _, _, _, rfl, rfl, fit_mul (fit_d fp) fq.n, ?_⟩
  refine mkR (over_ne hq) fun v H' e r => k v H' e ?_
  show IsR K H' v (p / q)
  rw [← mk_over]
  exact r
/-- ==, where the two are equal -/
def REq (K : PySem.W.Frag) (a b : Addr) (H : Hp) : Prop := ∃ q, IsR K H (.ref a) q ∧ IsR K H (.ref b) q
theorem sc_Ratio_eq : FnScope ["self", "other"] ["self", "other"] (defScope s_Ratio_eq) := ⟨rfl, rfl, rfl, by decide +kernel, rfl, by decide +kernel, by decide +kernel⟩
theorem insC (T : Txt K mg) : C8.InsC K (CRt K) := by
  obtain ⟨e1, e⟩ := He.ba T.isC
  obtain ⟨e2, e⟩ := He.ba e
  obtain ⟨e3, e⟩ := He.ba e
  obtain ⟨e4, e5⟩ := He.ba e
  exact ⟨T.c_Ratio, He.eqO_ok e1, He.eqO_ok e2, of_decide_eq_true e3, of_decide_eq_true e4, of_decide_eq_true e5⟩
theorem boot_isi : bootBuiltins "isinstance" = some (.builtin "isinstance") := by decide +kernel
theorem m_Ratio_eq (T : Txt K mg) : MDef PP w K mg base CX0 (CRt K) "__eq__" (a_Ratio_eq K) 1 ["self", "other"] (spEq (REq K)) := by
  obtain ⟨fd, F⟩ := T.d_Ratio_eq
  refine ⟨⟨fd, ok0 F sc_Ratio_eq (fun vs H Q E h => ?_) (fun cdv A outer s H vs Q E hr h => ?_), F.bindsN fun _ _ _ _ _ _ us hl => match us, hl with | [_, _], _ => rfl⟩, T.m_Ratio_eq, T.c_Ratio⟩
  · obtain ⟨a, b, rfl, _⟩ := h
    rfl
  obtain ⟨a, b, rfl, ⟨q, ⟨a', da, e1, ha⟩, ⟨b', db, e2, hb⟩⟩, k⟩ := h
  cases e1
  cases e2
  refine ⟨_, pss_one (ps_ret (pe_and (pe_callB (C8.call_isC (insC T)) (by rfl) T.f_isinstance boot_isi (pa_cons (pv 1) (pa_cons (pe_glob (v := .ref (CRt K)) rfl T.g_Ratio rfl) pa_nil)))
    (pe_and (pe_cmpR op_eq (pe_fld (pv 0) rfl) (pe_fld (pv 1) rfl) (nomark _)) (pe_one (pe_cmpR op_eq (pe_fld (pv 0) rfl) (pe_fld (pv 1) rfl) (nomark _)))))), ?_⟩
  refine ⟨_, rfl, b, db, _, rfl, hb, true, rfl, iteT ?_⟩
  refine ⟨_, rfl, a, CRt K, da, _, _, rfl, ha, T.c_Ratio, T.n_Ratio_top, rf_top _ _, _, rfl, b, CRt K, db, _, _, rfl, hb, T.c_Ratio, T.n_Ratio_top, rf_top _ _, rfl, _, rfl, ?_⟩
  rw [decide_eq_true rfl]
  refine iteT ?_
  refine ⟨_, rfl, a, CRt K, da, _, _, rfl, ha, T.c_Ratio, T.n_Ratio_bottom, rf_bot _ _, _, rfl, b, CRt K, db, _, _, rfl, hb, T.c_Ratio, T.n_Ratio_bottom, rf_bot _ _, rfl, ?_⟩
  show Q (.bl (decide (V.int (q.den : Int) = V.int (q.den : Int)))) H
  rw [decide_eq_true rfl]
  exact k H (Ex.refl H)
/-- a + b, a - b, a * b, -a of fractions -/
def rBin (K : PySem.W.Frag) (f : Rat → Rat → Rat) : R2 := fun x y H Q => ∃ p q, IsR K H x p ∧ IsR K H y q ∧ Fit p ∧ Fit q ∧ ∀ r H', Ex H H' → IsR K H' r (f p q) → Q r H'
theorem op_R {X : Cx} {op : Operator} {f : Rat → Rat → Rat} {a : Addr} {ps : List Str} (D : MDef X.prog X.w X.K X.mg X.base CX0 (CRt X.K) (PySem.dunder op.info.2) a 43 ps (spBin X.K f fun _ _ => True)) (hr : Room 43 X.A) (sf : PySem.W.selfFirst X.K (CRt X.K) = true) : OpR X (binaryOp op) (rBin X.K f) := by
  intro pins s σ H x y v u Q I rx ry h
  obtain ⟨p, q, ⟨a, da, rfl, ha⟩, ⟨b, db, rfl, hb⟩, fp, fq, k⟩ := h
  exact op_ownD D hr sf pins s σ H _ _ v u Q I rx ry ⟨a, b, da, db, _, _, rfl, rfl, ha, hb, _, _, p, q, rfl, ⟨a, da, rfl, ha⟩, ⟨b, db, rfl, hb⟩, fp, fq, trivial, fun r H' e h => ⟨let ⟨c, _, z, _⟩ := h; ⟨c, z⟩, k r H' e h⟩⟩
def rNeg1 (K : PySem.W.Frag) : V → Hp → VK → Prop := fun x H Q => ∃ p, IsR K H x p ∧ ∀ r H', Ex H H' → IsR K H' r (-p) → Q r H'
theorem un_R {X : Cx} {a : Addr} {ps : List Str} (D : MDef X.prog X.w X.K X.mg X.base CX0 (CRt X.K) "__neg__" a 43 ps (spNeg X.K)) (hr : Room 43 X.A) : UnR X (unaryOp .USub) (rNeg1 X.K) := by
  intro pins s σ H x v Q I rx h
  obtain ⟨p, ⟨a, da, rfl, ha⟩, k⟩ := h
  exact un_ownD D hr pins s σ H _ v Q I rx ⟨a, da, _, rfl, ha, _, p, rfl, ⟨a, da, rfl, ha⟩, k⟩
/-- Ratio(t, b), Ratio(n), anywhere: behind intro x dx nx nd ne -/
theorem mkR' {K : PySem.W.Frag} {H : Hp} {t b : Int} {x dx : Addr} {Qe : VK} (hb : b ≠ 0) (nx : H x = none) (nd : H dx = none) (ne : dx ≠ x) (q : ∀ H', Ex H H' → IsR K H' (.ref x) (Rat.divInt t b) → Qe .non H') :
    spRInit K [.ref x, .int t, .int b] (upd (upd H dx (.own x)) x (.ins (CRt K) dx [])) Qe E0 := by
  refine ⟨x, dx, t, b, rfl, hb, upd_same, ?_⟩
  rw [upd_upd]
  refine q _ (((Ex.refl H).new nd).new ?_) ⟨x, dx, rfl, upd_same⟩
  rw [upd_ne (Ne.symm ne)]
  exact nx
theorem mkI' {K : PySem.W.Frag} {H : Hp} {n : Int} {x dx : Addr} {Qe : VK} (nx : H x = none) (nd : H dx = none) (ne : dx ≠ x) (q : ∀ H', Ex H H' → IsR K H' (.ref x) (n : Rat) → Qe .non H') :
    spRInit K [.ref x, .int n, .int 1] (upd (upd H dx (.own x)) x (.ins (CRt K) dx [])) Qe E0 :=
  mkR' (by decide) nx nd ne fun H' e r => q H' e (by rw [← mk_int]; exact r)
theorem mk1' {K : PySem.W.Frag} {H : Hp} {x dx : Addr} {Qe : VK} (nx : H x = none) (nd : H dx = none) (ne : dx ≠ x) (q : ∀ H', Ex H H' → IsR K H' (.ref x) 1 → Qe .non H') :
    spRInit K [.ref x, .int 1, .int 1] (upd (upd H dx (.own x)) x (.ins (CRt K) dx [])) Qe E0 := mkI' nx nd ne fun H' e r => q H' e (by rw [← Rat.intCast_one]; exact r)
theorem mk0' {K : PySem.W.Frag} {H : Hp} {x dx : Addr} {Qe : VK} (nx : H x = none) (nd : H dx = none) (ne : dx ≠ x) (q : ∀ H', Ex H H' → IsR K H' (.ref x) 0 → Qe .non H') :
    spRInit K [.ref x, .int 0, .int 1] (upd (upd H dx (.own x)) x (.ins (CRt K) dx [])) Qe E0 := mkI' nx nd ne fun H' e r => q H' e (by rw [← Rat.intCast_zero]; exact r)
theorem mkm1' {K : PySem.W.Frag} {H : Hp} {x dx : Addr} {Qe : VK} (nx : H x = none) (nd : H dx = none) (ne : dx ≠ x) (q : ∀ H', Ex H H' → IsR K H' (.ref x) (-1) → Qe .non H') :
    spRInit K [.ref x, .int (-1), .int 1] (upd (upd H dx (.own x)) x (.ins (CRt K) dx [])) Qe E0 := mkI' nx nd ne fun H' e r => q H' e (by
  have z : ((-1 : Int) : Rat) = -1 := by rw [Rat.intCast_neg, Rat.intCast_one]
  rw [← z]; exact r)
theorem no_over (t b : Int) : (rf t b).lookup ("over" : Str) = none := rf_no _ _ (by decide +kernel) (by decide +kernel)
end
end Pn
set_option maxHeartbeats 4000000
/-! vectors and matrices -/
namespace Pn
open PySem PySem.Spec PyProof.Rows L2
section
variable {w : World} {K : PySem.W.Frag} {mg : Str → Option Value} {base : Heap}
theorem oAdd {X : Cx} (D : MDef X.prog X.w X.K X.mg X.base CX0 (CRt X.K) "__add__" (a_Ratio_add X.K) 43 ["self", "other"] (spBin X.K (· + ·) fun _ _ => True)) (T : Txt X.K X.mg) (hr : Room 43 X.A) : OpR X (binaryOp .Add) (rBin X.K (· + ·)) := op_R (op := .Add) D hr T.exl.2
theorem oSub {X : Cx} (D : MDef X.prog X.w X.K X.mg X.base CX0 (CRt X.K) "__sub__" (a_Ratio_sub X.K) 43 ["self", "other"] (spBin X.K (· - ·) fun _ _ => True)) (T : Txt X.K X.mg) (hr : Room 43 X.A) : OpR X (binaryOp .Sub) (rBin X.K (· - ·)) := op_R (op := .Sub) D hr T.exl.2
theorem oMul {X : Cx} (D : MDef X.prog X.w X.K X.mg X.base CX0 (CRt X.K) "__mul__" (a_Ratio_mul X.K) 43 ["self", "other"] (spBin X.K (· * ·) fun _ _ => True)) (T : Txt X.K X.mg) (hr : Room 43 X.A) : OpR X (binaryOp .Mult) (rBin X.K (· * ·)) := op_R (op := .Mult) D hr T.exl.2

def spDot (K : PySem.W.Frag) : Sp := fun vs H Q _ => ∃ v u x y, vs = [v, u] ∧ IsV K H v x ∧ IsV K H u y ∧ FDot x y ∧ ∀ r H', Ex H H' → IsR K H' r (dotM x y) → Q r H'
theorem sc_dot : FnScope ["a", "b", "total", "x", "y"] ["a", "b"] (defScope s_dot) := ⟨rfl, rfl, rfl, by decide +kernel, rfl, by decide +kernel, by decide +kernel⟩
theorem d_dot_ok (T : Txt K mg) (hN : base.NoSeer) : Def PP w K mg base CX0 "dot" (a_dot K) 44 ["a", "b"] (spDot K) := by
  obtain ⟨fd, F⟩ := T.d_dot
  refine ⟨⟨fd, ok0 F sc_dot (fun vs H Q E h => ?_) (fun cdv A outer s H vs Q E hr h => ?_), F.bindsN fun _ _ _ _ _ _ us hl => match us, hl with | [_, _], _ => rfl⟩, T.g_dot, F.kp⟩
  · obtain ⟨v, u, x, y, rfl, _⟩ := h
    rfl
  obtain ⟨_, _, x, y, rfl, ⟨a, va, rfl, ha, la⟩, ⟨b, vb, rfl, hb, lb⟩, hF, k⟩ := h
  have nd := sc_dot.nd
  refine ⟨_, pss_cons (ps_set (i := 2) nd rfl (Or.inl rfl) (pe_makeD (k_Ratio1 T hN) (hr.mono (by decide)) (pa_cons pe_int pa_nil)))
    (pss_cons (ps_for PassesOwn.never rfl (RZ.pi_zipA (by rfl) T.f_zip (pa_cons (pv 0) (pa_cons (pv 1) pa_nil))) (pg_tup rfl (pgs_cons (pg_name (i := 3) nd rfl (Or.inl rfl)) (pgs_cons (pg_name (i := 4) nd rfl (Or.inl rfl)) pgs_nil)))
      (pss_one (ps_set (i := 2) nd rfl (Or.inl rfl) (pe_op (oAdd (m_Ratio_add T hN) T hr) (pv 2) (pe_op (oMul (m_Ratio_mul T hN) T hr) (pv 3) (pv 4))))))
    (pss_one (ps_ret (pv 2)))), ?_⟩
  intro x0 dx0 nx0 nd0 ne0
  refine mkI' nx0 nd0 ne0 fun H1 e1 r0 => ⟨rfl, ?_⟩
  replace r0 : IsR K H1 (.ref x0) ((0 : Int) : Rat) := r0
  rw [Rat.intCast_zero] at r0
  refine ⟨_, rfl, _, rfl, a, b, va, vb, rfl, .inr ⟨SqT.of' (e1 _ _ ha), SqT.of' (e1 _ _ hb), for_it (walk_zipT rfl) (fun i σ H' => Ex H H' ∧ ∃ tv o3 o4, σ = [some (.ref a), some (.ref b), some tv, o3, o4] ∧ IsR K H' tv (dotM (x.take i) (y.take i)))
    ⟨e1, _, none, none, rfl, r0⟩ (fun i σ H' _ p => ⟨SqT.of' (p.1 _ _ ha), SqT.of' (p.1 _ _ hb)⟩) ?_ ?_⟩⟩
  · rintro i z σ H2 H3 hi ⟨e, tv, o3, o4, rfl, rt⟩ ⟨Tp, vx, vy, rfl, hT, rfl, hx, hy⟩
    have e3 : Ex H2 (upd H2 Tp (.tup [vx, vy])) := (Ex.refl _).new hT
    obtain ⟨p, hp, rp⟩ := la.get hx
    obtain ⟨q, hq, rq⟩ := lb.get hy
    obtain ⟨f1, f2, f3, f4⟩ := hF i p q hp hq
    refine ⟨Tp, _, rfl, SqT.of' upd_same, rfl, _, _, rfl, _, _, rfl, rfl, ?_⟩
    refine ⟨_, rfl, _, rfl, _, rfl, p, q, rp.ex (e.trans e3), rq.ex (e.trans e3), f1, f2, fun r4 H4 e4 h4 => ?_⟩
    refine ⟨_, _, rt.ex (e3.trans e4), h4, f4, f3, fun r5 H5 e5 h5 => ?_⟩
    refine ⟨e.trans (e3.trans (e4.trans e5)), r5, _, _, rfl, ?_⟩
    rw [dotM_take hp hq]
    exact h5
  · rintro σ H2 ⟨e, tv, o3, o4, rfl, rt⟩
    rw [dotM_all (by rw [la.len, lb.len])] at rt
    exact ⟨_, rfl, k _ _ e rt⟩
def spScale (K : PySem.W.Frag) : Sp := fun vs H Q _ => ∃ v u f x, vs = [v, u] ∧ IsR K H v f ∧ IsV K H u x ∧ Fit f ∧ FAll x ∧ x.length ≤ 1000 ∧ ∀ r H', Ex H H' → IsV K H' r (scaleM f x) → Q r H'
theorem sc_scale : FnScope ["factor", "a", "x"] ["factor", "a"] (defScope s_scale) := ⟨rfl, rfl, rfl, by decide +kernel, rfl, by decide +kernel, by decide +kernel⟩
theorem d_scale_ok (T : Txt K mg) (hN : base.NoSeer) : Def PP w K mg base CX0 "scale" (a_scale K) 44 ["factor", "a"] (spScale K) := by
  obtain ⟨fd, F⟩ := T.d_scale
  refine ⟨⟨fd, ok0 F sc_scale (fun vs H Q E h => ?_) (fun cdv A outer s H vs Q E hr h => ?_), F.bindsN fun _ _ _ _ _ _ us hl => match us, hl with | [_, _], _ => rfl⟩, T.g_scale, F.kp⟩
  · obtain ⟨v, u, x, y, rfl, _⟩ := h
    rfl
  obtain ⟨vf, _, f, x, rfl, rf0, ⟨a, va, rfl, ha, la⟩, hf, hx, hl, k⟩ := h
  have nd := sc_scale.nd
  refine ⟨_, pss_one (ps_ret (pe_callTy call_tuple_of (by rfl) T.f_tuple boot_tuple (pa_cons (pe_lc (own := [("x", 2)]) (g := gName 2) (tt := tYes) (te := tOp (rBin K (· * ·)) (tVar 0) (tVar 2)) rfl nd (pi_tup (pv 1)) (blkOk_by (N := ["factor", "a", "x"]) (sc := defScope s_scale) (by decide +kernel))
    (fun _ _ _ _ _ => pg_name (i := 2) nd rfl (Or.inl rfl)) (fun _ _ _ _ _ => pts_nil) (fun _ _ _ _ _ => pe_op (oMul (m_Ratio_mul T hN) T hr) (pv 0) (pv 2))) pa_nil))), ?_⟩
  refine ⟨_, rfl, a, rfl, ⟨_, SqT.of' ha⟩, fun D hD => ?_⟩
  refine lc_al (K := K) (walk_tup (xs := va)) stayR (scaleM f x) (by rw [la.len]; unfold scaleM; rw [List.length_map]) (by rw [la.len]; omega) hD (fun H e => SqT.of' (e _ _ ha)) yat_ex ?_ ?_
  · rintro i z y H1 H2 hi hy e1 ⟨rfl, hz⟩ Rk kk
    obtain ⟨p, hp, rp⟩ := la.get hz
    have ey : y = f * p := by
      unfold scaleM at hy
      rw [List.getElem?_map, hp] at hy
      exact (Option.some.inj hy).symm
    subst ey
    exact ⟨rfl, _, rfl, _, rfl, f, p, rf0.ex e1, rp.ex e1, hf, hx _ (List.mem_of_getElem? hp), kk⟩
  · intro H1 acc e1 h1 hal
    refine tup_of h1 fun l hl => k _ _ (e1.new hl) ⟨l, acc, rfl, upd_same, hal.imp fun v q r => r.kp (Kp.refl.new hl)⟩
def sp_plus (K : PySem.W.Frag) : Sp := fun vs H Q _ => ∃ v u x y, vs = [v, u] ∧ IsV K H v x ∧ IsV K H u y ∧ FAll x ∧ FAll y ∧ x.length ≤ 1000 ∧ ∀ r H', Ex H H' → IsV K H' r (plusM x y) → Q r H'
theorem sc_plus : FnScope ["a", "b", "x", "y"] ["a", "b"] (defScope s_plus) := ⟨rfl, rfl, rfl, by decide +kernel, rfl, by decide +kernel, by decide +kernel⟩
theorem d_plus_ok (T : Txt K mg) (hN : base.NoSeer) : Def PP w K mg base CX0 "plus" (a_plus K) 44 ["a", "b"] (sp_plus K) := by
  obtain ⟨fd, F⟩ := T.d_plus
  refine ⟨⟨fd, ok0 F sc_plus (fun vs H Q E h => ?_) (fun cdv A outer s H vs Q E hr h => ?_), F.bindsN fun _ _ _ _ _ _ us hl => match us, hl with | [_, _], _ => rfl⟩, T.g_plus, F.kp⟩
  · obtain ⟨v, u, x, y, rfl, _⟩ := h
    rfl
  obtain ⟨_, _, x, y, rfl, ⟨a, va, rfl, ha, la⟩, ⟨b, vb, rfl, hb, lb⟩, hx0, hy1, hl, k⟩ := h
  have nd := sc_plus.nd
  refine ⟨_, pss_one (ps_ret (pe_callTy call_tuple_of (by rfl) T.f_tuple boot_tuple (pa_cons (pe_lc (own := [("x", 2), ("y", 3)]) (g := gTup K 2 (gCons (gName 2) (gCons (gName 3) gNil))) (tt := tYes) (te := tOp (rBin K (· + ·)) (tVar 2) (tVar 3)) rfl nd (RZ.pi_zipA (by rfl) T.f_zip (pa_cons (pv 0) (pa_cons (pv 1) pa_nil))) (blkOk_by (N := ["a", "b", "x", "y"]) (sc := defScope s_plus) (by decide +kernel))
    (fun _ _ _ _ _ => pg_tup rfl (pgs_cons (pg_name (i := 2) nd rfl (Or.inl rfl)) (pgs_cons (pg_name (i := 3) nd rfl (Or.inl rfl)) pgs_nil))) (fun _ _ _ _ _ => pts_nil) (fun _ _ _ _ _ => pe_op (oAdd (m_Ratio_add T hN) T hr) (pv 2) (pv 3))) pa_nil))), ?_⟩
  refine ⟨_, rfl, _, rfl, a, b, va, vb, rfl, .inr ⟨SqT.of' ha, SqT.of' hb, fun D hD => ?_⟩⟩
  refine lc_al (K := K) (walk_zipT (xs := va) (ys := vb) rfl) stayR (plusM x y) (by rw [la.len, lb.len]; unfold plusM; rw [List.length_zipWith]) (by rw [la.len, lb.len]; omega) hD (fun H e => ⟨SqT.of' (e _ _ ha), SqT.of' (e _ _ hb)⟩) ypair_ex ?_ ?_
  · rintro i z y1 H1 H2 hi hy0 e1 ⟨Tp, vx, vy, rfl, hT, rfl, hx, hy⟩ Rk kk
    have e3 : Ex H1 (upd H1 Tp (.tup [vx, vy])) := (Ex.refl _).new hT
    obtain ⟨p, hp, rp⟩ := la.get hx
    obtain ⟨q, hq, rq⟩ := lb.get hy
    have ey : y1 = p + q := by
      unfold plusM at hy0
      rw [List.getElem?_zipWith, hp, hq] at hy0
      exact (Option.some.inj hy0).symm
    subst ey
    exact ⟨Tp, _, rfl, SqT.of' upd_same, rfl, _, _, rfl, _, _, rfl, rfl, rfl, _, rfl, _, rfl, p, q, rp.ex (e1.trans e3), rq.ex (e1.trans e3), hx0 _ (List.mem_of_getElem? hp), hy1 _ (List.mem_of_getElem? hq), kk⟩
  · intro H1 acc e1 h1 hal
    refine tup_of h1 fun l hl => k _ _ (e1.new hl) ⟨l, acc, rfl, upd_same, hal.imp fun v q r => r.kp (Kp.refl.new hl)⟩

def sp_minus (K : PySem.W.Frag) : Sp := fun vs H Q _ => ∃ v u x y, vs = [v, u] ∧ IsV K H v x ∧ IsV K H u y ∧ FAll x ∧ FAll y ∧ x.length ≤ 1000 ∧ ∀ r H', Ex H H' → IsV K H' r (minusM x y) → Q r H'
theorem sc_minus : FnScope ["a", "b", "x", "y"] ["a", "b"] (defScope s_minus) := ⟨rfl, rfl, rfl, by decide +kernel, rfl, by decide +kernel, by decide +kernel⟩
theorem d_minus_ok (T : Txt K mg) (hN : base.NoSeer) : Def PP w K mg base CX0 "minus" (a_minus K) 44 ["a", "b"] (sp_minus K) := by
  obtain ⟨fd, F⟩ := T.d_minus
  refine ⟨⟨fd, ok0 F sc_minus (fun vs H Q E h => ?_) (fun cdv A outer s H vs Q E hr h => ?_), F.bindsN fun _ _ _ _ _ _ us hl => match us, hl with | [_, _], _ => rfl⟩, T.g_minus, F.kp⟩
  · obtain ⟨v, u, x, y, rfl, _⟩ := h
    rfl
  obtain ⟨_, _, x, y, rfl, ⟨a, va, rfl, ha, la⟩, ⟨b, vb, rfl, hb, lb⟩, hx0, hy1, hl, k⟩ := h
  have nd := sc_minus.nd
  refine ⟨_, pss_one (ps_ret (pe_callTy call_tuple_of (by rfl) T.f_tuple boot_tuple (pa_cons (pe_lc (own := [("x", 2), ("y", 3)]) (g := gTup K 2 (gCons (gName 2) (gCons (gName 3) gNil))) (tt := tYes) (te := tOp (rBin K (· - ·)) (tVar 2) (tVar 3)) rfl nd (RZ.pi_zipA (by rfl) T.f_zip (pa_cons (pv 0) (pa_cons (pv 1) pa_nil))) (blkOk_by (N := ["a", "b", "x", "y"]) (sc := defScope s_minus) (by decide +kernel))
    (fun _ _ _ _ _ => pg_tup rfl (pgs_cons (pg_name (i := 2) nd rfl (Or.inl rfl)) (pgs_cons (pg_name (i := 3) nd rfl (Or.inl rfl)) pgs_nil))) (fun _ _ _ _ _ => pts_nil) (fun _ _ _ _ _ => pe_op (oSub (m_Ratio_sub T hN) T hr) (pv 2) (pv 3))) pa_nil))), ?_⟩
  refine ⟨_, rfl, _, rfl, a, b, va, vb, rfl, .inr ⟨SqT.of' ha, SqT.of' hb, fun D hD => ?_⟩⟩
  refine lc_al (K := K) (walk_zipT (xs := va) (ys := vb) rfl) stayR (minusM x y) (by rw [la.len, lb.len]; unfold minusM; rw [List.length_zipWith]) (by rw [la.len, lb.len]; omega) hD (fun H e => ⟨SqT.of' (e _ _ ha), SqT.of' (e _ _ hb)⟩) ypair_ex ?_ ?_
  · rintro i z y1 H1 H2 hi hy0 e1 ⟨Tp, vx, vy, rfl, hT, rfl, hx, hy⟩ Rk kk
    have e3 : Ex H1 (upd H1 Tp (.tup [vx, vy])) := (Ex.refl _).new hT
    obtain ⟨p, hp, rp⟩ := la.get hx
    obtain ⟨q, hq, rq⟩ := lb.get hy
    have ey : y1 = p - q := by
      unfold minusM at hy0
      rw [List.getElem?_zipWith, hp, hq] at hy0
      exact (Option.some.inj hy0).symm
    subst ey
    exact ⟨Tp, _, rfl, SqT.of' upd_same, rfl, _, _, rfl, _, _, rfl, rfl, rfl, _, rfl, _, rfl, p, q, rp.ex (e1.trans e3), rq.ex (e1.trans e3), hx0 _ (List.mem_of_getElem? hp), hy1 _ (List.mem_of_getElem? hq), kk⟩
  · intro H1 acc e1 h1 hal
    refine tup_of h1 fun l hl => k _ _ (e1.new hl) ⟨l, acc, rfl, upd_same, hal.imp fun v q r => r.kp (Kp.refl.new hl)⟩

def sp_apply (K : PySem.W.Frag) : Sp := fun vs H Q _ => ∃ v u m x, vs = [v, u] ∧ IsM K H v m ∧ IsV K H u x ∧ FApply m x ∧ m.length ≤ 1000 ∧ ∀ r H', Ex H H' → IsV K H' r (applyM m x) → Q r H'
theorem sc_apply : FnScope ["matrix", "vector", "row"] ["matrix", "vector"] (defScope s_apply) := ⟨rfl, rfl, rfl, by decide +kernel, rfl, by decide +kernel, by decide +kernel⟩
theorem d_apply_ok (T : Txt K mg) (hN : base.NoSeer) : Def PP w K mg base CX0 "apply" (a_apply K) 45 ["matrix", "vector"] (sp_apply K) := by
  obtain ⟨fd, F⟩ := T.d_apply
  refine ⟨⟨fd, ok0 F sc_apply (fun vs H Q E h => ?_) (fun cdv A outer s H vs Q E hr h => ?_), F.bindsN fun _ _ _ _ _ _ us hl => match us, hl with | [_, _], _ => rfl⟩, T.g_apply, F.kp⟩
  · obtain ⟨v, u, m, x, rfl, _⟩ := h
    rfl
  obtain ⟨_, vu, m, x, rfl, ⟨a, va, rfl, ha, la⟩, hv, hF, hl, k⟩ := h
  have nd := sc_apply.nd
  refine ⟨_, pss_one (ps_ret (pe_callTy call_tuple_of (by rfl) T.f_tuple boot_tuple (pa_cons (pe_lc (own := [("row", 2)]) (g := gName 2) (tt := tYes) (te := tCall (spDot K) [] E0 (tCons (tVar 2) (tCons (tVar 1) tNil))) rfl nd (pi_tup (pv 0)) (blkOk_by (N := ["matrix", "vector", "row"]) (sc := defScope s_apply) (by decide +kernel))
    (fun _ _ _ _ _ => pg_name (i := 2) nd rfl (Or.inl rfl)) (fun _ _ _ _ _ => pts_nil) (fun _ _ _ _ _ => pe_callD (d_dot_ok T hN) hr (pa_cons (pv 2) (pa_cons (pv 1) pa_nil)))) pa_nil))), ?_⟩
  refine ⟨_, rfl, a, rfl, ⟨_, SqT.of' ha⟩, fun D hD => ?_⟩
  refine lc_al (K := K) (walk_tup (xs := va)) stayR (applyM m x) (by rw [la.len]; unfold applyM; rw [List.length_map]) (by rw [la.len]; omega) hD (fun H e => SqT.of' (e _ _ ha)) yat_ex ?_ ?_
  · rintro i z y H1 H2 hi hy0 e1 ⟨rfl, hz⟩ Rk kk
    obtain ⟨p, hp, rp⟩ := la.get hz
    have ey : y = dotM p x := by
      unfold applyM at hy0
      rw [List.getElem?_map, hp] at hy0
      exact (Option.some.inj hy0).symm
    subst ey
    exact ⟨rfl, _, rfl, _, rfl, _, _, p, x, rfl, rp.ex e1, hv.ex e1, hF _ (List.mem_of_getElem? hp), kk⟩
  · intro H1 acc e1 h1 hal
    refine tup_of h1 fun l hl => k _ _ (e1.new hl) ⟨l, acc, rfl, upd_same, hal.imp fun v q r => r.kp (Kp.refl.new hl)⟩

def sp_outer (K : PySem.W.Frag) : Sp := fun vs H Q _ => ∃ v u m x, vs = [v, u] ∧ IsV K H v m ∧ IsV K H u x ∧ FAll m ∧ FAll x ∧ m.length ≤ 1000 ∧ x.length ≤ 1000 ∧ ∀ r H', Ex H H' → IsM K H' r (outerM m x) → Q r H'
theorem sc_outer : FnScope ["a", "b", "x"] ["a", "b"] (defScope s_outer) := ⟨rfl, rfl, rfl, by decide +kernel, rfl, by decide +kernel, by decide +kernel⟩
theorem d_outer_ok (T : Txt K mg) (hN : base.NoSeer) : Def PP w K mg base CX0 "outer" (a_outer K) 45 ["a", "b"] (sp_outer K) := by
  obtain ⟨fd, F⟩ := T.d_outer
  refine ⟨⟨fd, ok0 F sc_outer (fun vs H Q E h => ?_) (fun cdv A outer s H vs Q E hr h => ?_), F.bindsN fun _ _ _ _ _ _ us hl => match us, hl with | [_, _], _ => rfl⟩, T.g_outer, F.kp⟩
  · obtain ⟨v, u, m, x, rfl, _⟩ := h
    rfl
  obtain ⟨_, vu, m, x, rfl, ⟨a, va, rfl, ha, la⟩, hv, hF, hx, hl, hl2, k⟩ := h
  have nd := sc_outer.nd
  refine ⟨_, pss_one (ps_ret (pe_callTy call_tuple_of (by rfl) T.f_tuple boot_tuple (pa_cons (pe_lc (own := [("x", 2)]) (g := gName 2) (tt := tYes) (te := tCall (spScale K) [] E0 (tCons (tVar 2) (tCons (tVar 1) tNil))) rfl nd (pi_tup (pv 0)) (blkOk_by (N := ["a", "b", "x"]) (sc := defScope s_outer) (by decide +kernel))
    (fun _ _ _ _ _ => pg_name (i := 2) nd rfl (Or.inl rfl)) (fun _ _ _ _ _ => pts_nil) (fun _ _ _ _ _ => pe_callD (d_scale_ok T hN) hr (pa_cons (pv 2) (pa_cons (pv 1) pa_nil)))) pa_nil))), ?_⟩
  refine ⟨_, rfl, a, rfl, ⟨_, SqT.of' ha⟩, fun D hD => ?_⟩
  refine lc_al (K := K) (walk_tup (xs := va)) stayV (outerM m x) (by rw [la.len]; unfold outerM; rw [List.length_map]) (by rw [la.len]; omega) hD (fun H e => SqT.of' (e _ _ ha)) yat_ex ?_ ?_
  · rintro i z y H1 H2 hi hy0 e1 ⟨rfl, hz⟩ Rk kk
    obtain ⟨p, hp, rp⟩ := la.get hz
    have ey : y = scaleM p x := by
      unfold outerM at hy0
      rw [List.getElem?_map, hp] at hy0
      exact (Option.some.inj hy0).symm
    subst ey
    exact ⟨rfl, _, rfl, _, rfl, _, _, p, x, rfl, rp.ex e1, hv.ex e1, hF _ (List.mem_of_getElem? hp), hx, hl2, kk⟩
  · intro H1 acc e1 h1 hal
    refine tup_of h1 fun l hl => k _ _ (e1.new hl) ⟨l, acc, rfl, upd_same, hal.imp fun v q r => r.kp (Kp.refl.new hl)⟩

def sp_scaled (K : PySem.W.Frag) : Sp := fun vs H Q _ => ∃ v u f m, vs = [v, u] ∧ IsR K H v f ∧ IsM K H u m ∧ Fit f ∧ FAllM m ∧ m.length ≤ 1000 ∧ (∀ r ∈ m, r.length ≤ 1000) ∧ ∀ r H', Ex H H' → IsM K H' r (scaledM f m) → Q r H'
theorem sc_scaled : FnScope ["factor", "matrix", "row"] ["factor", "matrix"] (defScope s_scaled) := ⟨rfl, rfl, rfl, by decide +kernel, rfl, by decide +kernel, by decide +kernel⟩
theorem d_scaled_ok (T : Txt K mg) (hN : base.NoSeer) : Def PP w K mg base CX0 "scaled" (a_scaled K) 45 ["factor", "matrix"] (sp_scaled K) := by
  obtain ⟨fd, F⟩ := T.d_scaled
  refine ⟨⟨fd, ok0 F sc_scaled (fun vs H Q E h => ?_) (fun cdv A outer s H vs Q E hr h => ?_), F.bindsN fun _ _ _ _ _ _ us hl => match us, hl with | [_, _], _ => rfl⟩, T.g_scaled, F.kp⟩
  · obtain ⟨v, u, f, m, rfl, _⟩ := h
    rfl
  obtain ⟨vf, _, f, m, rfl, hv, ⟨a, va, rfl, ha, la⟩, hf, hF, hl, hl2, k⟩ := h
  have nd := sc_scaled.nd
  refine ⟨_, pss_one (ps_ret (pe_callTy call_tuple_of (by rfl) T.f_tuple boot_tuple (pa_cons (pe_lc (own := [("row", 2)]) (g := gName 2) (tt := tYes) (te := tCall (spScale K) [] E0 (tCons (tVar 0) (tCons (tVar 2) tNil))) rfl nd (pi_tup (pv 1)) (blkOk_by (N := ["factor", "matrix", "row"]) (sc := defScope s_scaled) (by decide +kernel))
    (fun _ _ _ _ _ => pg_name (i := 2) nd rfl (Or.inl rfl)) (fun _ _ _ _ _ => pts_nil) (fun _ _ _ _ _ => pe_callD (d_scale_ok T hN) hr (pa_cons (pv 0) (pa_cons (pv 2) pa_nil)))) pa_nil))), ?_⟩
  refine ⟨_, rfl, a, rfl, ⟨_, SqT.of' ha⟩, fun D hD => ?_⟩
  refine lc_al (K := K) (walk_tup (xs := va)) stayV (scaledM f m) (by rw [la.len]; unfold scaledM; rw [List.length_map]) (by rw [la.len]; omega) hD (fun H e => SqT.of' (e _ _ ha)) yat_ex ?_ ?_
  · rintro i z y H1 H2 hi hy0 e1 ⟨rfl, hz⟩ Rk kk
    obtain ⟨p, hp, rp⟩ := la.get hz
    have ey : y = scaleM f p := by
      unfold scaledM at hy0
      rw [List.getElem?_map, hp] at hy0
      exact (Option.some.inj hy0).symm
    subst ey
    exact ⟨rfl, _, rfl, _, rfl, _, _, f, p, rfl, hv.ex e1, rp.ex e1, hf, hF _ (List.mem_of_getElem? hp), hl2 _ (List.mem_of_getElem? hp), kk⟩
  · intro H1 acc e1 h1 hal
    refine tup_of h1 fun l hl => k _ _ (e1.new hl) ⟨l, acc, rfl, upd_same, hal.imp fun v q r => r.kp (Kp.refl.new hl)⟩

def sp_sum_of (K : PySem.W.Frag) : Sp := fun vs H Q _ => ∃ v u m n, vs = [v, u] ∧ IsM K H v m ∧ IsM K H u n ∧ FAllM m ∧ FAllM n ∧ m.length ≤ 1000 ∧ (∀ r ∈ m, r.length ≤ 1000) ∧ ∀ r H', Ex H H' → IsM K H' r (sumM m n) → Q r H'
theorem sc_sum_of : FnScope ["first", "second", "one", "other"] ["first", "second"] (defScope s_sum_of) := ⟨rfl, rfl, rfl, by decide +kernel, rfl, by decide +kernel, by decide +kernel⟩
theorem d_sum_of_ok (T : Txt K mg) (hN : base.NoSeer) : Def PP w K mg base CX0 "sum_of" (a_sum_of K) 45 ["first", "second"] (sp_sum_of K) := by
  obtain ⟨fd, F⟩ := T.d_sum_of
  refine ⟨⟨fd, ok0 F sc_sum_of (fun vs H Q E h => ?_) (fun cdv A outer s H vs Q E hr h => ?_), F.bindsN fun _ _ _ _ _ _ us hl => match us, hl with | [_, _], _ => rfl⟩, T.g_sum_of, F.kp⟩
  · obtain ⟨v, u, m, n, rfl, _⟩ := h
    rfl
  obtain ⟨_, _, m, n, rfl, ⟨a, va, rfl, ha, la⟩, ⟨b, vb, rfl, hb, lb⟩, hx0, hy1, hl, hl2, k⟩ := h
  have nd := sc_sum_of.nd
  refine ⟨_, pss_one (ps_ret (pe_callTy call_tuple_of (by rfl) T.f_tuple boot_tuple (pa_cons (pe_lc (own := [("one", 2), ("other", 3)]) (g := gTup K 2 (gCons (gName 2) (gCons (gName 3) gNil))) (tt := tYes) (te := tCall (sp_plus K) [] E0 (tCons (tVar 2) (tCons (tVar 3) tNil))) rfl nd (RZ.pi_zipA (by rfl) T.f_zip (pa_cons (pv 0) (pa_cons (pv 1) pa_nil))) (blkOk_by (N := ["first", "second", "one", "other"]) (sc := defScope s_sum_of) (by decide +kernel))
    (fun _ _ _ _ _ => pg_tup rfl (pgs_cons (pg_name (i := 2) nd rfl (Or.inl rfl)) (pgs_cons (pg_name (i := 3) nd rfl (Or.inl rfl)) pgs_nil))) (fun _ _ _ _ _ => pts_nil) (fun _ _ _ _ _ => pe_callD (d_plus_ok T hN) hr (pa_cons (pv 2) (pa_cons (pv 3) pa_nil)))) pa_nil))), ?_⟩
  refine ⟨_, rfl, _, rfl, a, b, va, vb, rfl, .inr ⟨SqT.of' ha, SqT.of' hb, fun D hD => ?_⟩⟩
  refine lc_al (K := K) (walk_zipT (xs := va) (ys := vb) rfl) stayV (sumM m n) (by rw [la.len, lb.len]; unfold sumM; rw [List.length_zipWith]) (by rw [la.len, lb.len]; omega) hD (fun H e => ⟨SqT.of' (e _ _ ha), SqT.of' (e _ _ hb)⟩) ypair_ex ?_ ?_
  · rintro i z y H1 H2 hi hy0 e1 ⟨Tp, vx, vy, rfl, hT, rfl, hx, hy⟩ Rk kk
    have e3 : Ex H1 (upd H1 Tp (.tup [vx, vy])) := (Ex.refl _).new hT
    obtain ⟨p, hp, rp⟩ := la.get hx
    obtain ⟨q, hq, rq⟩ := lb.get hy
    have ey : y = plusM p q := by
      unfold sumM at hy0
      rw [List.getElem?_zipWith, hp, hq] at hy0
      exact (Option.some.inj hy0).symm
    subst ey
    exact ⟨Tp, _, rfl, SqT.of' upd_same, rfl, _, _, rfl, _, _, rfl, rfl, rfl, _, rfl, _, rfl, _, _, p, q, rfl, rp.ex (e1.trans e3), rq.ex (e1.trans e3), hx0 _ (List.mem_of_getElem? hp), hy1 _ (List.mem_of_getElem? hq), hl2 _ (List.mem_of_getElem? hp), kk⟩
  · intro H1 acc e1 h1 hal
    refine tup_of h1 fun l hl => k _ _ (e1.new hl) ⟨l, acc, rfl, upd_same, hal.imp fun v q r => r.kp (Kp.refl.new hl)⟩
end
end Pn
set_option maxHeartbeats 4000000
/-! is_zero, transpose -/
namespace Pn
open PySem PySem.Spec PyProof.Rows L2
/-! ### places in a text -/
def compSc : Expr → Scope
  | .ListComp _ _ sc _ => sc
  | _ => { kind := .function, names := [], isGenerator := false, isCoroutine := false }
def argE : Expr → Expr
  | .Call _ (e :: _) _ _ => e
  | e => e
def retE (st : Stmt) : Expr := match defBody st with
  | .Return (some e) _ :: _ => e
  | _ => .Constant .none 0 ⟨0, 0, 0, 0⟩
def rTupOf (K : PySem.W.Frag) : List V → Hp → VK → Prop := fun xs H Q => ∃ p ys, xs = [.ref p] ∧ ((SqL K H p ys ∧ ∀ l, H l = none → Q (.ref l) (upd H l (.tup ys))) ∨ (SqT K H p ys ∧ Q (.ref p) H))
theorem call_tupK {X : Cx} {K : PySem.W.Frag} (hK : X.K = K) : CallR X (.type "tuple") (rTupOf K) := by
  subst hK
  exact call_tuple_of
section
variable {w : World} {K : PySem.W.Frag} {mg : Str → Option Value} {base : Heap}
def spIsZero (K : PySem.W.Frag) : Sp := fun vs H Q _ => ∃ v x, vs = [v] ∧ IsV K H v x ∧ ∀ H', Ex H H' → Q (.bl (isZeroM x)) H'
theorem sc_is_zero : FnScope ["a", "x"] ["a"] (defScope s_is_zero) := ⟨rfl, rfl, rfl, by decide +kernel, rfl, by decide +kernel, by decide +kernel⟩
theorem d_is_zero_ok (T : Txt K mg) : Def PP w K mg base CX0 "is_zero" (a_is_zero K) 1 ["a"] (spIsZero K) := by
  obtain ⟨fd, F⟩ := T.d_is_zero
  refine ⟨⟨fd, ok0 F sc_is_zero (fun vs H Q E h => ?_) (fun cdv A outer s H vs Q E hr h => ?_), F.bindsN fun _ _ _ _ _ _ us hl => match us, hl with | [_], _ => rfl⟩, T.g_is_zero, F.kp⟩
  · obtain ⟨v, x, rfl, _⟩ := h
    rfl
  obtain ⟨_, x, rfl, ⟨a, va, rfl, ha, la⟩, k⟩ := h
  have nd := sc_is_zero.nd
  refine ⟨_, pss_cons (ps_for PassesOwn.never rfl (pi_tup (pv 0)) (pg_name (i := 1) nd rfl (Or.inl rfl)) (pss_one (ps_if (pt_cmpR op_ne (pe_fld (pv 1) rfl) pe_int (nomark _)) (pss_one (ps_ret pe_bl)) pss_nil))) (pss_one (ps_ret pe_bl)), ?_⟩
  refine ⟨_, rfl, a, rfl, ⟨_, SqT.of' ha⟩, for_it (walk_tup (xs := va)) (fun i σ H' => Ex H H' ∧ (∃ o, σ = [some (.ref a), o]) ∧ ∀ j p, j < i → x[j]? = some p → p.num = 0) ⟨Ex.refl H, ⟨_, rfl⟩, fun j p h => by omega⟩ (fun i σ H' _ p => SqT.of' (p.1 _ _ ha)) ?_ ?_⟩
  · rintro i z σ H1 H2 hi ⟨e, ⟨o, rfl⟩, hz⟩ ⟨rfl, hx⟩
    obtain ⟨p, hp, ⟨c, dc, rfl, hc⟩⟩ := la.get hx
    have hc' := e _ _ hc
    refine ⟨_, rfl, c, CRt K, dc, _, _, rfl, hc', T.c_Ratio, T.n_Ratio_top, rf_top _ _, rfl, _, rfl, ?_⟩
    refine ite2 (fun h => ?_) (fun h => ?_)
    · have hne : p.num ≠ 0 := by simpa using h
      have ez : isZeroM x = false := by
        unfold isZeroM
        rw [List.all_eq_false]
        exact ⟨p, List.mem_of_getElem? hp, by simpa using hne⟩
      show Q (.bl false) _
      rw [← ez]
      exact k _ e
    · have he : p.num = 0 := by simpa using h
      refine ⟨e, ⟨_, rfl⟩, fun j q hj hq => ?_⟩
      by_cases h1 : j < i
      · exact hz j q h1 hq
      · have : j = i := by omega
        subst this
        rw [hp] at hq
        cases hq
        exact he
  · rintro σ H1 ⟨e, ⟨o, rfl⟩, hz⟩
    have ez : isZeroM x = true := by
      unfold isZeroM
      rw [List.all_eq_true]
      intro p hp
      obtain ⟨j, hj, rfl⟩ := List.getElem_of_mem hp
      have := hz j x[j] (by rw [la.len]; exact hj) (List.getElem?_eq_getElem hj)
      simpa using this
    show Q (.bl true) _
    rw [← ez]
    exact k _ e
def spTrans (K : PySem.W.Frag) : Sp := fun vs H Q _ => ∃ v m wd, vs = [v, .int (wd : Nat)] ∧ IsM K H v m ∧ (∀ r ∈ m, r.length = wd) ∧ wd ≤ 1000 ∧ m.length ≤ 1000 ∧ ∀ r H', Ex H H' → IsM K H' r (transM m wd) → Q r H'
theorem sc_transpose : FnScope ["matrix", "width", "column", "row"] ["matrix", "width"] (defScope s_transpose) := ⟨rfl, rfl, rfl, by decide +kernel, rfl, by decide +kernel, by decide +kernel⟩
theorem d_transpose_ok (T : Txt K mg) : Def PP w K mg base CX0 "transpose" (a_transpose K) 1 ["matrix", "width"] (spTrans K) := by
  obtain ⟨fd, F⟩ := T.d_transpose
  refine ⟨⟨fd, ok0 F sc_transpose (fun vs H Q E h => ?_) (fun cdv A outer s H vs Q E hr h => ?_), F.bindsN fun _ _ _ _ _ _ us hl => match us, hl with | [_, _], _ => rfl⟩, T.g_transpose, F.kp⟩
  · obtain ⟨v, m, wd, rfl, _⟩ := h
    rfl
  obtain ⟨_, m, wd, rfl, ⟨a, va, rfl, ha, la⟩, hw, hz, hz2, k⟩ := h
  have nd := sc_transpose.nd
  refine ⟨_, pss_one (ps_ret (pe_callTy call_tuple_of (by rfl) T.f_tuple boot_tuple (pa_cons (pe_lc (own := [("column", 2)]) (g := gName 2) (tt := tYes) (te := tCB (rTupOf K) (tCons (tLc (iTup K (tVar 0)) (gName 3) tYes (tOp (rIxT K) (tVar 3) (tVar 2)) [3]) tNil)) rfl nd
    (pi_range1 rfl T.f_range (pa_cons (pv 1) pa_nil)) (blkOk_by (N := ["matrix", "width", "column", "row"]) (sc := defScope s_transpose) (by decide +kernel))
    (fun _ _ _ _ _ => pg_name (i := 2) nd rfl (Or.inr rfl)) (fun _ _ _ _ _ => pts_nil)
    (fun _ _ _ _ _ => pe_callTy (call_tupK rfl) (by rfl) T.f_tuple boot_tuple (pa_cons (pe_lc (own := [("row", 3)]) (g := gName 3) (tt := tYes) (te := tOp (rIxT K) (tVar 3) (tVar 2)) rfl nd (pi_tup (pv 0))
      (blkOk_by (N := ["matrix", "width", "column", "row"]) (sc := relS (compSc (argE (retE s_transpose))) (defScope s_transpose)) (by decide +kernel))
      (fun _ _ _ _ _ => pg_name (i := 3) nd rfl (Or.inl rfl)) (fun _ _ _ _ _ => pts_nil) (fun _ _ _ _ _ => pe_ix ix_tup (pv 3) (pv 2) (fun _ _ => rfl))) pa_nil))) pa_nil))), ?_⟩
  refine ⟨_, rfl, _, rfl, by omega, by omega, fun D hD => ?_⟩
  refine lc_al (K := K) walk_range stayV (transM m wd) (by unfold transM; simp) (by simp; omega) hD (fun H e => trivial) yfn_ex ?_ ?_
  · rintro i z y H1 H2 hi hy0 e1 ⟨rfl, rfl⟩ Rk kk
    have hi' : i < wd := by simpa using hi
    have ey : y = m.map fun r => r.getD i 0 := by
      unfold transM at hy0
      rw [List.getElem?_map, List.getElem?_range hi'] at hy0
      exact (Option.some.inj hy0).symm
    subst ey
    refine ⟨rfl, _, rfl, a, rfl, ⟨_, SqT.of' (e1 _ _ ha)⟩, fun D2 hD2 => ?_⟩
    refine lc_al (K := K) (walk_tup (xs := va)) stayR (m.map fun r => r.getD i 0) (by rw [la.len]; simp) (by rw [la.len]; omega) hD2 (fun H e => SqT.of' (e _ _ (e1 _ _ ha))) yat_ex ?_ ?_
    · rintro j z y H3 H4 hj hy e3 ⟨rfl, hz⟩ Rk2 kk2
      obtain ⟨p, hp, ⟨c, vc, rfl, hc, lc⟩⟩ := la.get hz
      have ey : y = p.getD i 0 := by
        rw [List.getElem?_map, hp] at hy
        exact (Option.some.inj hy).symm
      subst ey
      have hl := hw _ (List.mem_of_getElem? hp)
      have hq : p[i]? = some (p.getD i 0) := by
        rw [List.getD_eq_getElem?_getD, List.getElem?_eq_getElem (by omega)]
        rfl
      obtain ⟨u, hu, ru⟩ := lc.get' hq
      refine ⟨rfl, _, rfl, _, rfl, c, _, _, u, rfl, rfl, SqT.of' (e3 _ _ (e1 _ _ hc)), ?_, kk2 u H4 (Ex.refl _) (ru.ex (e1.trans e3))⟩
      rw [show (0 : Int) + (i : Int) = ((i : Nat) : Int) by omega]
      exact atI_nat hu
    · intro H3 acc e3 h3 hal
      refine tup_of h3 fun l hl => kk _ _ (e3.new hl) ⟨l, acc, rfl, upd_same, hal.imp fun v q r => r.kp (Kp.refl.new hl)⟩
  · intro H1 acc e1 h1 hal
    refine tup_of h1 fun l hl => k _ _ (e1.new hl) ⟨l, acc, rfl, upd_same, hal.imp fun v q r => r.kp (Kp.refl.new hl)⟩
end
end Pn
set_option maxHeartbeats 4000000
/-! the kept pseudo-inverse -/
namespace Pn
open PySem PySem.Spec PyProof.Rows L2
section
variable {w : World} {K : PySem.W.Frag} {mg : Str → Option Value} {base : Heap}
def spAddTerm (K : PySem.W.Frag) : Sp := fun vs H Q _ => ∃ vm vr vw m r c, vs = [vm, vr, vw] ∧ IsM K H vm m ∧ IsV K H vr r ∧ IsR K H vw c ∧ FAddTerm m r c ∧ Sz m ∧ r.length ≤ 1000 ∧ ∀ v H', Ex H H' → IsM K H' v (addTermM m r c) → Q v H'
theorem sc_add_term : FnScope ["matrix", "row", "weight"] ["matrix", "row", "weight"] (defScope s_add_term) := ⟨rfl, rfl, rfl, by decide +kernel, rfl, by decide +kernel, by decide +kernel⟩
theorem d_add_term_ok (T : Txt K mg) (hN : base.NoSeer) : Def PP w K mg base CX0 "add_term" (a_add_term K) 46 ["matrix", "row", "weight"] (spAddTerm K) := by
  obtain ⟨fd, F⟩ := T.d_add_term
  refine ⟨⟨fd, ok0 F sc_add_term (fun vs H Q E h => ?_) (fun cdv A outer s H vs Q E hr h => ?_), F.bindsN fun _ _ _ _ _ _ us hl => match us, hl with | [_, _, _], _ => rfl⟩, T.g_add_term, F.kp⟩
  · obtain ⟨vm, vr, vw, m, r, c, rfl, _⟩ := h
    rfl
  obtain ⟨vm, vr, vw, m, r, c, rfl, hm, hr1, hc, f, sz, hl, k⟩ := h
  refine ⟨_, pss_one (ps_ret (pe_callD (d_sum_of_ok T hN) hr (pa_cons (pv 0) (pa_cons (pe_callD (d_scaled_ok T hN) hr (pa_cons (pv 2) (pa_cons (pe_callD (d_outer_ok T hN) hr (pa_cons (pv 1) (pa_cons (pv 1) pa_nil))) pa_nil))) pa_nil)))), ?_⟩
  refine ⟨_, rfl, _, rfl, _, rfl, _, rfl, _, _, r, r, rfl, hr1, hr1, f.hr, f.hr, hl, hl, fun v1 H1 e1 h1 => ?_⟩
  have so := sz_outer hl hl
  refine ⟨_, _, c, _, rfl, hc.ex e1, h1, f.hw, f.ho, so.n, so.r, fun v2 H2 e2 h2 => ?_⟩
  exact ⟨_, _, m, _, rfl, hm.ex (e1.trans e2), h2, f.hm, f.hs, sz.n, sz.r, fun v3 H3 e3 h3 => k v3 H3 (e1.trans (e2.trans e3)) h3⟩

def spWithAdded (K : PySem.W.Frag) : Sp := fun vs H Q _ => ∃ vm vp va vw M P a c, vs = [vm, vp, va, vw] ∧ IsM K H vm M ∧ IsM K H vp P ∧ IsV K H va a ∧ IsR K H vw c ∧ FWithAdded M P a c ∧ Sz M ∧ Sz P ∧ a.length ≤ 1000 ∧
  ∀ v H', Ex H H' → IsM K H' v (withAddedM M P a c) → Q v H'
theorem sc_with_added : FnScope ["matrix", "inverse", "row", "weight", "image", "rest", "share", "factor", "way", "found"] ["matrix", "inverse", "row", "weight"] (defScope s_with_added) := ⟨rfl, rfl, rfl, by decide +kernel, rfl, by decide +kernel, by decide +kernel⟩
theorem d_with_added_ok (T : Txt K mg) (hN : base.NoSeer) : Def PP w K mg base CX0 "with_added" (a_with_added K) 46 ["matrix", "inverse", "row", "weight"] (spWithAdded K) := by
  obtain ⟨fd, F⟩ := T.d_with_added
  refine ⟨⟨fd, ok0 F sc_with_added (fun vs H Q E h => ?_) (fun cdv A outer s H vs Q E hr h => ?_), F.bindsN fun _ _ _ _ _ _ us hl => match us, hl with | [_, _, _, _], _ => rfl⟩, T.g_with_added, F.kp⟩
  · obtain ⟨vm, vp, va, vw, M, P, a, c, rfl, _⟩ := h
    rfl
  obtain ⟨vm, vp, va, vw, M, P, a, c, rfl, hM, hP, ha, hc, f, szM, szP, hl, k⟩ := h
  have nd := sc_with_added.nd
  have hr43 : Room 43 _ := hr.mono (by decide)
  refine ⟨_, pss_cons (ps_set (i := 4) nd rfl (Or.inl rfl) (pe_callD (d_apply_ok T hN) hr (pa_cons (pv 1) (pa_cons (pv 2) pa_nil))))
    (pss_cons (ps_set (i := 5) nd rfl (Or.inl rfl) (pe_callD (d_minus_ok T hN) (hr.mono (by decide)) (pa_cons (pv 2) (pa_cons (pe_callD (d_apply_ok T hN) hr (pa_cons (pv 0) (pa_cons (pv 4) pa_nil))) pa_nil))))
    (pss_cons (ps_set (i := 6) nd rfl (Or.inl rfl) (pe_callD (d_dot_ok T hN) (hr.mono (by decide)) (pa_cons (pv 2) (pa_cons (pv 4) pa_nil))))
    (pss_cons (ps_if (pt_val (pe_callD (d_is_zero_ok T) (hr.mono (by decide)) (pa_cons (pv 5) pa_nil)))
      (pss_cons (ps_set (i := 7) nd rfl (Or.inl rfl) (pe_methD (m_Ratio_over T hN) hr43 (pv 3) (pa_cons (pe_op (oAdd (m_Ratio_add T hN) T hr43) (pe_makeD (k_Ratio1 T hN) (hr.mono (by decide)) (pa_cons pe_int pa_nil)) (pe_op (oMul (m_Ratio_mul T hN) T hr43) (pv 3) (pv 6))) pa_nil)))
        (pss_one (ps_ret (pe_callD (d_sum_of_ok T hN) hr (pa_cons (pv 1) (pa_cons (pe_callD (d_scaled_ok T hN) hr (pa_cons (pe_un (un_R (m_Ratio_neg T hN) hr43) (pv 7)) (pa_cons (pe_callD (d_outer_ok T hN) hr (pa_cons (pv 4) (pa_cons (pv 4) pa_nil))) pa_nil))) pa_nil))))))
      pss_nil)
    (pss_cons (ps_set (i := 8) nd rfl (Or.inl rfl) (pe_callD (d_scale_ok T hN) (hr.mono (by decide)) (pa_cons (pe_methD (m_Ratio_over T hN) hr43 (pe_makeD (k_Ratio1 T hN) (hr.mono (by decide)) (pa_cons pe_int pa_nil)) (pa_cons (pe_callD (d_dot_ok T hN) (hr.mono (by decide)) (pa_cons (pv 5) (pa_cons (pv 5) pa_nil))) pa_nil)) (pa_cons (pv 5) pa_nil))))
    (pss_cons (ps_set (i := 9) nd rfl (Or.inl rfl) (pe_callD (d_sum_of_ok T hN) hr (pa_cons (pv 1) (pa_cons (pe_callD (d_scaled_ok T hN) hr (pa_cons (pe_makeD (k_Ratio1 T hN) (hr.mono (by decide)) (pa_cons (pe_un un_neg pe_int) pa_nil)) (pa_cons (pe_callD (d_outer_ok T hN) hr (pa_cons (pv 8) (pa_cons (pv 4) pa_nil))) pa_nil))) pa_nil))))
    (pss_cons (ps_set (i := 9) nd rfl (Or.inl rfl) (pe_callD (d_sum_of_ok T hN) hr (pa_cons (pv 9) (pa_cons (pe_callD (d_scaled_ok T hN) hr (pa_cons (pe_makeD (k_Ratio1 T hN) (hr.mono (by decide)) (pa_cons (pe_un un_neg pe_int) pa_nil)) (pa_cons (pe_callD (d_outer_ok T hN) hr (pa_cons (pv 4) (pa_cons (pv 8) pa_nil))) pa_nil))) pa_nil))))
    (pss_one (ps_ret (pe_callD (d_sum_of_ok T hN) hr (pa_cons (pv 9) (pa_cons (pe_callD (d_scaled_ok T hN) hr (pa_cons (pe_op (oAdd (m_Ratio_add T hN) T hr43) (pe_methD (m_Ratio_over T hN) hr43 (pe_makeD (k_Ratio1 T hN) (hr.mono (by decide)) (pa_cons pe_int pa_nil)) (pa_cons (pv 3) pa_nil)) (pv 6)) (pa_cons (pe_callD (d_outer_ok T hN) hr (pa_cons (pv 8) (pa_cons (pv 8) pa_nil))) pa_nil))) pa_nil))))))))))), ?_⟩
  refine ⟨_, rfl, _, rfl, _, _, P, a, rfl, hP, ha, f.hg, szP.n, fun v1 H1 e1 h1 => ?_⟩
  refine ⟨_, rfl, _, rfl, _, rfl, _, _, M, _, rfl, hM.ex e1, h1, f.hmg, szM.n, fun v2 H2 e2 h2 => ?_⟩
  refine ⟨_, _, a, _, rfl, ha.ex (e1.trans e2), h2, f.ha, f.hmgf, hl, fun v3 H3 e3 h3 => ?_⟩
  have c13 := e2.trans e3
  refine ⟨_, rfl, _, rfl, _, _, a, _, rfl, ha.ex (e1.trans c13), h1.ex c13, f.hs, fun v4 H4 e4 h4 => ?_⟩
  refine ⟨_, rfl, _, _, rfl, h3.ex e4, fun H5 e5 => ?_⟩
  have c05 : Ex H H5 := e1.trans (c13.trans (e4.trans e5))
  have c15 : Ex H1 H5 := c13.trans (e4.trans e5)
  have hP5 := hP.ex c05
  have ha5 := ha.ex c05
  have hc5 := hc.ex c05
  have hg5 := h1.ex c15
  have hu5 := h3.ex (e4.trans e5)
  have hs5 := h4.ex e5
  have lg : (applyM P a).length ≤ 1000 := by rw [len_apply]; exact szP.n
  refine ⟨_, rfl, ?_⟩
  cases hz : isZeroM (minusM a (applyM M (applyM P a))) with
  | true =>
    obtain ⟨f1, f2, f3, f4⟩ := f.yes hz
    refine iteT ?_
    obtain ⟨pw, dw, rfl, hw⟩ := id hc5
    refine ⟨_, rfl, pw, dw, _, rfl, hw, no_over _ _, ?_⟩
    intro x0 dx0 nx0 nd0 ne0
    refine mk1' nx0 nd0 ne0 fun H6 e6 r6 => ⟨rfl, ?_⟩
    refine ⟨_, rfl, _, rfl, c, _, hc5.ex e6, hs5.ex e6, f.hw, f.hsf, fun v7 H7 e7 h7 => ?_⟩
    refine ⟨1, _, r6.ex e7, h7, f.hone, f1, fun v8 H8 e8 h8 => ?_⟩
    have c58 : Ex H5 H8 := e6.trans (e7.trans e8)
    refine ⟨_, _, c, _, rfl, hc5.ex c58, h8, f.hw, f2, f3, fun v9 H9 e9 h9 => ?_⟩
    have c59 := c58.trans e9
    refine ⟨_, rfl, _, rfl, _, h9, fun v10 H10 e10 h10 => ?_⟩
    have c510 := c59.trans e10
    refine ⟨_, rfl, _, rfl, _, _, _, _, rfl, hg5.ex c510, hg5.ex c510, f4.ha, f4.hb, lg, lg, fun v11 H11 e11 h11 => ?_⟩
    have so := sz_outer lg lg
    refine ⟨_, _, _, _, rfl, h10.ex e11, h11, f4.hf, f4.ho, so.n, so.r, fun v12 H12 e12 h12 => ?_⟩
    refine ⟨_, _, P, _, rfl, hP5.ex (c510.trans (e11.trans e12)), h12, f4.hp, f4.hs, szP.n, szP.r, fun v13 H13 e13 h13 => ?_⟩
    refine k _ _ (c05.trans (c510.trans (e11.trans (e12.trans e13)))) ?_
    unfold withAddedM
    rw [if_pos hz]
    exact h13
  | false =>
    obtain ⟨f1, f2, f3, f4, f5, f6, f7, f8, f9, f10⟩ := f.no hz _ _ rfl rfl
    refine iteF ?_
    generalize hu : minusM a (applyM M (applyM P a)) = u at *
    have lu : u.length ≤ 1000 := by rw [← hu, len_minus]; omega
    intro x0 dx0 nx0 nd0 ne0
    refine mk1' nx0 nd0 ne0 fun H6 e6 r6 => ⟨rfl, ?_⟩
    obtain ⟨p6, d6, ep6, hr6⟩ := id r6
    cases ep6
    refine ⟨x0, d6, _, rfl, hr6, no_over _ _, ?_⟩
    refine ⟨_, rfl, _, rfl, _, _, u, u, rfl, hu5.ex e6, hu5.ex e6, f1, fun v7 H7 e7 h7 => ?_⟩
    refine ⟨_, _, 1, _, rfl, r6.ex e7, h7, f.hone, f3, f4, fun v8 H8 e8 h8 => ?_⟩
    have c58 : Ex H5 H8 := e6.trans (e7.trans e8)
    refine ⟨_, rfl, _, _, _, u, rfl, h8, hu5.ex c58, f5, f2, lu, fun v9 H9 e9 h9 => ?_⟩
    have c59 := c58.trans e9
    have lc : (scaleM (1 / dotM u u) u).length ≤ 1000 := by rw [len_scale]; exact lu
    generalize hcc : scaleM (1 / dotM u u) u = cc at *
    -- found
    refine ⟨_, rfl, _, rfl, ?_⟩
    intro x1 dx1 nx1 nd1 ne1
    refine mkm1' nx1 nd1 ne1 fun H10 e10 r10 => ⟨rfl, ?_⟩
    have c510 := c59.trans e10
    have so1 := sz_outer lc lg
    refine ⟨_, rfl, _, rfl, _, _, cc, _, rfl, h9.ex e10, hg5.ex c510, f8.ha, f8.hb, lc, lg, fun v11 H11 e11 h11 => ?_⟩
    refine ⟨_, _, _, _, rfl, r10.ex e11, h11, f8.hf, f8.ho, so1.n, so1.r, fun v12 H12 e12 h12 => ?_⟩
    refine ⟨_, _, P, _, rfl, hP5.ex (c510.trans (e11.trans e12)), h12, f8.hp, f8.hs, szP.n, szP.r, fun v13 H13 e13 h13 => ?_⟩
    have c513 := c510.trans (e11.trans (e12.trans e13))
    have c913 := e10.trans (e11.trans (e12.trans e13))
    have sf1 : Sz (sumM P (scaledM (-1) (outerM cc (applyM P a)))) := sz_sum szP
    -- found again
    refine ⟨_, rfl, _, rfl, ?_⟩
    intro x2 dx2 nx2 nd2 ne2
    refine mkm1' nx2 nd2 ne2 fun H14 e14 r14 => ⟨rfl, ?_⟩
    have so2 := sz_outer lg lc
    refine ⟨_, rfl, _, rfl, _, _, _, cc, rfl, hg5.ex (c513.trans e14), h9.ex (c913.trans e14), f9.ha, f9.hb, lg, lc, fun v15 H15 e15 h15 => ?_⟩
    refine ⟨_, _, _, _, rfl, r14.ex e15, h15, f9.hf, f9.ho, so2.n, so2.r, fun v16 H16 e16 h16 => ?_⟩
    refine ⟨_, _, _, _, rfl, h13.ex (e14.trans (e15.trans e16)), h16, f9.hp, f9.hs, sf1.n, sf1.r, fun v17 H17 e17 h17 => ?_⟩
    have c1317 := e14.trans (e15.trans (e16.trans e17))
    have c517 := c513.trans c1317
    have c917 := c913.trans c1317
    have sf2 : Sz (sumM (sumM P (scaledM (-1) (outerM cc (applyM P a)))) (scaledM (-1) (outerM (applyM P a) cc))) := sz_sum sf1
    -- the end
    refine ⟨_, rfl, ?_⟩
    intro x3 dx3 nx3 nd3 ne3
    refine mk1' nx3 nd3 ne3 fun H18 e18 r18 => ⟨rfl, ?_⟩
    obtain ⟨p18, d18, ep18, hr18⟩ := id r18
    cases ep18
    refine ⟨x3, d18, _, rfl, hr18, no_over _ _, ?_⟩
    refine ⟨_, rfl, _, _, 1, c, rfl, r18, hc5.ex (c517.trans e18), f.hone, f.hw, f6, fun v19 H19 e19 h19 => ?_⟩
    have c519 := c517.trans (e18.trans e19)
    have c919 := c917.trans (e18.trans e19)
    refine ⟨_, rfl, _, _, h19, hs5.ex c519, f7, f.hsf, fun v20 H20 e20 h20 => ?_⟩
    have so3 := sz_outer lc lc
    refine ⟨_, rfl, _, rfl, _, _, cc, cc, rfl, h9.ex (c919.trans e20), h9.ex (c919.trans e20), f10.ha, f10.hb, lc, lc, fun v21 H21 e21 h21 => ?_⟩
    refine ⟨_, _, _, _, rfl, h20.ex e21, h21, f10.hf, f10.ho, so3.n, so3.r, fun v22 H22 e22 h22 => ?_⟩
    refine ⟨_, _, _, _, rfl, h17.ex (e18.trans (e19.trans (e20.trans (e21.trans e22)))), h22, f10.hp, f10.hs, sf2.n, sf2.r, fun v23 H23 e23 h23 => ?_⟩
    refine k _ _ (c05.trans (c519.trans (e20.trans (e21.trans (e22.trans e23))))) ?_
    unfold withAddedM
    rw [hu, if_neg (by rw [hz]; exact Bool.false_ne_true), hcc]
    exact h23
def spWithRemoved (K : PySem.W.Frag) : Sp := fun vs H Q _ => ∃ vm vp va vw P a c, vs = [vm, vp, va, vw] ∧ IsM K H vp P ∧ IsV K H va a ∧ IsR K H vw c ∧ FWithRemoved P a c ∧ Sz P ∧
  ∀ v H', Ex H H' → IsM K H' v (withRemovedM P a c) → Q v H'
theorem sc_with_removed : FnScope ["matrix", "inverse", "row", "weight", "image", "left", "again", "length", "part", "turned", "whole"] ["matrix", "inverse", "row", "weight"] (defScope s_with_removed) := ⟨rfl, rfl, rfl, by decide +kernel, rfl, by decide +kernel, by decide +kernel⟩
theorem d_with_removed_ok (T : Txt K mg) (hN : base.NoSeer) : Def PP w K mg base CX0 "with_removed" (a_with_removed K) 46 ["matrix", "inverse", "row", "weight"] (spWithRemoved K) := by
  obtain ⟨fd, F⟩ := T.d_with_removed
  refine ⟨⟨fd, ok0 F sc_with_removed (fun vs H Q E h => ?_) (fun cdv A outer s H vs Q E hr h => ?_), F.bindsN fun _ _ _ _ _ _ us hl => match us, hl with | [_, _, _, _], _ => rfl⟩, T.g_with_removed, F.kp⟩
  · obtain ⟨vm, vp, va, vw, P, a, c, rfl, _⟩ := h
    rfl
  obtain ⟨vm, vp, va, vw, P, a, c, rfl, hP, ha, hc, f, szP, k⟩ := h
  have nd := sc_with_removed.nd
  have hr43 : Room 43 _ := hr.mono (by decide)
  refine ⟨_, pss_cons (ps_set (i := 4) nd rfl (Or.inl rfl) (pe_callD (d_apply_ok T hN) hr (pa_cons (pv 1) (pa_cons (pv 2) pa_nil))))
    (pss_cons (ps_set (i := 5) nd rfl (Or.inl rfl) (pe_op (oSub (m_Ratio_sub T hN) T hr43) (pe_makeD (k_Ratio1 T hN) (hr.mono (by decide)) (pa_cons pe_int pa_nil)) (pe_op (oMul (m_Ratio_mul T hN) T hr43) (pv 3) (pe_callD (d_dot_ok T hN) (hr.mono (by decide)) (pa_cons (pv 2) (pa_cons (pv 4) pa_nil))))))
    (pss_cons (ps_if (pt_cmpR op_ne (pe_fld (pv 5) rfl) pe_int (nomark _))
      (pss_one (ps_ret (pe_callD (d_sum_of_ok T hN) hr (pa_cons (pv 1) (pa_cons (pe_callD (d_scaled_ok T hN) hr (pa_cons (pe_methD (m_Ratio_over T hN) hr43 (pv 3) (pa_cons (pv 5) pa_nil)) (pa_cons (pe_callD (d_outer_ok T hN) hr (pa_cons (pv 4) (pa_cons (pv 4) pa_nil))) pa_nil))) pa_nil)))))
      pss_nil)
    (pss_cons (ps_set (i := 6) nd rfl (Or.inl rfl) (pe_callD (d_apply_ok T hN) hr (pa_cons (pv 1) (pa_cons (pv 4) pa_nil))))
    (pss_cons (ps_set (i := 7) nd rfl (Or.inl rfl) (pe_callD (d_dot_ok T hN) (hr.mono (by decide)) (pa_cons (pv 4) (pa_cons (pv 4) pa_nil))))
    (pss_cons (ps_set (i := 8) nd rfl (Or.inl rfl) (pe_callD (d_scaled_ok T hN) hr (pa_cons (pe_methD (m_Ratio_over T hN) hr43 (pe_makeD (k_Ratio1 T hN) (hr.mono (by decide)) (pa_cons (pe_un un_neg pe_int) pa_nil)) (pa_cons (pv 7) pa_nil)) (pa_cons (pe_callD (d_outer_ok T hN) hr (pa_cons (pv 6) (pa_cons (pv 4) pa_nil))) pa_nil))))
    (pss_cons (ps_set (i := 9) nd rfl (Or.inl rfl) (pe_callD (d_scaled_ok T hN) hr (pa_cons (pe_methD (m_Ratio_over T hN) hr43 (pe_makeD (k_Ratio1 T hN) (hr.mono (by decide)) (pa_cons (pe_un un_neg pe_int) pa_nil)) (pa_cons (pv 7) pa_nil)) (pa_cons (pe_callD (d_outer_ok T hN) hr (pa_cons (pv 4) (pa_cons (pv 6) pa_nil))) pa_nil))))
    (pss_cons (ps_set (i := 10) nd rfl (Or.inl rfl) (pe_callD (d_scaled_ok T hN) hr (pa_cons (pe_methD (m_Ratio_over T hN) hr43 (pe_callD (d_dot_ok T hN) (hr.mono (by decide)) (pa_cons (pv 4) (pa_cons (pv 6) pa_nil))) (pa_cons (pe_op (oMul (m_Ratio_mul T hN) T hr43) (pv 7) (pv 7)) pa_nil)) (pa_cons (pe_callD (d_outer_ok T hN) hr (pa_cons (pv 4) (pa_cons (pv 4) pa_nil))) pa_nil))))
    (pss_one (ps_ret (pe_callD (d_sum_of_ok T hN) hr (pa_cons (pe_callD (d_sum_of_ok T hN) hr (pa_cons (pe_callD (d_sum_of_ok T hN) hr (pa_cons (pv 1) (pa_cons (pv 8) pa_nil))) (pa_cons (pv 9) pa_nil))) (pa_cons (pv 10) pa_nil)))))))))))), ?_⟩
  refine ⟨_, rfl, _, rfl, _, _, P, a, rfl, hP, ha, f.hg, szP.n, fun v1 H1 e1 h1 => ?_⟩
  have lg : (applyM P a).length ≤ 1000 := by rw [len_apply]; exact szP.n
  intro x0 dx0 nx0 nd0 ne0
  refine mk1' nx0 nd0 ne0 fun H2 e2 r2 => ⟨rfl, ?_⟩
  refine ⟨_, rfl, _, rfl, _, rfl, _, _, a, _, rfl, ha.ex (e1.trans e2), h1.ex e2, f.hs, fun v3 H3 e3 h3 => ?_⟩
  refine ⟨c, _, hc.ex (e1.trans (e2.trans e3)), h3, f.hw, f.hsf, fun v4 H4 e4 h4 => ?_⟩
  refine ⟨1, _, r2.ex (e3.trans e4), h4, f.hone, f.hws, fun v5 H5 e5 h5 => ?_⟩
  have c05 : Ex H H5 := e1.trans (e2.trans (e3.trans (e4.trans e5)))
  have c15 : Ex H1 H5 := e2.trans (e3.trans (e4.trans e5))
  have hP5 := hP.ex c05
  have hc5 := hc.ex c05
  have hg5 := h1.ex c15
  obtain ⟨pl, dl, rfl, hl5⟩ := id h5
  refine ⟨_, rfl, pl, CRt K, dl, _, _, rfl, hl5, T.c_Ratio, T.n_Ratio_top, rf_top _ _, rfl, _, rfl, ?_⟩
  refine ite2 (fun h => ?_) (fun h => ?_)
  · have hne : (1 - c * dotM a (applyM P a)).num ≠ 0 := by simpa using h
    have hne' : 1 - c * dotM a (applyM P a) ≠ 0 := fun z => hne (by rw [z]; rfl)
    have f4 := f.yes hne
    obtain ⟨pw, dw, rfl, hw⟩ := id hc5
    refine ⟨_, rfl, _, rfl, pw, dw, _, rfl, hw, no_over _ _, ?_⟩
    refine ⟨_, rfl, _, _, c, _, rfl, hc5, h5, f.hw, f.hl, hne', fun v6 H6 e6 h6 => ?_⟩
    refine ⟨_, rfl, _, rfl, _, _, _, _, rfl, hg5.ex e6, hg5.ex e6, f4.ha, f4.hb, lg, lg, fun v7 H7 e7 h7 => ?_⟩
    have so := sz_outer lg lg
    refine ⟨_, _, _, _, rfl, h6.ex e7, h7, f4.hf, f4.ho, so.n, so.r, fun v8 H8 e8 h8 => ?_⟩
    refine ⟨_, _, P, _, rfl, hP5.ex (e6.trans (e7.trans e8)), h8, f4.hp, f4.hs, szP.n, szP.r, fun v9 H9 e9 h9 => ?_⟩
    refine k _ _ (c05.trans (e6.trans (e7.trans (e8.trans e9)))) ?_
    unfold withRemovedM
    rw [if_pos hne]
    exact h9
  · have hz : (1 - c * dotM a (applyM P a)).num = 0 := by simpa using h
    obtain ⟨f1, f2, f3, f4, f5, f6, f7, f8, f9, f10, f11, f12, f13⟩ := f.no hz _ _ _ rfl rfl rfl
    have lh : (applyM P (applyM P a)).length ≤ 1000 := by rw [len_apply]; exact szP.n
    refine ⟨_, rfl, _, rfl, _, _, P, _, rfl, hP5, hg5, f1, szP.n, fun v6 H6 e6 h6 => ?_⟩
    refine ⟨_, rfl, _, rfl, _, _, _, _, rfl, hg5.ex e6, hg5.ex e6, f2, fun v7 H7 e7 h7 => ?_⟩
    have c57 := e6.trans e7
    -- part
    refine ⟨_, rfl, ?_⟩
    intro x1 dx1 nx1 nd1 ne1
    refine mkm1' nx1 nd1 ne1 fun H8 e8 r8 => ⟨rfl, ?_⟩
    obtain ⟨p8, d8, ep8, hr8⟩ := id r8
    cases ep8
    refine ⟨x1, d8, _, rfl, hr8, no_over _ _, ?_⟩
    refine ⟨_, rfl, _, _, -1, _, rfl, r8, h7.ex e8, f5, f3, f4, fun v9 H9 e9 h9 => ?_⟩
    have c59 := c57.trans (e8.trans e9)
    have c69 := e7.trans (e8.trans e9)
    have so1 := sz_outer lh lg
    refine ⟨_, rfl, _, rfl, _, _, _, _, rfl, h6.ex c69, hg5.ex c59, f6.ha, f6.hb, lh, lg, fun v10 H10 e10 h10 => ?_⟩
    refine ⟨_, _, _, _, rfl, h9.ex e10, h10, f6.hf, f6.ho, so1.n, so1.r, fun v11 H11 e11 h11 => ?_⟩
    have c511 := c59.trans (e10.trans e11)
    have c611 := c69.trans (e10.trans e11)
    have c711 := e8.trans (e9.trans (e10.trans e11))
    -- turned
    refine ⟨_, rfl, ?_⟩
    intro x2 dx2 nx2 nd2 ne2
    refine mkm1' nx2 nd2 ne2 fun H12 e12 r12 => ⟨rfl, ?_⟩
    obtain ⟨p12, d12, ep12, hr12⟩ := id r12
    cases ep12
    refine ⟨x2, d12, _, rfl, hr12, no_over _ _, ?_⟩
    refine ⟨_, rfl, _, _, -1, _, rfl, r12, h7.ex (c711.trans e12), f5, f3, f4, fun v13 H13 e13 h13 => ?_⟩
    have c513 := c511.trans (e12.trans e13)
    have c613 := c611.trans (e12.trans e13)
    have so2 := sz_outer lg lh
    refine ⟨_, rfl, _, rfl, _, _, _, _, rfl, hg5.ex c513, h6.ex c613, f7.ha, f7.hb, lg, lh, fun v14 H14 e14 h14 => ?_⟩
    refine ⟨_, _, _, _, rfl, h13.ex e14, h14, f7.hf, f7.ho, so2.n, so2.r, fun v15 H15 e15 h15 => ?_⟩
    have c515 := c513.trans (e14.trans e15)
    have c615 := c613.trans (e14.trans e15)
    have c715 := c711.trans (e12.trans (e13.trans (e14.trans e15)))
    have c1115 := e12.trans (e13.trans (e14.trans e15))
    -- whole
    refine ⟨_, rfl, _, rfl, _, _, _, _, rfl, hg5.ex c515, h6.ex c615, f9, fun v16 H16 e16 h16 => ?_⟩
    obtain ⟨p16, d16, rfl, hr16⟩ := id h16
    refine ⟨p16, d16, _, rfl, hr16, no_over _ _, ?_⟩
    refine ⟨_, rfl, _, rfl, _, _, h7.ex (c715.trans e16), h7.ex (c715.trans e16), f3, f3, fun v17 H17 e17 h17 => ?_⟩
    refine ⟨_, _, _, _, rfl, h16.ex e17, h17, f10, f11, fun z => f4 (by rcases Rat.mul_eq_zero.mp z with z | z <;> exact z), fun v18 H18 e18 h18 => ?_⟩
    have c518 := c515.trans (e16.trans (e17.trans e18))
    have so3 := sz_outer lg lg
    refine ⟨_, rfl, _, rfl, _, _, _, _, rfl, hg5.ex c518, hg5.ex c518, f8.ha, f8.hb, lg, lg, fun v19 H19 e19 h19 => ?_⟩
    refine ⟨_, _, _, _, rfl, h18.ex e19, h19, f8.hf, f8.ho, so3.n, so3.r, fun v20 H20 e20 h20 => ?_⟩
    have c520 := c518.trans (e19.trans e20)
    have c1520 := e16.trans (e17.trans (e18.trans (e19.trans e20)))
    -- the end
    have sf1 : Sz (sumM P (scaledM (-1 / dotM (applyM P a) (applyM P a)) (outerM (applyM P (applyM P a)) (applyM P a)))) := sz_sum szP
    have sf2 : Sz (sumM (sumM P (scaledM (-1 / dotM (applyM P a) (applyM P a)) (outerM (applyM P (applyM P a)) (applyM P a)))) (scaledM (-1 / dotM (applyM P a) (applyM P a)) (outerM (applyM P a) (applyM P (applyM P a))))) := sz_sum sf1
    refine ⟨_, rfl, _, rfl, _, _, P, _, rfl, hP5.ex c520, h11.ex (c1115.trans c1520), f6.hp, f6.hs, szP.n, szP.r, fun v21 H21 e21 h21 => ?_⟩
    refine ⟨_, rfl, _, _, _, _, rfl, h21, h15.ex (c1520.trans e21), f12, f7.hs, sf1.n, sf1.r, fun v22 H22 e22 h22 => ?_⟩
    refine ⟨_, rfl, _, _, _, _, rfl, h22, h20.ex (e21.trans e22), f13, f8.hs, sf2.n, sf2.r, fun v23 H23 e23 h23 => ?_⟩
    refine k _ _ (c05.trans (c520.trans (e21.trans (e22.trans e23)))) ?_
    unfold withRemovedM
    rw [if_neg (by rw [hz]; simp)]
    exact h23
end
end Pn
set_option maxHeartbeats 4000000
/-! walks of my own: enumerate of a tuple, zip of a list with a tuple -/
namespace Pn
open PySem PySem.Spec PyProof.Rows L2
open AutoSeq1 (wpAny_loadPart')
/-- a walk that hands new pairs, told by the kit's WalksT at each turn -/
theorem turn_w {P : Program} {w : World} {K : PySem.W.Frag} {elts : List Expr} {kk : Nat} {tpos : Pos} {J : It} {fp wr : List Addr} {it : Addr} {tn : Nat → Heap → Prop} (hm : it ∈ fp) (hw : ∀ b ∈ wr, b ∈ fp)
    (obj : ∀ i h, tn i h → ∀ b ∈ fp, ∃ o, h.get? b = some o ∧ ∀ v, o.data ≠ .cell v) (keep : ∀ i h h', tn i h → (∀ b ∈ fp, ∀ o, h.get? b = some o → h'.get? b = some o) → tn i h')
    (item : ∀ (X : Cx), X.prog = P → X.w = w → X.K = K → X.calm = true → ∀ (i : Nat) (pins : List (Addr × Obj)) (s : Shared) (σ : L2.St) (H : Hp), Inv X pins σ H s → tn i s.heap → J.go i H →
      ∃ n fp' Pt St Mid, WalksT P w X.A it fp' wr n Pt St Mid ∧ i < n ∧ St i s.heap ∧ (∀ h', St (i + 1) h' → tn (i + 1) h') ∧ ∀ vals, Pt i vals → ∃ x y u v, vals = #[u, v] ∧ RelV x u ∧ RelV y v ∧ ∀ T, H T = none → J.yld i H (.ref T) (upd H T (.tup [x, y])))
    (done : ∀ (X : Cx), X.prog = P → X.w = w → X.K = K → X.calm = true → ∀ (i : Nat) (pins : List (Addr × Obj)) (s : Shared) (σ : L2.St) (H : Hp), Inv X pins σ H s → tn i s.heap → J.stop i H →
      ∃ fp' Pt St Mid, WalksT P w X.A it fp' wr i Pt St Mid ∧ St i s.heap)
    (self : ∀ (A : Around) (i : Nat) (s : Shared) (Q : Value → Shared → Prop) (E : Value → Shared → Prop), tn i s.heap → Q (.ref it) s → wpAny (model P w) A (pyIter (.ref it)) Q E s) :
    Turn P w K (.Tuple elts kk tpos) J fp it tn where
  mem := hm
  obj := obj
  keep := keep
  self := self
  item := by
    intro X hP hw' hK hc i pins s σ H E I hf st hg
    obtain ⟨n, fp', Pt, St, Mid, W, hlt, hst, hnx, hpt⟩ := item X hP hw' hK hc i pins s σ H I st hg
    refine W.item i s _ _ hlt hst fun T vals h' tk hv hT hTu hMid hk => ?_
    obtain ⟨x, y, u, v, rfl, rx, ry, hyl⟩ := hpt vals hv
    refine ⟨_, rfl, W.go elts kk tpos i T _ _ _ hMid fun h'' hst2 hk2 => ?_⟩
    have hn : H T = none := I.hok.fresh hT
    obtain ⟨oT, hoT, r1, r2⟩ := hTu
    have hTu2 : h''.IsTuple T #[u, v] := ⟨oT, hk2 T oT (W.apart i T h' hMid) hoT, r1, r2⟩
    subst hP
    subst hw'
    have new : ObjOk X.prog X.w (upd H T (.tup [x, y])) h'' T (.tup [x, y]) := ⟨by show 2 ≤ sizeLine; decide, [u, v], .cons rx (.cons ry .nil), hTu2⟩
    have I1 : Inv X pins σ (upd H T (.tup [x, y])) { s with heap := h'', toks := tk } :=
      I.turnedNew (ch := wr) (fun b o hb q => hk2 b o hb (hk b o hb q)) (fun b hb => hf b (hw b hb)) hT new
    refine ⟨.ref T, _, I1, rfl, hyl T hn, hnx _ hst2, fun b hb => ?_⟩
    obtain ⟨ob, hob, _⟩ := obj i _ st b hb
    rw [upd_ne (Nat.ne_of_lt (Nat.lt_of_lt_of_le (Heap.lt_size hob) hT))]
    exact (hf b hb).1
  done := by
    intro X hP hw' hK hc i pins s σ H E I hf st hg
    obtain ⟨fp', Pt, St, Mid, W, hst⟩ := done X hP hw' hK hc i pins s σ H I st hg
    exact W.done s _ _ hst fun h' tk hk => ⟨rfl, I.turnedL (ch := wr) hk fun b hb => hf b (hw b hb)⟩

/-! ### enumerate(t), t a tuple -/
def IteT (K : PySem.W.Frag) (a : Addr) : It :=
  ⟨fun i H => ∃ (xs : List V) (x : V), SqT K H a xs ∧ xs[i]? = some x, fun i H v H' => ∃ T x, v = .ref T ∧ H T = none ∧ H' = upd H T (.tup [.int (i : Nat), x]) ∧ ∀ xs, SqT K H a xs → xs[i]? = some x, fun i H => ∃ xs : List V, SqT K H a xs ∧ xs.length = i⟩
theorem turn_enumT {P : Program} {w : World} {K : PySem.W.Frag} {elts : List Expr} {kk : Nat} {tpos : Pos} (a e it : Addr) (hae : a ≠ e) (hai : a ≠ it) (hne : e ≠ it) :
    Turn P w K (.Tuple elts kk tpos) (IteT K a) [e, it] e (fun i h => (∃ old, IsEnum h e it ((i : Nat) : Int) old) ∧ h.IsTupleIter it a i) := by
  have key : ∀ (X : Cx), X.prog = P → X.w = w → X.calm = true → ∀ (pins : List (Addr × Obj)) (s : Shared) (σ : L2.St) (H : Hp), Inv X pins σ H s → ∀ (its : List Value),
      WalksT P w X.A e (e :: [it, a]) [e, it] its.toArray.size (fun i vals => ∃ t x, its.toArray[i]? = some x ∧ vals = #[.int ((0 : Int) + (i : Int)) t, x])
        (fun i h => (∃ old, IsEnum h e it ((0 : Int) + (i : Int)) old) ∧ (h.IsTupleIter it a i ∧ h.IsTuple a its.toArray)) (fun i T h => (∃ x, IsEnumOut h e it ((0 : Int) + (i : Int) + 1) x T) ∧ (h.IsTupleIter it a (i + 1) ∧ h.IsTuple a its.toArray) ∧ T ≠ e ∧ T ≠ it) := by
    intro X hP hw hc pins s σ H I its
    exact WalksT.enumFrom 0 (Draws.tuple (A := X.A.in1) (show X.A.in1.handled = none from I.ok.hd hc) it a hai its.toArray) e hne (by simp; exact ⟨hne, fun z => hae z.symm⟩) (by simp)
  refine turn_w (wr := [e, it]) (by simp) (fun b hb => hb) ?_ ?_ ?_ ?_ ?_
  · rintro i h ⟨⟨old, he⟩, o, ho, hc, hd⟩ b hb
    have e' : b = e ∨ b = it := by simpa using hb
    rcases e' with z | z
    · rw [z]; exact ⟨_, he, fun v q => nomatch q⟩
    · rw [z]; exact ⟨o, ho, fun v q => by rw [hd] at q; cases q⟩
  · rintro i h h' ⟨⟨old, he⟩, hi⟩ k
    exact ⟨⟨old, k e (by simp) _ he⟩, hi.at fun o q => k it (by simp) o q⟩
  · intro X hP hw hK hc i pins s σ H I st hg
    subst hK
    obtain ⟨⟨old, he⟩, hit⟩ := st
    obtain ⟨xs, x, hq, hx⟩ := hg
    obtain ⟨its, rv, p, hz⟩ := I.tuple hq
    obtain ⟨u, hu, ru⟩ := rv.get hx
    have hlt : i < its.length := (List.getElem?_eq_some_iff.mp hu).1
    refine ⟨_, _, _, _, _, key X hP hw hc pins s σ H I its, by simpa using hlt, ⟨⟨old, by rw [Int.zero_add]; exact he⟩, hit, p⟩, ?_, ?_⟩
    · rintro h' ⟨⟨old', he'⟩, h1, _⟩
      exact ⟨⟨old', by rw [Int.zero_add] at he'; exact he'⟩, h1⟩
    · rintro vals ⟨t, x', hx', rfl⟩
      have ex : u = x' := by
        rw [List.getElem?_toArray, hu] at hx'
        exact Option.some.inj hx'
      subst ex
      refine ⟨.int (i : Nat), x, _, _, rfl, ⟨t, by rw [Int.zero_add]⟩, ru, fun T hT => ⟨T, x, rfl, hT, rfl, fun ys hy => ?_⟩⟩
      rw [I.tuple_inj hy hq]
      exact hx
  · intro X hP hw hK hc i pins s σ H I st hg
    subst hK
    obtain ⟨⟨old, he⟩, hit⟩ := st
    obtain ⟨xs, hq, hx⟩ := hg
    obtain ⟨its, rv, p, hz⟩ := I.tuple hq
    have hl := rv.length
    have hsz : its.toArray.size = i := by simp; omega
    have := key X hP hw hc pins s σ H I its
    rw [hsz] at this
    exact ⟨_, _, _, _, this, ⟨old, by rw [Int.zero_add]; exact he⟩, hit, p⟩
  · rintro A i s Q E ⟨⟨old, he⟩, _⟩ h
    exact wpAny_pyIter_enum he h
theorem meets_enumerate_newT (l : Addr) (items : Array Value) :
    Meets (Builtin.«enumerate.__new__» ⟨[.type "enumerate", .ref l], []⟩) (fun _ R s => s.heap.IsTuple l items ∧
      R (.ok (.ret (.ref (s.heap.push { cls := .type "tuple_iterator", data := .fields #[.ref l, .int 0 0] }).objs.size)))
        { s with heap := (s.heap.push { cls := .type "tuple_iterator", data := .fields #[.ref l, .int 0 0] }).push { cls := .type "enumerate", data := .fields #[.none, .bool false, .ref s.heap.objs.size, rawInt 0, .none, .none] } }) :=
  .of_wp fun prog w A R s h => by
    obtain ⟨hp, g, d, tk, os⟩ := s; obtain ⟨hl, h⟩ := h
    have hsub := sub_enumerate
    have hL : Heap.IsTuple (Shared.heap ⟨hp, g, d, tk, os⟩) l items := hl
    wp_walk
    refine wpAny_stack_any fun st => wpAny_pure ?_
    split
    · rename_i c _ _ _ _ _
      cases (c == Value.type "enumerate")
      · wp_walk using wpAny_pyIter_tuple hL
        exact ⟨_, rfl, h⟩
      · wp_walk using wpAny_pyIter_tuple hL
        exact ⟨_, rfl, h⟩
    · wp_walk using wpAny_pyIter_tuple hL
      exact ⟨_, rfl, h⟩
theorem call_enumerate_tuple {prog : Program} {w : World} {A : Around} {E : Value → Shared → Prop} {s : Shared} {l : Addr} {items : Array Value} {Q : Value → Shared → Prop} (hL : s.heap.IsTuple l items)
    (h : ∀ h', IsEnum h' (s.heap.objs.size + 1) s.heap.objs.size 0 .none → h'.IsTupleIter s.heap.objs.size l 0 → h'.objs.size = s.heap.objs.size + 2 →
      (∀ b o, s.heap.get? b = some o → h'.get? b = some o) → Q (.ref (s.heap.objs.size + 1)) { s with heap := h' }) :
    wpAny (model prog w) A (call (.type "enumerate") [.ref l]) Q E s := by
  refine callType_new F.called_enumerate (by decide) (F.typeCall_enumerate_1 _) (F.newCall_enumerate_1 _) (fun obj => F.args_object_init_2 obj _) F.entry_enumerate_new
    (meets_enumerate_newT l items) ⟨hL, ?_⟩
  have hz : (s.heap.push { cls := .type "tuple_iterator", data := .fields #[.ref l, .int 0 0] }).objs.size = s.heap.objs.size + 1 := Heap.size_push ..
  show _ ∧ _
  rw [hz]
  have he : IsEnum ((s.heap.push { cls := .type "tuple_iterator", data := .fields #[.ref l, .int 0 0] }).push
      { cls := .type "enumerate", data := .fields #[.none, .bool false, .ref s.heap.objs.size, rawInt 0, .none, .none] }) (s.heap.objs.size + 1) s.heap.objs.size 0 .none := by
    have := Heap.get?_push_size (s.heap.push { cls := .type "tuple_iterator", data := .fields #[.ref l, .int 0 0] })
      (o := { cls := .type "enumerate", data := .fields #[.none, .bool false, .ref s.heap.objs.size, rawInt 0, .none, .none] }) rfl
    rw [hz] at this; exact this
  refine ⟨⟨_, he, rfl⟩, h _ he ⟨_, Heap.get?_push_of_some _ (Heap.get?_push_size _ rfl), rfl, rfl⟩ (by rw [Heap.size_push, hz]) fun b o x => Heap.get?_push_of_some _ (Heap.get?_push_of_some _ x)⟩
def iEnumT (K : PySem.W.Frag) (ta : TA) : TI := fun σ H R => ta σ H fun vs H1 => ∃ a xs, vs = [.ref a] ∧ SqT K H1 a xs ∧ R (IteT K a) H1
theorem pi_enumT {X : Cx} {e : Expr} {ta : TA} {p pos tpos : Pos} {elts : List Expr} {kk : Nat} (hg : Gl X "enumerate") (hm : X.mg "enumerate" = none) (ha : PA X [e] ta) (hs : starEach [e] X.env = [(false, eval e X.env)] := by rfl) :
    PI X (.Tuple elts kk tpos) (.Call (.Name "enumerate" p) [e] [] pos) (iEnumT X.K ta) := by
  refine ⟨fun pins s σ H R I h => ?_⟩
  refine Call_ (ld_blt I hg hm boot_enumerate (PyProof.Rows.callWith_type1 (thn (ha.run pos pins s σ H _ I h) fun us s1 ⟨vs, H1, I1, r1, q1⟩ => ?_) hs rfl))
  obtain ⟨a, xs, ex, hq, q⟩ := q1
  subst ex
  cases r1 with
  | cons r rr =>
    cases rr
    cases r
    obtain ⟨its, rv, p', hz⟩ := I1.tuple hq
    have hal : a < s1.heap.objs.size := by
      obtain ⟨o, ho, _⟩ := id p'
      exact Heap.lt_size ho
    refine call_enumerate_tuple p' fun h' he hit hsz hk => wpAny_pyIter_enum he ?_
    have I2 : Inv X pins σ H1 { s1 with heap := h' } := I1.kept (t' := s1.toks) hk
    refine ⟨s1.heap.objs.size + 1, [s1.heap.objs.size + 1, s1.heap.objs.size], _, _, H1, rfl, I2, turn_enumT a (s1.heap.objs.size + 1) s1.heap.objs.size (Nat.ne_of_lt (Nat.lt_succ_of_lt hal)) (Nat.ne_of_lt hal) (Nat.succ_ne_self _), ⟨⟨.none, he⟩, hit⟩, fun b hb => ?_, q⟩
    have e' : b = s1.heap.objs.size + 1 ∨ b = s1.heap.objs.size := by simpa using hb
    have hle : s1.heap.objs.size ≤ b := by
      rcases e' with z | z
      · rw [z]; exact Nat.le_add_right _ _
      · rw [z]; exact Nat.le_refl _
    exact I1.fpOk hle (I1.hok.fresh hle)
theorem walk_enumT {K : PySem.W.Frag} {a : Addr} {xs : List V} : Walk (IteT K a) xs.length (fun H => SqT K H a xs) (YPair (fun i => some (.int (i : Nat))) (fun i => xs[i]?)) := by
  refine ⟨fun i H hi q => ⟨xs, xs[i], q, by simp [hi]⟩, fun H q => ⟨xs, q, rfl⟩, fun i H v H' hi q y => ?_⟩
  obtain ⟨T, x, h1, h2, h3, h4⟩ := y
  exact ⟨T, _, x, h1, h2, h3, rfl, h4 xs q⟩

/-! ### zip(l, t), l a list, t a tuple -/
def ItzM (K : PySem.W.Frag) (a b : Addr) : It :=
  ⟨fun i H => ∃ (xs ys : List V) (x y : V), SqL K H a xs ∧ SqT K H b ys ∧ xs[i]? = some x ∧ ys[i]? = some y,
    fun i H v H' => ∃ T x y, v = .ref T ∧ H T = none ∧ H' = upd H T (.tup [x, y]) ∧ (∀ xs, SqL K H a xs → xs[i]? = some x) ∧ ∀ ys, SqT K H b ys → ys[i]? = some y,
    fun i H => ∃ xs ys : List V, SqL K H a xs ∧ SqT K H b ys ∧ i = min xs.length ys.length⟩
theorem turn_zipM {P : Program} {w : World} {K : PySem.W.Frag} {elts : List Expr} {kk : Nat} {tpos : Pos} {a b z TI TO i1 i2 : Addr} (S : ZipSep2 z TI TO i1 i2 [i1, a] [i2, b]) (h1a : a ≠ i1) (h2b : b ≠ i2) :
    Turn P w K (.Tuple elts kk tpos) (ItzM K a b) [z, TI, TO, i1, i2] z (fun i h => IsZip h z TI TO .none ∧ IsTupOf2 h TI (.ref i1) (.ref i2) ∧ (∃ x y, IsTupOf2 h TO x y) ∧ h.IsListIter i1 a i ∧ h.IsTupleIter i2 b i) := by
  have key : ∀ (X : Cx), X.calm = true → ∀ (pins : List (Addr × Obj)) (s : Shared) (σ : L2.St) (H : Hp), Inv X pins σ H s → ∀ (its its2 : List Value), _ :=
    fun X hc pins s σ H I its its2 => WalksT.zipD2 (prog := P) (w := w) S (A := X.A) (Draws.list (A := X.A.in1) (show X.A.in1.handled = none from I.ok.hd hc) i1 a h1a its.toArray) (Draws.tuple (A := X.A.in1) (show X.A.in1.handled = none from I.ok.hd hc) i2 b h2b its2.toArray)
  refine turn_w (wr := [z, TO, i1, i2]) (by simp) (fun c hc => by simp at hc ⊢; rcases hc with h | h | h | h <;> simp [h]) ?_ ?_ ?_ ?_ ?_
  · rintro i h ⟨hz, hTI, ⟨x, y, hTO⟩, ⟨o1, e1, _, d1⟩, ⟨o2, e2, _, d2⟩⟩ c hc
    have e' : c = z ∨ c = TI ∨ c = TO ∨ c = i1 ∨ c = i2 := by simpa using hc
    rcases e' with q | q | q | q | q
    · rw [q]; exact ⟨_, hz, fun v q => nomatch q⟩
    · rw [q]; exact ⟨_, hTI, fun v q => nomatch q⟩
    · rw [q]; exact ⟨_, hTO, fun v q => nomatch q⟩
    · rw [q]; exact ⟨o1, e1, fun v q => by rw [d1] at q; cases q⟩
    · rw [q]; exact ⟨o2, e2, fun v q => by rw [d2] at q; cases q⟩
  · rintro i h h' ⟨hz, hTI, ⟨x, y, hTO⟩, h1, h2⟩ k
    exact ⟨k z (by simp) _ hz, k TI (by simp) _ hTI, ⟨x, y, k TO (by simp) _ hTO⟩, h1.at fun o q => k i1 (by simp) o q, h2.at fun o q => k i2 (by simp) o q⟩
  · intro X hP hw hK hc i pins s σ H I st hg
    subst hK
    obtain ⟨hz, hTI, hTO, h1, h2⟩ := st
    obtain ⟨xs, ys, x, y, hqx, hqy, hx, hy⟩ := hg
    obtain ⟨its, rv, p, _⟩ := I.list hqx
    obtain ⟨its2, rv2, p2, _⟩ := I.tuple hqy
    obtain ⟨u, hu, ru⟩ := rv.get hx
    obtain ⟨u2, hu2, ru2⟩ := rv2.get hy
    have l1 : i < its.length := (List.getElem?_eq_some_iff.mp hu).1
    have l2 : i < its2.length := (List.getElem?_eq_some_iff.mp hu2).1
    refine ⟨_, _, _, _, _, key X hc pins s σ H I its its2, by simp; omega, ⟨hz, hTI, hTO, ⟨h1, p.isList⟩, h2, p2⟩, ?_, ?_⟩
    · rintro h' ⟨a1, a2, a3, a4, a5⟩
      exact ⟨a1, a2, a3, a4.1, a5.1⟩
    · rintro vals ⟨x1, x2, e1, e2, rfl⟩
      have ex : u = x1 := by
        rw [List.getElem?_toArray, hu] at e1
        exact Option.some.inj e1
      have ex2 : u2 = x2 := by
        rw [List.getElem?_toArray, hu2] at e2
        exact Option.some.inj e2
      subst ex
      subst ex2
      exact ⟨x, y, _, _, rfl, ru, ru2, fun T hT => ⟨T, x, y, rfl, hT, rfl, fun l hl => by rw [I.list_inj hl hqx]; exact hx, fun l hl => by rw [I.tuple_inj hl hqy]; exact hy⟩⟩
  · intro X hP hw hK hc i pins s σ H I st hg
    subst hK
    obtain ⟨hz, hTI, hTO, h1, h2⟩ := st
    obtain ⟨xs, ys, hqx, hqy, rfl⟩ := hg
    obtain ⟨its, rv, p, _⟩ := I.list hqx
    obtain ⟨its2, rv2, p2, _⟩ := I.tuple hqy
    have := key X hc pins s σ H I its its2
    have hsz : min its.toArray.size its2.toArray.size = min xs.length ys.length := by
      have := rv.length
      have := rv2.length
      simp
      omega
    rw [hsz] at this
    exact ⟨_, _, _, _, this, hz, hTI, hTO, ⟨h1, p.isList⟩, h2, p2⟩
  · rintro A i s Q E ⟨hz, _⟩ h
    exact wpAny_pyIter_zip hz h
def iZipM (K : PySem.W.Frag) (ta : TA) : TI := fun σ H R => ta σ H fun vs H1 => ∃ a b xs ys, vs = [.ref a, .ref b] ∧ SqL K H1 a xs ∧ SqT K H1 b ys ∧ R (ItzM K a b) H1
theorem pi_zipM {X : Cx} {e e2 : Expr} {ta : TA} {p pos tpos : Pos} {elts : List Expr} {kk : Nat} (hg : Gl X "zip") (hm : X.mg "zip" = none) (ha : PA X [e, e2] ta)
    (hs : starEach [e, e2] X.env = (false, eval e X.env) :: starEach [e2] X.env := by rfl) (hpl : (backTo pos (starEach [e2] X.env)).any (·.1) = false := by rfl) :
    PI X (.Tuple elts kk tpos) (.Call (.Name "zip" p) [e, e2] [] pos) (iZipM X.K ta) := by
  refine ⟨fun pins s σ H R I h => ?_⟩
  refine Call_ (ld_blt I hg hm PyProof.Rows.boot_zip (PyProof.Rows.callWith_type1 (thn (ha.run pos pins s σ H _ I h) fun us s1 ⟨vs, H1, I1, r1, q1⟩ => ?_) hs hpl))
  obtain ⟨a, b, xs, ys, ex, hqx, hqy, q⟩ := q1
  subst ex
  cases r1 with
  | cons r rr =>
    cases rr with
    | cons r' rr =>
      cases rr
      cases r
      cases r'
      obtain ⟨its, rv, p1, _⟩ := I1.list hqx
      obtain ⟨its2, rv2, p2, _⟩ := I1.tuple hqy
      have hal : a < s1.heap.objs.size := p1.lt
      have hbl : b < s1.heap.objs.size := by
        obtain ⟨o, ho, _⟩ := id p2
        exact Heap.lt_size ho
      refine zip_begins2 (begins_list a its.toArray) (begins_tuple b its2.toArray) p1.isList p2 fun h' hz hTI hTO h1 h2 hsz hk => wpAny_pyIter_zip hz ?_
      have I2 : Inv X pins σ H1 { s1 with heap := h' } := I1.kept (t' := s1.toks) hk
      refine ⟨s1.heap.objs.size + 4, [s1.heap.objs.size + 4, s1.heap.objs.size + 2, s1.heap.objs.size + 3, s1.heap.objs.size, s1.heap.objs.size + 1], _, _, H1, rfl, I2, turn_zipM ?_ (Nat.ne_of_lt hal) (Nat.ne_of_lt (Nat.lt_succ_of_lt hbl)), ⟨hz, hTI, ⟨_, _, hTO⟩, ⟨_, h1, rfl, rfl⟩, ⟨_, h2, rfl, rfl⟩⟩, fun c hcm => ?_, q⟩
      · have n1 : ∀ k : Nat, s1.heap.objs.size + k ≠ a := fun k => Nat.ne_of_gt (Nat.lt_of_lt_of_le hal (Nat.le_add_right _ _))
        have n2 : ∀ k : Nat, s1.heap.objs.size + k ≠ b := fun k => Nat.ne_of_gt (Nat.lt_of_lt_of_le hbl (Nat.le_add_right _ _))
        have n10 := n1 0
        have n20 := n2 0
        rw [Nat.add_zero] at n10 n20
        exact ⟨by simp, by simp, by simp, by simp, by simp, by simp [n1], by simp [n1], by simp, by simp, by simp [n2], by simp [n2], by simp [n20], by simp [n1]⟩
      · have e' : c = s1.heap.objs.size + 4 ∨ c = s1.heap.objs.size + 2 ∨ c = s1.heap.objs.size + 3 ∨ c = s1.heap.objs.size ∨ c = s1.heap.objs.size + 1 := by simpa using hcm
        have hle : s1.heap.objs.size ≤ c := by
          rcases e' with z | z | z | z | z
          · rw [z]; exact Nat.le_add_right _ _
          · rw [z]; exact Nat.le_add_right _ _
          · rw [z]; exact Nat.le_add_right _ _
          · rw [z]; exact Nat.le_refl _
          · rw [z]; exact Nat.le_add_right _ _
        exact I1.fpOk hle (I1.hok.fresh hle)
theorem walk_zipM {K : PySem.W.Frag} {a b : Addr} {xs ys : List V} {n : Nat} (hn : n = min xs.length ys.length) : Walk (ItzM K a b) n (fun H => SqL K H a xs ∧ SqT K H b ys) (YPair (fun i => xs[i]?) (fun i => ys[i]?)) := by
  subst hn
  refine ⟨fun i _ hi q => ?_, fun _ q => ⟨xs, ys, q.1, q.2, rfl⟩, fun i H v H' _ q y => ?_⟩
  · have h1 : i < xs.length := by omega
    have h2 : i < ys.length := by omega
    exact ⟨xs, ys, xs[i], ys[i], q.1, q.2, by simp [h1], by simp [h2]⟩
  · obtain ⟨T, x, z, h1, h2, h3, h4, h5⟩ := y
    exact ⟨T, x, z, h1, h2, h3, h4 xs q.1, h5 ys q.2⟩
end Pn
set_option maxHeartbeats 4000000
/-! reduced forms -/
namespace Pn
open PySem PySem.Spec PyProof.Rows L2
theorem Al.at' {α β : Type} {R : α → β → Prop} {vs : List α} {xs : List β} (h : Al R vs xs) {i : Nat} {d : β} (hi : i < xs.length) : ∃ v, vs[i]? = some v ∧ R v (xs.getD i d) := by
  obtain ⟨v, h1, h2⟩ := h.get' (List.getElem?_eq_getElem hi)
  refine ⟨v, h1, ?_⟩
  rw [List.getD_eq_getElem?_getD, List.getElem?_eq_getElem hi]
  exact h2
/-- one more at the list at D -/
theorem al_push {K : PySem.W.Frag} {α : Type} {R : Hp → V → α → Prop} (s : Stay K R) {H H' : Hp} {D : Addr} {acc : List V} {xs : List α} {v : V} {x : α} (h : Al (R H) acc xs) (e : Ex H H') (hD : H' D = some (.lst acc)) (r : R H' v x) :
    Al (R (upd H' D (.lst (acc ++ [v])))) (acc ++ [v]) (xs ++ [x]) := by
  have k : Kp K H' (upd H' D (.lst (acc ++ [v]))) := Kp.refl.upd hD (fun z => z)
  refine Al.append (h.imp fun v x r => s _ _ _ _ (e.kp.trans k) r) (Al.cons (s _ _ _ _ k r) Al.nil)
theorem al_kp {K : PySem.W.Frag} {α : Type} {R : Hp → V → α → Prop} (s : Stay K R) {H H' : Hp} {vs : List V} {xs : List α} (h : Al (R H) vs xs) (e : Kp K H H') : Al (R H') vs xs := h.imp fun v x r => s _ _ _ _ e r
section
variable {w : World} {K : PySem.W.Frag} {mg : Str → Option Value} {base : Heap}
def oN : Option Nat → V
  | none => .non
  | some n => .int (n : Nat)
def spPivot (K : PySem.W.Frag) : Sp := fun vs H Q _ => ∃ p m st c wd, vs = [.ref p, .int (st : Nat), .int (c : Nat)] ∧ IsL (IsV K) H p m ∧ Rect m wd ∧ c < wd ∧ st ≤ m.length ∧ ∀ H', Ex H H' → Q (oN (pivM m st c)) H'
theorem sc_pivot_row : FnScope ["rows", "start", "column", "index"] ["rows", "start", "column"] (defScope s_pivot_row) := ⟨rfl, rfl, rfl, by decide +kernel, rfl, by decide +kernel, by decide +kernel⟩
theorem d_pivot_row_ok (T : Txt K mg) : Def PP w K mg base CX0 "pivot_row" (a_pivot_row K) 1 ["rows", "start", "column"] (spPivot K) := by
  obtain ⟨fd, F⟩ := T.d_pivot_row
  refine ⟨⟨fd, ok0 F sc_pivot_row (fun vs H Q E h => ?_) (fun cdv A outer s H vs Q E hr h => ?_), F.bindsN fun _ _ _ _ _ _ us hl => match us, hl with | [_, _, _], _ => rfl⟩, T.g_pivot_row, F.kp⟩
  · obtain ⟨p, m, st, c, wd, rfl, _⟩ := h
    rfl
  obtain ⟨p, m, st, c, wd, rfl, ⟨vr, hp, al⟩, rc, hc, hst, k⟩ := h
  have nd := sc_pivot_row.nd
  refine ⟨_, pss_cons (ps_for PassesOwn.never rfl (pi_range2 rfl T.f_range (pa_cons (pv 1) (pa_cons (pe_callB call_len_seq (by rfl) T.f_len boot_len (pa_cons (pv 0) pa_nil)) pa_nil))) (pg_name (i := 3) nd rfl (Or.inl rfl))
      (pss_one (ps_if (pt_cmpR op_ne (pe_fld (pe_ix ix_tup (pe_ix ix_list (pv 0) (pv 3) (fun _ _ => rfl)) (pv 2) (fun _ _ => rfl)) rfl) pe_int (nomark _)) (pss_one (ps_ret (pv 3))) pss_nil))) (pss_one (ps_ret pe_non)), ?_⟩
  have hn := rc.n
  have hl := al.len
  refine ⟨_, rfl, _, rfl, p, vr, rfl, .inl (SqL.of' hp), (st : Int), _, rfl, ⟨by omega, by omega, by omega, by omega⟩, ?_⟩
  refine for_it walk_range (fun i σ H' => Ex H H' ∧ (∃ o, σ = [some (.ref p), some (.int (st : Nat)), some (.int (c : Nat)), o]) ∧ ∀ j, j < i → ((m.getD (st + j) []).getD c 0).num = 0)
    ⟨Ex.refl H, ⟨_, rfl⟩, fun j h => by omega⟩ (fun _ _ _ _ _ => trivial) ?_ ?_
  · rintro i z σ H1 H2 hi ⟨e, ⟨o, rfl⟩, hz⟩ ⟨rfl, rfl⟩
    have hi' : i < m.length - st := by omega
    obtain ⟨v, hv, ⟨a, va, rfl, ha, la⟩⟩ := al.at' (d := []) (i := st + i) (by omega)
    have hw := rect_getD rc (i := st + i) (by omega)
    obtain ⟨u, hu, ⟨b, db, rfl, hb⟩⟩ := la.at' (d := 0) (i := c) (by omega)
    refine ⟨_, rfl, _, rfl, p, vr, _, .ref a, rfl, rfl, SqL.of' (e _ _ hp), ?_, ?_⟩
    · rw [show (st : Int) + (i : Int) = ((st + i : Nat) : Int) by omega]
      exact atI_nat hv
    refine ⟨_, rfl, a, va, _, _, rfl, rfl, SqT.of' (e _ _ ha), atI_nat hu, ?_⟩
    refine ⟨b, CRt K, db, _, _, rfl, e _ _ hb, T.c_Ratio, T.n_Ratio_top, rf_top _ _, rfl, _, rfl, ?_⟩
    refine ite2 (fun h => ?_) (fun h => ?_)
    · have hne : ((m.getD (st + i) []).getD c 0).num ≠ 0 := by simpa using h
      refine ⟨_, rfl, ?_⟩
      have ez := piv_some hi' hz hne
      have := k _ e
      rw [ez] at this
      show Q (.int ((st : Int) + (i : Int))) _
      rw [show (st : Int) + (i : Int) = ((st + i : Nat) : Int) by omega]
      exact this
    · have he : ((m.getD (st + i) []).getD c 0).num = 0 := by simpa using h
      refine ⟨e, ⟨_, rfl⟩, fun j hj => ?_⟩
      by_cases h1 : j < i
      · exact hz j h1
      · have : j = i := by omega
        subst this
        exact he
  · rintro σ H1 ⟨e, ⟨o, rfl⟩, hz⟩
    have ez := piv_none (m := m) (start := st) (col := c) fun j hj => hz j (by omega)
    have := k _ e
    rw [ez] at this
    exact this

def spCleared (K : PySem.W.Frag) : Sp := fun vs H Q _ => ∃ p m pl c wd, vs = [.ref p, .int (pl : Nat), .int (c : Nat)] ∧ IsL (IsV K) H p m ∧ Rect m wd ∧ c < wd ∧ wd ≤ 1000 ∧ pl < m.length ∧ FClear m pl c ∧
  ∀ l H', H l = none → Ex H H' → IsL (IsV K) H' l (clearM m pl c) → Q (.ref l) H'
theorem sc_cleared : FnScope ["rows", "place", "column", "lead", "unit", "out", "index", "row"] ["rows", "place", "column"] (defScope s_cleared) := ⟨rfl, rfl, rfl, by decide +kernel, rfl, by decide +kernel, by decide +kernel⟩
theorem d_cleared_ok (T : Txt K mg) (hN : base.NoSeer) : Def PP w K mg base CX0 "cleared" (a_cleared K) 45 ["rows", "place", "column"] (spCleared K) := by
  obtain ⟨fd, F⟩ := T.d_cleared
  refine ⟨⟨fd, ok0 F sc_cleared (fun vs H Q E h => ?_) (fun cdv A outer s H vs Q E hr h => ?_), F.bindsN fun _ _ _ _ _ _ us hl => match us, hl with | [_, _, _], _ => rfl⟩, T.g_cleared, F.kp⟩
  · obtain ⟨p, m, st, c, wd, rfl, _⟩ := h
    rfl
  obtain ⟨p, m, pl, c, wd, rfl, ⟨vr, hp, al⟩, rc, hc, hwd, hpl, f, k⟩ := h
  have nd := sc_cleared.nd
  have hr43 : Room 43 _ := hr.mono (by decide)
  refine ⟨_, pss_cons (ps_set (i := 3) nd rfl (Or.inl rfl) (pe_ix ix_list (pv 0) (pv 1) (fun _ _ => rfl)))
    (pss_cons (ps_set (i := 4) nd rfl (Or.inl rfl) (pe_callD (d_scale_ok T hN) hr (pa_cons (pe_methD (m_Ratio_over T hN) hr43 (pe_makeD (k_Ratio1 T hN) (hr.mono (by decide)) (pa_cons pe_int pa_nil)) (pa_cons (pe_ix ix_tup (pv 3) (pv 2) (fun _ _ => rfl)) pa_nil)) (pa_cons (pv 3) pa_nil))))
    (pss_cons (ps_set (i := 5) nd rfl (Or.inl rfl) (pe_lst pa_nil))
    (pss_cons (ps_for PassesOwn.never rfl (pi_enum (by rfl) T.f_enumerate (pa_cons (pv 0) pa_nil)) (pg_tup rfl (pgs_cons (pg_name (i := 6) nd rfl (Or.inl rfl)) (pgs_cons (pg_name (i := 7) nd rfl (Or.inl rfl)) pgs_nil)))
      (pss_one (ps_if (pt_cmpR op_eq (pv 6) (pv 1) (nomark _)) (pss_one (ps_expr (pe_bm PySem.F.plainAttrs_list PySem.F.slot_list_append PySem.F.type_list_append mt_append (pv 5) (pa_cons (pv 4) pa_nil))))
        (pss_one (ps_if (pt_cmpR op_eq (pe_fld (pe_ix ix_tup (pv 7) (pv 2) (fun _ _ => rfl)) rfl) pe_int (nomark _)) (pss_one (ps_expr (pe_bm PySem.F.plainAttrs_list PySem.F.slot_list_append PySem.F.type_list_append mt_append (pv 5) (pa_cons (pv 7) pa_nil))))
          (pss_one (ps_expr (pe_bm PySem.F.plainAttrs_list PySem.F.slot_list_append PySem.F.type_list_append mt_append (pv 5) (pa_cons (pe_callD (d_minus_ok T hN) hr (pa_cons (pv 7) (pa_cons (pe_callD (d_scale_ok T hN) hr (pa_cons (pe_ix ix_tup (pv 7) (pv 2) (fun _ _ => rfl)) (pa_cons (pv 4) pa_nil))) pa_nil))) pa_nil))))))))
      )
    (pss_one (ps_ret (pv 5)))))), ?_⟩
  have hn := rc.n
  have hl := al.len
  obtain ⟨v, hv, rv⟩ := al.at' (d := []) (i := pl) hpl
  obtain ⟨a, va, rfl, ha, la⟩ := rv
  have hw := rect_getD rc (i := pl) hpl
  obtain ⟨u, hu, ru⟩ := la.at' (d := 0) (i := c) (by omega)
  refine ⟨_, rfl, _, rfl, p, vr, _, _, rfl, rfl, SqL.of' hp, atI_nat hv, ?_⟩
  intro x0 dx0 nx0 nd0 ne0
  refine mk1' nx0 nd0 ne0 fun H1 e1 r1 => ⟨rfl, ?_⟩
  obtain ⟨q, dq, eq, hq⟩ := r1
  cases eq
  refine ⟨x0, dq, _, rfl, hq, no_over _ _, ?_⟩
  refine ⟨_, rfl, _, rfl, a, va, _, _, rfl, rfl, SqT.of' (e1 _ _ ha), atI_nat hu, ?_⟩
  refine ⟨_, _, 1, _, rfl, ⟨x0, dq, rfl, hq⟩, ru.ex e1, f.one, f.lc, f.nz, fun v2 H2 e2 h2 => ?_⟩
  have e02 := e1.trans e2
  refine ⟨_, rfl, _, _, _, m.getD pl [], rfl, h2, ⟨a, va, rfl, e02 _ _ ha, la.imp fun v x r => r.ex e02⟩, f.inv, f.lead, by omega, fun v3 H3 e3 h3 => ?_⟩
  have e03 := e02.trans e3
  refine ⟨by show 0 ≤ sizeLine; decide, fun D hD => ?_⟩
  have nD : H D = none := e03.free hD
  have e04 : Ex H (upd H3 D (.lst [])) := e03.new hD
  have hu0 : unitM (m.getD pl []) c = scaleM (1 / (m.getD pl []).getD c 0) (m.getD pl []) := rfl
  rw [← hu0] at h3
  have hul : (unitM (m.getD pl []) c).length = wd := by rw [len_unit]; exact hw
  have hcl : ∀ i, (clearM m pl c)[i]? = (m[i]?).map fun r => rowM (unitM (m.getD pl []) c) pl c i r := fun i => by unfold clearM; rw [List.getElem?_mapIdx]
  refine ⟨_, rfl, p, vr, rfl, SqL.of' (e04 _ _ hp), for_it (walk_enum (xs := vr)) (fun i σ H' => Ex H H' ∧ (∃ o6 o7, σ = [some (.ref p), some (.int (pl : Nat)), some (.int (c : Nat)), some (.ref a), some v3, some (.ref D), o6, o7]) ∧ IsV K H' v3 (unitM (m.getD pl []) c) ∧
      ∃ acc, H' D = some (.lst acc) ∧ Al (IsV K H') acc ((clearM m pl c).take i))
    ⟨e04, ⟨_, _, rfl⟩, h3.ex ((Ex.refl H3).new hD), [], upd_same, by rw [List.take_zero]; exact Al.nil⟩ (fun i σ H' _ P => SqL.of' (P.1 _ _ hp)) ?_ ?_⟩
  · rintro i z σ H5 H6 hi ⟨e, ⟨o6, o7, rfl⟩, h3', acc, hD5, hal⟩ ⟨Tp, vx, vy, rfl, hT, rfl, hx, hy⟩
    have e6 : Ex H5 (upd H5 Tp (.tup [vx, vy])) := (Ex.refl _).new hT
    have hvx : vx = .int (i : Nat) := (Option.some.inj hx).symm
    subst hvx
    obtain ⟨r, hr0, b, vb, rfl, hb, lb⟩ := al.get hy
    have hrm : r ∈ m := List.mem_of_getElem? hr0
    have hrl : r.length = wd := rc.w r hrm
    obtain ⟨f1, f2, f3⟩ := f.rows r hrm
    have hal_len : acc.length = i := by
      rw [hal.len, List.length_take, len_clear]
      omega
    have hDe : ∀ H7, Ex H5 H7 → H7 D = some (.lst acc) := fun H7 e7 => e7 _ _ hD5
    have step : ∀ (vn : V) (H7 : Hp), Ex (upd H5 Tp (.tup [.int (i : Nat), .ref b])) H7 → IsV K H7 vn (rowM (unitM (m.getD pl []) c) pl c i r) → H7 D = some (.lst acc) ∧ acc.length < sizeLine ∧
        (Ex H (upd H7 D (.lst (acc ++ [vn]))) ∧ (∃ o6 o7, ([some (.ref p), some (.int (pl : Nat)), some (.int (c : Nat)), some (.ref a), some v3, some (.ref D), some (.int (i : Nat)), some (.ref b)] : L2.St) = [some (.ref p), some (.int (pl : Nat)), some (.int (c : Nat)), some (.ref a), some v3, some (.ref D), o6, o7]) ∧
          IsV K (upd H7 D (.lst (acc ++ [vn]))) v3 (unitM (m.getD pl []) c) ∧ ∃ acc', upd H7 D (.lst (acc ++ [vn])) D = some (.lst acc') ∧ Al (IsV K (upd H7 D (.lst (acc ++ [vn])))) acc' ((clearM m pl c).take (i + 1))) := by
      intro vn H7 e7 rn
      have e57 := e6.trans e7
      have hD7 := hDe _ e57
      refine ⟨hD7, by rw [sizeLine_eq]; omega, (e.trans e57).mut nD, ⟨_, _, rfl⟩, h3'.kp (e57.kp.upd hD7 (fun z => z)), _, upd_same, ?_⟩
      rw [List.take_add_one, hcl, hr0]
      exact al_push stayV hal e57 hD7 rn
    refine ⟨Tp, _, rfl, SqT.of' upd_same, rfl, _, _, rfl, _, _, rfl, rfl, ?_⟩
    refine ⟨_, rfl, _, rfl, rfl, _, rfl, ite2 (fun h => ?_) (fun h => ?_)⟩
    · have hi' : i = pl := by
        have : (V.int (i : Nat)) = V.int (pl : Nat) := by simpa using h
        injection this with this
        omega
      obtain ⟨s1, s2, s3⟩ := step v3 _ (Ex.refl _) (by unfold rowM; rw [if_pos hi']; exact h3'.ex e6)
      exact ⟨_, rfl, .inl ⟨rfl, _, SqL.of' s1⟩, _, rfl, D, acc, v3, rfl, rfl, s1, s2, s3⟩
    · have hi' : ¬ i = pl := fun z => by
        subst z
        simp at h
      obtain ⟨u7, hu7, ⟨b7, db7, rfl, hb7⟩⟩ := lb.at' (d := 0) (i := c) (by omega)
      have e06 := e.trans e6
      have hb6 := e06 _ _ hb
      refine ⟨_, rfl, _, rfl, b, vb, _, _, rfl, rfl, SqT.of' hb6, atI_nat hu7, b7, CRt K, db7, _, _, rfl, e06 _ _ hb7, T.c_Ratio, T.n_Ratio_top, rf_top _ _, rfl, _, rfl, ite2 (fun h2 => ?_) (fun h2 => ?_)⟩
      · have hz : (r.getD c 0).num = 0 := by simpa using h2
        obtain ⟨s1, s2, s3⟩ := step (.ref b) _ (Ex.refl _) (by unfold rowM; rw [if_neg hi', if_pos hz]; exact ⟨b, vb, rfl, hb6, lb.imp fun v x r => r.ex e06⟩)
        exact ⟨_, rfl, .inl ⟨rfl, _, SqL.of' s1⟩, _, rfl, D, acc, _, rfl, rfl, s1, s2, s3⟩
      · have hz : ¬ (r.getD c 0).num = 0 := by simpa using h2
        refine ⟨_, rfl, .inl ⟨rfl, _, SqL.of' (hDe _ e6)⟩, ?_⟩
        refine ⟨_, rfl, _, rfl, _, rfl, b, vb, _, _, rfl, rfl, SqT.of' hb6, atI_nat hu7, _, rfl, ?_⟩
        refine ⟨_, _, r.getD c 0, _, rfl, ⟨b7, db7, rfl, e06 _ _ hb7⟩, h3'.ex e6, f2, f.unit, by omega, fun v8 H8 e8 h8 => ?_⟩
        refine ⟨_, _, r, _, rfl, ⟨b, vb, rfl, e8 _ _ hb6, lb.imp fun v x r => r.ex (e06.trans e8)⟩, h8, f1, f3, by omega, fun v9 H9 e9 h9 => ?_⟩
        obtain ⟨s1, s2, s3⟩ := step v9 H9 (e8.trans e9) (by unfold rowM; rw [if_neg hi', if_neg hz]; exact h9)
        exact ⟨D, acc, v9, rfl, rfl, s1, s2, s3⟩
  · rintro σ H5 ⟨e, ⟨o6, o7, rfl⟩, _, acc, hD5, hal⟩
    rw [List.take_of_length_le (by rw [len_clear]; omega)] at hal
    exact ⟨_, rfl, k D _ nD e ⟨acc, hD5, hal⟩⟩
end
end Pn
set_option maxHeartbeats 4000000
/-! reduced, rank, solve, span_of -/
namespace Pn
open PySem PySem.Spec PyProof.Rows L2
theorem ixN_n {n j : Nat} (hj : j < n) : ixN n (j : Int) = some j := by
  unfold ixN
  rw [if_pos (Int.natCast_nonneg j), if_pos (by omega)]
  rfl
/-- whole numbers as values -/
def nVs (l : List Nat) : List V := l.map fun n => V.int (n : Nat)
theorem nVs_len (l : List Nat) : (nVs l).length = l.length := by simp [nVs]
theorem swap_eq {m : Mat} {i j : Nat} : swapM m i j = (m.set i (m.getD j [])).set j (m.getD i []) := rfl
theorem cutV_to (xs : List V) (n : Nat) (h : n ≤ xs.length) : cutV xs none (some (n : Int)) = xs.take n := by
  unfold cutV
  have e1 : HT.sIx xs.length 0 none = 0 := rfl
  have e2 : HT.sIx xs.length xs.length (some (n : Int)) = n := by
    rw [HT.sIx_nat]
    omega
  rw [e1, e2, List.drop_zero, Nat.sub_zero]
theorem flat_nVs (l : List Nat) : (nVs l).all flatV = true := by
  rw [List.all_eq_true]
  intro x hx
  obtain ⟨n, _, rfl⟩ := List.mem_map.mp hx
  rfl
theorem in_nVs (l : List Nat) (n : Nat) : inV (.int (n : Nat)) (nVs l) = decide (n ∈ l) := by
  unfold inV nVs
  rw [List.any_map]
  apply Bool.eq_iff_iff.mpr
  rw [List.any_eq_true, decide_eq_true_iff]
  constructor
  · rintro ⟨x, hx, h⟩
    have h : ((x : Int) == (n : Int)) = true := h
    have h2 : (x : Int) = (n : Int) := by simpa using h
    have : x = n := Int.ofNat.inj h2
    rw [← this]
    exact hx
  · intro h
    exact ⟨n, h, by show ((n : Int) == (n : Int)) = true; simp⟩
theorem walk_range0 {n : Nat} : Walk (Itr 0 n) n (fun _ => True) (YFn fun i => .int (i : Nat)) := walk_range.mono (fun _ h => h) fun i H x H' _ _ y => ⟨y.1, by rw [y.2]; show V.int (0 + (i : Int)) = V.int (i : Int); rw [Int.zero_add]⟩
section
variable {w : World} {K : PySem.W.Frag} {mg : Str → Option Value} {base : Heap}
def IsRed (K : PySem.W.Frag) (H : Hp) (v : V) (r : Mat × List Nat) : Prop := ∃ p vr q, v = .ref p ∧ H p = some (.tup [vr, .ref q]) ∧ IsM K H vr r.1 ∧ H q = some (.tup (nVs r.2))
def spReduced (K : PySem.W.Frag) : Sp := fun vs H Q _ => ∃ vm m wd, vs = [vm, .int (wd : Nat)] ∧ IsM K H vm m ∧ Rect m wd ∧ wd ≤ 1000 ∧ FRed m wd ∧ ∀ v H', Ex H H' → IsRed K H' v (redM m wd) → Q v H'
theorem sc_reduced : FnScope ["matrix", "width", "rows", "pivots", "column", "place", "found"] ["matrix", "width"] (defScope s_reduced) := ⟨rfl, rfl, rfl, by decide +kernel, rfl, by decide +kernel, by decide +kernel⟩
theorem d_reduced_ok (T : Txt K mg) (hN : base.NoSeer) : Def PP w K mg base CX0 "reduced" (a_reduced K) 46 ["matrix", "width"] (spReduced K) := by
  obtain ⟨fd, F⟩ := T.d_reduced
  refine ⟨⟨fd, ok0 F sc_reduced (fun vs H Q E h => ?_) (fun cdv A outer s H vs Q E hr h => ?_), F.bindsN fun _ _ _ _ _ _ us hl => match us, hl with | [_, _], _ => rfl⟩, T.g_reduced, F.kp⟩
  · obtain ⟨vm, m, wd, rfl, _⟩ := h
    rfl
  obtain ⟨_, m, wd, rfl, ⟨a, va, rfl, ha, la⟩, rc, hwd, f, k⟩ := h
  have nd := sc_reduced.nd
  refine ⟨_, pss_cons (ps_set (i := 2) nd rfl (Or.inl rfl) (pe_callTy call_list_of (by rfl) T.f_list boot_list (pa_cons (pv 0) pa_nil)))
    (pss_cons (ps_set (i := 3) nd rfl (Or.inl rfl) (pe_lst pa_nil))
    (pss_cons (ps_for PassesOwn.never rfl (pi_range1 rfl T.f_range (pa_cons (pv 1) pa_nil)) (pg_name (i := 4) nd rfl (Or.inl rfl))
      (pss_cons (ps_set (i := 5) nd rfl (Or.inl rfl) (pe_callB call_len_seq (by rfl) T.f_len boot_len (pa_cons (pv 3) pa_nil)))
      (pss_cons (ps_set (i := 6) nd rfl (Or.inl rfl) (pe_callD (d_pivot_row_ok T) (hr.mono (by decide)) (pa_cons (pv 2) (pa_cons (pv 5) (pa_cons (pv 4) pa_nil)))))
      (pss_one (ps_if (pt_cmpR op_notN (pv 6) pe_non (nomark _))
        (pss_cons (ps_asg (pe_tup (pa_cons (pe_ix ix_list (pv 2) (pv 6) (fun _ _ => rfl)) (pa_cons (pe_ix ix_list (pv 2) (pv 5) (fun _ _ => rfl)) pa_nil))) (pg_tup rfl (pgs_cons (pg_sub (pv 2) (pv 5) set_list) (pgs_cons (pg_sub (pv 2) (pv 6) set_list) pgs_nil))))
        (pss_cons (ps_set (i := 2) nd rfl (Or.inl rfl) (pe_callD (d_cleared_ok T hN) hr (pa_cons (pv 2) (pa_cons (pv 5) (pa_cons (pv 4) pa_nil)))))
        (pss_one (ps_expr (pe_bm PySem.F.plainAttrs_list PySem.F.slot_list_append PySem.F.type_list_append mt_append (pv 3) (pa_cons (pv 4) pa_nil))))))
        pss_nil)))))
    (pss_one (ps_ret (pe_tup (pa_cons (pe_callTy call_tuple_of (by rfl) T.f_tuple boot_tuple (pa_cons (pe_slice sl_list (pv 2) po_none (po_some (pe_callB call_len_seq (by rfl) T.f_len boot_len (pa_cons (pv 3) pa_nil)))) pa_nil)) (pa_cons (pe_callTy call_tuple_of (by rfl) T.f_tuple boot_tuple (pa_cons (pv 3) pa_nil)) pa_nil))))))), ?_⟩
  have hn := rc.n
  have hl := la.len
  refine ⟨_, rfl, a, va, rfl, .inr (SqT.of' ha), fun L hL => ?_⟩
  have e1 : Ex H (upd H L (.lst va)) := (Ex.refl H).new hL
  refine ⟨by show 0 ≤ sizeLine; decide, fun D hD => ?_⟩
  have e2 : Ex H (upd (upd H L (.lst va)) D (.lst [])) := e1.new hD
  have nD : H D = none := e1.free hD
  have hLD : L ≠ D := ne_of_none (show upd H L (.lst va) L = some (.lst va) from upd_same) hD
  refine ⟨_, rfl, (wd : Int), rfl, by omega, by omega, ?_⟩
  rw [Int.toNat_natCast]
  refine for_it walk_range0 (fun j σ H' => Ex H H' ∧ (∃ L o4 o5 o6, σ = [some (.ref a), some (.int (wd : Nat)), some (.ref L), some (.ref D), o4, o5, o6] ∧ L ≠ D ∧ H L = none ∧ IsL (IsV K) H' L (redTo m j).1) ∧ H' D = some (.lst (nVs (redTo m j).2)))
    ⟨e2, ⟨L, _, _, _, rfl, hLD, hL, va, by rw [upd_ne hLD, upd_same], al_kp stayV la (e2.kp)⟩, upd_same⟩ (fun _ _ _ _ _ => trivial) ?_ ?_
  · rintro j z σ H3 H4 hj ⟨e, ⟨L, o4, o5, o6, rfl, hLD, nL, vr, hvr, al⟩, hDv⟩ ⟨rfl, rfl⟩
    obtain ⟨r1, r2, r3, r4, r5⟩ := redTo_ok rc j
    refine ⟨_, rfl, D, _, rfl, .inl (SqL.of' hDv), ?_⟩
    rw [nVs_len]
    refine ⟨_, rfl, _, rfl, _, rfl, L, (redTo m j).1, (redTo m j).2.length, j, wd, rfl, ⟨vr, hvr, al⟩, r1, hj, by omega, fun H5 e5 => ?_⟩
    have hv5 := e5 _ _ hvr
    have hD5 := e5 _ _ hDv
    have e05 := e.trans e5
    have al5 := al_kp stayV al e5.kp
    cases hp : pivM (redTo m j).1 (redTo m j).2.length j with
    | none =>
      have hst : redTo m (j + 1) = redTo m j := by rw [redTo_succ]; unfold redStep; rw [hp]
      refine ⟨_, rfl, rfl, _, rfl, ?_⟩
      rw [show (decide (oN none = V.non)) = true from rfl]
      refine iteF ⟨e05, ⟨L, _, _, _, rfl, hLD, nL, ?_⟩, ?_⟩
      · rw [hst]; exact ⟨vr, hv5, al5⟩
      · rw [hst]; exact hD5
    | some g =>
      obtain ⟨g1, g2, g3⟩ := piv_spec hp
      have hst : redTo m (j + 1) = (clearM (swapM (redTo m j).1 (redTo m j).2.length g) (redTo m j).2.length j, (redTo m j).2 ++ [j]) := by rw [redTo_succ]; unfold redStep; rw [hp]
      have fc := f j g hj hp
      refine ⟨_, rfl, rfl, _, rfl, ?_⟩
      rw [show (decide (oN (some g) = V.non)) = false from rfl]
      have hpl : (redTo m j).2.length < (redTo m j).1.length := by omega
      obtain ⟨vg, hg, rg⟩ := al5.at' (d := []) (i := g) g2
      obtain ⟨vp, hpv, rp⟩ := al5.at' (d := []) (i := (redTo m j).2.length) hpl
      have hlen := al.len
      refine iteT ?_
      refine ⟨_, rfl, _, rfl, L, vr, _, vg, rfl, rfl, SqL.of' hv5, atI_nat hg, ?_⟩
      refine ⟨_, rfl, _, rfl, L, vr, _, vp, rfl, rfl, SqL.of' hv5, atI_nat hpv, by show 2 ≤ sizeLine; decide, fun Tp hT => ?_⟩
      have e6 : Ex H5 (upd H5 Tp (.tup [vg, vp])) := (Ex.refl _).new hT
      have hv6 := e6 _ _ hv5
      refine ⟨Tp, _, rfl, SqT.of' upd_same, rfl, vg, _, rfl, ?_⟩
      refine ⟨_, rfl, _, rfl, L, vr, _, (redTo m j).2.length, rfl, rfl, hv6, ixN_n (by omega), ?_⟩
      refine ⟨vp, _, rfl, _, rfl, _, rfl, L, _, _, g, rfl, rfl, upd_same, by rw [List.length_set]; exact ixN_n (by omega), rfl, ?_⟩
      rw [upd_upd]
      have k6 : Kp K H5 (upd (upd H5 Tp (.tup [vg, vp])) L (.lst ((vr.set (redTo m j).2.length vg).set g vp))) := e6.kp.upd hv6 (fun z => z)
      have e07 : Ex H (upd (upd H5 Tp (.tup [vg, vp])) L (.lst ((vr.set (redTo m j).2.length vg).set g vp))) := (e05.trans e6).mut nL
      have al7 : Al (IsV K (upd (upd H5 Tp (.tup [vg, vp])) L (.lst ((vr.set (redTo m j).2.length vg).set g vp)))) ((vr.set (redTo m j).2.length vg).set g vp) (swapM (redTo m j).1 (redTo m j).2.length g) :=
        ((al_kp stayV al5 k6).set _ (rg.kp k6)).set _ (rp.kp k6)
      have rsw := rect_swap r1 hpl g2
      refine ⟨_, rfl, _, rfl, _, rfl, L, swapM (redTo m j).1 (redTo m j).2.length g, (redTo m j).2.length, j, wd, rfl, ⟨_, upd_same, al7⟩, rsw, hj, hwd, by rw [len_swap]; omega, fc, fun L2 H8 nL2 e8 il => ?_⟩
      have hD7 : upd (upd H5 Tp (.tup [vg, vp])) L (.lst ((vr.set (redTo m j).2.length vg).set g vp)) D = some (.lst (nVs (redTo m j).2)) := by
        rw [upd_ne (Ne.symm hLD)]
        exact e6 _ _ hD5
      have hD8 := e8 _ _ hD7
      have hL2D : L2 ≠ D := fun z => by
        rw [z, hD7] at nL2
        cases nL2
      have e08 := e07.trans e8
      have nL20 : H L2 = none := e07.free nL2
      refine ⟨_, rfl, .inl ⟨rfl, _, SqL.of' hD8⟩, _, rfl, D, _, _, rfl, rfl, hD8, by rw [nVs_len, sizeLine_eq]; omega, ?_⟩
      refine ⟨e08.mut nD, ⟨L2, _, _, _, rfl, hL2D, nL20, ?_⟩, ?_⟩
      · obtain ⟨vr2, hv2, al2⟩ := il
        rw [hst]
        refine ⟨vr2, by rw [upd_ne hL2D]; exact hv2, al_kp stayV al2 (Kp.refl.upd hD8 (fun z => z))⟩
      · rw [hst, upd_same]
        show some (HO.lst (nVs (redTo m j).2 ++ [V.int (j : Nat)])) = some (.lst (nVs ((redTo m j).2 ++ [j])))
        unfold nVs
        rw [List.map_append]
        rfl
  · rintro σ H3 ⟨e, ⟨L, o4, o5, o6, rfl, hLD, nL, vr, hvr, al⟩, hDv⟩
    obtain ⟨r1, r2, r3, r4, r5⟩ := redTo_ok rc wd
    have hlen := al.len
    refine ⟨_, rfl, _, rfl, D, _, rfl, .inl (SqL.of' hDv), _, rfl, L, vr, rfl, SqL.of' hvr, fun p1 hp1 => ?_⟩
    rw [nVs_len, cutV_to _ _ (by omega)]
    have e4 : Ex H3 (upd H3 p1 (.lst (vr.take (redTo m wd).2.length))) := (Ex.refl _).new hp1
    refine ⟨p1, _, rfl, .inl ⟨SqL.of' upd_same, fun p2 hp2 => ?_⟩⟩
    have e5 := e4.new (p := p2) (o := .tup (vr.take (redTo m wd).2.length)) hp2
    refine ⟨_, rfl, D, _, rfl, .inl ⟨SqL.of' (e5 _ _ hDv), fun p3 hp3 => ?_⟩⟩
    have e6 := e5.new (p := p3) (o := .tup (nVs (redTo m wd).2)) hp3
    refine ⟨by show 2 ≤ sizeLine; decide, fun p4 hp4 => k _ _ (e.trans (e6.new hp4)) ?_⟩
    have e7 := e6.new (p := p4) (o := .tup [.ref p2, .ref p3]) hp4
    refine ⟨p4, _, p3, rfl, upd_same, ⟨p2, _, rfl, ?_, (al_kp stayV al e7.kp).take _⟩, ?_⟩
    · have n34 : p2 ≠ p4 := ne_of_none (show upd _ p3 _ p2 = some _ from ((Ex.refl _).new hp3) p2 _ upd_same) hp4
      rw [upd_ne n34]
      exact ((Ex.refl _).new hp3) p2 _ upd_same
    · exact ((Ex.refl _).new hp4) p3 _ upd_same

def spRank (K : PySem.W.Frag) : Sp := fun vs H Q _ => ∃ vm m wd, vs = [vm, .int (wd : Nat)] ∧ IsM K H vm m ∧ Rect m wd ∧ wd ≤ 1000 ∧ FRed m wd ∧ ∀ H', Ex H H' → Q (.int (rankM m wd : Nat)) H'
theorem sc_rank : FnScope ["matrix", "width"] ["matrix", "width"] (defScope s_rank) := ⟨rfl, rfl, rfl, by decide +kernel, rfl, by decide +kernel, by decide +kernel⟩
theorem d_rank_ok (T : Txt K mg) (hN : base.NoSeer) : Def PP w K mg base CX0 "rank" (a_rank K) 47 ["matrix", "width"] (spRank K) := by
  obtain ⟨fd, F⟩ := T.d_rank
  refine ⟨⟨fd, ok0 F sc_rank (fun vs H Q E h => ?_) (fun cdv A outer s H vs Q E hr h => ?_), F.bindsN fun _ _ _ _ _ _ us hl => match us, hl with | [_, _], _ => rfl⟩, T.g_rank, F.kp⟩
  · obtain ⟨vm, m, wd, rfl, _⟩ := h
    rfl
  obtain ⟨vm, m, wd, rfl, hm, rc, hwd, f, k⟩ := h
  refine ⟨_, pss_one (ps_ret (pe_callB call_len_seq (by rfl) T.f_len boot_len (pa_cons (pe_ix ix_tup (pe_callD (d_reduced_ok T hN) hr (pa_cons (pv 0) (pa_cons (pv 1) pa_nil))) pe_int (fun _ _ => rfl)) pa_nil))), ?_⟩
  refine ⟨_, rfl, _, rfl, vm, m, wd, rfl, hm, rc, hwd, f, fun v H1 e1 ⟨p, vr, q, hv, hp, h1, h2⟩ => ?_⟩
  subst hv
  refine ⟨p, _, _, .ref q, rfl, rfl, SqT.of' hp, rfl, q, _, rfl, .inr (SqT.of' h2), ?_⟩
  rw [nVs_len]
  exact k H1 e1
end
end Pn
set_option maxHeartbeats 4000000
/-! solve, span_of, widened -/
namespace Pn
open PySem PySem.Spec PyProof.Rows L2
theorem cat_one {K : PySem.W.Frag} {H : Hp} {a b : Addr} {xs : List V} {vy : V} {Q : VK} (ha : H a = some (.tup xs)) (hb : H b = some (.tup [vy])) (hz : xs.length + 1 ≤ sizeLine) (q : ∀ p H', Ex H H' → H' p = some (.tup (xs ++ [vy])) → Q (.ref p) H') :
    rCatA K (.ref a) (.ref b) H Q := by
  refine ⟨a, b, xs, [vy], rfl, rfl, SqT.of' ha, SqT.of' hb, hz, fun h => ?_, (fun _ h => by cases h), fun _ _ p hp => q p _ ((Ex.refl H).new hp) upd_same⟩
  subst h
  exact q b H (Ex.refl H) hb
def fillTo (rows : Mat) (pivots : List Nat) (w j : Nat) : Vec := (List.range j).foldl (fun acc i => acc.set (pivots.getD i 0) ((rows.getD i []).getD w 0)) (List.replicate w 0)
theorem fillTo_succ (rows : Mat) (pivots : List Nat) (w j : Nat) : fillTo rows pivots w (j + 1) = (fillTo rows pivots w j).set (pivots.getD j 0) ((rows.getD j []).getD w 0) := by
  unfold fillTo
  rw [List.range_succ, List.foldl_append]
  rfl
theorem fillTo_len (rows : Mat) (pivots : List Nat) (w : Nat) : ∀ j, (fillTo rows pivots w j).length = w
  | 0 => by simp [fillTo]
  | j + 1 => by rw [fillTo_succ, List.length_set]; exact fillTo_len rows pivots w j
section
variable {w : World} {K : PySem.W.Frag} {mg : Str → Option Value} {base : Heap}
theorem al_kpR {H H' : Hp} {vs : List V} {xs : Vec} (h : Al (IsR K H) vs xs) (e : Kp K H H') : Al (IsR K H') vs xs := h.imp fun v x r => r.kp e
def spSolve (K : PySem.W.Frag) : Sp := fun vs H Q _ => ∃ vm vv m v wd, vs = [vm, .int (wd : Nat), vv] ∧ IsM K H vm m ∧ IsV K H vv v ∧ (∀ r ∈ m, r.length = wd) ∧ m.length ≤ 1000 ∧ wd ≤ 999 ∧ FRed (joinM m v) (wd + 1) ∧
  (solveM m wd v = none → ∀ H', Ex H H' → Q .non H') ∧ ∀ x, solveM m wd v = some x → ∀ r H', Ex H H' → IsV K H' r x → Q r H'
theorem rect_join {m : Mat} {v : Vec} {wd : Nat} (h : ∀ r ∈ m, r.length = wd) (hm : m.length ≤ 1000) : Rect (joinM m v) (wd + 1) := by
  refine ⟨by simp [joinM]; omega, fun r hr => ?_⟩
  unfold joinM at hr
  obtain ⟨i, hi, rfl⟩ := List.getElem_of_mem hr
  rw [List.length_zipWith] at hi
  rw [List.getElem_zipWith, List.length_append, h _ (List.getElem_mem _)]
  rfl
abbrev nSolve : List Str := ["matrix", "width", "vector", "row", "value", "joined", "rows", "pivots", "found", "_", "index", "column"]
theorem sc_solve : FnScope nSolve ["matrix", "width", "vector"] (defScope s_solve) := ⟨rfl, rfl, rfl, by decide +kernel, rfl, by decide +kernel, by decide +kernel⟩
theorem d_solve_ok (T : Txt K mg) (hN : base.NoSeer) : Def PP w K mg base CX0 "solve" (a_solve K) 47 ["matrix", "width", "vector"] (spSolve K) := by
  obtain ⟨fd, F⟩ := T.d_solve
  refine ⟨⟨fd, ok0 F sc_solve (fun vs H Q E h => ?_) (fun cdv A outer s H vs Q E hr h => ?_), F.bindsN fun _ _ _ _ _ _ us hl => match us, hl with | [_, _, _], _ => rfl⟩, T.g_solve, F.kp⟩
  · obtain ⟨vm, vv, m, v, wd, rfl, _⟩ := h
    rfl
  obtain ⟨_, _, m, v, wd, rfl, ⟨a, va, rfl, ha, la⟩, ⟨b, vb, rfl, hb, lb⟩, hrow, hm, hwd, f, kn, ks⟩ := h
  have nd := sc_solve.nd
  refine ⟨_, pss_cons (ps_setLc (i := 5) (own := [("row", 3), ("value", 4)]) (g := gTup K 2 (gCons (gName 3) (gCons (gName 4) gNil))) (tt := tYes) (te := tOp (rCatA K) (tVar 3) (tTup (tCons (tVar 4) tNil))) rfl nd rfl rfl (sw_true rfl rfl rfl (by decide +kernel))
      (RZ.pi_zipA (by rfl) T.f_zip (pa_cons (pv 0) (pa_cons (pv 2) pa_nil))) (blkOk_by (N := nSolve) (sc := defScope s_solve) (by decide +kernel))
      (fun _ _ _ _ _ => pg_tup rfl (pgs_cons (pg_name (i := 3) nd rfl (Or.inl rfl)) (pgs_cons (pg_name (i := 4) nd rfl (Or.inl rfl)) pgs_nil))) (fun _ _ _ _ _ => pts_nil) (fun _ _ _ _ _ => pe_op op_catA (pv 3) (pe_tup (pa_cons (pv 4) pa_nil))))
    (pss_cons (ps_asg (pe_callD (d_reduced_ok T hN) hr (pa_cons (pe_callTy call_tuple_of (by rfl) T.f_tuple boot_tuple (pa_cons (pv 5) pa_nil)) (pa_cons (pe_op op_add (pv 1) pe_int) pa_nil))) (pg_tup rfl (pgs_cons (pg_name (i := 6) nd rfl (Or.inl rfl)) (pgs_cons (pg_name (i := 7) nd rfl (Or.inl rfl)) pgs_nil))))
    (pss_cons (ps_if (pt_cmpR op_in_seq (pv 1) (pv 7) (by rfl)) (pss_one (ps_ret pe_non)) pss_nil)
    (pss_cons (ps_setLc (i := 8) (own := [("_", 9)]) (g := gName 9) (tt := tYes) (te := tMake (CRt K) (spRInit K) [.int 1] E0 (tCons (tC (.int 0)) tNil)) rfl nd rfl rfl (sw_true rfl rfl rfl (by decide +kernel))
      (pi_range1 rfl T.f_range (pa_cons (pv 1) pa_nil)) (blkOk_by (N := nSolve) (sc := defScope s_solve) (by decide +kernel))
      (fun _ _ _ _ _ => pg_name (i := 9) nd rfl (Or.inl rfl)) (fun _ _ _ _ _ => pts_nil) (fun _ _ _ _ _ => pe_makeD (k_Ratio1 T hN) (hr.mono (by decide)) (pa_cons pe_int pa_nil)))
    (pss_cons (ps_for PassesOwn.never rfl (pi_enumT (by rfl) T.f_enumerate (pa_cons (pv 7) pa_nil)) (pg_tup rfl (pgs_cons (pg_name (i := 10) nd rfl (Or.inl rfl)) (pgs_cons (pg_name (i := 11) nd rfl (Or.inl rfl)) pgs_nil)))
      (pss_one (ps_asg (pe_ix ix_tup (pe_ix ix_tup (pv 6) (pv 10) (fun _ _ => rfl)) (pv 1) (fun _ _ => rfl)) (pg_sub (pv 8) (pv 11) set_list))))
    (pss_one (ps_ret (pe_callTy call_tuple_of (by rfl) T.f_tuple boot_tuple (pa_cons (pv 8) pa_nil)))))))), ?_⟩
  have rj := rect_join (v := v) hrow hm
  refine ⟨_, rfl, _, rfl, a, b, va, vb, rfl, .inr ⟨SqT.of' ha, SqT.of' hb, fun D hD => ?_⟩⟩
  refine lc_al (K := K) (walk_zipT rfl) stayV (joinM m v) (by unfold joinM; rw [List.length_zipWith, la.len, lb.len]) (by have := la.len; omega) hD (fun H1 e => ⟨SqT.of' (e _ _ ha), SqT.of' (e _ _ hb)⟩) ypair_ex ?_ ?_
  · rintro i z y H1 H2 hi hy e1 ⟨Tp, vx, vy, rfl, hT, rfl, hx, hy2⟩ Rk kk
    obtain ⟨r, hr0, c, vc, rfl, hc, lc⟩ := la.get hx
    obtain ⟨x, hx0, rx⟩ := lb.get hy2
    have ey : y = r ++ [x] := by
      unfold joinM at hy
      rw [List.getElem?_zipWith, hr0, hx0] at hy
      exact (Option.some.inj hy).symm
    subst ey
    have e2 : Ex H1 (upd H1 Tp (.tup [.ref c, vy])) := (Ex.refl _).new hT
    have e02 := e1.trans e2
    refine ⟨Tp, _, rfl, SqT.of' upd_same, rfl, _, _, rfl, _, _, rfl, rfl, rfl, ?_⟩
    refine ⟨_, rfl, _, rfl, by show 1 ≤ sizeLine; decide, fun p hp => ?_⟩
    have e3 : Ex (upd H1 Tp (.tup [.ref c, vy])) (upd (upd H1 Tp (.tup [.ref c, vy])) p (.tup [vy])) := (Ex.refl _).new hp
    have e03 := e02.trans e3
    have hcl := lc.len
    have hrl := hrow r (List.mem_of_getElem? hr0)
    refine cat_one (e03 _ _ hc) upd_same (by rw [sizeLine_eq]; omega) fun q H4 e4 h4 => kk _ _ (e3.trans e4) ⟨q, _, rfl, h4, ?_⟩
    exact (al_kpR lc (e03.trans e4).kp).append (Al.cons (rx.ex (e03.trans e4)) Al.nil)
  intro H1 acc e1 h1 hal
  refine ⟨_, rfl, ?_⟩
  refine ⟨D, _, rfl, .inl ⟨SqL.of' h1, fun l hl => ?_⟩⟩
  have e2 := e1.new (p := l) (o := .tup acc) hl
  refine ⟨_, rfl, _, _, rfl, rfl, ?_⟩
  refine ⟨_, joinM m v, wd + 1, rfl, ⟨l, acc, rfl, upd_same, al_kp stayV hal (Kp.refl.new hl)⟩, rj, by omega, f, fun vr H2 e3 ⟨pr, vrows, q, hvr, hpr, hrows, hpiv⟩ => ?_⟩
  subst hvr
  have e4 := e2.trans e3
  obtain ⟨r1, r2, r3, r4, r5⟩ := redTo_ok rj (wd + 1)
  have hpl : (redM (joinM m v) (wd + 1)).2.length ≤ 1000 := by
    have := rj.n
    show (redTo (joinM m v) (wd + 1)).2.length ≤ 1000
    omega
  have hrl : (redM (joinM m v) (wd + 1)).1.length = (redM (joinM m v) (wd + 1)).2.length := by
    show ((redTo (joinM m v) (wd + 1)).1.take (redTo (joinM m v) (wd + 1)).2.length).length = (redTo (joinM m v) (wd + 1)).2.length
    rw [List.length_take]
    omega
  have hrw : ∀ r ∈ (redM (joinM m v) (wd + 1)).1, r.length = wd + 1 := fun r hr => r1.w r (List.mem_of_mem_take hr)
  have hpc : ∀ c ∈ (redM (joinM m v) (wd + 1)).2, c < wd + 1 := r5
  have hsol : solveM m wd v = if wd ∈ (redM (joinM m v) (wd + 1)).2 then none else some (fillM (redM (joinM m v) (wd + 1)).1 (redM (joinM m v) (wd + 1)).2 wd) := rfl
  generalize redM (joinM m v) (wd + 1) = R at hrows hpiv hpl hrl hrw hpc hsol
  obtain ⟨Rr, Rp⟩ := R
  replace hrows : IsM K H2 vrows Rr := hrows
  replace hpiv : H2 q = some (.tup (nVs Rp)) := hpiv
  replace hpl : Rp.length ≤ 1000 := hpl
  replace hrl : Rr.length = Rp.length := hrl
  replace hrw : ∀ r ∈ Rr, r.length = wd + 1 := hrw
  replace hpc : ∀ c ∈ Rp, c < wd + 1 := hpc
  replace hsol : solveM m wd v = if wd ∈ Rp then none else some (fillM Rr Rp wd) := hsol
  obtain ⟨pp, vp, rfl, hpp, lp⟩ := hrows
  refine ⟨pr, _, rfl, SqT.of' hpr, rfl, _, _, rfl, _, _, rfl, rfl, ?_⟩
  refine ⟨_, rfl, _, rfl, q, nVs Rp, rfl, .inr (SqT.of' hpiv), rfl, flat_nVs Rp, _, rfl, ?_⟩
  show (if (if (false : Bool) = true then !inV (.int (wd : Nat)) (nVs Rp) else inV (.int (wd : Nat)) (nVs Rp)) = true then _ else _)
  rw [if_neg (by decide : ¬ (false = true)), in_nVs]
  refine ite2 (fun h => ?_) (fun h => ?_)
  · exact kn (by rw [hsol, if_pos (by simpa using h)]) _ e4
  have hnm : wd ∉ Rp := by simpa using h
  rw [if_neg hnm] at hsol
  refine ⟨_, rfl, (wd : Int), rfl, by omega, by omega, fun D2 hD2 => ?_⟩
  rw [Int.toNat_natCast]
  refine lc_al (K := K) walk_range0 stayR (List.replicate wd 0) (by simp) (by omega) hD2 (fun H e => trivial) yfn_ex ?_ ?_
  · rintro i z y H3 H4 hi hy e5 ⟨rfl, rfl⟩ Rk kk
    have ey : y = 0 := by
      rw [List.getElem?_replicate, if_pos hi] at hy
      exact (Option.some.inj hy).symm
    subst ey
    refine ⟨rfl, ?_⟩
    intro x0 dx0 nx0 nd0 ne0
    exact mk0' nx0 nd0 ne0 fun H6 e6 r6 => ⟨rfl, kk _ _ e6 r6⟩
  intro H3 acc3 e5 h3 hal3
  have e6 := e4.trans e5
  have nD2 : H D2 = none := e4.free hD2
  refine ⟨_, rfl, q, _, rfl, SqT.of' (e5 _ _ hpiv), for_it walk_enumT (fun j σ H' => Ex H2 H' ∧ (∃ oo oi oc, σ = [some (.ref a), some (.int (wd : Nat)), some (.ref b), none, none, some (.ref D), some (.ref pp), some (.ref q), some (.ref D2), oo, oi, oc]) ∧ IsL (IsR K) H' D2 (fillTo Rr Rp wd j))
    ⟨e5, ⟨_, _, _, rfl⟩, acc3, h3, hal3⟩ (fun i σ H' _ p => SqT.of' (p.1 _ _ hpiv)) ?_ ?_⟩
  · rintro j z σ H5 H6 hj ⟨e, ⟨oo, oi, oc, rfl⟩, vf, hvf, lf⟩ ⟨Tp, vx, vy, rfl, hT, rfl, hx, hy⟩
    rw [nVs_len] at hj
    have e7 : Ex H5 (upd H5 Tp (.tup [vx, vy])) := (Ex.refl _).new hT
    have hvx : vx = .int (j : Nat) := (Option.some.inj hx).symm
    subst hvx
    have hvy : vy = .int ((Rp.getD j 0 : Nat)) := by
      have hy : (nVs Rp)[j]? = some vy := hy
      unfold nVs at hy
      rw [List.getElem?_map, List.getElem?_eq_getElem hj] at hy
      rw [List.getD_eq_getElem?_getD, List.getElem?_eq_getElem hj]
      exact (Option.some.inj hy).symm
    subst hvy
    have hcm : Rp.getD j 0 ∈ Rp := by
      rw [List.getD_eq_getElem?_getD, List.getElem?_eq_getElem hj]
      exact List.getElem_mem hj
    have hcl : Rp.getD j 0 < wd := by
      have := hpc _ hcm
      have : Rp.getD j 0 ≠ wd := fun z => hnm (z ▸ hcm)
      omega
    obtain ⟨vr, hvr, c, vc, rfl, hc, lc⟩ := lp.at' (d := []) (i := j) (by omega)
    have hrj : (Rr.getD j []).length = wd + 1 := by
      rw [List.getD_eq_getElem?_getD, List.getElem?_eq_getElem (by omega)]
      exact hrw _ (List.getElem_mem _)
    obtain ⟨u, hu, ru⟩ := lc.at' (d := 0) (i := wd) (by omega)
    have e27 := e.trans e7
    refine ⟨Tp, _, rfl, SqT.of' upd_same, rfl, _, _, rfl, _, _, rfl, rfl, ?_⟩
    refine ⟨_, rfl, _, rfl, pp, vp, _, .ref c, rfl, rfl, SqT.of' (e27 _ _ hpp), atI_nat hvr, ?_⟩
    refine ⟨_, rfl, c, vc, _, u, rfl, rfl, SqT.of' (e27 _ _ hc), atI_nat hu, ?_⟩
    have hl := lf.len
    rw [fillTo_len] at hl
    refine ⟨_, rfl, _, rfl, D2, vf, _, Rp.getD j 0, rfl, rfl, e7 _ _ hvf, ixN_n (by omega), ?_⟩
    have k8 : Kp K H5 (upd (upd H5 Tp (.tup [.int (j : Nat), .int (Rp.getD j 0 : Nat)])) D2 (.lst (vf.set (Rp.getD j 0) u))) := e7.kp.upd (e7 _ _ hvf) (fun z => z)
    refine ⟨(e27).mut hD2, ⟨_, _, _, rfl⟩, _, upd_same, ?_⟩
    rw [fillTo_succ]
    exact (al_kpR lf k8).set _ (ru.kp (e.kp.trans k8))
  · rintro σ H5 ⟨e, ⟨oo, oi, oc, rfl⟩, vf, hvf, lf⟩
    rw [nVs_len] at lf
    refine ⟨_, rfl, D2, _, rfl, .inl ⟨SqL.of' hvf, fun l5 hl5 => ?_⟩⟩
    exact ks _ hsol _ _ ((e4.trans e).new hl5) ⟨l5, _, rfl, upd_same, al_kpR lf (Kp.refl.new hl5)⟩
def spSpan (K : PySem.W.Frag) : Sp := fun vs H Q _ => ∃ vm vv m v wd, vs = [vm, .int (wd : Nat), vv] ∧ IsM K H vm m ∧ IsV K H vv v ∧ (∀ r ∈ m, r.length = wd) ∧ m.length ≤ 999 ∧ wd ≤ 1000 ∧ FRed (joinM (transM m wd) v) (m.length + 1) ∧
  (spanM m wd v = none → ∀ H', Ex H H' → Q .non H') ∧ ∀ x, spanM m wd v = some x → ∀ r H', Ex H H' → IsV K H' r x → Q r H'
theorem sc_span_of : FnScope ["rows", "width", "vector"] ["rows", "width", "vector"] (defScope s_span_of) := ⟨rfl, rfl, rfl, by decide +kernel, rfl, by decide +kernel, by decide +kernel⟩
theorem d_span_of_ok (T : Txt K mg) (hN : base.NoSeer) : Def PP w K mg base CX0 "span_of" (a_span_of K) 48 ["rows", "width", "vector"] (spSpan K) := by
  obtain ⟨fd, F⟩ := T.d_span_of
  refine ⟨⟨fd, ok0 F sc_span_of (fun vs H Q E h => ?_) (fun cdv A outer s H vs Q E hr h => ?_), F.bindsN fun _ _ _ _ _ _ us hl => match us, hl with | [_, _, _], _ => rfl⟩, T.g_span_of, F.kp⟩
  · obtain ⟨vm, vv, m, v, wd, rfl, _⟩ := h
    rfl
  obtain ⟨_, vv, m, v, wd, rfl, ⟨a, va, rfl, ha, la⟩, hv, hrow, hm, hwd, f, kn, ks⟩ := h
  refine ⟨_, pss_one (ps_ret (pe_callD (d_solve_ok T hN) hr (pa_cons (pe_callD (d_transpose_ok T) (hr.mono (by decide)) (pa_cons (pv 0) (pa_cons (pv 1) pa_nil))) (pa_cons (pe_callB call_len_seq (by rfl) T.f_len boot_len (pa_cons (pv 0) pa_nil)) (pa_cons (pv 2) pa_nil))))), ?_⟩
  refine ⟨_, rfl, _, rfl, _, m, wd, rfl, ⟨a, va, rfl, ha, la⟩, hrow, hwd, by omega, fun v1 H1 e1 h1 => ?_⟩
  refine ⟨_, rfl, a, va, rfl, .inr (SqT.of' (e1 _ _ ha)), _, rfl, ?_⟩
  rw [la.len]
  refine ⟨_, _, transM m wd, v, m.length, rfl, h1, hv.ex e1, fun r hr => ?_, by unfold transM; simp; omega, hm, f, fun h H2 e2 => kn h _ (e1.trans e2), fun x h r H2 e2 => ks x h r H2 (e1.trans e2)⟩
  unfold transM at hr
  obtain ⟨c, _, rfl⟩ := List.mem_map.mp hr
  simp
def spWiden (K : PySem.W.Frag) : Sp := fun vs H Q _ => ∃ vm m, vs = [vm] ∧ IsM K H vm m ∧ Sz m ∧ m.length ≤ 900 ∧ ∀ r H', Ex H H' → IsM K H' r (widenM m) → Q r H'
abbrev nWiden : List Str := ["matrix", "rows", "row", "_"]
theorem sc_widened : FnScope nWiden ["matrix"] (defScope s_widened) := ⟨rfl, rfl, rfl, by decide +kernel, rfl, by decide +kernel, by decide +kernel⟩
theorem d_widened_ok (T : Txt K mg) (hN : base.NoSeer) : Def PP w K mg base CX0 "widened" (a_widened K) 43 ["matrix"] (spWiden K) := by
  obtain ⟨fd, F⟩ := T.d_widened
  refine ⟨⟨fd, ok0 F sc_widened (fun vs H Q E h => ?_) (fun cdv A outer s H vs Q E hr h => ?_), F.bindsN fun _ _ _ _ _ _ us hl => match us, hl with | [_], _ => rfl⟩, T.g_widened, F.kp⟩
  · obtain ⟨vm, m, rfl, _⟩ := h
    rfl
  obtain ⟨_, m, rfl, ⟨a, va, rfl, ha, la⟩, sz, hm, k⟩ := h
  have nd := sc_widened.nd
  refine ⟨_, pss_cons (ps_setLc (i := 1) (own := [("row", 2)]) (g := gName 2) (tt := tYes) (te := tOp (rCatA K) (tVar 2) (tTup (tCons (tMake (CRt K) (spRInit K) [.int 1] E0 (tCons (tC (.int 0)) tNil)) tNil))) rfl nd rfl rfl (sw_true rfl rfl rfl (by decide +kernel))
      (pi_tup (pv 0)) (blkOk_by (N := nWiden) (sc := defScope s_widened) (by decide +kernel))
      (fun _ _ _ _ _ => pg_name (i := 2) nd rfl (Or.inl rfl)) (fun _ _ _ _ _ => pts_nil) (fun _ _ _ _ _ => pe_op op_catA (pv 2) (pe_tup (pa_cons (pe_makeD (k_Ratio1 T hN) hr (pa_cons pe_int pa_nil)) pa_nil))))
    (pss_cons (ps_expr (pe_bm PySem.F.plainAttrs_list PySem.F.slot_list_append PySem.F.type_list_append mt_append (pv 1) (pa_cons (pe_callTy call_tuple_of (by rfl) T.f_tuple boot_tuple
        (pa_cons (pe_lc (own := [("_", 3)]) (g := gName 3) (tt := tYes) (te := tMake (CRt K) (spRInit K) [.int 1] E0 (tCons (tC (.int 0)) tNil)) rfl nd
          (pi_range1 rfl T.f_range (pa_cons (pe_op op_add (pe_callB call_len_seq (by rfl) T.f_len boot_len (pa_cons (pv 0) pa_nil)) pe_int) pa_nil)) (blkOk_by (N := nWiden) (sc := defScope s_widened) (by decide +kernel))
          (fun _ _ _ _ _ => pg_name (i := 3) nd rfl (Or.inl rfl)) (fun _ _ _ _ _ => pts_nil) (fun _ _ _ _ _ => pe_makeD (k_Ratio1 T hN) hr (pa_cons pe_int pa_nil))) pa_nil)) pa_nil)))
    (pss_one (ps_ret (pe_callTy call_tuple_of (by rfl) T.f_tuple boot_tuple (pa_cons (pv 1) pa_nil))))), ?_⟩
  have hl := la.len
  refine ⟨_, rfl, a, rfl, ⟨_, SqT.of' ha⟩, fun D hD => ?_⟩
  refine lc_al (K := K) (walk_tup (xs := va)) stayV (m.map (· ++ [0])) (by simp [hl]) (by omega) hD (fun H1 e => SqT.of' (e _ _ ha)) yat_ex ?_ ?_
  · rintro i z y H1 H2 hi hy e1 ⟨rfl, hz⟩ Rk kk
    obtain ⟨r, hr0, c, vc, rfl, hc, lc⟩ := la.get hz
    have ey : y = r ++ [0] := by
      rw [List.getElem?_map, hr0] at hy
      exact (Option.some.inj hy).symm
    subst ey
    refine ⟨rfl, _, rfl, ?_⟩
    intro x0 dx0 nx0 nd0 ne0
    refine mk0' nx0 nd0 ne0 fun H3 e3 r3 => ⟨rfl, by show 1 ≤ sizeLine; decide, fun p hp => ?_⟩
    have e4 : Ex H3 (upd H3 p (.tup [.ref x0])) := (Ex.refl _).new hp
    have e04 := e1.trans (e3.trans e4)
    have hcl := lc.len
    have hrl := sz.r r (List.mem_of_getElem? hr0)
    refine cat_one (e04 _ _ hc) upd_same (by rw [sizeLine_eq]; omega) fun q H5 e5 h5 => kk _ _ (e3.trans (e4.trans e5)) ⟨q, _, rfl, h5, ?_⟩
    exact (al_kpR lc (e04.trans e5).kp).append (Al.cons (r3.ex (e4.trans e5)) Al.nil)
  intro H1 acc e1 h1 hal
  refine ⟨_, rfl, .inl ⟨rfl, _, SqL.of' h1⟩, ?_⟩
  refine ⟨_, rfl, a, va, rfl, .inr (SqT.of' (e1 _ _ ha)), _, _, rfl, rfl, _, rfl, by omega, by omega, fun D2 hD2 => ?_⟩
  have htn : ((va.length : Int) + 1).toNat = m.length + 1 := by omega
  rw [htn]
  refine lc_al (K := K) walk_range0 stayR (List.replicate (m.length + 1) 0) (by simp) (by omega) hD2 (fun H e => trivial) yfn_ex ?_ ?_
  · rintro i z y H3 H4 hi hy e5 ⟨rfl, rfl⟩ Rk kk
    have ey : y = 0 := by
      rw [List.getElem?_replicate, if_pos hi] at hy
      exact (Option.some.inj hy).symm
    subst ey
    refine ⟨rfl, ?_⟩
    intro x0 dx0 nx0 nd0 ne0
    exact mk0' nx0 nd0 ne0 fun H6 e6 r6 => ⟨rfl, kk _ _ e6 r6⟩
  intro H3 acc3 e3 h3 hal3
  refine ⟨D2, acc3, rfl, .inl ⟨SqL.of' h3, fun l hl3 => ?_⟩⟩
  have e4 := e3.new (p := l) (o := .tup acc3) hl3
  have h4 := e4 _ _ h1
  have hal_len := hal.len
  rw [List.length_map] at hal_len
  refine ⟨D, acc, .ref l, rfl, rfl, h4, by rw [sizeLine_eq]; omega, ?_⟩
  have al5 := al_push stayV hal e4 h4 (v := .ref l) (x := List.replicate (m.length + 1) 0) ⟨l, acc3, rfl, upd_same, al_kpR hal3 (Kp.refl.new hl3)⟩
  refine ⟨_, rfl, D, _, rfl, .inl ⟨SqL.of' upd_same, fun l5 hl5 => k _ _ (((e1.trans e4).mut hD).new hl5) ⟨l5, _, rfl, upd_same, al_kp stayV al5 (Kp.refl.new hl5)⟩⟩⟩
end
end Pn
set_option maxHeartbeats 4000000
/-! own errors: their making, raising, passing on -/
namespace Pn
open PySem PySem.Spec PyProof.Rows L2
section
variable {K : PySem.W.Frag}
theorem oex_of {x : Str} (h : xcB K x = true) : OexC K (He.ga K x) := by
  unfold xcB at h
  obtain ⟨h0, h⟩ := He.ba h
  obtain ⟨h1, h⟩ := He.ba h
  obtain ⟨h2, h⟩ := He.ba h
  obtain ⟨h3, h4⟩ := He.ba h
  refine ⟨?_, He.eqO_ok h1, of_decide_eq_true h2, of_decide_eq_true h3, h4⟩
  unfold excB at h0
  split at h0
  · rename_i od cd sl e
    split at h0
    · rename_i C' bm k0 k1 k2 k3 n k5 em es
      obtain ⟨h0, b5⟩ := He.ba h0
      obtain ⟨h0, b4⟩ := He.ba h0
      obtain ⟨h0, b3⟩ := He.ba h0
      obtain ⟨b1, b2⟩ := He.ba h0
      have e1 := of_decide_eq_true b1
      have e2 := of_decide_eq_true b2
      subst e1
      subst e2
      obtain ⟨nm, bs, mro, ns, qn, hd, sn, sb, ab, col, del⟩ := cd
      dsimp only at em b3 b4
      subst em
      subst b4
      have b3' : del = false := by simpa using b3
      subst b3'
      obtain ⟨sl⟩ := sl
      dsimp only at es
      subst es
      exact ⟨_, _, _, _, bm, _, _, _, _, od, _, _, _, _, _, e, b5⟩
    · cases h0
  · cases h0
structure XiC (K : PySem.W.Frag) (x f : Str) : Prop where
  o : OexC K (He.ga K x)
  f : PySem.W.findIn K (.ref (He.ga K x)) f = some none
  i : PySem.W.findIn K (.ref (He.ga K x)) "__init__" = some (some (.ref (He.ma K (He.ga K x) "__init__")))
  t : PySem.W.typeIn K (.ref (He.ma K (He.ga K x) "__init__")) = some (.type "function")
theorem xi_of {x f : Str} (h : xiB K x f = true) : XiC K x f := by
  unfold xiB at h
  obtain ⟨h0, h⟩ := He.ba h
  obtain ⟨h1, h⟩ := He.ba h
  obtain ⟨h2, h3⟩ := He.ba h
  exact ⟨oex_of h0, He.eqO_ok h1, He.eqO_ok h2, of_decide_eq_true h3⟩
variable {mg : Str → Option Value}
theorem Txt.xUP (T : Txt K mg) : XiC K "UnknownPoint" "name" := xi_of (He.ba (He.ba (He.ba (He.ba (He.ba (He.ba T.xcl).1).1).1).1).1).1
theorem Txt.xUR (T : Txt K mg) : XiC K "UnknownReading" "name" := xi_of (He.ba (He.ba (He.ba (He.ba (He.ba (He.ba T.xcl).1).1).1).1).1).2
theorem Txt.xDN (T : Txt K mg) : XiC K "DuplicateName" "name" := xi_of (He.ba (He.ba (He.ba (He.ba (He.ba T.xcl).1).1).1).1).2
theorem Txt.xBR (T : Txt K mg) : XiC K "BadReading" "reason" := xi_of (He.ba (He.ba (He.ba (He.ba T.xcl).1).1).1).2
theorem Txt.xLR (T : Txt K mg) : XiC K "LimitReached" "what" := xi_of (He.ba (He.ba (He.ba T.xcl).1).1).2
theorem Txt.xNU (T : Txt K mg) : PySem.W.excIn K (He.ga K "NothingToUndo") veB "ValueError.__new__" = true ∧ OexC K (He.ga K "NothingToUndo") := ⟨(He.ba (He.ba T.xcl).2).1, oex_of (He.ba (He.ba T.xcl).2).2⟩
end

/-! ### __init__ -/
/-- self.f = v on an error that is being made -/
def spXI (C : Addr) (f : Str) : Sp := fun vs H Q _ => ∃ a v, vs = [.ref a, v] ∧ H a = some (exo a C none) ∧ ∀ dx, H dx = none → dx ≠ a → Q .non (upd (upd H dx (exd dx [(f, v)])) a (exo a C (some dx)))
section
variable {w : World} {K : PySem.W.Frag} {mg : Str → Option Value} {base : Heap}
theorem x_init {x q f a : Str} {st : Stmt} {fd : FuncData} (F : FunD K "__init__" q (defArgs st) (defBody st) (defScope st) [] [] (He.ma K (He.ga K x) "__init__") fd) (S : FnScope ["self", a] ["self", a] (defScope st)) (X : XiC K x f)
    (hb : ∀ (cdv : Value) (A : Around) (outer : List Env) (s : Shared) (H : Hp) (E : XK), PSs (cxOf CX0 PP w K mg base ["self", a] q (defScope st) (He.ma K (He.ga K x) "__init__") cdv A outer s H E).nox (defBody st) (tOst K f (tVar 0) (tVar 1))) :
    FnOk PP w K mg base CX0 1 (He.ma K (He.ga K x) "__init__") fd ["self", a] (spXI (He.ga K x) f) := by
  refine F.ok S (fun vs H Q E h => ?_) fun cdv A outer s H vs Q E hr h => ?_
  · obtain ⟨p, v, rfl, _⟩ := h
    rfl
  obtain ⟨p, v, rfl, hp, k⟩ := h
  refine ⟨_, (hb cdv A outer s H E).nox, ?_⟩
  refine ⟨_, rfl, _, rfl, p, He.ga K x, rfl, X.o, X.f, .inl ⟨hp, fun dx h1 h2 => k dx h1 h2⟩⟩
/-- what the making of X(v) asks -/
theorem mkX {C : Addr} {f : Str} {H1 : Hp} {v : V} {Q : XK} (k : ∀ d H', Ex H1 H' → Q (.ref C) (some d) H') :
    [v].length ≤ 1000 ∧ ∀ a, H1 a = none → spXI C f (.ref a :: ([v] ++ [])) (upd H1 a (exo a C none))
      (fun v H2 => v = .non ∧ ∃ (d : Addr) (fs : List (Str × V)), H2 a = some (exo a C (some d)) ∧ H2 d = some (exd d fs) ∧ H1 d = none ∧ Q (.ref C) (some d) (upd (del H2 a) d (.xd fs))) (fun _ _ _ => False) := by
  refine ⟨by show 1 ≤ 1000; decide, fun p hp => ⟨p, v, rfl, upd_same, fun dx h1 h2 => ⟨rfl, dx, _, upd_same, by rw [upd_ne h2, upd_same], by rw [upd_ne h2] at h1; exact h1, k dx _ ?_⟩⟩⟩
  intro b o hbo
  have n1 : b ≠ p := ne_of_none hbo hp
  have n2 : b ≠ dx := ne_of_none hbo (by rw [upd_ne h2] at h1; exact h1)
  rw [upd_ne n2, del_ne n1, upd_ne n1, upd_ne n2, upd_ne n1]
  exact hbo
theorem ps_raiseX {X : Cx} {x f a : Str} {W : WX} {e : Expr} {ta : TA} {p pos pos2 : Pos} (hc : X.calm = true) (tk : Takes X W) (hr : Room 2 X.A) (XI : XiC X.K x f)
    (F : ∃ fd, FnOk X.prog X.w X.K X.mg X.base CX0 1 (He.ma X.K (He.ga X.K x) "__init__") fd ["self", a] (spXI (He.ga X.K x) f) ∧ L2.Binds X.K fd ["self", a] []) (hm : X.mg x = some (.ref (He.ga X.K x))) (ha : PA X [e] ta) (hg : Gl X x := by rfl)
    (hdb : (x == ("__debug__" : Str)) = false := by decide) (he : starEach [e] X.env = (false, eval e X.env) :: starEach [] X.env := by rfl) (hpl : (backTo pos (starEach [] X.env)).any (·.1) = false := by rfl) :
    PS X (.Raise (some (.Call (.Name x p) [e] [] pos)) none pos2) (fun _ σ H => tMkO (He.ga X.K x) (spXI (He.ga X.K x) f) [] ta σ H fun cls d H' => W cls d σ H') := by
  obtain ⟨fd, F, hb⟩ := F
  exact ps_raise hc tk (pmk_oex XI.o XI.i XI.t F hr hb .nil pass0 hg hm ha hdb he hpl)
/-- raise X(), X without an __init__ of its own -/
theorem pmk_own0 {X : Cx} {C : Addr} {bmB : List Value} {B newId initId : String} {x : Str} {p pos : Pos} (F : ExcBaseFacts B newId initId bmB) (q : PySem.W.excIn X.K C bmB newId = true) (gC : X.mg x = some (.ref C)) (kC : PySem.W.keepIn X.K (.ref C) = true) (r : Raises X (.ref C)) (hg : Gl X x)
    (hdb : (x == ("__debug__" : Str)) = false := by decide) : PMk X (.Call (.Name x p) [] [] pos) (fun _ H Q => Q (.ref C) none H) := by
  intro pins s σ H Q I h
  refine wpAny_Call_Name_kw (ld_glob I hg gC ?_ hdb)
  refine PySem.W.callWith_K0 I.kIn kC ?_
  show wpAny _ _ (call (.ref C) []) _ _ _
  obtain ⟨bm, N, nm, qn, bs, hdct, sn, sub, ab, col, dd, k0, k1, k2, k3, k5, mN, hC, hN, hni, T⟩ := exc_obj I.kIn q
  obtain ⟨hp, g, d, t, os⟩ := s
  refine wpAny_call_exc_subT F T hC hN hni (fun h' e hm => ?_) (by show 0 ≤ sizeLine; rw [sizeLine_eq]; omega)
  exact mk_of I hm r h (I.hok.gone hm.new)
theorem i_UP (T : Txt K mg) : ∃ fd, FnOk PP w K mg base CX0 1 (He.ma K (He.ga K "UnknownPoint") "__init__") fd ["self", "name"] (spXI (He.ga K "UnknownPoint") "name") ∧ L2.Binds K fd ["self", "name"] [] := by
  obtain ⟨fd, F⟩ := T.d_UnknownPoint_init
  exact ⟨fd, x_init F ⟨rfl, rfl, rfl, by decide +kernel, rfl, by decide +kernel, by decide +kernel⟩ T.xUP fun _ _ _ _ _ _ => pss_one (ps_ost (pv 0) (pv 1)), F.bindsN fun _ _ _ _ _ _ us hl => match us, hl with | [_, _], _ => rfl⟩
theorem i_UR (T : Txt K mg) : ∃ fd, FnOk PP w K mg base CX0 1 (He.ma K (He.ga K "UnknownReading") "__init__") fd ["self", "name"] (spXI (He.ga K "UnknownReading") "name") ∧ L2.Binds K fd ["self", "name"] [] := by
  obtain ⟨fd, F⟩ := T.d_UnknownReading_init
  exact ⟨fd, x_init F ⟨rfl, rfl, rfl, by decide +kernel, rfl, by decide +kernel, by decide +kernel⟩ T.xUR fun _ _ _ _ _ _ => pss_one (ps_ost (pv 0) (pv 1)), F.bindsN fun _ _ _ _ _ _ us hl => match us, hl with | [_, _], _ => rfl⟩
theorem i_DN (T : Txt K mg) : ∃ fd, FnOk PP w K mg base CX0 1 (He.ma K (He.ga K "DuplicateName") "__init__") fd ["self", "name"] (spXI (He.ga K "DuplicateName") "name") ∧ L2.Binds K fd ["self", "name"] [] := by
  obtain ⟨fd, F⟩ := T.d_DuplicateName_init
  exact ⟨fd, x_init F ⟨rfl, rfl, rfl, by decide +kernel, rfl, by decide +kernel, by decide +kernel⟩ T.xDN fun _ _ _ _ _ _ => pss_one (ps_ost (pv 0) (pv 1)), F.bindsN fun _ _ _ _ _ _ us hl => match us, hl with | [_, _], _ => rfl⟩
theorem i_BR (T : Txt K mg) : ∃ fd, FnOk PP w K mg base CX0 1 (He.ma K (He.ga K "BadReading") "__init__") fd ["self", "reason"] (spXI (He.ga K "BadReading") "reason") ∧ L2.Binds K fd ["self", "reason"] [] := by
  obtain ⟨fd, F⟩ := T.d_BadReading_init
  exact ⟨fd, x_init F ⟨rfl, rfl, rfl, by decide +kernel, rfl, by decide +kernel, by decide +kernel⟩ T.xBR fun _ _ _ _ _ _ => pss_one (ps_ost (pv 0) (pv 1)), F.bindsN fun _ _ _ _ _ _ us hl => match us, hl with | [_, _], _ => rfl⟩
theorem i_LR (T : Txt K mg) : ∃ fd, FnOk PP w K mg base CX0 1 (He.ma K (He.ga K "LimitReached") "__init__") fd ["self", "what"] (spXI (He.ga K "LimitReached") "what") ∧ L2.Binds K fd ["self", "what"] [] := by
  obtain ⟨fd, F⟩ := T.d_LimitReached_init
  exact ⟨fd, x_init F ⟨rfl, rfl, rfl, by decide +kernel, rfl, by decide +kernel, by decide +kernel⟩ T.xLR fun _ _ _ _ _ _ => pss_one (ps_ost (pv 0) (pv 1)), F.bindsN fun _ _ _ _ _ _ us hl => match us, hl with | [_, _], _ => rfl⟩
end
/-- an own error of this program -/
structure Surv (K : PySem.W.Frag) (c : Value) : Prop where
  x : PySem.W.exmOne K c (.ref (He.ga K "SurveyError")) = some true
section
variable {K : PySem.W.Frag} {mg : Str → Option Value}
theorem sv_UP (T : Txt K mg) : Surv K (.ref (He.ga K "UnknownPoint")) := ⟨T.x_UnknownPoint⟩
theorem sv_UR (T : Txt K mg) : Surv K (.ref (He.ga K "UnknownReading")) := ⟨T.x_UnknownReading⟩
theorem sv_DN (T : Txt K mg) : Surv K (.ref (He.ga K "DuplicateName")) := ⟨T.x_DuplicateName⟩
theorem sv_BR (T : Txt K mg) : Surv K (.ref (He.ga K "BadReading")) := ⟨T.x_BadReading⟩
theorem sv_LR (T : Txt K mg) : Surv K (.ref (He.ga K "LimitReached")) := ⟨T.x_LimitReached⟩
theorem sv_NU (T : Txt K mg) : Surv K (.ref (He.ga K "NothingToUndo")) := ⟨T.x_NothingToUndo⟩
end
end Pn
/-! plain: readings, books, nets, logs and what is done with them (texts are any type with a total order's <) -/
namespace Pn
section
variable {S : Type} [DecidableEq S]
structure Rdg (S : Type) where
  name : S
  terms : List (S × Int)
  value : Rat
  weight : Rat
structure Bk (S : Type) where
  pts : List (S × Rat)
  rds : List (Rdg S)
def Bk.empty : Bk S := ⟨[], []⟩
def Bk.names (b : Bk S) : List S := b.pts.map (·.1)
/-- deeds -/
inductive Dd (S : Type) where
  | point (n : S) (q : Rat)
  | reading (n : S) (ts : List (S × Int)) (v w : Rat)
  | approx (n : S) (q : Rat)
  | value (n : S) (q : Rat)
  | weight (n : S) (q : Rat)
  | withdraw (n : S)
  | remove (n : S)
/-- terms_fit: lt the order of texts, b the name before -/
def tfGo (lt : S → S → Bool) (b : S) : List (S × Int) → Bool
  | [] => true
  | (n, c) :: r => if c = 0 ∨ ¬ (-9 ≤ c ∧ c ≤ 9) ∨ lt b n = false then false else tfGo lt n r
def placeOf (rds : List (Rdg S)) (n : S) : Option Nat := rds.findIdx? fun r => decide (r.name = n)
def addPointB (b : Bk S) (n : S) (q : Rat) : Option (Bk S) := if n ∈ b.names ∨ b.pts.length = 12 then none else some { b with pts := b.pts ++ [(n, q)] }
def addReadingB (lt : S → S → Bool) (e : S) (b : Bk S) (r : Rdg S) : Option (Bk S) :=
  if r.name ∈ b.rds.map (·.name) ∨ tfGo lt e r.terms = false ∨ r.terms = [] ∨ (∃ t ∈ r.terms, t.1 ∉ b.names) ∨ r.weight.num ≤ 0 ∨ b.rds.length = 24 then none else some { b with rds := b.rds ++ [r] }
def approxB (b : Bk S) (n : S) (q : Rat) : Option (Bk S) := if n ∈ b.names then some { b with pts := b.pts.map fun p => if p.1 = n then (p.1, q) else p } else none
def valueB (b : Bk S) (n : S) (q : Rat) : Option (Bk S) := match placeOf b.rds n with
  | none => none
  | some i => some { b with rds := b.rds.modify i fun r => { r with value := q } }
def weightB (b : Bk S) (n : S) (q : Rat) : Option (Bk S) := match placeOf b.rds n with
  | none => none
  | some i => if q.num ≤ 0 then none else some { b with rds := b.rds.modify i fun r => { r with weight := q } }
def withdrawB (b : Bk S) (n : S) : Option (Bk S) := match placeOf b.rds n with
  | none => none
  | some i => some { b with rds := b.rds.eraseIdx i }
def removeB (b : Bk S) (n : S) : Option (Bk S) := if n ∉ b.names ∨ (∃ r ∈ b.rds, n ∈ r.terms.map (·.1)) then none else some { b with pts := b.pts.filter fun p => decide (p.1 ≠ n) }
def performB (lt : S → S → Bool) (e : S) (b : Bk S) : Dd S → Option (Bk S)
  | .point n q => addPointB b n q
  | .reading n ts v w => addReadingB lt e b ⟨n, ts, v, w⟩
  | .approx n q => approxB b n q
  | .value n q => valueB b n q
  | .weight n q => weightB b n q
  | .withdraw n => withdrawB b n
  | .remove n => removeB b n

/-! ### nets -/
structure Nt (S : Type) where
  pts : List S
  x0 : Vec
  rds : List (Rdg S)
  normal : Mat
  inverse : Mat
  right : Vec
  total : Rat
def Nt.empty : Nt S := ⟨[], [], [], [], [], [], 0⟩
def rowTo (pts : List S) (ts : List (S × Int)) : Vec := ts.foldl (fun acc t => acc.set (pts.idxOf t.1) (t.2 : Rat)) (List.replicate pts.length 0)
def ntRow (n : Nt S) (r : Rdg S) : Vec := rowTo n.pts r.terms
def ntAddPoint (n : Nt S) (name : S) (q : Rat) : Nt S := { n with pts := n.pts ++ [name], x0 := n.x0 ++ [q], normal := widenM n.normal, inverse := widenM n.inverse, right := n.right ++ [0] }
def ntShift (n : Nt S) (r : Rdg S) : Rat := r.value - dotM (ntRow n r) n.x0
def ntTally (n : Nt S) (r : Rdg S) (w : Rat) : Nt S :=
  { n with normal := addTermM n.normal (ntRow n r) w, right := plusM n.right (scaleM (w * ntShift n r) (ntRow n r)), total := n.total + w * ntShift n r * ntShift n r }
def ntPut (n : Nt S) (r : Rdg S) : Nt S := ntTally { n with inverse := withAddedM n.normal n.inverse (ntRow n r) r.weight } r r.weight
def ntTake (n : Nt S) (r : Rdg S) : Nt S := ntTally { n with inverse := withRemovedM n.inverse (ntRow n r) r.weight } r (-r.weight)
def ntAdd (n : Nt S) (r : Rdg S) : Nt S := { ntPut n r with rds := n.rds ++ [r] }
def ntWithdrawAt (n : Nt S) (i : Nat) (old : Rdg S) : Nt S := { ntTake n old with rds := n.rds.eraseIdx i }
def ntValueAt (n : Nt S) (i : Nat) (old : Rdg S) (q : Rat) : Nt S := { ntTally (ntTally n old (-old.weight)) { old with value := q } old.weight with rds := n.rds.set i { old with value := q } }
def ntWeightAt (n : Nt S) (i : Nat) (old : Rdg S) (q : Rat) : Nt S := { ntPut (ntTake n old) { old with weight := q } with rds := n.rds.set i { old with weight := q } }
def ntRows (n : Nt S) : Mat := n.rds.map (ntRow n)
def ntHeights (n : Nt S) : Vec := plusM n.x0 (applyM n.inverse n.right)
def ntMisfits (n : Nt S) : Vec := n.rds.map fun r => dotM (ntRow n r) (ntHeights n) - r.value
def ntSquares (n : Nt S) : Rat := n.total - dotM n.right (applyM n.inverse n.right)
def ntRank (n : Nt S) : Nat := rankM (ntRows n) n.pts.length
def ntMoved (n : Nt S) : Vec := minusM (ntHeights n) n.x0
def ntFactors (n : Nt S) : Option Vec := spanM (ntRows n) n.pts.length (ntMoved n)
def netOf (b : Bk S) : Nt S := b.rds.foldl ntAdd (b.pts.foldl (fun n p => ntAddPoint n p.1 p.2) Nt.empty)

/-! ### what has to fit of them -/
structure FTally (n : Nt S) (r : Rdg S) (w : Rat) : Prop where
  dot : FDot (ntRow n r) n.x0
  dotf : Fit (dotM (ntRow n r) n.x0)
  val : Fit r.value
  sh : Fit (ntShift n r)
  add : FAddTerm n.normal (ntRow n r) w
  ws : Fit (w * ntShift n r)
  rt : FAll n.right
  row : FAll (ntRow n r)
  sr : FAll (scaleM (w * ntShift n r) (ntRow n r))
  tot : Fit n.total
  wss : Fit (w * ntShift n r * ntShift n r)
/-- the shapes -/
structure NSz (n : Nt S) : Prop where
  nz : n.pts.length ≤ 12
  x : n.x0.length = n.pts.length
  m : Rect n.normal n.pts.length
  ml : n.normal.length = n.pts.length
  i : Rect n.inverse n.pts.length
  il : n.inverse.length = n.pts.length
  r : n.right.length = n.pts.length
  rz : n.rds.length ≤ 24
  rt : ∀ r ∈ n.rds, ∀ t ∈ r.terms, t.1 ∈ n.pts
  rn : n.pts.Nodup
structure FPut (n : Nt S) (r : Rdg S) : Prop where
  inv : FWithAdded n.normal n.inverse (ntRow n r) r.weight
  t : FTally n r r.weight
structure FTake (n : Nt S) (r : Rdg S) : Prop where
  inv : FWithRemoved n.inverse (ntRow n r) r.weight
  t : FTally n r (-r.weight)
structure FLook (n : Nt S) : Prop where
  ar : FApply n.inverse n.right
  af : FAll (applyM n.inverse n.right)
  x : FAll n.x0
  h : FAll (ntHeights n)
  rows : ∀ r ∈ n.rds, FDot (ntRow n r) (ntHeights n) ∧ Fit (dotM (ntRow n r) (ntHeights n)) ∧ Fit r.value
  d : FDot n.right (applyM n.inverse n.right)
  df : Fit (dotM n.right (applyM n.inverse n.right))
  tot : Fit n.total
  rank : FRed (ntRows n) n.pts.length
  span : FRed (joinM (transM (ntRows n) n.pts.length) (ntMoved n)) (n.rds.length + 1)
end
end Pn
/-! plain: which books, deeds, logs are well; what the mathematics has to give (Mth) -/
namespace Pn
section
variable {S : Type} [DecidableEq S]
/-- values and approximations of the law -/
structure VOk (q : Rat) : Prop where
  n : q.num.natAbs < 2 ^ 30
  d : q.den < 2 ^ 20
/-- weights -/
structure WOk (q : Rat) : Prop where
  p : 0 < q.num
  n : q.num ≤ 6
  d : q.den ≤ 3
structure ROk (pts : List S) (r : Rdg S) : Prop where
  v : VOk r.value
  w : WOk r.weight
  nd : (r.terms.map (·.1)).Nodup
  mem : ∀ t ∈ r.terms, t.1 ∈ pts
  c : ∀ t ∈ r.terms, t.2 ≠ 0 ∧ -9 ≤ t.2 ∧ t.2 ≤ 9
structure BkOk (b : Bk S) : Prop where
  nd : b.names.Nodup
  pz : b.pts.length ≤ 12
  rz : b.rds.length ≤ 24
  rn : (b.rds.map (·.name)).Nodup
  v : ∀ p ∈ b.pts, VOk p.2
  r : ∀ r ∈ b.rds, ROk b.names r
def DdOk : Dd S → Prop
  | .point _ q => VOk q
  | .reading _ ts v w => ts.length ≤ 1000 ∧ VOk v ∧ (0 < w.num → WOk w)
  | .approx _ q => VOk q
  | .value _ q => VOk q
  | .weight _ q => 0 < q.num → WOk q
  | .withdraw _ => True
  | .remove _ => True
/-- the net behind a deed -/
def followN (n : Nt S) (b : Bk S) : Dd S → Nt S
  | .point nm q => ntAddPoint n nm q
  | .reading nm ts v w => ntAdd n ⟨nm, ts, v, w⟩
  | .value nm q => match placeOf n.rds nm with
    | none => n
    | some i => match n.rds[i]? with
      | none => n
      | some r => ntValueAt n i r q
  | .weight nm q => match placeOf n.rds nm with
    | none => n
    | some i => match n.rds[i]? with
      | none => n
      | some r => ntWeightAt n i r q
  | .withdraw nm => match placeOf n.rds nm with
    | none => n
    | some i => match n.rds[i]? with
      | none => n
      | some r => ntWithdrawAt n i r
  | _ => netOf b
structure Lg (S : Type) where
  done : List (Dd S)
  books : List (Bk S)
  later : List (Dd S)
  net : Nt S
def Lg.start : Lg S := ⟨[], [Bk.empty], [], Nt.empty⟩
def Lg.book (l : Lg S) : Bk S := l.books.getLastD Bk.empty
def netTo (b : Bk S) (i : Nat) : Nt S := (b.rds.take i).foldl ntAdd (b.pts.foldl (fun n p => ntAddPoint n p.1 p.2) Nt.empty)
def FNetOf (b : Bk S) : Prop := ∀ i r, b.rds[i]? = some r → FPut (netTo b i) r
def FValue (n : Nt S) (r : Rdg S) (q : Rat) : Prop := FTally n r (-r.weight) ∧ FTally (ntTally n r (-r.weight)) { r with value := q } r.weight
def FWeight (n : Nt S) (r : Rdg S) (q : Rat) : Prop := FTake n r ∧ FPut (ntTake n r) { r with weight := q }
/-- judge: what the fractions on the way are -/
def sumAtM (pts : List S) (ts : List (S × Int)) (h : Vec) : Rat := ts.foldl (fun acc t => acc + (t.2 : Rat) * h.getD (pts.idxOf t.1) 0) 0
def sqAtM (b : Bk S) (h : Vec) : Rat := b.rds.foldl (fun acc r => acc + r.weight * (sumAtM b.names r.terms h - r.value) * (sumAtM b.names r.terms h - r.value)) 0
def wsumM (rds : List (Rdg S)) (nm : S) (xs : Vec) : Rat := (rds.zip xs).foldl (fun acc rx => rx.1.terms.foldl (fun acc t => if t.1 = nm then acc + (t.2 : Rat) * rx.2 else acc) acc) 0
structure FSum (pts : List S) (ts : List (S × Int)) (h : Vec) : Prop where
  c : ∀ t ∈ ts, Fit (t.2 : Rat) ∧ Fit (h.getD (pts.idxOf t.1) 0) ∧ Fit ((t.2 : Rat) * h.getD (pts.idxOf t.1) 0)
  s : ∀ i, i ≤ ts.length → Fit (sumAtM pts (ts.take i) h)
structure FSq (b : Bk S) (h : Vec) : Prop where
  s : ∀ r ∈ b.rds, FSum b.names r.terms h ∧ Fit r.value ∧ Fit r.weight ∧ Fit (sumAtM b.names r.terms h - r.value) ∧ Fit (r.weight * (sumAtM b.names r.terms h - r.value)) ∧
    Fit (r.weight * (sumAtM b.names r.terms h - r.value) * (sumAtM b.names r.terms h - r.value))
  t : ∀ i, i ≤ b.rds.length → Fit (sqAtM { b with rds := b.rds.take i } h)
/-- every partial sum of wsumM -/
structure FWs (rds : List (Rdg S)) (nm : S) (xs : Vec) : Prop where
  x : ∀ x ∈ xs, Fit x
  c : ∀ (i : Nat) r x, rds[i]? = some r → xs[i]? = some x → ∀ t ∈ r.terms, Fit (t.2 : Rat) ∧ Fit ((t.2 : Rat) * x)
  s : ∀ (i : Nat) r x, rds[i]? = some r → xs[i]? = some x → ∀ j, j ≤ r.terms.length → Fit ((r.terms.take j).foldl (fun acc t => if t.1 = nm then acc + (t.2 : Rat) * x else acc) (wsumM (rds.take i) nm (xs.take i)))
structure FJudge (b : Bk S) (h m f : Vec) : Prop where
  s : FSq b h
  mf : ∀ (i : Nat) r x, b.rds[i]? = some r → m[i]? = some x → Fit r.weight ∧ Fit x
  fo : ∀ nm ∈ b.names, FWs b.rds nm (List.zipWith (fun r x => r.weight * x) b.rds m)
  fa : ∀ nm ∈ b.names, FWs b.rds nm f
  h : FAll h
  x0 : ∀ p ∈ b.pts, Fit p.2
/-- the paper has no fault -/
structure JOk (b : Bk S) (h m f : Vec) : Prop where
  lh : h.length = b.pts.length
  lm : m.length = b.rds.length
  lf : f.length = b.rds.length
  mis : ∀ (i : Nat) r x, b.rds[i]? = some r → m[i]? = some x → sumAtM b.names r.terms h - r.value = x
  least : ∀ nm ∈ b.names, wsumM b.rds nm (List.zipWith (fun r x => r.weight * x) b.rds m) = 0
  near : ∀ (i : Nat) p x, b.pts[i]? = some p → h[i]? = some x → x - p.2 = wsumM b.rds p.1 f
/-- what the mathematics has to give: Ok b n: n is the net of the book b -/
structure Mth (S : Type) [DecidableEq S] where
  Ok : Bk S → Nt S → Prop
  pts : ∀ {b n}, Ok b n → n.pts = b.names
  rds : ∀ {b n}, Ok b n → n.rds = b.rds
  one : ∀ {b n n'}, Ok b n → Ok b n' → n = n'
  empty : Ok Bk.empty Nt.empty
  netOf : ∀ {b : Bk S}, BkOk b → FNetOf b ∧ Ok b (netOf b)
  point : ∀ {b n nm q}, BkOk b → Ok b n → VOk q → nm ∉ b.names → b.pts.length < 12 → Ok { b with pts := b.pts ++ [(nm, q)] } (ntAddPoint n nm q)
  add : ∀ {b n r}, BkOk b → Ok b n → ROk b.names r → r.name ∉ b.rds.map (·.name) → b.rds.length < 24 → FPut n r ∧ Ok { b with rds := b.rds ++ [r] } (ntAdd n r)
  value : ∀ {b n i r q}, BkOk b → Ok b n → b.rds[i]? = some r → VOk q → FValue n r q ∧ Ok { b with rds := b.rds.set i { r with value := q } } (ntValueAt n i r q)
  weight : ∀ {b n i r q}, BkOk b → Ok b n → b.rds[i]? = some r → WOk q → FWeight n r q ∧ Ok { b with rds := b.rds.set i { r with weight := q } } (ntWeightAt n i r q)
  withdraw : ∀ {b n i r}, BkOk b → Ok b n → b.rds[i]? = some r → FTake n r ∧ Ok { b with rds := b.rds.eraseIdx i } (ntWithdrawAt n i r)
  nsz : ∀ {b n}, BkOk b → Ok b n → NSz n
  look : ∀ {b n}, BkOk b → Ok b n → FLook n
  paper : ∀ {b n}, BkOk b → Ok b n → ∃ f, ntFactors n = some f ∧ JOk b (ntHeights n) (ntMisfits n) f ∧ FJudge b (ntHeights n) (ntMisfits n) f
  squares : ∀ {b n}, BkOk b → Ok b n → ntSquares n = sqAtM b (ntHeights n)
end
end Pn
/-! plain: deeds keep books well; what follows a deed, what an undo does -/
namespace Pn
section
variable {S : Type} [DecidableEq S]
theorem placeOf_at {rds : List (Rdg S)} {n : S} {i : Nat} (h : placeOf rds n = some i) : ∃ r, rds[i]? = some r ∧ r.name = n ∧ ∀ j r', j < i → rds[j]? = some r' → r'.name ≠ n := by
  unfold placeOf at h
  rw [List.findIdx?_eq_some_iff_getElem] at h
  obtain ⟨hi, h1, h2⟩ := h
  refine ⟨rds[i], List.getElem?_eq_getElem hi, by simpa using h1, fun j r' hj hr => ?_⟩
  obtain ⟨hjl, rfl⟩ := List.getElem?_eq_some_iff.mp hr
  simpa using h2 j hj
theorem placeOf_some {rds : List (Rdg S)} {n : S} {i : Nat} {r : Rdg S} (hr : rds[i]? = some r) (hn : r.name = n) (hz : ∀ j r', j < i → rds[j]? = some r' → r'.name ≠ n) : placeOf rds n = some i := by
  unfold placeOf
  obtain ⟨hi, rfl⟩ := List.getElem?_eq_some_iff.mp hr
  rw [List.findIdx?_eq_some_iff_getElem]
  exact ⟨hi, by simpa using hn, fun j hj => by simpa using hz j _ hj (List.getElem?_eq_getElem (by omega))⟩
theorem mod_eq {α : Type} {l : List α} {i : Nat} {f : α → α} {x : α} (h : l[i]? = some x) : l.modify i f = l.set i (f x) := by
  obtain ⟨hi, rfl⟩ := List.getElem?_eq_some_iff.mp h
  apply List.ext_getElem?
  intro j
  rw [List.getElem?_modify, List.getElem?_set]
  by_cases hj : i = j
  · subst hj
    simp [hi]
  · simp [hj]
/-- names: distinct at distinct places -/
theorem rn_inj {rds : List (Rdg S)} (h : (rds.map (·.name)).Nodup) {i j : Nat} {r r' : Rdg S} (hi : rds[i]? = some r) (hj : rds[j]? = some r') (e : r.name = r'.name) : i = j := by
  obtain ⟨h1, rfl⟩ := List.getElem?_eq_some_iff.mp hi
  obtain ⟨h2, rfl⟩ := List.getElem?_eq_some_iff.mp hj
  have := List.pairwise_iff_getElem.mp h
  rcases Nat.lt_trichotomy i j with z | z | z
  · exact absurd (by rw [List.getElem_map, List.getElem_map]; exact e) (this i j (by simpa using h1) (by simpa using h2) z)
  · exact z
  · exact absurd (by rw [List.getElem_map, List.getElem_map]; exact e.symm) (this j i (by simpa using h2) (by simpa using h1) z)
theorem set_names {rds : List (Rdg S)} {i : Nat} {r r' : Rdg S} (hi : rds[i]? = some r) (e : r'.name = r.name) : (rds.set i r').map (·.name) = rds.map (·.name) := by
  obtain ⟨h1, rfl⟩ := List.getElem?_eq_some_iff.mp hi
  apply List.ext_getElem?
  intro j
  rw [List.getElem?_map, List.getElem?_map, List.getElem?_set]
  by_cases hj : i = j
  · subst hj
    simp [h1, e]
  · simp [hj]
/-- the order of texts: what tfGo asks makes names distinct -/
structure Ord (lt : S → S → Bool) : Prop where
  irr : ∀ a, lt a a = false
  tr : ∀ a b c, lt a b = true → lt b c = true → lt a c = true
theorem tf_ok {lt : S → S → Bool} (O : Ord lt) : ∀ {ts : List (S × Int)} {b : S}, tfGo lt b ts = true → (ts.map (·.1)).Nodup ∧ (∀ t ∈ ts, lt b t.1 = true) ∧ ∀ t ∈ ts, t.2 ≠ 0 ∧ -9 ≤ t.2 ∧ t.2 ≤ 9
  | [], b, _ => ⟨by simp, fun t h => by simp at h, fun t h => by simp at h⟩
  | (n, c) :: r, b, h => by
    unfold tfGo at h
    split at h
    · cases h
    · rename_i hc
      obtain ⟨h1, h2, h3⟩ := tf_ok O h
      rw [not_or, not_or] at hc
      obtain ⟨c1, c2, c3⟩ := hc
      have c2' : -9 ≤ c ∧ c ≤ 9 := Decidable.not_not.mp c2
      have c3' : lt b n = true := by simpa using c3
      refine ⟨?_, fun t ht => ?_, fun t ht => ?_⟩
      · rw [List.map_cons, List.nodup_cons]
        refine ⟨fun hm => ?_, h1⟩
        obtain ⟨t, ht, e⟩ := List.mem_map.mp hm
        have := h2 t ht
        rw [e, O.irr] at this
        cases this
      · rcases List.mem_cons.mp ht with z | z
        · rw [z]; exact c3'
        · exact O.tr _ _ _ c3' (h2 t z)
      · rcases List.mem_cons.mp ht with z | z
        · rw [z]; exact ⟨c1, c2'.1, c2'.2⟩
        · exact h3 t z
variable {lt : S → S → Bool} {e : S} {b b' : Bk S} {d : Dd S}
theorem rok_of {pts pts' : List S} {r : Rdg S} (h : ROk pts r) (hm : ∀ t ∈ r.terms, t.1 ∈ pts') : ROk pts' r := ⟨h.v, h.w, h.nd, hm, h.c⟩
theorem addR_ok (O : Ord lt) {n : S} {ts : List (S × Int)} {v w : Rat} (hd : DdOk (.reading n ts v w)) (h : addReadingB lt e b ⟨n, ts, v, w⟩ = some b') :
    b' = { b with rds := b.rds ++ [⟨n, ts, v, w⟩] } ∧ ROk b.names ⟨n, ts, v, w⟩ ∧ n ∉ b.rds.map (·.name) ∧ b.rds.length ≠ 24 := by
  unfold addReadingB at h
  split at h
  · cases h
  · rename_i hc
    rw [not_or, not_or, not_or, not_or, not_or] at hc
    obtain ⟨c1, c2, c3, c4, c5, c6⟩ := hc
    obtain ⟨t1, _, t3⟩ := tf_ok O (by simpa using c2 : tfGo lt e ts = true)
    exact ⟨(Option.some.inj h).symm, ⟨hd.2.1, hd.2.2 (by simpa using c5), t1, fun t ht => Decidable.not_not.mp fun z => c4 ⟨t, ht, z⟩, t3⟩, c1, c6⟩
theorem bk_rds' (ok : BkOk b) {rds : List (Rdg S)} (h1 : rds.length ≤ 24) (h2 : (rds.map (·.name)).Nodup) (h3 : ∀ r ∈ rds, ROk b.names r) : BkOk { b with rds := rds } := ⟨ok.nd, ok.pz, h1, h2, ok.v, h3⟩
theorem bk_set (ok : BkOk b) {i : Nat} {r r' : Rdg S} (hi : b.rds[i]? = some r) (e : r'.name = r.name) (hr : ROk b.names r') : BkOk { b with rds := b.rds.set i r' } := by
  refine bk_rds' ok (by rw [List.length_set]; exact ok.rz) (by rw [set_names hi e]; exact ok.rn) fun x hx => ?_
  rcases List.mem_or_eq_of_mem_set hx with z | z
  · exact ok.r x z
  · rw [z]; exact hr
theorem nodup_erase {α : Type} : ∀ {l : List α} {i : Nat}, l.Nodup → (l.eraseIdx i).Nodup := fun {l i} h => h.sublist (List.eraseIdx_sublist l i)
theorem bk_erase (ok : BkOk b) (i : Nat) : BkOk { b with rds := b.rds.eraseIdx i } := by
  refine bk_rds' ok (Nat.le_trans (List.length_eraseIdx_le ..) ok.rz) ?_ fun x hx => ok.r x (List.mem_of_mem_eraseIdx hx)
  exact ok.rn.sublist ((List.eraseIdx_sublist b.rds i).map _)
theorem bk_point (ok : BkOk b) {n : S} {q : Rat} (hq : VOk q) (hn : n ∉ b.names) (hz : b.pts.length < 12) : BkOk { b with pts := b.pts ++ [(n, q)] } := by
  have en : Bk.names { b with pts := b.pts ++ [(n, q)] } = b.names ++ [n] := by simp [Bk.names]
  refine ⟨?_, by simp; omega, ok.rz, ok.rn, fun p hp => ?_, fun r hr => rok_of (ok.r r hr) fun t ht => ?_⟩
  · rw [en, List.nodup_append]
    exact ⟨ok.nd, by simp, fun a ha c hc z => by
      have : c = n := by simpa using hc
      subst this
      subst z
      exact hn ha⟩
  · rcases List.mem_append.mp hp with z | z
    · exact ok.v p z
    · have : p = (n, q) := by simpa using z
      rw [this]; exact hq
  · rw [en]
    exact List.mem_append_left _ ((ok.r r hr).mem t ht)
theorem perf_ok (O : Ord lt) (ok : BkOk b) (hd : DdOk d) (h : performB lt e b d = some b') : BkOk b' := by
  cases d with
  | point n q =>
    have h : addPointB b n q = some b' := h
    unfold addPointB at h
    split at h
    · cases h
    · rename_i hc
      rw [not_or] at hc
      cases h
      have := ok.pz
      exact bk_point ok hd hc.1 (by omega)
  | reading n ts v w =>
    obtain ⟨rfl, h2, h3, h4⟩ := addR_ok O hd h
    have := ok.rz
    refine bk_rds' ok (by simp; omega) ?_ fun x hx => ?_
    · rw [List.map_append, List.nodup_append]
      exact ⟨ok.rn, by simp, fun a ha c hc z => by
        have : c = n := by simpa using hc
        subst this
        subst z
        exact h3 ha⟩
    · rcases List.mem_append.mp hx with z | z
      · exact ok.r x z
      · have : x = ⟨n, ts, v, w⟩ := by simpa using z
        rw [this]; exact h2
  | approx n q =>
    have h : approxB b n q = some b' := h
    unfold approxB at h
    split at h
    · cases h
      have en : Bk.names { b with pts := b.pts.map fun p => if p.1 = n then (p.1, q) else p } = b.names := by
        unfold Bk.names
        rw [List.map_map]
        apply List.map_congr_left
        intro p hp
        show (if p.1 = n then (p.1, q) else p).1 = p.1
        split <;> rfl
      refine ⟨by rw [en]; exact ok.nd, by simp; exact ok.pz, ok.rz, ok.rn, fun p hp => ?_, fun r hr => by rw [en]; exact ok.r r hr⟩
      obtain ⟨x, hx, rfl⟩ := List.mem_map.mp hp
      split
      · exact hd
      · exact ok.v x hx
    · cases h
  | value n q =>
    have h : valueB b n q = some b' := h
    unfold valueB at h
    split at h
    · cases h
    · rename_i i hi
      obtain ⟨r, hr, _, _⟩ := placeOf_at hi
      cases h
      rw [mod_eq hr]
      have o := ok.r r (List.mem_of_getElem? hr)
      exact bk_set ok hr rfl ⟨hd, o.w, o.nd, o.mem, o.c⟩
  | weight n q =>
    have h : weightB b n q = some b' := h
    unfold weightB at h
    split at h
    · cases h
    · rename_i i hi
      obtain ⟨r, hr, _, _⟩ := placeOf_at hi
      split at h
      · cases h
      · rename_i hq
        cases h
        rw [mod_eq hr]
        have o := ok.r r (List.mem_of_getElem? hr)
        exact bk_set ok hr rfl ⟨o.v, hd (by omega), o.nd, o.mem, o.c⟩
  | withdraw n =>
    have h : withdrawB b n = some b' := h
    unfold withdrawB at h
    split at h
    · cases h
    · cases h
      exact bk_erase ok _
  | remove n =>
    have h : removeB b n = some b' := h
    unfold removeB at h
    split at h
    · cases h
    · rename_i hc
      rw [not_or] at hc
      cases h
      have en : Bk.names { b with pts := b.pts.filter fun p => decide (p.1 ≠ n) } = b.names.filter fun x => decide (x ≠ n) := by
        unfold Bk.names
        rw [List.filter_map]
        rfl
      refine ⟨by rw [en]; exact ok.nd.filter _, Nat.le_trans (List.length_filter_le ..) ok.pz, ok.rz, ok.rn, fun p hp => ok.v p (List.mem_filter.mp hp).1, fun r hr => rok_of (ok.r r hr) fun t ht => ?_⟩
      rw [en, List.mem_filter]
      refine ⟨(ok.r r hr).mem t ht, decide_eq_true fun z => hc.2 ⟨r, hr, ?_⟩⟩
      rw [← z]
      exact List.mem_map.mpr ⟨t, ht, rfl⟩
/-- what stands of a log -/
structure LgOk (M : Mth S) (lt : S → S → Bool) (e : S) (m : Nat) (l : Lg S) : Prop where
  len : l.books.length = l.done.length + 1
  z : l.done.length + l.later.length ≤ m
  ok : ∀ b ∈ l.books, BkOk b
  st : ∀ (i : Nat) d b b', l.done[i]? = some d → l.books[i]? = some b → l.books[i + 1]? = some b' → DdOk d ∧ performB lt e b d = some b'
  lt : ∀ d ∈ l.later, DdOk d
  net : ∃ b, l.books[l.done.length]? = some b ∧ M.Ok b l.net
/-- a deed done: the log behind it -/
theorem lg_adv {M : Mth S} {lt : S → S → Bool} {e : S} {m : Nat} {l : Lg S} {b b' : Bk S} {d : Dd S} {n' : Nt S} (O : Ord lt) (h : LgOk M lt e m l) (hb : l.books[l.done.length]? = some b) (hd : DdOk d) (hp : performB lt e b d = some b') (hn : M.Ok b' n') {la : List (Dd S)} (hla : ∀ x ∈ la, DdOk x) (hz : l.done.length + 1 + la.length ≤ m + 1) :
    LgOk M lt e (m + 1) ⟨l.done ++ [d], l.books ++ [b'], la, n'⟩ := by
  have hl := h.len
  have ok := h.ok b (List.mem_of_getElem? hb)
  refine ⟨by simp [hl], by simp; omega, fun x hx => ?_, fun i x y y' h1 h2 h3 => ?_, hla, b', ?_, hn⟩
  · rcases List.mem_append.mp hx with z | z
    · exact h.ok x z
    · have : x = b' := by simpa using z
      rw [this]; exact perf_ok O ok hd hp
  · have h1 : (l.done ++ [d])[i]? = some x := h1
    have h2 : (l.books ++ [b'])[i]? = some y := h2
    have h3 : (l.books ++ [b'])[i + 1]? = some y' := h3
    by_cases hi : i < l.done.length
    · rw [List.getElem?_append_left hi] at h1
      rw [List.getElem?_append_left (by omega)] at h2 h3
      exact h.st i x y y' h1 h2 h3
    · have hil : i < (l.done ++ [d]).length := (List.getElem?_eq_some_iff.mp h1).1
      have : i = l.done.length := by simp at hil; omega
      subst this
      rw [List.getElem?_append_right (Nat.le_refl _), Nat.sub_self] at h1
      have e1 : d = x := by simpa using h1
      rw [List.getElem?_append_left (by omega), hb] at h2
      cases h2
      rw [← hl, List.getElem?_append_right (Nat.le_refl _), Nat.sub_self] at h3
      have e3 : b' = y' := by simpa using h3
      rw [← e1, ← e3]
      exact ⟨hd, hp⟩
  · show (l.books ++ [b'])[(l.done ++ [d]).length]? = some b'
    rw [List.length_append, List.length_singleton, ← hl, List.getElem?_append_right (Nat.le_refl _), Nat.sub_self]
    rfl
/-- a deed taken back -/
theorem lg_undo {M : Mth S} {lt : S → S → Bool} {e : S} {m : Nat} {l : Lg S} {b : Bk S} {d : Dd S} {n' : Nt S} (h : LgOk M lt e m l) {k : Nat} (hk : l.done.length = k + 1) (hd : l.done[k]? = some d) (hb : l.books[k]? = some b) (hn : M.Ok b n') :
    LgOk M lt e m ⟨l.done.dropLast, l.books.dropLast, l.later ++ [d], n'⟩ := by
  have hl := h.len
  have hz := h.z
  have hdd : DdOk d := by
    have hb2 : l.books[k + 1]? = some l.books[k + 1] := List.getElem?_eq_getElem (by omega)
    exact (h.st k d b _ hd hb hb2).1
  have dl : ∀ {α : Type} (x : List α) (i : Nat) (y : α), x.dropLast[i]? = some y → x[i]? = some y := fun x i y q => by
    rw [List.getElem?_dropLast] at q
    split at q
    · exact q
    · cases q
  refine ⟨by simp; omega, by simp; omega, fun x hx => h.ok x ((List.dropLast_sublist _).subset hx), fun i x y y' h1 h2 h3 => h.st i x y y' (dl _ _ _ h1) (dl _ _ _ h2) (dl _ _ _ h3), fun x hx => ?_, b, ?_, hn⟩
  · rcases List.mem_append.mp hx with z | z
    · exact h.lt x z
    · have : x = d := by simpa using z
      rw [this]; exact hdd
  · show l.books.dropLast[l.done.dropLast.length]? = some b
    rw [List.getElem?_dropLast, List.length_dropLast, hk, if_pos (by omega)]
    exact hb
end
end Pn
/-! printed by gen_fld.py: the fields of the classes -/
namespace Pn
open PySem PySem.Spec PyProof.Rows L2
theorem putF_at {l1 l2 : List (Str × V)} {f : Str} {v u : V} (h : f ∉ l1.map Prod.fst) : putF f v (l1 ++ (f, u) :: l2) = l1 ++ (f, v) :: l2 := by
  induction l1 with
  | nil => exact if_pos rfl
  | cons p r ih =>
    obtain ⟨g, x⟩ := p
    rw [List.map_cons, List.mem_cons, not_or] at h
    show (if g = f then _ else (g, x) :: putF f v (r ++ (f, u) :: l2)) = _
    rw [if_neg (fun z => h.1 z.symm), ih h.2]
    rfl
theorem putF_end {l1 : List (Str × V)} {f : Str} {v : V} (h : f ∉ l1.map Prod.fst) : putF f v l1 = l1 ++ [(f, v)] := by
  induction l1 with
  | nil => rfl
  | cons p r ih =>
    obtain ⟨g, x⟩ := p
    rw [List.map_cons, List.mem_cons, not_or] at h
    show (if g = f then _ else _) = _
    rw [if_neg (fun z => h.1 z.symm), ih h.2]
    rfl
theorem lookup_at {l1 l2 : List (Str × V)} {f : Str} {v : V} (h : f ∉ l1.map Prod.fst) : (l1 ++ (f, v) :: l2).lookup f = some v := by
  induction l1 with
  | nil => simp [List.lookup]
  | cons p r ih =>
    obtain ⟨g, x⟩ := p
    rw [List.map_cons, List.mem_cons, not_or] at h
    have e : (f == g) = false := by simpa using h.1
    show (match f == g with | true => some x | false => List.lookup f (r ++ (f, v) :: l2)) = some v
    rw [e]
    exact ih h.2
theorem lookup_not {l1 : List (Str × V)} {f : Str} (h : f ∉ l1.map Prod.fst) : l1.lookup f = none := by
  induction l1 with
  | nil => rfl
  | cons p r ih =>
    obtain ⟨g, x⟩ := p
    rw [List.map_cons, List.mem_cons, not_or] at h
    have e : (f == g) = false := by simpa using h.1
    show (match f == g with | true => some x | false => List.lookup f r) = none
    rw [e]
    exact ih h.2

def fRd (x0 x1 x2 x3 : V) : List (Str × V) := [("name", x0), ("terms", x1), ("value", x2), ("weight", x3)]
section
variable {x0 x1 x2 x3 y : V}
theorem lRd_name : (fRd x0 x1 x2 x3).lookup ("name" : Str) = some x0 := lookup_at (l1 := []) (l2 := [("terms", x1), ("value", x2), ("weight", x3)]) (by show ("name" : Str) ∉ ([] : List Str); decide +kernel)
theorem pRd_name : putF ("name" : Str) y (fRd x0 x1 x2 x3) = fRd y x1 x2 x3 := putF_at (l1 := []) (l2 := [("terms", x1), ("value", x2), ("weight", x3)]) (by show ("name" : Str) ∉ ([] : List Str); decide +kernel)
theorem eRd_name : putF ("name" : Str) x0 ([] : List (Str × V)) = ([("name", x0)] : List (Str × V)) := putF_end (l1 := []) (by show ("name" : Str) ∉ ([] : List Str); decide +kernel)
theorem lRd_terms : (fRd x0 x1 x2 x3).lookup ("terms" : Str) = some x1 := lookup_at (l1 := [("name", x0)]) (l2 := [("value", x2), ("weight", x3)]) (by show ("terms" : Str) ∉ (["name"] : List Str); decide +kernel)
theorem pRd_terms : putF ("terms" : Str) y (fRd x0 x1 x2 x3) = fRd x0 y x2 x3 := putF_at (l1 := [("name", x0)]) (l2 := [("value", x2), ("weight", x3)]) (by show ("terms" : Str) ∉ (["name"] : List Str); decide +kernel)
theorem eRd_terms : putF ("terms" : Str) x1 ([("name", x0)] : List (Str × V)) = ([("name", x0), ("terms", x1)] : List (Str × V)) := putF_end (l1 := [("name", x0)]) (by show ("terms" : Str) ∉ (["name"] : List Str); decide +kernel)
theorem lRd_value : (fRd x0 x1 x2 x3).lookup ("value" : Str) = some x2 := lookup_at (l1 := [("name", x0), ("terms", x1)]) (l2 := [("weight", x3)]) (by show ("value" : Str) ∉ (["name", "terms"] : List Str); decide +kernel)
theorem pRd_value : putF ("value" : Str) y (fRd x0 x1 x2 x3) = fRd x0 x1 y x3 := putF_at (l1 := [("name", x0), ("terms", x1)]) (l2 := [("weight", x3)]) (by show ("value" : Str) ∉ (["name", "terms"] : List Str); decide +kernel)
theorem eRd_value : putF ("value" : Str) x2 ([("name", x0), ("terms", x1)] : List (Str × V)) = ([("name", x0), ("terms", x1), ("value", x2)] : List (Str × V)) := putF_end (l1 := [("name", x0), ("terms", x1)]) (by show ("value" : Str) ∉ (["name", "terms"] : List Str); decide +kernel)
theorem lRd_weight : (fRd x0 x1 x2 x3).lookup ("weight" : Str) = some x3 := lookup_at (l1 := [("name", x0), ("terms", x1), ("value", x2)]) (l2 := []) (by show ("weight" : Str) ∉ (["name", "terms", "value"] : List Str); decide +kernel)
theorem pRd_weight : putF ("weight" : Str) y (fRd x0 x1 x2 x3) = fRd x0 x1 x2 y := putF_at (l1 := [("name", x0), ("terms", x1), ("value", x2)]) (l2 := []) (by show ("weight" : Str) ∉ (["name", "terms", "value"] : List Str); decide +kernel)
theorem eRd_weight : putF ("weight" : Str) x3 ([("name", x0), ("terms", x1), ("value", x2)] : List (Str × V)) = ([("name", x0), ("terms", x1), ("value", x2), ("weight", x3)] : List (Str × V)) := putF_end (l1 := [("name", x0), ("terms", x1), ("value", x2)]) (by show ("weight" : Str) ∉ (["name", "terms", "value"] : List Str); decide +kernel)
end
def fBk (x0 x1 x2 : V) : List (Str × V) := [("points", x0), ("approximations", x1), ("readings", x2)]
section
variable {x0 x1 x2 y : V}
theorem lBk_points : (fBk x0 x1 x2).lookup ("points" : Str) = some x0 := lookup_at (l1 := []) (l2 := [("approximations", x1), ("readings", x2)]) (by show ("points" : Str) ∉ ([] : List Str); decide +kernel)
theorem pBk_points : putF ("points" : Str) y (fBk x0 x1 x2) = fBk y x1 x2 := putF_at (l1 := []) (l2 := [("approximations", x1), ("readings", x2)]) (by show ("points" : Str) ∉ ([] : List Str); decide +kernel)
theorem eBk_points : putF ("points" : Str) x0 ([] : List (Str × V)) = ([("points", x0)] : List (Str × V)) := putF_end (l1 := []) (by show ("points" : Str) ∉ ([] : List Str); decide +kernel)
theorem lBk_approximations : (fBk x0 x1 x2).lookup ("approximations" : Str) = some x1 := lookup_at (l1 := [("points", x0)]) (l2 := [("readings", x2)]) (by show ("approximations" : Str) ∉ (["points"] : List Str); decide +kernel)
theorem pBk_approximations : putF ("approximations" : Str) y (fBk x0 x1 x2) = fBk x0 y x2 := putF_at (l1 := [("points", x0)]) (l2 := [("readings", x2)]) (by show ("approximations" : Str) ∉ (["points"] : List Str); decide +kernel)
theorem eBk_approximations : putF ("approximations" : Str) x1 ([("points", x0)] : List (Str × V)) = ([("points", x0), ("approximations", x1)] : List (Str × V)) := putF_end (l1 := [("points", x0)]) (by show ("approximations" : Str) ∉ (["points"] : List Str); decide +kernel)
theorem lBk_readings : (fBk x0 x1 x2).lookup ("readings" : Str) = some x2 := lookup_at (l1 := [("points", x0), ("approximations", x1)]) (l2 := []) (by show ("readings" : Str) ∉ (["points", "approximations"] : List Str); decide +kernel)
theorem pBk_readings : putF ("readings" : Str) y (fBk x0 x1 x2) = fBk x0 x1 y := putF_at (l1 := [("points", x0), ("approximations", x1)]) (l2 := []) (by show ("readings" : Str) ∉ (["points", "approximations"] : List Str); decide +kernel)
theorem eBk_readings : putF ("readings" : Str) x2 ([("points", x0), ("approximations", x1)] : List (Str × V)) = ([("points", x0), ("approximations", x1), ("readings", x2)] : List (Str × V)) := putF_end (l1 := [("points", x0), ("approximations", x1)]) (by show ("readings" : Str) ∉ (["points", "approximations"] : List Str); decide +kernel)
theorem nBk_add_point : (fBk x0 x1 x2).lookup ("add_point" : Str) = none := lookup_not (by show ("add_point" : Str) ∉ (["points", "approximations", "readings"] : List Str); decide +kernel)
theorem nBk_add_reading : (fBk x0 x1 x2).lookup ("add_reading" : Str) = none := lookup_not (by show ("add_reading" : Str) ∉ (["points", "approximations", "readings"] : List Str); decide +kernel)
theorem nBk_change_approximation : (fBk x0 x1 x2).lookup ("change_approximation" : Str) = none := lookup_not (by show ("change_approximation" : Str) ∉ (["points", "approximations", "readings"] : List Str); decide +kernel)
theorem nBk_change_value : (fBk x0 x1 x2).lookup ("change_value" : Str) = none := lookup_not (by show ("change_value" : Str) ∉ (["points", "approximations", "readings"] : List Str); decide +kernel)
theorem nBk_change_weight : (fBk x0 x1 x2).lookup ("change_weight" : Str) = none := lookup_not (by show ("change_weight" : Str) ∉ (["points", "approximations", "readings"] : List Str); decide +kernel)
theorem nBk_withdraw : (fBk x0 x1 x2).lookup ("withdraw" : Str) = none := lookup_not (by show ("withdraw" : Str) ∉ (["points", "approximations", "readings"] : List Str); decide +kernel)
theorem nBk_remove_point : (fBk x0 x1 x2).lookup ("remove_point" : Str) = none := lookup_not (by show ("remove_point" : Str) ∉ (["points", "approximations", "readings"] : List Str); decide +kernel)
theorem nBk_reading : (fBk x0 x1 x2).lookup ("reading" : Str) = none := lookup_not (by show ("reading" : Str) ∉ (["points", "approximations", "readings"] : List Str); decide +kernel)
theorem nBk_twin : (fBk x0 x1 x2).lookup ("twin" : Str) = none := lookup_not (by show ("twin" : Str) ∉ (["points", "approximations", "readings"] : List Str); decide +kernel)
theorem nBk_place_of : (fBk x0 x1 x2).lookup ("place_of" : Str) = none := lookup_not (by show ("place_of" : Str) ∉ (["points", "approximations", "readings"] : List Str); decide +kernel)
theorem nBk_require_point : (fBk x0 x1 x2).lookup ("require_point" : Str) = none := lookup_not (by show ("require_point" : Str) ∉ (["points", "approximations", "readings"] : List Str); decide +kernel)
end
def fNt (x0 x1 x2 x3 x4 x5 x6 : V) : List (Str × V) := [("points", x0), ("approximations", x1), ("readings", x2), ("normal", x3), ("inverse", x4), ("right", x5), ("total", x6)]
section
variable {x0 x1 x2 x3 x4 x5 x6 y : V}
theorem lNt_points : (fNt x0 x1 x2 x3 x4 x5 x6).lookup ("points" : Str) = some x0 := lookup_at (l1 := []) (l2 := [("approximations", x1), ("readings", x2), ("normal", x3), ("inverse", x4), ("right", x5), ("total", x6)]) (by show ("points" : Str) ∉ ([] : List Str); decide +kernel)
theorem pNt_points : putF ("points" : Str) y (fNt x0 x1 x2 x3 x4 x5 x6) = fNt y x1 x2 x3 x4 x5 x6 := putF_at (l1 := []) (l2 := [("approximations", x1), ("readings", x2), ("normal", x3), ("inverse", x4), ("right", x5), ("total", x6)]) (by show ("points" : Str) ∉ ([] : List Str); decide +kernel)
theorem eNt_points : putF ("points" : Str) x0 ([] : List (Str × V)) = ([("points", x0)] : List (Str × V)) := putF_end (l1 := []) (by show ("points" : Str) ∉ ([] : List Str); decide +kernel)
theorem lNt_approximations : (fNt x0 x1 x2 x3 x4 x5 x6).lookup ("approximations" : Str) = some x1 := lookup_at (l1 := [("points", x0)]) (l2 := [("readings", x2), ("normal", x3), ("inverse", x4), ("right", x5), ("total", x6)]) (by show ("approximations" : Str) ∉ (["points"] : List Str); decide +kernel)
theorem pNt_approximations : putF ("approximations" : Str) y (fNt x0 x1 x2 x3 x4 x5 x6) = fNt x0 y x2 x3 x4 x5 x6 := putF_at (l1 := [("points", x0)]) (l2 := [("readings", x2), ("normal", x3), ("inverse", x4), ("right", x5), ("total", x6)]) (by show ("approximations" : Str) ∉ (["points"] : List Str); decide +kernel)
theorem eNt_approximations : putF ("approximations" : Str) x1 ([("points", x0)] : List (Str × V)) = ([("points", x0), ("approximations", x1)] : List (Str × V)) := putF_end (l1 := [("points", x0)]) (by show ("approximations" : Str) ∉ (["points"] : List Str); decide +kernel)
theorem lNt_readings : (fNt x0 x1 x2 x3 x4 x5 x6).lookup ("readings" : Str) = some x2 := lookup_at (l1 := [("points", x0), ("approximations", x1)]) (l2 := [("normal", x3), ("inverse", x4), ("right", x5), ("total", x6)]) (by show ("readings" : Str) ∉ (["points", "approximations"] : List Str); decide +kernel)
theorem pNt_readings : putF ("readings" : Str) y (fNt x0 x1 x2 x3 x4 x5 x6) = fNt x0 x1 y x3 x4 x5 x6 := putF_at (l1 := [("points", x0), ("approximations", x1)]) (l2 := [("normal", x3), ("inverse", x4), ("right", x5), ("total", x6)]) (by show ("readings" : Str) ∉ (["points", "approximations"] : List Str); decide +kernel)
theorem eNt_readings : putF ("readings" : Str) x2 ([("points", x0), ("approximations", x1)] : List (Str × V)) = ([("points", x0), ("approximations", x1), ("readings", x2)] : List (Str × V)) := putF_end (l1 := [("points", x0), ("approximations", x1)]) (by show ("readings" : Str) ∉ (["points", "approximations"] : List Str); decide +kernel)
theorem lNt_normal : (fNt x0 x1 x2 x3 x4 x5 x6).lookup ("normal" : Str) = some x3 := lookup_at (l1 := [("points", x0), ("approximations", x1), ("readings", x2)]) (l2 := [("inverse", x4), ("right", x5), ("total", x6)]) (by show ("normal" : Str) ∉ (["points", "approximations", "readings"] : List Str); decide +kernel)
theorem pNt_normal : putF ("normal" : Str) y (fNt x0 x1 x2 x3 x4 x5 x6) = fNt x0 x1 x2 y x4 x5 x6 := putF_at (l1 := [("points", x0), ("approximations", x1), ("readings", x2)]) (l2 := [("inverse", x4), ("right", x5), ("total", x6)]) (by show ("normal" : Str) ∉ (["points", "approximations", "readings"] : List Str); decide +kernel)
theorem eNt_normal : putF ("normal" : Str) x3 ([("points", x0), ("approximations", x1), ("readings", x2)] : List (Str × V)) = ([("points", x0), ("approximations", x1), ("readings", x2), ("normal", x3)] : List (Str × V)) := putF_end (l1 := [("points", x0), ("approximations", x1), ("readings", x2)]) (by show ("normal" : Str) ∉ (["points", "approximations", "readings"] : List Str); decide +kernel)
theorem lNt_inverse : (fNt x0 x1 x2 x3 x4 x5 x6).lookup ("inverse" : Str) = some x4 := lookup_at (l1 := [("points", x0), ("approximations", x1), ("readings", x2), ("normal", x3)]) (l2 := [("right", x5), ("total", x6)]) (by show ("inverse" : Str) ∉ (["points", "approximations", "readings", "normal"] : List Str); decide +kernel)
theorem pNt_inverse : putF ("inverse" : Str) y (fNt x0 x1 x2 x3 x4 x5 x6) = fNt x0 x1 x2 x3 y x5 x6 := putF_at (l1 := [("points", x0), ("approximations", x1), ("readings", x2), ("normal", x3)]) (l2 := [("right", x5), ("total", x6)]) (by show ("inverse" : Str) ∉ (["points", "approximations", "readings", "normal"] : List Str); decide +kernel)
theorem eNt_inverse : putF ("inverse" : Str) x4 ([("points", x0), ("approximations", x1), ("readings", x2), ("normal", x3)] : List (Str × V)) = ([("points", x0), ("approximations", x1), ("readings", x2), ("normal", x3), ("inverse", x4)] : List (Str × V)) := putF_end (l1 := [("points", x0), ("approximations", x1), ("readings", x2), ("normal", x3)]) (by show ("inverse" : Str) ∉ (["points", "approximations", "readings", "normal"] : List Str); decide +kernel)
theorem lNt_right : (fNt x0 x1 x2 x3 x4 x5 x6).lookup ("right" : Str) = some x5 := lookup_at (l1 := [("points", x0), ("approximations", x1), ("readings", x2), ("normal", x3), ("inverse", x4)]) (l2 := [("total", x6)]) (by show ("right" : Str) ∉ (["points", "approximations", "readings", "normal", "inverse"] : List Str); decide +kernel)
theorem pNt_right : putF ("right" : Str) y (fNt x0 x1 x2 x3 x4 x5 x6) = fNt x0 x1 x2 x3 x4 y x6 := putF_at (l1 := [("points", x0), ("approximations", x1), ("readings", x2), ("normal", x3), ("inverse", x4)]) (l2 := [("total", x6)]) (by show ("right" : Str) ∉ (["points", "approximations", "readings", "normal", "inverse"] : List Str); decide +kernel)
theorem eNt_right : putF ("right" : Str) x5 ([("points", x0), ("approximations", x1), ("readings", x2), ("normal", x3), ("inverse", x4)] : List (Str × V)) = ([("points", x0), ("approximations", x1), ("readings", x2), ("normal", x3), ("inverse", x4), ("right", x5)] : List (Str × V)) := putF_end (l1 := [("points", x0), ("approximations", x1), ("readings", x2), ("normal", x3), ("inverse", x4)]) (by show ("right" : Str) ∉ (["points", "approximations", "readings", "normal", "inverse"] : List Str); decide +kernel)
theorem lNt_total : (fNt x0 x1 x2 x3 x4 x5 x6).lookup ("total" : Str) = some x6 := lookup_at (l1 := [("points", x0), ("approximations", x1), ("readings", x2), ("normal", x3), ("inverse", x4), ("right", x5)]) (l2 := []) (by show ("total" : Str) ∉ (["points", "approximations", "readings", "normal", "inverse", "right"] : List Str); decide +kernel)
theorem pNt_total : putF ("total" : Str) y (fNt x0 x1 x2 x3 x4 x5 x6) = fNt x0 x1 x2 x3 x4 x5 y := putF_at (l1 := [("points", x0), ("approximations", x1), ("readings", x2), ("normal", x3), ("inverse", x4), ("right", x5)]) (l2 := []) (by show ("total" : Str) ∉ (["points", "approximations", "readings", "normal", "inverse", "right"] : List Str); decide +kernel)
theorem eNt_total : putF ("total" : Str) x6 ([("points", x0), ("approximations", x1), ("readings", x2), ("normal", x3), ("inverse", x4), ("right", x5)] : List (Str × V)) = ([("points", x0), ("approximations", x1), ("readings", x2), ("normal", x3), ("inverse", x4), ("right", x5), ("total", x6)] : List (Str × V)) := putF_end (l1 := [("points", x0), ("approximations", x1), ("readings", x2), ("normal", x3), ("inverse", x4), ("right", x5)]) (by show ("total" : Str) ∉ (["points", "approximations", "readings", "normal", "inverse", "right"] : List Str); decide +kernel)
theorem nNt_add_point : (fNt x0 x1 x2 x3 x4 x5 x6).lookup ("add_point" : Str) = none := lookup_not (by show ("add_point" : Str) ∉ (["points", "approximations", "readings", "normal", "inverse", "right", "total"] : List Str); decide +kernel)
theorem nNt_row : (fNt x0 x1 x2 x3 x4 x5 x6).lookup ("row" : Str) = none := lookup_not (by show ("row" : Str) ∉ (["points", "approximations", "readings", "normal", "inverse", "right", "total"] : List Str); decide +kernel)
theorem nNt_place_of : (fNt x0 x1 x2 x3 x4 x5 x6).lookup ("place_of" : Str) = none := lookup_not (by show ("place_of" : Str) ∉ (["points", "approximations", "readings", "normal", "inverse", "right", "total"] : List Str); decide +kernel)
theorem nNt_tally : (fNt x0 x1 x2 x3 x4 x5 x6).lookup ("tally" : Str) = none := lookup_not (by show ("tally" : Str) ∉ (["points", "approximations", "readings", "normal", "inverse", "right", "total"] : List Str); decide +kernel)
theorem nNt_put : (fNt x0 x1 x2 x3 x4 x5 x6).lookup ("put" : Str) = none := lookup_not (by show ("put" : Str) ∉ (["points", "approximations", "readings", "normal", "inverse", "right", "total"] : List Str); decide +kernel)
theorem nNt_take : (fNt x0 x1 x2 x3 x4 x5 x6).lookup ("take" : Str) = none := lookup_not (by show ("take" : Str) ∉ (["points", "approximations", "readings", "normal", "inverse", "right", "total"] : List Str); decide +kernel)
theorem nNt_add : (fNt x0 x1 x2 x3 x4 x5 x6).lookup ("add" : Str) = none := lookup_not (by show ("add" : Str) ∉ (["points", "approximations", "readings", "normal", "inverse", "right", "total"] : List Str); decide +kernel)
theorem nNt_withdraw : (fNt x0 x1 x2 x3 x4 x5 x6).lookup ("withdraw" : Str) = none := lookup_not (by show ("withdraw" : Str) ∉ (["points", "approximations", "readings", "normal", "inverse", "right", "total"] : List Str); decide +kernel)
theorem nNt_change_value : (fNt x0 x1 x2 x3 x4 x5 x6).lookup ("change_value" : Str) = none := lookup_not (by show ("change_value" : Str) ∉ (["points", "approximations", "readings", "normal", "inverse", "right", "total"] : List Str); decide +kernel)
theorem nNt_change_weight : (fNt x0 x1 x2 x3 x4 x5 x6).lookup ("change_weight" : Str) = none := lookup_not (by show ("change_weight" : Str) ∉ (["points", "approximations", "readings", "normal", "inverse", "right", "total"] : List Str); decide +kernel)
theorem nNt_rows : (fNt x0 x1 x2 x3 x4 x5 x6).lookup ("rows" : Str) = none := lookup_not (by show ("rows" : Str) ∉ (["points", "approximations", "readings", "normal", "inverse", "right", "total"] : List Str); decide +kernel)
theorem nNt_heights : (fNt x0 x1 x2 x3 x4 x5 x6).lookup ("heights" : Str) = none := lookup_not (by show ("heights" : Str) ∉ (["points", "approximations", "readings", "normal", "inverse", "right", "total"] : List Str); decide +kernel)
theorem nNt_misfits : (fNt x0 x1 x2 x3 x4 x5 x6).lookup ("misfits" : Str) = none := lookup_not (by show ("misfits" : Str) ∉ (["points", "approximations", "readings", "normal", "inverse", "right", "total"] : List Str); decide +kernel)
theorem nNt_squares : (fNt x0 x1 x2 x3 x4 x5 x6).lookup ("squares" : Str) = none := lookup_not (by show ("squares" : Str) ∉ (["points", "approximations", "readings", "normal", "inverse", "right", "total"] : List Str); decide +kernel)
theorem nNt_rank : (fNt x0 x1 x2 x3 x4 x5 x6).lookup ("rank" : Str) = none := lookup_not (by show ("rank" : Str) ∉ (["points", "approximations", "readings", "normal", "inverse", "right", "total"] : List Str); decide +kernel)
theorem nNt_paper : (fNt x0 x1 x2 x3 x4 x5 x6).lookup ("paper" : Str) = none := lookup_not (by show ("paper" : Str) ∉ (["points", "approximations", "readings", "normal", "inverse", "right", "total"] : List Str); decide +kernel)
end
def fLg (x0 x1 x2 x3 : V) : List (Str × V) := [("done", x0), ("books", x1), ("later", x2), ("net", x3)]
section
variable {x0 x1 x2 x3 y : V}
theorem lLg_done : (fLg x0 x1 x2 x3).lookup ("done" : Str) = some x0 := lookup_at (l1 := []) (l2 := [("books", x1), ("later", x2), ("net", x3)]) (by show ("done" : Str) ∉ ([] : List Str); decide +kernel)
theorem pLg_done : putF ("done" : Str) y (fLg x0 x1 x2 x3) = fLg y x1 x2 x3 := putF_at (l1 := []) (l2 := [("books", x1), ("later", x2), ("net", x3)]) (by show ("done" : Str) ∉ ([] : List Str); decide +kernel)
theorem eLg_done : putF ("done" : Str) x0 ([] : List (Str × V)) = ([("done", x0)] : List (Str × V)) := putF_end (l1 := []) (by show ("done" : Str) ∉ ([] : List Str); decide +kernel)
theorem lLg_books : (fLg x0 x1 x2 x3).lookup ("books" : Str) = some x1 := lookup_at (l1 := [("done", x0)]) (l2 := [("later", x2), ("net", x3)]) (by show ("books" : Str) ∉ (["done"] : List Str); decide +kernel)
theorem pLg_books : putF ("books" : Str) y (fLg x0 x1 x2 x3) = fLg x0 y x2 x3 := putF_at (l1 := [("done", x0)]) (l2 := [("later", x2), ("net", x3)]) (by show ("books" : Str) ∉ (["done"] : List Str); decide +kernel)
theorem eLg_books : putF ("books" : Str) x1 ([("done", x0)] : List (Str × V)) = ([("done", x0), ("books", x1)] : List (Str × V)) := putF_end (l1 := [("done", x0)]) (by show ("books" : Str) ∉ (["done"] : List Str); decide +kernel)
theorem lLg_later : (fLg x0 x1 x2 x3).lookup ("later" : Str) = some x2 := lookup_at (l1 := [("done", x0), ("books", x1)]) (l2 := [("net", x3)]) (by show ("later" : Str) ∉ (["done", "books"] : List Str); decide +kernel)
theorem pLg_later : putF ("later" : Str) y (fLg x0 x1 x2 x3) = fLg x0 x1 y x3 := putF_at (l1 := [("done", x0), ("books", x1)]) (l2 := [("net", x3)]) (by show ("later" : Str) ∉ (["done", "books"] : List Str); decide +kernel)
theorem eLg_later : putF ("later" : Str) x2 ([("done", x0), ("books", x1)] : List (Str × V)) = ([("done", x0), ("books", x1), ("later", x2)] : List (Str × V)) := putF_end (l1 := [("done", x0), ("books", x1)]) (by show ("later" : Str) ∉ (["done", "books"] : List Str); decide +kernel)
theorem lLg_net : (fLg x0 x1 x2 x3).lookup ("net" : Str) = some x3 := lookup_at (l1 := [("done", x0), ("books", x1), ("later", x2)]) (l2 := []) (by show ("net" : Str) ∉ (["done", "books", "later"] : List Str); decide +kernel)
theorem pLg_net : putF ("net" : Str) y (fLg x0 x1 x2 x3) = fLg x0 x1 x2 y := putF_at (l1 := [("done", x0), ("books", x1), ("later", x2)]) (l2 := []) (by show ("net" : Str) ∉ (["done", "books", "later"] : List Str); decide +kernel)
theorem eLg_net : putF ("net" : Str) x3 ([("done", x0), ("books", x1), ("later", x2)] : List (Str × V)) = ([("done", x0), ("books", x1), ("later", x2), ("net", x3)] : List (Str × V)) := putF_end (l1 := [("done", x0), ("books", x1), ("later", x2)]) (by show ("net" : Str) ∉ (["done", "books", "later"] : List Str); decide +kernel)
theorem nLg_advance : (fLg x0 x1 x2 x3).lookup ("advance" : Str) = none := lookup_not (by show ("advance" : Str) ∉ (["done", "books", "later", "net"] : List Str); decide +kernel)
theorem nLg_follow : (fLg x0 x1 x2 x3).lookup ("follow" : Str) = none := lookup_not (by show ("follow" : Str) ∉ (["done", "books", "later", "net"] : List Str); decide +kernel)
theorem nLg_do : (fLg x0 x1 x2 x3).lookup ("do" : Str) = none := lookup_not (by show ("do" : Str) ∉ (["done", "books", "later", "net"] : List Str); decide +kernel)
theorem nLg_undo : (fLg x0 x1 x2 x3).lookup ("undo" : Str) = none := lookup_not (by show ("undo" : Str) ∉ (["done", "books", "later", "net"] : List Str); decide +kernel)
theorem nLg_redo : (fLg x0 x1 x2 x3).lookup ("redo" : Str) = none := lookup_not (by show ("redo" : Str) ∉ (["done", "books", "later", "net"] : List Str); decide +kernel)
theorem nLg_book : (fLg x0 x1 x2 x3).lookup ("book" : Str) = none := lookup_not (by show ("book" : Str) ∉ (["done", "books", "later", "net"] : List Str); decide +kernel)
theorem nLg_heights : (fLg x0 x1 x2 x3).lookup ("heights" : Str) = none := lookup_not (by show ("heights" : Str) ∉ (["done", "books", "later", "net"] : List Str); decide +kernel)
theorem nLg_misfits : (fLg x0 x1 x2 x3).lookup ("misfits" : Str) = none := lookup_not (by show ("misfits" : Str) ∉ (["done", "books", "later", "net"] : List Str); decide +kernel)
theorem nLg_squares : (fLg x0 x1 x2 x3).lookup ("squares" : Str) = none := lookup_not (by show ("squares" : Str) ∉ (["done", "books", "later", "net"] : List Str); decide +kernel)
theorem nLg_rank : (fLg x0 x1 x2 x3).lookup ("rank" : Str) = none := lookup_not (by show ("rank" : Str) ∉ (["done", "books", "later", "net"] : List Str); decide +kernel)
end
end Pn
set_option maxHeartbeats 4000000
/-! readings, books, nets in the heap; what may change; calls that may raise -/
namespace Pn
open PySem PySem.Spec PyProof.Rows L2
abbrev CBk (K : PySem.W.Frag) : Addr := He.ga K "Book"
abbrev CNt (K : PySem.W.Frag) : Addr := He.ga K "Net"
abbrev CLg (K : PySem.W.Frag) : Addr := He.ga K "Log"
/-- nothing but W changes, and no immutable -/
structure Fr (K : PySem.W.Frag) (W : List Addr) (H H' : Hp) : Prop where
  f : ∀ a o, H a = some o → a ∉ W → H' a = some o
  k : Kp K H H'
section
variable {K : PySem.W.Frag} {H H1 H2 H' : Hp} {p : Addr} {o u : HO} {W W' : List Addr}
theorem Ex.fr (e : Ex H H') : Fr K W H H' := ⟨fun a o h _ => e a o h, e.kp⟩
theorem Fr.refl : Fr K W H H := (Ex.refl H).fr
theorem Fr.trans (a : Fr K W H H1) (b : Fr K W H1 H2) : Fr K W H H2 := ⟨fun c o h n => b.f c o (a.f c o h n) n, a.k.trans b.k⟩
theorem Fr.ex (a : Fr K W H H1) (b : Ex H1 H2) : Fr K W H H2 := a.trans b.fr
theorem Fr.mono (a : Fr K W H H1) (h : ∀ x ∈ W, x ∈ W') : Fr K W' H H1 := ⟨fun c o e n => a.f c o e (fun z => n (h c z)), a.k⟩
theorem Fr.upd (a : Fr K W H H') (hp : p ∈ W ∨ H p = none) (h : H' p = some u) (n : ¬ Im K u) : Fr K W H (L2.upd H' p o) := by
  refine ⟨fun c v hc hn => ?_, a.k.upd h n⟩
  have ne : c ≠ p := fun z => by
    subst z
    rcases hp with z | z
    · exact hn z
    · rw [z] at hc; cases hc
  rw [upd_ne ne]
  exact a.f c v hc hn
theorem Fr.new (a : Fr K W H H') (h : H' p = none) : Fr K W H (L2.upd H' p o) := by
  refine ⟨fun c v hc hn => ?_, a.k.new h⟩
  have h1 := a.f c v hc hn
  rw [upd_ne (ne_of_none h1 h)]
  exact h1
theorem Fr.free (a : Fr K W H H') (hw : p ∉ W) (h : H' p = none) : H p = none := by
  cases q : H p with
  | none => rfl
  | some o => rw [a.f p o q hw] at h; cases h
/-- what is not there yet is new -/
theorem Fr.drop (a : Fr K W H H') (h : ∀ x ∈ W, x ∈ W' ∨ H x = none) : Fr K W' H H' := ⟨fun c o e n => a.f c o e (fun z => by
  rcases h c z with q | q
  · exact n q
  · rw [q] at e; cases e), a.k⟩
end

/-! ### readings -/
def IsTerm (H : Hp) (v : V) (t : Str × Int) : Prop := ∃ p, v = .ref p ∧ H p = some (.tup [.str t.1, .int t.2])
abbrev IsTerms : Hp → V → List (Str × Int) → Prop := IsT IsTerm
theorem stayTm {K : PySem.W.Frag} : Stay K IsTerm := fun _ _ _ _ e ⟨p, h1, h2⟩ => ⟨p, h1, e p _ h2 trivial⟩
theorem stayTms {K : PySem.W.Frag} : Stay K IsTerms := stayT stayTm
abbrev Rg := Rdg Str
def IsRd (K : PySem.W.Frag) (H : Hp) (v : V) (r : Rg) : Prop := ∃ p dx tv vv wv, v = .ref p ∧ H p = some (.ins (CRd K) dx (fRd (.str r.name) tv vv wv)) ∧ IsTerms H tv r.terms ∧ IsR K H vv r.value ∧ IsR K H wv r.weight
theorem stayRd {K : PySem.W.Frag} : Stay K (IsRd K) := fun H H' v r e ⟨p, dx, tv, vv, wv, h1, h2, h3, h4, h5⟩ => ⟨p, dx, tv, vv, wv, h1, e p _ h2 (.inr rfl), stayTms _ _ _ _ e h3, h4.kp e, h5.kp e⟩

/-! ### books -/
structure BkA where
  p : Addr
  pl : Addr
  pd : Addr
  pr : Addr
def BkA.W (B : BkA) : List Addr := [B.pl, B.pd, B.pr]
def sVs (l : List Str) : List V := l.map V.str
structure IsBk (K : PySem.W.Frag) (H : Hp) (B : BkA) (b : Bk Str) : Prop where
  ins : ∃ dx, H B.p = some (.ins (CBk K) dx (fBk (.ref B.pl) (.ref B.pd) (.ref B.pr)))
  l : H B.pl = some (.lst (sVs b.names))
  d : ∃ kvs, H B.pd = some (.dK kvs) ∧ Al (fun (kv : Key × V) (p : Str × Rat) => kv.1 = .inr p.1 ∧ IsR K H kv.2 p.2) kvs b.pts
  r : IsL (IsRd K) H B.pr b.rds
  ne : B.pl ≠ B.pr
theorem IsBk.fr {K : PySem.W.Frag} {H H' : Hp} {B : BkA} {b : Bk Str} {W : List Addr} (h : IsBk K H B b) (e : Fr K W H H') (hw : B.p ∉ W ∧ B.pl ∉ W ∧ B.pd ∉ W ∧ B.pr ∉ W) : IsBk K H' B b := by
  obtain ⟨dx, h1⟩ := h.ins
  obtain ⟨kvs, h2, h3⟩ := h.d
  obtain ⟨vs, h4, h5⟩ := h.r
  exact ⟨⟨dx, e.f _ _ h1 hw.1⟩, e.f _ _ h.l hw.2.1, ⟨kvs, e.f _ _ h2 hw.2.2.1, h3.imp fun kv p ⟨a, b⟩ => ⟨a, b.kp e.k⟩⟩, ⟨vs, e.f _ _ h4 hw.2.2.2, h5.imp fun v x r => stayRd _ _ _ _ e.k r⟩, h.ne⟩
theorem IsBk.ex {K : PySem.W.Frag} {H H' : Hp} {B : BkA} {b : Bk Str} (h : IsBk K H B b) (e : Ex H H') : IsBk K H' B b := h.fr (W := []) e.fr ⟨by simp, by simp, by simp, by simp⟩

/-! ### texts in lists, names in dicts -/
theorem sVs_len (l : List Str) : (sVs l).length = l.length := by simp [sVs]
theorem flat_sVs (l : List Str) : (sVs l).all flatV = true := by
  rw [List.all_eq_true]
  intro x hx
  obtain ⟨n, _, rfl⟩ := List.mem_map.mp hx
  rfl
theorem eqV_str (a b : Str) : eqV (.str a) (.str b) = decide (a = b) := by
  show (a == b) = decide (a = b)
  by_cases h : a = b
  · subst h; simp
  · have : (a == b) = false := by simpa using h
    rw [this, decide_eq_false h]
theorem in_sVs (l : List Str) (n : Str) : inV (.str n) (sVs l) = decide (n ∈ l) := by
  unfold inV sVs
  rw [List.any_map]
  apply Bool.eq_iff_iff.mpr
  rw [List.any_eq_true, decide_eq_true_iff]
  constructor
  · rintro ⟨x, hx, h⟩
    have h : eqV (.str x) (.str n) = true := h
    rw [eqV_str, decide_eq_true_iff] at h
    rw [← h]
    exact hx
  · intro h
    exact ⟨n, h, by show eqV (.str n) (.str n) = true; rw [eqV_str, decide_eq_true rfl]⟩
theorem sVs_at (l : List Str) (n : Str) (h : n ∈ l) : (sVs l)[l.idxOf n]? = some (.str n) := by
  unfold sVs
  have := List.idxOf_lt_length_of_mem h
  rw [List.getElem?_map, List.getElem?_eq_getElem this, List.getElem_idxOf this]
  rfl
theorem sVs_no (l : List Str) (n : Str) : ∀ (m : Nat) (z : V), m < l.idxOf n → (sVs l)[m]? = some z → eqV z (.str n) = false := by
  intro m z hm hz
  unfold sVs at hz
  have hml : m < l.length := Nat.lt_of_lt_of_le hm List.idxOf_le_length
  rw [List.getElem?_map, List.getElem?_eq_getElem hml] at hz
  cases hz
  rw [eqV_str]
  exact decide_eq_false (List.not_of_lt_findIdx hm |> fun h => by simpa using h)
theorem kv_get {K : PySem.W.Frag} {H : Hp} {kvs : List (Key × V)} {pts : List (Str × Rat)} (h : Al (fun (kv : Key × V) (p : Str × Rat) => kv.1 = .inr p.1 ∧ IsR K H kv.2 p.2) kvs pts) (n : Str) :
    (valV kvs (.inr n) = none ∧ n ∉ pts.map (·.1)) ∨ ∃ v q, valV kvs (.inr n) = some v ∧ IsR K H v q ∧ (pts.find? fun p => decide (p.1 = n)) = some (n, q) ∧ n ∈ pts.map (·.1) := by
  induction pts generalizing kvs with
  | nil =>
    have : kvs = [] := by have := h.len; simpa using this
    subst this
    exact .inl ⟨rfl, by simp⟩
  | cons p r ih =>
    cases kvs with
    | nil => have := h.len; simp at this
    | cons kv s =>
      obtain ⟨⟨h1, h2⟩, ht⟩ := h.inv
      obtain ⟨k, v⟩ := kv
      obtain ⟨m, q⟩ := p
      dsimp only at h1 h2
      subst h1
      by_cases e : m = n
      · subst e
        exact .inr ⟨v, q, valV_pos rfl, h2, by simp, by simp⟩
      · have e' : ¬ (Sum.inr m : Key) = Sum.inr n := fun z => e (Sum.inr.inj z)
        rcases ih ht with ⟨a, b⟩ | ⟨v', q', a, b, c, d⟩
        · refine .inl ⟨by rw [valV_neg e']; exact a, ?_⟩
          rw [List.map_cons, List.mem_cons, not_or]
          exact ⟨fun z => e z.symm, b⟩
        · refine .inr ⟨v', q', by rw [valV_neg e']; exact a, b, ?_, by rw [List.map_cons]; exact List.mem_cons_of_mem _ d⟩
          rw [List.find?_cons]
          rw [decide_eq_false e]
          exact c
/-- xs.remove(y), flat items -/
def rRemF : V → List V → Hp → VK → Prop := fun x xs H Q => ∃ (l : Addr) (ys : List V) (y : V) (j : Nat) (z : V), x = V.ref l ∧ xs = [y] ∧ H l = some (.lst ys) ∧ flatV y = true ∧ ys.all flatV = true ∧ ys[j]? = some z ∧ eqV z y = true ∧
  (∀ (m : Nat) (z' : V), m < j → ys[m]? = some z' → eqV z' y = false) ∧ Q .non (upd H l (.lst (ys.eraseIdx j)))
theorem mt_removeF {X : Cx} : MtM X "list.remove" rRemF := by
  intro pins s σ H x xs v us Q I rx rxs h
  obtain ⟨l, ys, y, j, z, rfl, rfl, hH, fy, fys, hz, hzj, hno, q⟩ := h
  cases rx
  obtain ⟨uy, rfl, ry⟩ := rxs.one
  obtain ⟨zl, its, n, rv, hl, e⟩ := I.lstM hH
  obtain ⟨u, hu, ru⟩ := rv.get hz
  obtain ⟨hjl, hje⟩ := List.getElem?_eq_some_iff.mp hu
  have hj : j < its.toArray.size := by simpa using hjl
  have hvl := rv.length
  refine call_meets PySem.F.slot_list_remove ⟨_, e, rfl⟩ PySem.F.entry_list_remove (PySem.F.args_list_remove_2 _ _)
    (SeqAt.list_removeAt l its.toArray n _ _ uy (eqU y) j hj ?_ ?_ (by rw [List.size_toArray]; omega)) ⟨e, fun u' hu' => mem_eqAt ry fy rv fys u' (by simpa using hu'), ?_⟩
  · have e1 : its.toArray[j] = u := by simpa using hje
    rw [e1, eqU_of ru (flat_at fys hz)]
    exact hzj
  · intro m hm hmj
    have hml : m < its.length := by simpa using hm
    have hmy : m < ys.length := by omega
    have hy' : ys[m]? = some ys[m] := List.getElem?_eq_getElem hmy
    obtain ⟨u2, hu2, ru2⟩ := rv.get hy'
    obtain ⟨_, hme⟩ := List.getElem?_eq_some_iff.mp hu2
    have e1 : its.toArray[m] = u2 := by simpa using hme
    rw [e1, eqU_of ru2 (flat_at fys hy')]
    exact hno m _ hmj hy'
  · refine ⟨.non, _, I.lset (its' := its.eraseIdx j) (t' := s.toks) hH e ?_ (rv.eraseIdx j) ?_, rfl, q⟩
    · show its.toArray.eraseIdxIfInBounds j = (its.eraseIdx j).toArray
      rw [List.eraseIdxIfInBounds_toArray]
    · have z2 := len_erase ys j
      omega

/-! ### calls that may raise -/
section
variable {X : Cx} {k : Nat} {f C : Addr} {ps : List Str} {sp : Sp} {dvs : List V} {E : XK} {x m : Str} {p pos apos : Pos} {e o : Expr} {es : List Expr} {ta : TE} {t : TA}
theorem pe_callDX (D : Def X.prog X.w X.K X.mg X.base (L2.CX X.prog X.w) x f k ps sp) (hr : Room k X.A) (hx : Passes (L2.CX X.prog X.w) X E) (ha : PA X (e :: es) t) (hg : Gl X x := by rfl) (hdb : (x == ("__debug__" : Str)) = false := by decide) (he : starEach (e :: es) X.env = (false, eval e X.env) :: starEach es X.env := by rfl)
    (hpl : (backTo pos (starEach es X.env)).any (·.1) = false := by rfl) : PE X (.Call (.Name x p) (e :: es) [] pos) (tCall sp [] E t) := by
  obtain ⟨fd, F, b⟩ := D.ok
  exact pe_call F hr hg D.g D.kp b .nil hx ha hdb he hpl
theorem pe_methDX {pl : Sem Bool} (D : MDef X.prog X.w X.K X.mg X.base (L2.CX X.prog X.w) C m f k ps sp) (hr : Room k X.A) (hx : Passes (L2.CX X.prog X.w) X E) (he : PE X o ta) (ha : PA X (e :: es) t)
    (hst : starEach (e :: es) X.env = (false, eval e X.env) :: starEach es X.env := by rfl) (hpl : (backTo pos (starEach es X.env)).any (·.1) = false := by rfl)
    (ht : eval (.Call (.Attribute o m apos) (e :: es) [] pos) X.env = (do
      let ov ← eval o X.env
      standAt apos.atName
      let (f, first) ← holding [ov] (getMethod ov m pl)
      callWith pos f first (backTo pos (starEach (e :: es) X.env)) (backToKw pos (keywordEach [] X.env))) := by rfl) :
    PE X (.Call (.Attribute o m apos) (e :: es) [] pos) (tMeth C m sp [] E ta t) := by
  obtain ⟨fd, F, b⟩ := D.ok
  exact pe_meth he D.c D.m F hr b .nil hx ha hst hpl ht
theorem pe_methDX0 {pl : Sem Bool} (D : MDef X.prog X.w X.K X.mg X.base (L2.CX X.prog X.w) C m f k ps sp) (hr : Room k X.A) (hx : Passes (L2.CX X.prog X.w) X E) (he : PE X o ta)
    (ht : eval (.Call (.Attribute o m apos) [] [] pos) X.env = (do
      let ov ← eval o X.env
      standAt apos.atName
      let (f, first) ← holding [ov] (getMethod ov m pl)
      callWith pos f first (backTo pos (starEach [] X.env)) (backToKw pos (keywordEach [] X.env))) := by rfl) :
    PE X (.Call (.Attribute o m apos) [] [] pos) (tMeth C m sp [] E ta tNil) := by
  obtain ⟨fd, F, b⟩ := D.ok
  exact pe_meth0 he D.c D.m F hr b .nil hx ht
end
/-- a def that may raise -/
theorem okX {P : Program} {w : World} {K : PySem.W.Frag} {mg : Str → Option Value} {base : Heap} {x qual : Str} {params : Arguments} {body : List Stmt} {scope : Scope} {dvs : List V} {kws : List (Str × V)} {f : Addr} {fd : FuncData}
    {N ps : List Str} {k : Nat} {sp : Sp} (F : FunD K x qual params body scope dvs kws f fd) (S : FnScope N ps scope) (len : ∀ vs H Q E, sp vs H Q E → vs.length = ps.length)
    (hbody : ∀ (cdv : Value) (A : Around) (outer : List Env) (s : Shared) (H : Hp) (vs : List V) (Q : VK) (E : XK), Room k (A.deeper (envOfC qual scope s.heap.objs.size f cdv)) → sp vs H Q E →
      ∃ t, PSs (cxOf (L2.CX P w) P w K mg base N qual scope f cdv A outer s H E) body t ∧ t { nx := fun _ H' => Q .non H', rt := Q } (start N vs) H) : FnOk P w K mg base (L2.CX P w) (k + 1) f fd ps sp := F.ok S len hbody
end Pn
set_option maxHeartbeats 4000000
/-! Reading, terms_fit, Book: place_of, require_point, add_point -/
namespace Pn
open PySem PySem.Spec PyProof.Rows L2
def ltS (a b : Str) : Bool := decide (a.cps.toList < b.cps.toList)
abbrev eS : Str := ""
section
variable {w : World} {K : PySem.W.Frag} {mg : Str → Option Value} {base : Heap}
def spRdI (K : PySem.W.Frag) : Sp := fun vs H Q _ => ∃ (x dx : Addr) (n t v u : V), vs = [.ref x, n, t, v, u] ∧ H x = some (.ins (CRd K) dx []) ∧ Q .non (upd H x (.ins (CRd K) dx (fRd n t v u)))
abbrev nRd : List Str := ["self", "name", "terms", "value", "weight"]
theorem sc_Reading_init : FnScope nRd nRd (defScope s_Reading_init) := ⟨rfl, rfl, rfl, by decide +kernel, rfl, by decide +kernel, by decide +kernel⟩
theorem k_Reading (T : Txt K mg) : KDef PP w K mg base CX0 "Reading" (CRd K) (a_Reading_init K) 1 nRd [] (spRdI K) := by
  obtain ⟨fd, F⟩ := T.d_Reading_init
  refine ⟨⟨fd, [], ok0 F sc_Reading_init (fun vs H Q E h => ?_) (fun cdv A outer s H vs Q E hr h => ?_), .nil, F.bindsN fun _ _ _ _ _ _ us hl => match us, hl with | [_, _, _, _, _], _ => rfl⟩, T.g_Reading, T.k_Reading⟩
  · obtain ⟨x, dx, n, t, v, u, rfl, _⟩ := h
    rfl
  obtain ⟨x, dx, n, t, v, u, rfl, hx, k⟩ := h
  refine ⟨_, pss_cons (ps_fld (pv 0) (pv 1) rfl) (pss_cons (ps_fld (pv 0) (pv 2) rfl) (pss_cons (ps_fld (pv 0) (pv 3) rfl) (pss_one (ps_fld (pv 0) (pv 4) rfl)))), ?_⟩
  refine ⟨_, rfl, _, rfl, x, CRd K, dx, [], rfl, hx, T.c_Reading, T.n_Reading_name, (by show 0 < 1000; decide), ?_⟩
  rw [eRd_name]
  refine ⟨_, rfl, _, rfl, x, CRd K, dx, _, rfl, upd_same, T.c_Reading, T.n_Reading_terms, (by show 1 < 1000; decide), ?_⟩
  rw [upd_upd, eRd_terms]
  refine ⟨_, rfl, _, rfl, x, CRd K, dx, _, rfl, upd_same, T.c_Reading, T.n_Reading_value, (by show 2 < 1000; decide), ?_⟩
  rw [upd_upd, eRd_value]
  refine ⟨_, rfl, _, rfl, x, CRd K, dx, _, rfl, upd_same, T.c_Reading, T.n_Reading_weight, (by show 3 < 1000; decide), ?_⟩
  rw [upd_upd, eRd_weight]
  exact k
/-- Reading(..): behind intro x dx nx nd ne -/
theorem mkRd' {H : Hp} {x dx : Addr} {n : Str} {ts : List (Str × Int)} {q w : Rat} {t v u : V} {Qe : VK} (nx : H x = none) (nd : H dx = none) (ne : dx ≠ x) (ht : IsTerms H t ts) (hv : IsR K H v q) (hu : IsR K H u w) (k : ∀ H', Ex H H' → IsRd K H' (.ref x) ⟨n, ts, q, w⟩ → Qe .non H') :
    spRdI K [.ref x, .str n, t, v, u] (upd (upd H dx (.own x)) x (.ins (CRd K) dx [])) Qe E0 := by
  refine ⟨x, dx, .str n, t, v, u, rfl, upd_same, ?_⟩
  rw [upd_upd]
  have e : Ex H (upd (upd H dx (.own x)) x (.ins (CRd K) dx (fRd (.str n) t v u))) := ((Ex.refl H).new nd).new (by rw [upd_ne (Ne.symm ne)]; exact nx)
  exact k _ e ⟨x, dx, t, v, u, rfl, upd_same, stayTms _ _ _ _ (Ex.kp (K := K) e) ht, hv.ex e, hu.ex e⟩

/-! ### terms_fit -/
def spTf : Sp := fun vs H Q _ => ∃ v ts, vs = [v] ∧ IsTerms H v ts ∧ ∀ H', Ex H H' → Q (.bl (tfGo ltS eS ts && decide (ts ≠ []))) H'
theorem sc_terms_fit : FnScope ["terms", "before", "name", "coefficient"] ["terms"] (defScope s_terms_fit) := ⟨rfl, rfl, rfl, by decide +kernel, rfl, by decide +kernel, by decide +kernel⟩
/-- the name before the i-th -/
def befo (ts : List (Str × Int)) (i : Nat) : Str := match i with
  | 0 => eS
  | j + 1 => (ts.getD j (eS, 0)).1
theorem tfGo_drop {ts : List (Str × Int)} : ∀ {i : Nat}, (∀ j t, j < i → ts[j]? = some t → ¬ (t.2 = 0 ∨ ¬ (-9 ≤ t.2 ∧ t.2 ≤ 9) ∨ ltS (befo ts j) t.1 = false)) → i ≤ ts.length → tfGo ltS eS ts = tfGo ltS (befo ts i) (ts.drop i)
  | 0, _, _ => rfl
  | i + 1, h, hi => by
    rw [tfGo_drop (i := i) (fun j t hj => h j t (by omega)) (by omega)]
    have hil : i < ts.length := by omega
    have hg : ts[i]? = some ts[i] := List.getElem?_eq_getElem hil
    have hh := h i ts[i] (by omega) hg
    have hb : befo ts (i + 1) = ts[i].1 := by
      show (ts.getD i (eS, 0)).1 = _
      rw [List.getD_eq_getElem?_getD, hg]
      rfl
    rw [hb, List.drop_eq_getElem_cons hil]
    generalize ts[i] = t at hh
    obtain ⟨n, c⟩ := t
    exact if_neg hh
theorem tfGo_bad {ts : List (Str × Int)} {i : Nat} {t : Str × Int} (ht : ts[i]? = some t) (hb : t.2 = 0 ∨ ¬ (-9 ≤ t.2 ∧ t.2 ≤ 9) ∨ ltS (befo ts i) t.1 = false) : tfGo ltS (befo ts i) (ts.drop i) = false := by
  obtain ⟨hi, rfl⟩ := List.getElem?_eq_some_iff.mp ht
  rw [List.drop_eq_getElem_cons hi]
  generalize ts[i] = t at hb
  obtain ⟨n, c⟩ := t
  exact if_pos hb
theorem d_terms_fit_ok (T : Txt K mg) : Def PP w K mg base CX0 "terms_fit" (a_terms_fit K) 1 ["terms"] spTf := by
  obtain ⟨fd, F⟩ := T.d_terms_fit
  refine ⟨⟨fd, ok0 F sc_terms_fit (fun vs H Q E h => ?_) (fun cdv A outer s H vs Q E hr h => ?_), F.bindsN fun _ _ _ _ _ _ us hl => match us, hl with | [_], _ => rfl⟩, T.g_terms_fit, F.kp⟩
  · obtain ⟨v, ts, rfl, _⟩ := h
    rfl
  obtain ⟨_, ts, rfl, ⟨a, va, rfl, ha, la⟩, k⟩ := h
  have nd := sc_terms_fit.nd
  refine ⟨_, pss_cons (ps_set (i := 1) nd rfl (Or.inl rfl) pe_str)
    (pss_cons (ps_for PassesOwn.never rfl (pi_tup (pv 0)) (pg_tup rfl (pgs_cons (pg_name (i := 2) nd rfl (Or.inl rfl)) (pgs_cons (pg_name (i := 3) nd rfl (Or.inl rfl)) pgs_nil)))
      (pss_cons (ps_if (PW.pt (pw_or (pt_cmpR op_eq (pv 3) pe_int (nomark _)) (pw_or (pt_not (pt_chain op_le op_le (pe_un un_neg (pe_gi T.i_MOST_COEFFICIENT)) (pv 3) (pe_gi T.i_MOST_COEFFICIENT))) (pw_or1 (pt_cmpR op_le_str (pv 2) (pv 1) (nomark _))))))
        (pss_one (ps_ret pe_bl)) pss_nil)
      (pss_one (ps_set (i := 1) nd rfl (Or.inl rfl) (pv 2)))))
    (pss_one (ps_ret (pe_cmpR op_gt (pe_callB call_len_seq (by rfl) T.f_len boot_len (pa_cons (pv 0) pa_nil)) pe_int (nomark _))))), ?_⟩
  refine ⟨_, rfl, a, rfl, ⟨_, SqT.of' ha⟩, for_it (walk_tup (xs := va)) (fun i σ H' => Ex H H' ∧ (∃ o2 o3, σ = [some (.ref a), some (.str (befo ts i)), o2, o3]) ∧ ∀ j t, j < i → ts[j]? = some t → ¬ (t.2 = 0 ∨ ¬ (-9 ≤ t.2 ∧ t.2 ≤ 9) ∨ ltS (befo ts j) t.1 = false))
    ⟨Ex.refl H, ⟨_, _, rfl⟩, fun j t h => by omega⟩ (fun i σ H' _ p => SqT.of' (p.1 _ _ ha)) ?_ ?_⟩
  · rintro i z σ H1 H2 hi ⟨e, ⟨o2, o3, rfl⟩, hz⟩ ⟨rfl, hx⟩
    obtain ⟨t, ht, p, rfl, hp⟩ := la.get hx
    have hil : i < ts.length := (List.getElem?_eq_some_iff.mp ht).1
    have bad : (t.2 = 0 ∨ ¬ (-9 ≤ t.2 ∧ t.2 ≤ 9) ∨ ltS (befo ts i) t.1 = false) → Q (.bl false) H2 := fun hb => by
      have := k _ e
      rw [tfGo_drop hz (by omega), tfGo_bad ht hb] at this
      exact this
    have good : ¬ (t.2 = 0 ∨ ¬ (-9 ≤ t.2 ∧ t.2 ≤ 9) ∨ ltS (befo ts i) t.1 = false) → ∀ j t', j < i + 1 → ts[j]? = some t' → ¬ (t'.2 = 0 ∨ ¬ (-9 ≤ t'.2 ∧ t'.2 ≤ 9) ∨ ltS (befo ts j) t'.1 = false) := fun hg j t' hj hj' => by
      by_cases h1 : j < i
      · exact hz j t' h1 hj'
      · have : j = i := by omega
        subst this
        rw [ht] at hj'
        cases hj'
        exact hg
    refine ⟨p, _, rfl, SqT.of' (e _ _ hp), rfl, _, _, rfl, _, _, rfl, rfl, ?_⟩
    refine ⟨_, rfl, rfl, _, rfl, ?_⟩
    by_cases h0 : t.2 = 0
    · rw [decide_eq_true (by rw [h0])]
      exact iteT (iteT (bad (.inl h0)))
    rw [decide_eq_false (fun z => h0 (by injection z))]
    refine iteF ?_
    by_cases h1 : -9 ≤ t.2
    · by_cases h2 : t.2 ≤ 9
      · refine ⟨_, rfl, _, rfl, _, _, rfl, rfl, _, rfl, ?_⟩
        rw [decide_eq_true h1]
        refine iteT ⟨_, _, rfl, rfl, _, rfl, ?_⟩
        rw [decide_eq_true h2]
        refine iteF ⟨_, rfl, _, rfl, _, _, rfl, rfl, _, rfl, ?_⟩
        refine ite2 (fun h3 => bad (.inr (.inr ?_))) (fun h3 => ?_)
        · have h3' : ¬ ((befo ts i).cps.toList < t.1.cps.toList) := by simpa using h3
          exact decide_eq_false h3'
        · have h3' : (befo ts i).cps.toList < t.1.cps.toList := by simpa using h3
          refine ⟨_, rfl, e, ⟨some (.str t.1), some (.int t.2), ?_⟩, good ?_⟩
          · have : befo ts (i + 1) = t.1 := by
              show (ts.getD i (eS, 0)).1 = t.1
              rw [List.getD_eq_getElem?_getD, ht]
              rfl
            rw [this]
            rfl
          · rintro (z | z | z)
            · exact h0 z
            · exact z ⟨h1, h2⟩
            · unfold ltS at z
              rw [decide_eq_true h3'] at z
              cases z
      · refine ⟨_, rfl, _, rfl, _, _, rfl, rfl, _, rfl, ?_⟩
        rw [decide_eq_true h1]
        refine iteT ⟨_, _, rfl, rfl, _, rfl, ?_⟩
        rw [decide_eq_false h2]
        exact iteT (iteT (bad (.inr (.inl fun z => h2 z.2))))
    · refine ⟨_, rfl, _, rfl, _, _, rfl, rfl, _, rfl, ?_⟩
      rw [decide_eq_false h1]
      refine iteF ⟨_, rfl, ?_⟩
      exact iteT (iteT (bad (.inr (.inl fun z => h1 z.1))))
  · rintro σ H1 ⟨e, ⟨o2, o3, rfl⟩, hz⟩
    rw [la.len] at hz
    refine ⟨_, rfl, a, va, rfl, .inr (SqT.of' (e _ _ ha)), _, _, rfl, rfl, ?_⟩
    have := k _ e
    rw [tfGo_drop hz (Nat.le_refl _), List.drop_length] at this
    have e2 : decide ((va.length : Int) > 0) = decide (ts ≠ []) := by
      rw [la.len]
      cases ts with
      | nil => rfl
      | cons t r => simp
    show Q (.bl (decide ((va.length : Int) > 0))) H1
    rw [e2]
    simpa [tfGo] using this
end
end Pn
set_option maxHeartbeats 4000000
/-! Book: making, place_of, require_point, add_point, the changes -/
namespace Pn
open PySem PySem.Spec PyProof.Rows L2
section
variable {w : World} {K : PySem.W.Frag} {mg : Str → Option Value} {base : Heap}
/-! ### Book() -/
def spBkI (K : PySem.W.Frag) : Sp := fun vs H Q _ => ∃ (x dx : Addr), vs = [.ref x] ∧ H x = some (.ins (CBk K) dx []) ∧
  ∀ B H', B.p = x → (∀ a ∈ B.W, H a = none) → (∀ a o, H a = some o → a ≠ x → H' a = some o) → IsBk K H' B Bk.empty → Q .non H'
theorem sc_Book_init : FnScope ["self"] ["self"] (defScope s_Book_init) := ⟨rfl, rfl, rfl, by decide +kernel, rfl, by decide +kernel, by decide +kernel⟩
theorem k_Book (T : Txt K mg) : KDef PP w K mg base CX0 "Book" (CBk K) (a_Book_init K) 1 ["self"] [] (spBkI K) := by
  obtain ⟨fd, F⟩ := T.d_Book_init
  refine ⟨⟨fd, [], ok0 F sc_Book_init (fun vs H Q E h => ?_) (fun cdv A outer s H vs Q E hr h => ?_), .nil, F.bindsN fun _ _ _ _ _ _ us hl => match us, hl with | [_], _ => rfl⟩, T.g_Book, T.k_Book⟩
  · obtain ⟨x, dx, rfl, _⟩ := h
    rfl
  obtain ⟨x, dx, rfl, hx, k⟩ := h
  refine ⟨_, pss_cons (ps_fld (pv 0) (pe_lst pa_nil) rfl) (pss_cons (ps_fld (pv 0) pe_dnewK rfl) (pss_one (ps_fld (pv 0) (pe_lst pa_nil) rfl))), ?_⟩
  refine ⟨by show 0 ≤ sizeLine; decide, fun pl hpl => ?_⟩
  have n1 : x ≠ pl := ne_of_none hx hpl
  refine ⟨_, rfl, x, CBk K, dx, [], rfl, by rw [upd_ne n1]; exact hx, T.c_Book, T.n_Book_points, (by show 0 < 1000; decide), ?_⟩
  rw [eBk_points]
  refine fun pd hpd => ?_
  have m1 : pd ≠ x := fun z => by rw [z, upd_same] at hpd; cases hpd
  rw [upd_ne m1] at hpd
  have m2 : pd ≠ pl := fun z => by rw [z, upd_same] at hpd; cases hpd
  refine ⟨_, rfl, x, CBk K, dx, _, rfl, by rw [upd_ne (Ne.symm m1), upd_same], T.c_Book, T.n_Book_approximations, (by show 1 < 1000; decide), ?_⟩
  rw [eBk_approximations]
  refine ⟨by show 0 ≤ sizeLine; decide, fun pr hpr => ?_⟩
  have q1 : pr ≠ x := fun z => by rw [z, upd_same] at hpr; cases hpr
  rw [upd_ne q1] at hpr
  have q2 : pr ≠ pd := fun z => by rw [z, upd_same] at hpr; cases hpr
  rw [upd_ne q2, upd_ne q1] at hpr
  have q3 : pr ≠ pl := fun z => by rw [z, upd_same] at hpr; cases hpr
  refine ⟨_, rfl, x, CBk K, dx, _, rfl, by rw [upd_ne (Ne.symm q1), upd_same], T.c_Book, T.n_Book_readings, (by show 2 < 1000; decide), ?_⟩
  rw [eBk_readings]
  rw [upd_ne q3] at hpr
  rw [upd_ne m2] at hpd
  refine k ⟨x, pl, pd, pr⟩ _ rfl ?_ ?_ ?_
  · intro a ha
    have : a = pl ∨ a = pd ∨ a = pr := by simpa [BkA.W] using ha
    rcases this with z | z | z
    · rw [z]; exact hpl
    · rw [z]; exact hpd
    · rw [z]; exact hpr
  · intro a o ha hne
    have a1 : a ≠ pl := ne_of_none ha hpl
    have a2 : a ≠ pd := ne_of_none ha hpd
    have a3 : a ≠ pr := ne_of_none ha hpr
    rw [upd_ne hne, upd_ne a3, upd_ne hne, upd_ne a2, upd_ne hne, upd_ne a1]
    exact ha
  · refine ⟨⟨dx, upd_same⟩, ?_, ⟨[], ?_, Al.nil⟩, ⟨[], ?_, Al.nil⟩, Ne.symm q3⟩
    · show upd _ _ _ pl = _
      rw [upd_ne (Ne.symm n1), upd_ne (Ne.symm q3), upd_ne (Ne.symm n1), upd_ne (Ne.symm m2), upd_ne (Ne.symm n1), upd_same]
      rfl
    · show upd _ _ _ pd = _
      rw [upd_ne m1, upd_ne (Ne.symm q2), upd_ne m1, upd_same]
    · show upd _ _ _ pr = _
      rw [upd_ne q1, upd_same]
/-- Book(): behind intro x dx nx nd ne -/
theorem mkBk' {H : Hp} {x dx : Addr} {Qe : VK} (nx : H x = none) (nd : H dx = none) (ne : dx ≠ x) (k : ∀ B H', B.p = x → (∀ a ∈ B.W, H a = none) → Ex H H' → IsBk K H' B Bk.empty → Qe .non H') :
    spBkI K [.ref x] (upd (upd H dx (.own x)) x (.ins (CBk K) dx [])) Qe E0 := by
  refine ⟨x, dx, rfl, upd_same, fun B H' hB hW hk hb => k B H' hB (fun a ha => ?_) (fun a o hao => ?_) hb⟩
  · have h1 := hW a ha
    by_cases hx : a = x
    · rw [hx]; exact nx
    · rw [upd_ne hx] at h1
      by_cases hd : a = dx
      · rw [hd]; exact nd
      · rw [upd_ne hd] at h1
        exact h1
  · have h1 : a ≠ x := ne_of_none hao nx
    have h2 : a ≠ dx := ne_of_none hao nd
    exact hk a o (by rw [upd_ne h1, upd_ne h2]; exact hao) h1

/-! ### place_of -/
theorem pl_some {S : Type} [DecidableEq S] {rds : List (Rdg S)} {n : S} {i : Nat} {r : Rdg S} (hr : rds[i]? = some r) (hn : r.name = n) (hz : ∀ j r', j < i → rds[j]? = some r' → r'.name ≠ n) : placeOf rds n = some i := by
  unfold placeOf
  obtain ⟨hi, rfl⟩ := List.getElem?_eq_some_iff.mp hr
  rw [List.findIdx?_eq_some_iff_getElem]
  exact ⟨hi, by simpa using hn, fun j hj => by simpa using hz j _ hj (List.getElem?_eq_getElem (by omega))⟩
theorem pl_none {S : Type} [DecidableEq S] {rds : List (Rdg S)} {n : S} (hz : ∀ j r', j < rds.length → rds[j]? = some r' → r'.name ≠ n) : placeOf rds n = none := by
  unfold placeOf
  rw [List.findIdx?_eq_none_iff]
  intro r hr
  obtain ⟨j, hj, rfl⟩ := List.getElem_of_mem hr
  simpa using hz j _ hj (List.getElem?_eq_getElem hj)
theorem pl_at {S : Type} [DecidableEq S] {rds : List (Rdg S)} {n : S} {i : Nat} (h : placeOf rds n = some i) : ∃ r, rds[i]? = some r ∧ r.name = n := by
  unfold placeOf at h
  rw [List.findIdx?_eq_some_iff_getElem] at h
  obtain ⟨hi, h1, _⟩ := h
  exact ⟨rds[i], List.getElem?_eq_getElem hi, by simpa using h1⟩
def spPlace (K : PySem.W.Frag) : Sp := fun vs H Q E => ∃ B b n, vs = [.ref B.p, .str n] ∧ IsBk K H B b ∧ b.rds.length ≤ 1000 ∧ (∀ i H', placeOf b.rds n = some i → Ex H H' → Q (.int (i : Nat)) H') ∧ (placeOf b.rds n = none → ∀ c d H', Surv K c → Ex H H' → E c d H')
theorem sc_Book_place_of : FnScope ["self", "name", "place", "reading"] ["self", "name"] (defScope s_Book_place_of) := ⟨rfl, rfl, rfl, by decide +kernel, rfl, by decide +kernel, by decide +kernel⟩
theorem m_Book_place_of (T : Txt K mg) : MDef PP w K mg base (L2.CX PP w) (CBk K) "place_of" (a_Book_place_of K) 3 ["self", "name"] (spPlace K) := by
  obtain ⟨fd, F⟩ := T.d_Book_place_of
  refine ⟨⟨fd, okX F sc_Book_place_of (fun vs H Q E h => ?_) (fun cdv A outer s H vs Q E hr h => ?_), F.bindsN fun _ _ _ _ _ _ us hl => match us, hl with | [_, _], _ => rfl⟩, T.m_Book_place_of, T.c_Book⟩
  · obtain ⟨B, b, n, rfl, _⟩ := h
    rfl
  obtain ⟨B, b, n, rfl, hb, hz, kq, ke⟩ := h
  have nd := sc_Book_place_of.nd
  refine ⟨_, pss_cons (ps_for (passes_of rfl) rfl (pi_enum (by rfl) T.f_enumerate (pa_cons (pe_fld (pv 0) rfl) pa_nil)) (pg_tup rfl (pgs_cons (pg_name (i := 2) nd rfl (Or.inl rfl)) (pgs_cons (pg_name (i := 3) nd rfl (Or.inl rfl)) pgs_nil)))
      (pss_one (ps_if (pt_cmpR op_eq (pe_fld (pv 3) rfl) (pv 1) (nomark _)) (pss_one (ps_ret (pv 2))) pss_nil)))
    (pss_one (ps_raiseX rfl (takes_of rfl rfl rfl rfl) hr T.xUR (i_UR T) T.g_UnknownReading (pa_cons (pv 1) pa_nil))), ?_⟩
  obtain ⟨dB, hB⟩ := hb.ins
  obtain ⟨vr, hvr, al⟩ := hb.r
  refine ⟨_, rfl, B.p, CBk K, dB, _, _, rfl, hB, T.c_Book, T.n_Book_readings, lBk_readings, B.pr, vr, rfl, SqL.of' hvr, for_it (walk_enum (xs := vr)) (fun i σ H' => Ex H H' ∧ (∃ o2 o3, σ = [some (.ref B.p), some (.str n), o2, o3]) ∧ ∀ j r, j < i → b.rds[j]? = some r → r.name ≠ n)
    ⟨Ex.refl H, ⟨_, _, rfl⟩, fun j r h => by omega⟩ (fun i σ H' _ p => SqL.of' (p.1 _ _ hvr)) ?_ ?_⟩
  · rintro i z σ H1 H2 hi ⟨e, ⟨o2, o3, rfl⟩, hz⟩ ⟨Tp, vx, vy, rfl, hT, rfl, hx, hy⟩
    have hvx : vx = .int (i : Nat) := (Option.some.inj hx).symm
    subst hvx
    obtain ⟨r, hr0, p, dx, tv, vv, wv, rfl, hp, h3, h4, h5⟩ := al.get hy
    have e1 : Ex H (upd H1 Tp (.tup [.int (i : Nat), .ref p])) := e.new hT
    refine ⟨Tp, _, rfl, SqT.of' upd_same, rfl, _, _, rfl, _, _, rfl, rfl, ?_⟩
    refine ⟨_, rfl, p, CRd K, dx, _, _, rfl, e1 _ _ hp, T.c_Reading, T.n_Reading_name, lRd_name, _, rfl, rfl, _, rfl, ite2 (fun h => ?_) (fun h => ?_)⟩
    · have hn : r.name = n := by
        have : V.str r.name = V.str n := by simpa using h
        injection this
      exact ⟨_, rfl, kq i _ (pl_some hr0 hn hz) e1⟩
    · have hn : r.name ≠ n := fun z => h (by rw [z]; simp)
      refine ⟨e1, ⟨_, _, rfl⟩, fun j r' hj hj' => ?_⟩
      by_cases h1 : j < i
      · exact hz j r' h1 hj'
      · have : j = i := by omega
        subst this
        rw [hr0] at hj'
        cases hj'
        exact hn
  · rintro σ H1 ⟨e, ⟨o2, o3, rfl⟩, hz⟩
    rw [al.len] at hz
    have hp := pl_none hz
    exact ⟨_, rfl, mkX fun d H' e' => ke hp _ _ _ (sv_UR T) (e.trans e')⟩

/-! ### require_point -/
def spReq (K : PySem.W.Frag) : Sp := fun vs H Q E => ∃ B b n, vs = [.ref B.p, .str n] ∧ IsBk K H B b ∧ (n ∈ b.names → ∀ H', Ex H H' → Q .non H') ∧ (n ∉ b.names → ∀ c d H', Surv K c → Ex H H' → E c d H')
theorem sc_Book_require_point : FnScope ["self", "name"] ["self", "name"] (defScope s_Book_require_point) := ⟨rfl, rfl, rfl, by decide +kernel, rfl, by decide +kernel, by decide +kernel⟩
theorem m_Book_require_point (T : Txt K mg) : MDef PP w K mg base (L2.CX PP w) (CBk K) "require_point" (a_Book_require_point K) 3 ["self", "name"] (spReq K) := by
  obtain ⟨fd, F⟩ := T.d_Book_require_point
  refine ⟨⟨fd, okX F sc_Book_require_point (fun vs H Q E h => ?_) (fun cdv A outer s H vs Q E hr h => ?_), F.bindsN fun _ _ _ _ _ _ us hl => match us, hl with | [_, _], _ => rfl⟩, T.m_Book_require_point, T.c_Book⟩
  · obtain ⟨B, b, n, rfl, _⟩ := h
    rfl
  obtain ⟨B, b, n, rfl, hb, kq, ke⟩ := h
  have hu := hu_of hr
  refine ⟨_, pss_one (ps_if (pt_cmp (pc_dnotin hu (pv 1) (pe_fld (pv 0) rfl))) (pss_one (ps_raiseX rfl (takes_of rfl rfl rfl rfl) hr T.xUP (i_UP T) T.g_UnknownPoint (pa_cons (pv 1) pa_nil))) pss_nil), ?_⟩
  obtain ⟨dB, hB⟩ := hb.ins
  obtain ⟨kvs, hkv, al⟩ := hb.d
  refine ⟨_, rfl, _, rfl, B.p, CBk K, dB, _, _, rfl, hB, T.c_Book, T.n_Book_approximations, lBk_approximations, B.pd, _, rfl, DGet.k (k := Sum.inr n) hkv, _, rfl, ?_⟩
  rcases kv_get al n with ⟨h1, h2⟩ | ⟨v, q, h1, h2, h3, h4⟩
  · rw [h1]
    exact iteT ⟨_, rfl, mkX fun d H' e' => ke h2 _ _ _ (sv_UP T) e'⟩
  · rw [h1]
    exact iteF (kq h4 _ (Ex.refl H))

/-! ### add_point -/
def spAddP (K : PySem.W.Frag) : Sp := fun vs H Q E => ∃ B b n vq q, vs = [.ref B.p, .str n, vq] ∧ IsBk K H B b ∧ IsR K H vq q ∧ b.pts.length ≤ 1000 ∧
  (∀ b' H', addPointB b n q = some b' → Fr K B.W H H' → IsBk K H' B b' → Q .non H') ∧ (addPointB b n q = none → ∀ c d H', Surv K c → Ex H H' → E c d H')
theorem sc_Book_add_point : FnScope ["self", "name", "approximation"] ["self", "name", "approximation"] (defScope s_Book_add_point) := ⟨rfl, rfl, rfl, by decide +kernel, rfl, by decide +kernel, by decide +kernel⟩
theorem nm_snoc {S : Type} {b : Bk S} {n : S} {q : Rat} : (b.pts ++ [(n, q)]).map (·.1) = b.names ++ [n] := by simp [Bk.names]
theorem m_Book_add_point (T : Txt K mg) : MDef PP w K mg base (L2.CX PP w) (CBk K) "add_point" (a_Book_add_point K) 3 ["self", "name", "approximation"] (spAddP K) := by
  obtain ⟨fd, F⟩ := T.d_Book_add_point
  refine ⟨⟨fd, okX F sc_Book_add_point (fun vs H Q E h => ?_) (fun cdv A outer s H vs Q E hr h => ?_), F.bindsN fun _ _ _ _ _ _ us hl => match us, hl with | [_, _, _], _ => rfl⟩, T.m_Book_add_point, T.c_Book⟩
  · obtain ⟨B, b, n, vq, q, rfl, _⟩ := h
    rfl
  obtain ⟨B, b, n, vq, q, rfl, hb, hq, hz, kq, ke⟩ := h
  have hu := hu_of hr
  refine ⟨_, pss_cons (ps_if (pt_cmp (pc_din hu (pv 1) (pe_fld (pv 0) rfl))) (pss_one (ps_raiseX rfl (takes_of rfl rfl rfl rfl) hr T.xDN (i_DN T) T.g_DuplicateName (pa_cons (pv 1) pa_nil))) pss_nil)
    (pss_cons (ps_if (pt_cmpR op_eq (pe_callB call_len_seq (by rfl) T.f_len boot_len (pa_cons (pe_fld (pv 0) rfl) pa_nil)) (pe_gi T.i_MOST_POINTS_books) (nomark _)) (pss_one (ps_raiseX rfl (takes_of rfl rfl rfl rfl) hr T.xLR (i_LR T) T.g_LimitReached (pa_cons pe_str pa_nil))) pss_nil)
    (pss_cons (ps_expr (pe_bm PySem.F.plainAttrs_list PySem.F.slot_list_append PySem.F.type_list_append mt_append (pe_fld (pv 0) rfl) (pa_cons (pv 1) pa_nil)))
    (pss_one (ps_dput hu (pe_fld (pv 0) rfl) (pv 1) (pv 2) rfl)))), ?_⟩
  obtain ⟨dB, hB⟩ := hb.ins
  obtain ⟨kvs, hkv, al⟩ := hb.d
  obtain ⟨vr, hvr, alr⟩ := hb.r
  refine ⟨_, rfl, _, rfl, B.p, CBk K, dB, _, _, rfl, hB, T.c_Book, T.n_Book_approximations, lBk_approximations, B.pd, _, rfl, DGet.k (k := Sum.inr n) hkv, _, rfl, ?_⟩
  rcases kv_get al n with ⟨h1, h2⟩ | ⟨v, q', h1, h2, h3, h4⟩
  · rw [h1]
    refine iteF ⟨_, rfl, B.p, CBk K, dB, _, _, rfl, hB, T.c_Book, T.n_Book_points, lBk_points, B.pl, _, rfl, .inl (SqL.of' hb.l), rfl, _, rfl, ite2 (fun h => ?_) (fun h => ?_)⟩
    · have h12 : b.pts.length = 12 := by
        have : V.int ((sVs b.names).length : Nat) = V.int 12 := by simpa using h
        injection this with this
        rw [sVs_len] at this
        have h5 : b.names.length = b.pts.length := by simp [Bk.names]
        omega
      exact mkX fun d H' e' => ke (if_pos (.inr h12)) _ _ _ (sv_LR T) e'
    · have h12 : b.pts.length ≠ 12 := fun z => h (by
        rw [sVs_len]
        have h5 : b.names.length = b.pts.length := by simp [Bk.names]
        rw [h5, z]
        simp)
      have hn : b.names.length = b.pts.length := by simp [Bk.names]
      refine ⟨_, rfl, B.p, CBk K, dB, _, _, rfl, hB, T.c_Book, T.n_Book_points, lBk_points, .inl ⟨rfl, _, SqL.of' hb.l⟩, _, rfl, B.pl, _, _, rfl, rfl, hb.l, by rw [sVs_len, sizeLine_eq]; omega, ?_⟩
      have f1 : Fr K B.W H (upd H B.pl (.lst (sVs b.names ++ [.str n]))) := Fr.refl.upd (.inl (by simp [BkA.W])) hb.l (fun z => z)
      have nd1 : B.pd ≠ B.pl := fun z => by
        have h5 := hb.l
        rw [← z, hkv] at h5
        cases h5
      have np1 : B.p ≠ B.pl := fun z => by
        have h5 := hb.l
        rw [← z, hB] at h5
        cases h5
      have np2 : B.p ≠ B.pd := fun z => by
        rw [← z, hB] at hkv
        cases hkv
      have nr1 : B.pr ≠ B.pd := fun z => by
        rw [← z, hvr] at hkv
        cases hkv
      have hkv1 : upd H B.pl (.lst (sVs b.names ++ [.str n])) B.pd = some (.dK kvs) := by rw [upd_ne nd1]; exact hkv
      have hkl := al.len
      refine ⟨_, rfl, _, rfl, B.p, CBk K, dB, _, _, rfl, by rw [upd_ne np1]; exact hB, T.c_Book, T.n_Book_approximations, lBk_approximations, _, rfl, B.pd, _, rfl, DPut.k (k := Sum.inr n) hkv1 (by rw [sizeLine_eq]; omega), ?_⟩
      rw [putK_new _ h1]
      have f2 := f1.upd (o := .dK (kvs ++ [((Sum.inr n : Key), vq)])) (.inl (by simp [BkA.W] : B.pd ∈ B.W)) hkv1 (fun z => z)
      refine kq _ _ (if_neg (by rintro (z | z); exact h2 z; exact h12 z)) f2 ⟨⟨dB, by rw [upd_ne np2, upd_ne np1]; exact hB⟩, ?_, ⟨_, upd_same, ?_⟩, ⟨vr, ?_, ?_⟩, hb.ne⟩
      · rw [upd_ne (Ne.symm nd1), upd_same]
        show some (HO.lst (sVs b.names ++ [V.str n])) = some (.lst (sVs ((b.pts ++ [(n, q)]).map (·.1))))
        rw [nm_snoc]
        unfold sVs
        rw [List.map_append]
        rfl
      · exact (al.imp fun kv p ⟨a, c⟩ => ⟨a, c.kp f2.k⟩).append (Al.cons ⟨rfl, hq.kp f2.k⟩ Al.nil)
      · rw [upd_ne nr1, upd_ne (Ne.symm hb.ne)]; exact hvr
      · exact alr.imp fun v x r => stayRd _ _ _ _ f2.k r
  · rw [h1]
    exact iteT ⟨_, rfl, mkX fun d H' e' => ke (if_pos (.inl h4)) _ _ _ (sv_DN T) e'⟩
end
end Pn
set_option maxHeartbeats 4000000
/-! Book: the changes, remove_point, add_reading, reading, twin -/
namespace Pn
open PySem PySem.Spec PyProof.Rows L2
theorem Ex.frn {K : PySem.W.Frag} {H H1 H2 : Hp} {W : List Addr} (e : Ex H H1) (f : Fr K W H1 H2) (h : ∀ a ∈ W, H a = none) : Ex H H2 := fun a o ha => f.f a o (e a o ha) fun hw => by
  rw [h a hw] at ha
  cases ha
/-- how a change of a book ends -/
def BRes (K : PySem.W.Frag) (H : Hp) (B : BkA) (Q : VK) (E : XK) (o : Option (Bk Str)) : Prop :=
  (∀ b' H', o = some b' → Fr K B.W H H' → IsBk K H' B b' → Q .non H') ∧ (o = none → ∀ c d H', Surv K c → Ex H H' → E c d H')
section
variable {w : World} {K : PySem.W.Frag} {mg : Str → Option Value} {base : Heap}
theorem bk_ne {H : Hp} {B : BkA} {b : Bk Str} (h : IsBk K H B b) : B.p ≠ B.pl ∧ B.p ≠ B.pd ∧ B.p ≠ B.pr ∧ B.pl ≠ B.pd ∧ B.pl ≠ B.pr ∧ B.pd ≠ B.pr := by
  obtain ⟨dB, hB⟩ := h.ins
  obtain ⟨kvs, hkv, al⟩ := h.d
  obtain ⟨vr, hvr, alr⟩ := h.r
  have hl := h.l
  refine ⟨fun z => ?_, fun z => ?_, fun z => ?_, fun z => ?_, h.ne, fun z => ?_⟩
  · rw [z, hl] at hB; cases hB
  · rw [z, hkv] at hB; cases hB
  · rw [z, hvr] at hB; cases hB
  · rw [z, hkv] at hl; cases hl
  · rw [z, hvr] at hkv; cases hkv
theorem bk_setR {H H' : Hp} {B : BkA} {b : Bk Str} {vs : List V} {rds' : List Rg} (h : IsBk K H B b) (e : Ex H H') (al : Al (IsRd K H') vs rds') : Fr K B.W H (upd H' B.pr (.lst vs)) ∧ IsBk K (upd H' B.pr (.lst vs)) B { b with rds := rds' } := by
  obtain ⟨n1, n2, n3, n4, n5, n6⟩ := bk_ne h
  have h' := h.ex e
  obtain ⟨dB, hB⟩ := h'.ins
  obtain ⟨kvs, hkv, ald⟩ := h'.d
  obtain ⟨vr, hvr, alr⟩ := h'.r
  have f : Fr K B.W H (upd H' B.pr (.lst vs)) := e.fr.upd (.inl (by simp [BkA.W])) hvr (fun z => z)
  have k : Kp K H' (upd H' B.pr (.lst vs)) := Kp.refl.upd hvr (fun z => z)
  exact ⟨f, ⟨dB, by rw [upd_ne n3]; exact hB⟩, by rw [upd_ne n5]; exact h'.l, ⟨kvs, by rw [upd_ne n6]; exact hkv, ald.imp fun kv p ⟨a, c⟩ => ⟨a, c.kp k⟩⟩, ⟨vs, upd_same, al.imp fun v x r => stayRd _ _ _ _ k r⟩, h.ne⟩
theorem mod_set {α : Type} {l : List α} {i : Nat} {f : α → α} {x : α} (h : l[i]? = some x) : l.modify i f = l.set i (f x) := by
  obtain ⟨hi, rfl⟩ := List.getElem?_eq_some_iff.mp h
  apply List.ext_getElem?
  intro j
  rw [List.getElem?_modify, List.getElem?_set]
  by_cases hj : i = j
  · subst hj
    simp [hi]
  · simp [hj]

/-! ### change_approximation -/
def spChA (K : PySem.W.Frag) : Sp := fun vs H Q E => ∃ B b n vq q, vs = [.ref B.p, .str n, vq] ∧ IsBk K H B b ∧ IsR K H vq q ∧ b.pts.length ≤ 1000 ∧ BRes K H B Q E (approxB b n q)
theorem sc_Book_change_approximation : FnScope ["self", "name", "approximation"] ["self", "name", "approximation"] (defScope s_Book_change_approximation) := ⟨rfl, rfl, rfl, by decide +kernel, rfl, by decide +kernel, by decide +kernel⟩
theorem al_put {H : Hp} {kvs : List (Key × V)} {pts : List (Str × Rat)} {n : Str} {vq : V} {q : Rat} (h : Al (fun (kv : Key × V) (p : Str × Rat) => kv.1 = .inr p.1 ∧ IsR K H kv.2 p.2) kvs pts) (hq : IsR K H vq q) :
    Al (fun (kv : Key × V) (p : Str × Rat) => kv.1 = .inr p.1 ∧ IsR K H kv.2 p.2) (kvs.map fun kv => if kv.1 = .inr n then (kv.1, vq) else kv) (pts.map fun p => if p.1 = n then (p.1, q) else p) := by
  refine ⟨by simp [h.len], fun i kv p h1 h2 => ?_⟩
  rw [List.getElem?_map] at h1 h2
  obtain ⟨kv', e1, rfl⟩ := Option.map_eq_some_iff.mp h1
  obtain ⟨p', e2, rfl⟩ := Option.map_eq_some_iff.mp h2
  obtain ⟨a, c⟩ := h.at_ i _ _ e1 e2
  by_cases hn : p'.1 = n
  · rw [if_pos hn, if_pos (by rw [a, hn])]
    exact ⟨a, hq⟩
  · rw [if_neg hn, if_neg (by rw [a]; exact fun z => hn (Sum.inr.inj z))]
    exact ⟨a, c⟩
theorem m_Book_change_approximation (T : Txt K mg) : MDef PP w K mg base (L2.CX PP w) (CBk K) "change_approximation" (a_Book_change_approximation K) 4 ["self", "name", "approximation"] (spChA K) := by
  obtain ⟨fd, F⟩ := T.d_Book_change_approximation
  refine ⟨⟨fd, okX F sc_Book_change_approximation (fun vs H Q E h => ?_) (fun cdv A outer s H vs Q E hr h => ?_), F.bindsN fun _ _ _ _ _ _ us hl => match us, hl with | [_, _, _], _ => rfl⟩, T.m_Book_change_approximation, T.c_Book⟩
  · obtain ⟨B, b, n, vq, q, rfl, _⟩ := h
    rfl
  obtain ⟨B, b, n, vq, q, rfl, hb, hq, hz, kq, ke⟩ := h
  have hu := hu_of hr
  refine ⟨_, pss_cons (ps_expr (pe_methDX (m_Book_require_point T) hr (passes_call (takes_of rfl rfl rfl rfl) fun _ _ _ _ h => h) (pv 0) (pa_cons (pv 1) pa_nil))) (pss_one (ps_dput hu (pe_fld (pv 0) rfl) (pv 1) (pv 2) rfl)), ?_⟩
  obtain ⟨dB, hB⟩ := hb.ins
  refine ⟨_, rfl, B.p, dB, _, rfl, hB, nBk_require_point, _, rfl, B, b, n, rfl, hb, fun hn H1 e1 => ?_, fun hn c d H' sv e => ke (if_neg hn) c d H' sv e⟩
  have hb1 := hb.ex e1
  obtain ⟨dB1, hB1⟩ := hb1.ins
  obtain ⟨kvs, hkv, al⟩ := hb1.d
  obtain ⟨vr, hvr, alr⟩ := hb1.r
  obtain ⟨n1, n2, n3, n4, n5, n6⟩ := bk_ne hb
  have hkl := al.len
  refine ⟨_, rfl, _, rfl, B.p, CBk K, dB1, _, _, rfl, hB1, T.c_Book, T.n_Book_approximations, lBk_approximations, _, rfl, B.pd, _, rfl, DPut.k (k := Sum.inr n) hkv (by rw [sizeLine_eq]; omega), ?_⟩
  have hany : (kvs.any fun kv => decide (kv.1 = Sum.inr n)) = true := by
    rw [valV_any]
    rcases kv_get al n with ⟨h1, h2⟩ | ⟨v, q', h1, _⟩
    · exact absurd hn h2
    · rw [h1]; rfl
  have ep : putK kvs (Sum.inr n) vq = kvs.map fun kv => if kv.1 = .inr n then (kv.1, vq) else kv := by
    unfold putK
    rw [if_pos hany]
  rw [ep]
  have f : Fr K B.W H (upd H1 B.pd (.dK (kvs.map fun kv => if kv.1 = .inr n then (kv.1, vq) else kv))) := e1.fr.upd (.inl (by simp [BkA.W])) hkv (fun z => z)
  have k : Kp K H1 (upd H1 B.pd (.dK (kvs.map fun kv => if kv.1 = .inr n then (kv.1, vq) else kv))) := Kp.refl.upd hkv (fun z => z)
  refine kq _ _ (if_pos hn) f ⟨⟨dB1, by rw [upd_ne n2]; exact hB1⟩, ?_, ⟨_, upd_same, al_put (al.imp fun kv p ⟨a, c⟩ => ⟨a, c.kp k⟩) (hq.kp f.k)⟩, ⟨vr, by rw [upd_ne (Ne.symm n6)]; exact hvr, alr.imp fun v x r => stayRd _ _ _ _ k r⟩, hb.ne⟩
  rw [upd_ne n4, hb1.l]
  have : (b.pts.map fun p => if p.1 = n then (p.1, q) else p).map (·.1) = b.pts.map (·.1) := by
    rw [List.map_map]
    apply List.map_congr_left
    intro p hp
    show (if p.1 = n then (p.1, q) else p).1 = p.1
    split <;> rfl
  show some (HO.lst (sVs (b.pts.map (·.1)))) = some (.lst (sVs ((b.pts.map fun p => if p.1 = n then (p.1, q) else p).map (·.1))))
  rw [this]

/-! ### change_value, change_weight, withdraw, reading -/
def spChV (K : PySem.W.Frag) : Sp := fun vs H Q E => ∃ B b n vq q, vs = [.ref B.p, .str n, vq] ∧ IsBk K H B b ∧ IsR K H vq q ∧ b.rds.length ≤ 1000 ∧ BRes K H B Q E (valueB b n q)
abbrev nChV : List Str := ["self", "name", "value", "place", "old"]
theorem sc_Book_change_value : FnScope nChV ["self", "name", "value"] (defScope s_Book_change_value) := ⟨rfl, rfl, rfl, by decide +kernel, rfl, by decide +kernel, by decide +kernel⟩
theorem m_Book_change_value (T : Txt K mg) : MDef PP w K mg base (L2.CX PP w) (CBk K) "change_value" (a_Book_change_value K) 4 ["self", "name", "value"] (spChV K) := by
  obtain ⟨fd, F⟩ := T.d_Book_change_value
  refine ⟨⟨fd, okX F sc_Book_change_value (fun vs H Q E h => ?_) (fun cdv A outer s H vs Q E hr h => ?_), F.bindsN fun _ _ _ _ _ _ us hl => match us, hl with | [_, _, _], _ => rfl⟩, T.m_Book_change_value, T.c_Book⟩
  · obtain ⟨B, b, n, vq, q, rfl, _⟩ := h
    rfl
  obtain ⟨B, b, n, vq, q, rfl, hb, hq, hz, kq, ke⟩ := h
  have nd := sc_Book_change_value.nd
  refine ⟨_, pss_cons (ps_set (i := 3) nd rfl (Or.inl rfl) (pe_methDX (m_Book_place_of T) hr (passes_call (takes_of rfl rfl rfl rfl) fun _ _ _ _ h => h) (pv 0) (pa_cons (pv 1) pa_nil)))
    (pss_cons (ps_set (i := 4) nd rfl (Or.inl rfl) (pe_ix ix_list (pe_fld (pv 0) rfl) (pv 3) (fun _ _ => rfl)))
    (pss_one (ps_asg (pe_makeD (k_Reading T) (hr.mono (by decide)) (pa_cons (pv 1) (pa_cons (pe_fld (pv 4) rfl) (pa_cons (pv 2) (pa_cons (pe_fld (pv 4) rfl) pa_nil))))) (pg_sub (pe_fld (pv 0) rfl) (pv 3) set_list)))), ?_⟩
  obtain ⟨dB, hB⟩ := hb.ins
  refine ⟨_, rfl, B.p, dB, _, rfl, hB, nBk_place_of, _, rfl, B, b, n, rfl, hb, hz, fun i H1 hp e1 => ?_, fun hp c d H' sv e => ke (by unfold valueB; rw [hp]) c d H' sv e⟩
  obtain ⟨r, hri, hrn⟩ := pl_at hp
  have hb1 := hb.ex e1
  obtain ⟨dB1, hB1⟩ := hb1.ins
  obtain ⟨vr, hvr, alr⟩ := hb1.r
  obtain ⟨v, hv, p, dx, tv, vv, wv, rfl, hp2, h3, h4, h5⟩ := alr.get' hri
  refine ⟨_, rfl, B.p, CBk K, dB1, _, _, rfl, hB1, T.c_Book, T.n_Book_readings, lBk_readings, _, rfl, B.pr, vr, _, .ref p, rfl, rfl, SqL.of' hvr, atI_nat hv, ?_⟩
  refine ⟨_, rfl, _, rfl, p, CRd K, dx, _, _, rfl, hp2, T.c_Reading, T.n_Reading_terms, lRd_terms, _, rfl, _, rfl, p, CRd K, dx, _, _, rfl, hp2, T.c_Reading, T.n_Reading_weight, lRd_weight, ?_⟩
  intro x0 dx0 nx0 nd0 ne0
  refine mkRd' nx0 nd0 ne0 h3 (hq.ex e1) h5 fun H2 e2 r2 => ⟨rfl, ?_⟩
  have hil : i < vr.length := (List.getElem?_eq_some_iff.mp hv).1
  refine ⟨_, rfl, B.p, CBk K, dB1, _, _, rfl, e2 _ _ hB1, T.c_Book, T.n_Book_readings, lBk_readings, _, rfl, B.pr, vr, _, i, rfl, rfl, e2 _ _ hvr, ixN_n hil, ?_⟩
  have al2 : Al (IsRd K H2) (vr.set i (.ref x0)) (b.rds.set i ⟨n, r.terms, q, r.weight⟩) := (al_kp stayRd alr e2.kp).set i r2
  obtain ⟨f, hb2⟩ := bk_setR hb (e1.trans e2) al2
  refine kq _ _ ?_ f hb2
  unfold valueB
  rw [hp]
  show some _ = some _
  rw [mod_set hri, ← hrn]
def spChW (K : PySem.W.Frag) : Sp := fun vs H Q E => ∃ B b n vq q, vs = [.ref B.p, .str n, vq] ∧ IsBk K H B b ∧ IsR K H vq q ∧ b.rds.length ≤ 1000 ∧ BRes K H B Q E (weightB b n q)
abbrev nChW : List Str := ["self", "name", "weight", "place", "old"]
theorem sc_Book_change_weight : FnScope nChW ["self", "name", "weight"] (defScope s_Book_change_weight) := ⟨rfl, rfl, rfl, by decide +kernel, rfl, by decide +kernel, by decide +kernel⟩
theorem m_Book_change_weight (T : Txt K mg) : MDef PP w K mg base (L2.CX PP w) (CBk K) "change_weight" (a_Book_change_weight K) 4 ["self", "name", "weight"] (spChW K) := by
  obtain ⟨fd, F⟩ := T.d_Book_change_weight
  refine ⟨⟨fd, okX F sc_Book_change_weight (fun vs H Q E h => ?_) (fun cdv A outer s H vs Q E hr h => ?_), F.bindsN fun _ _ _ _ _ _ us hl => match us, hl with | [_, _, _], _ => rfl⟩, T.m_Book_change_weight, T.c_Book⟩
  · obtain ⟨B, b, n, vq, q, rfl, _⟩ := h
    rfl
  obtain ⟨B, b, n, _, q, rfl, hb, ⟨aq, dq, rfl, hq⟩, hz, kq, ke⟩ := h
  have nd := sc_Book_change_weight.nd
  refine ⟨_, pss_cons (ps_set (i := 3) nd rfl (Or.inl rfl) (pe_methDX (m_Book_place_of T) hr (passes_call (takes_of rfl rfl rfl rfl) fun _ _ _ _ h => h) (pv 0) (pa_cons (pv 1) pa_nil)))
    (pss_cons (ps_if (pt_cmpR op_le (pe_fld (pv 2) rfl) pe_int (nomark _)) (pss_one (ps_raiseX rfl (takes_of rfl rfl rfl rfl) (hr.mono (by decide)) T.xBR (i_BR T) T.g_BadReading (pa_cons pe_str pa_nil))) pss_nil)
    (pss_cons (ps_set (i := 4) nd rfl (Or.inl rfl) (pe_ix ix_list (pe_fld (pv 0) rfl) (pv 3) (fun _ _ => rfl)))
    (pss_one (ps_asg (pe_makeD (k_Reading T) (hr.mono (by decide)) (pa_cons (pv 1) (pa_cons (pe_fld (pv 4) rfl) (pa_cons (pe_fld (pv 4) rfl) (pa_cons (pv 2) pa_nil))))) (pg_sub (pe_fld (pv 0) rfl) (pv 3) set_list))))), ?_⟩
  obtain ⟨dB, hB⟩ := hb.ins
  refine ⟨_, rfl, B.p, dB, _, rfl, hB, nBk_place_of, _, rfl, B, b, n, rfl, hb, hz, fun i H1 hp e1 => ?_, fun hp c d H' sv e => ke (by unfold weightB; rw [hp]) c d H' sv e⟩
  obtain ⟨r, hri, hrn⟩ := pl_at hp
  have hb1 := hb.ex e1
  obtain ⟨dB1, hB1⟩ := hb1.ins
  obtain ⟨vr, hvr, alr⟩ := hb1.r
  obtain ⟨v, hv, p, dx, tv, vv, wv, rfl, hp2, h3, h4, h5⟩ := alr.get' hri
  refine ⟨_, rfl, aq, CRt K, dq, _, _, rfl, e1 _ _ hq, T.c_Ratio, T.n_Ratio_top, rf_top _ _, _, _, rfl, rfl, _, rfl, ite2 (fun h => ?_) (fun h => ?_)⟩
  · have hle : q.num ≤ 0 := by simpa using h
    exact mkX fun d H' e' => ke (by unfold weightB; rw [hp]; exact if_pos hle) _ _ _ (sv_BR T) (e1.trans e')
  have hle : ¬ q.num ≤ 0 := by simpa using h
  refine ⟨_, rfl, B.p, CBk K, dB1, _, _, rfl, hB1, T.c_Book, T.n_Book_readings, lBk_readings, _, rfl, B.pr, vr, _, .ref p, rfl, rfl, SqL.of' hvr, atI_nat hv, ?_⟩
  refine ⟨_, rfl, _, rfl, p, CRd K, dx, _, _, rfl, hp2, T.c_Reading, T.n_Reading_terms, lRd_terms, _, rfl, p, CRd K, dx, _, _, rfl, hp2, T.c_Reading, T.n_Reading_value, lRd_value, _, rfl, ?_⟩
  intro x0 dx0 nx0 nd0 ne0
  refine mkRd' nx0 nd0 ne0 h3 h4 ⟨aq, dq, rfl, e1 _ _ hq⟩ fun H2 e2 r2 => ⟨rfl, ?_⟩
  have hil : i < vr.length := (List.getElem?_eq_some_iff.mp hv).1
  refine ⟨_, rfl, B.p, CBk K, dB1, _, _, rfl, e2 _ _ hB1, T.c_Book, T.n_Book_readings, lBk_readings, _, rfl, B.pr, vr, _, i, rfl, rfl, e2 _ _ hvr, ixN_n hil, ?_⟩
  have al2 : Al (IsRd K H2) (vr.set i (.ref x0)) (b.rds.set i ⟨n, r.terms, r.value, q⟩) := (al_kp stayRd alr e2.kp).set i r2
  obtain ⟨f, hb2⟩ := bk_setR hb (e1.trans e2) al2
  refine kq _ _ ?_ f hb2
  unfold weightB
  rw [hp]
  show (if q.num ≤ 0 then none else some _) = some _
  rw [if_neg hle, mod_set hri, ← hrn]
def spWdr (K : PySem.W.Frag) : Sp := fun vs H Q E => ∃ B b n, vs = [.ref B.p, .str n] ∧ IsBk K H B b ∧ b.rds.length ≤ 1000 ∧ BRes K H B Q E (withdrawB b n)
theorem sc_Book_withdraw : FnScope ["self", "name"] ["self", "name"] (defScope s_Book_withdraw) := ⟨rfl, rfl, rfl, by decide +kernel, rfl, by decide +kernel, by decide +kernel⟩
theorem al_erase {α β : Type} {R : α → β → Prop} : ∀ {vs : List α} {xs : List β} (i : Nat), Al R vs xs → Al R (vs.eraseIdx i) (xs.eraseIdx i)
  | [], [], i, h => by simpa using h
  | [], x :: xs, i, h => by have := h.len; simp at this
  | v :: vs, [], i, h => by have := h.len; simp at this
  | v :: vs, x :: xs, 0, h => h.inv.2
  | v :: vs, x :: xs, i + 1, h => by
    rw [List.eraseIdx_cons_succ, List.eraseIdx_cons_succ]
    exact Al.cons h.inv.1 (al_erase i h.inv.2)
theorem m_Book_withdraw (T : Txt K mg) : MDef PP w K mg base (L2.CX PP w) (CBk K) "withdraw" (a_Book_withdraw K) 4 ["self", "name"] (spWdr K) := by
  obtain ⟨fd, F⟩ := T.d_Book_withdraw
  refine ⟨⟨fd, okX F sc_Book_withdraw (fun vs H Q E h => ?_) (fun cdv A outer s H vs Q E hr h => ?_), F.bindsN fun _ _ _ _ _ _ us hl => match us, hl with | [_, _], _ => rfl⟩, T.m_Book_withdraw, T.c_Book⟩
  · obtain ⟨B, b, n, rfl, _⟩ := h
    rfl
  obtain ⟨B, b, n, rfl, hb, hz, kq, ke⟩ := h
  refine ⟨_, pss_one (ps_delL (pe_fld (pv 0) rfl) (pe_methDX (m_Book_place_of T) hr (passes_call (takes_of rfl rfl rfl rfl) fun _ _ _ _ h => h) (pv 0) (pa_cons (pv 1) pa_nil))), ?_⟩
  obtain ⟨dB, hB⟩ := hb.ins
  refine ⟨_, rfl, B.p, CBk K, dB, _, _, rfl, hB, T.c_Book, T.n_Book_readings, lBk_readings, _, rfl, B.p, dB, _, rfl, hB, nBk_place_of, _, rfl, B, b, n, rfl, hb, hz, fun i H1 hp e1 => ?_, fun hp c d H' sv e => ke (by unfold withdrawB; rw [hp]) c d H' sv e⟩
  obtain ⟨r, hri, hrn⟩ := pl_at hp
  have hb1 := hb.ex e1
  obtain ⟨vr, hvr, alr⟩ := hb1.r
  have hil : i < vr.length := by rw [alr.len]; exact (List.getElem?_eq_some_iff.mp hri).1
  have hlen := alr.len
  refine ⟨B.pr, vr, _, i, rfl, rfl, hvr, by omega, by omega, (ixN_seq (ixN_n hil)).1, ?_⟩
  obtain ⟨f, hb2⟩ := bk_setR hb e1 (al_erase i alr)
  exact kq _ _ (by unfold withdrawB; rw [hp]) f hb2
def spBkR (K : PySem.W.Frag) : Sp := fun vs H Q E => ∃ B b n, vs = [.ref B.p, .str n] ∧ IsBk K H B b ∧ b.rds.length ≤ 1000 ∧ (∀ i r v H', placeOf b.rds n = some i → b.rds[i]? = some r → Ex H H' → IsRd K H' v r → Q v H') ∧ (placeOf b.rds n = none → ∀ c d H', Surv K c → Ex H H' → E c d H')
theorem sc_Book_reading : FnScope ["self", "name"] ["self", "name"] (defScope s_Book_reading) := ⟨rfl, rfl, rfl, by decide +kernel, rfl, by decide +kernel, by decide +kernel⟩
theorem m_Book_reading (T : Txt K mg) : MDef PP w K mg base (L2.CX PP w) (CBk K) "reading" (a_Book_reading K) 4 ["self", "name"] (spBkR K) := by
  obtain ⟨fd, F⟩ := T.d_Book_reading
  refine ⟨⟨fd, okX F sc_Book_reading (fun vs H Q E h => ?_) (fun cdv A outer s H vs Q E hr h => ?_), F.bindsN fun _ _ _ _ _ _ us hl => match us, hl with | [_, _], _ => rfl⟩, T.m_Book_reading, T.c_Book⟩
  · obtain ⟨B, b, n, rfl, _⟩ := h
    rfl
  obtain ⟨B, b, n, rfl, hb, hz, kq, ke⟩ := h
  refine ⟨_, pss_one (ps_ret (pe_ix ix_list (pe_fld (pv 0) rfl) (pe_methDX (m_Book_place_of T) hr (passes_call (takes_of rfl rfl rfl rfl) fun _ _ _ _ h => h) (pv 0) (pa_cons (pv 1) pa_nil)) (fun _ _ => rfl))), ?_⟩
  obtain ⟨dB, hB⟩ := hb.ins
  refine ⟨_, rfl, B.p, CBk K, dB, _, _, rfl, hB, T.c_Book, T.n_Book_readings, lBk_readings, _, rfl, B.p, dB, _, rfl, hB, nBk_place_of, _, rfl, B, b, n, rfl, hb, hz, fun i H1 hp e1 => ?_, ke⟩
  obtain ⟨r, hri, hrn⟩ := pl_at hp
  obtain ⟨vr, hvr, alr⟩ := (hb.ex e1).r
  obtain ⟨v, hv, rv⟩ := alr.get' hri
  exact ⟨B.pr, vr, _, v, rfl, rfl, SqL.of' hvr, atI_nat hv, kq i r v _ hp hri e1 rv⟩
end
end Pn
set_option maxHeartbeats 4000000
/-! Book: remove_point, add_reading, twin -/
namespace Pn
open PySem PySem.Spec PyProof.Rows L2
section
variable {w : World} {K : PySem.W.Frag} {mg : Str → Option Value} {base : Heap}
def spRem (K : PySem.W.Frag) : Sp := fun vs H Q E => ∃ B b n, vs = [.ref B.p, .str n] ∧ IsBk K H B b ∧ b.names.Nodup ∧ b.pts.length ≤ 1000 ∧ b.rds.length ≤ 1000 ∧ (∀ r ∈ b.rds, r.terms.length ≤ 1000) ∧ BRes K H B Q E (removeB b n)
abbrev nRem : List Str := ["self", "name", "reading", "point", "_"]
theorem sc_Book_remove_point : FnScope nRem ["self", "name"] (defScope s_Book_remove_point) := ⟨rfl, rfl, rfl, by decide +kernel, rfl, by decide +kernel, by decide +kernel⟩
theorem al_filter {H : Hp} {n : Str} : ∀ {kvs : List (Key × V)} {pts : List (Str × Rat)}, Al (fun (kv : Key × V) (p : Str × Rat) => kv.1 = .inr p.1 ∧ IsR K H kv.2 p.2) kvs pts →
    Al (fun (kv : Key × V) (p : Str × Rat) => kv.1 = .inr p.1 ∧ IsR K H kv.2 p.2) (dropK kvs (.inr n)) (pts.filter fun p => decide (p.1 ≠ n))
  | [], [], h => Al.nil
  | [], p :: pts, h => by have := h.len; simp at this
  | kv :: kvs, [], h => by have := h.len; simp at this
  | kv :: kvs, p :: pts, h => by
    obtain ⟨⟨a, c⟩, t⟩ := h.inv
    have ih := al_filter (n := n) t
    unfold dropK at ih ⊢
    by_cases hn : p.1 = n
    · rw [List.filter_cons_of_neg (by rw [a, hn]; simp), List.filter_cons_of_neg (by rw [hn]; simp)]
      exact ih
    · rw [List.filter_cons_of_pos (by rw [a]; simpa using fun z => hn z), List.filter_cons_of_pos (by simpa using hn)]
      exact Al.cons ⟨a, c⟩ ih
theorem erase_map {α β : Type} (f : α → β) : ∀ (l : List α) (j : Nat), (l.map f).eraseIdx j = (l.eraseIdx j).map f
  | [], j => by simp
  | a :: r, 0 => by simp
  | a :: r, j + 1 => by
    have ih := erase_map f r j
    simp [ih]
theorem nd_inj {α : Type} {l : List α} (h : l.Nodup) {i j : Nat} (hi : i < l.length) (hj : j < l.length) (e : l[i] = l[j]) : i = j := by
  have h := List.pairwise_iff_getElem.mp h
  rcases Nat.lt_trichotomy i j with z | z | z
  · exact absurd e (h i j hi hj z)
  · exact z
  · exact absurd e.symm (h j i hj hi z)
theorem sVs_rem {l : List Str} {n : Str} (hd : l.Nodup) : (sVs l).eraseIdx (l.idxOf n) = sVs (l.filter fun x => x != n) := by
  rw [← hd.erase_eq_filter, List.erase_eq_eraseIdx_of_idxOf rfl]
  unfold sVs
  rw [erase_map]
theorem m_Book_remove_point (T : Txt K mg) : MDef PP w K mg base (L2.CX PP w) (CBk K) "remove_point" (a_Book_remove_point K) 4 ["self", "name"] (spRem K) := by
  obtain ⟨fd, F⟩ := T.d_Book_remove_point
  refine ⟨⟨fd, okX F sc_Book_remove_point (fun vs H Q E h => ?_) (fun cdv A outer s H vs Q E hr h => ?_), F.bindsN fun _ _ _ _ _ _ us hl => match us, hl with | [_, _], _ => rfl⟩, T.m_Book_remove_point, T.c_Book⟩
  · obtain ⟨B, b, n, rfl, _⟩ := h
    rfl
  obtain ⟨B, b, n, rfl, hb, hnd, hz1, hz2, hz3, kq, ke⟩ := h
  have nd := sc_Book_remove_point.nd
  have hu := hu_of hr
  refine ⟨_, pss_cons (ps_expr (pe_methDX (m_Book_require_point T) hr (passes_call (takes_of rfl rfl rfl rfl) fun _ _ _ _ h => h) (pv 0) (pa_cons (pv 1) pa_nil)))
    (pss_cons (ps_for (passes_of rfl) rfl (pi_list (pe_fld (pv 0) rfl)) (pg_name (i := 2) nd rfl (Or.inl rfl))
      (pss_one (ps_if (pt_cmpR op_in_seq (pv 1) (pe_lc (own := [("point", 3), ("_", 4)]) (g := gTup K 2 (gCons (gName 3) (gCons (gName 4) gNil))) (tt := tYes) (te := tVar 3) rfl nd (pi_tup (pe_fld (pv 2) rfl)) (blkOk_by (N := nRem) (sc := defScope s_Book_remove_point) (by decide +kernel))
        (fun _ _ _ _ _ => pg_tup rfl (pgs_cons (pg_name (i := 3) nd rfl (Or.inl rfl)) (pgs_cons (pg_name (i := 4) nd rfl (Or.inl rfl)) pgs_nil))) (fun _ _ _ _ _ => pts_nil) (fun _ _ _ _ _ => pv 3)) (by rfl))
        (pss_one (ps_raiseX rfl (takes_of rfl rfl rfl rfl) (hr.mono (by decide)) T.xBR (i_BR T) T.g_BadReading (pa_cons pe_str pa_nil))) pss_nil)))
    (pss_cons (ps_expr (pe_bm PySem.F.plainAttrs_list PySem.F.slot_list_remove PySem.F.type_list_remove mt_removeF (pe_fld (pv 0) rfl) (pa_cons (pv 1) pa_nil)))
    (pss_one (ps_ddel (pe_fld (pv 0) rfl) (pv 1))))), ?_⟩
  obtain ⟨dB, hB⟩ := hb.ins
  refine ⟨_, rfl, B.p, dB, _, rfl, hB, nBk_require_point, _, rfl, B, b, n, rfl, hb, fun hn H1 e1 => ?_, fun hn c d H' sv e => ke (if_pos (.inl hn)) c d H' sv e⟩
  have hb1 := hb.ex e1
  obtain ⟨dB1, hB1⟩ := hb1.ins
  obtain ⟨vr, hvr, alr⟩ := hb1.r
  have hlr := alr.len
  refine ⟨_, rfl, B.p, CBk K, dB1, _, _, rfl, hB1, T.c_Book, T.n_Book_readings, lBk_readings, B.pr, rfl, ⟨_, SqL.of' hvr⟩, for_it (walk_list (xs := vr)) (fun i σ H' => Ex H1 H' ∧ (∃ o2, σ = [some (.ref B.p), some (.str n), o2, none, none]) ∧ ∀ j r, j < i → b.rds[j]? = some r → n ∉ r.terms.map (·.1))
    ⟨Ex.refl _, ⟨_, rfl⟩, fun j r h => by omega⟩ (fun i σ H' _ p => SqL.of' (p.1 _ _ hvr)) ?_ ?_⟩
  · rintro i z σ H2 H3 hi ⟨e, ⟨o2, rfl⟩, hz⟩ ⟨rfl, hx⟩
    obtain ⟨r, hr0, p, dx, _, vv, wv, rfl, hp, ⟨tp, vt, rfl, htp, lt⟩, h4, h5⟩ := alr.get hx
    have hlt := lt.len
    have htl := hz3 r (List.mem_of_getElem? hr0)
    refine ⟨_, rfl, ?_⟩
    refine ⟨_, rfl, p, CRd K, dx, _, _, rfl, e _ _ hp, T.c_Reading, T.n_Reading_terms, lRd_terms, tp, rfl, ⟨_, SqT.of' (e _ _ htp)⟩, fun D hD => ?_⟩
    refine lc_al (K := K) (R := fun _ v s => v = V.str s) (walk_tup (xs := vt)) (fun _ _ _ _ _ h => h) (r.terms.map (·.1)) (by rw [hlt]; simp) (by omega) hD (fun H4 e4 => SqT.of' (e4 _ _ (e _ _ htp))) yat_ex ?_ ?_
    · rintro j z y H4 H5 hj hy e4 ⟨rfl, hz4⟩ Rk kk
      obtain ⟨t, ht, q, rfl, hq⟩ := lt.get hz4
      have ey : y = t.1 := by
        rw [List.getElem?_map, ht] at hy
        exact (Option.some.inj hy).symm
      subst ey
      exact ⟨q, _, rfl, SqT.of' (e4 _ _ (e _ _ hq)), rfl, _, _, rfl, _, _, rfl, rfl, rfl, _, rfl, kk _ _ (Ex.refl _) rfl⟩
    · intro H4 acc e4 h4 hal
      have ea : acc = sVs (r.terms.map (·.1)) := by
        apply List.ext_getElem?
        intro j
        cases q : acc[j]? with
        | none =>
          have := hal.len
          rw [List.getElem?_eq_none_iff] at q
          symm
          rw [List.getElem?_eq_none_iff, sVs_len]
          omega
        | some v =>
          obtain ⟨x, hx1, hx2⟩ := hal.get q
          unfold sVs
          rw [List.getElem?_map, hx1, hx2]
          rfl
      subst ea
      refine ⟨D, _, rfl, .inl (SqL.of' h4), rfl, flat_sVs _, _, rfl, ?_⟩
      show (if (if (false : Bool) = true then !inV (.str n) (sVs (r.terms.map (·.1))) else inV (.str n) (sVs (r.terms.map (·.1)))) = true then _ else _)
      rw [if_neg (by decide : ¬ (false = true)), in_sVs]
      refine ite2 (fun h => ?_) (fun h => ?_)
      · have hm : n ∈ r.terms.map (·.1) := of_decide_eq_true h
        exact mkX fun d H' e' => ke (if_pos (.inr ⟨r, List.mem_of_getElem? hr0, hm⟩)) _ _ _ (sv_BR T) ((e1.trans e).trans (e4.trans e'))
      · have hm : n ∉ r.terms.map (·.1) := fun z => h (decide_eq_true z)
        refine ⟨e.trans e4, ⟨_, rfl⟩, fun j r' hj hj' => ?_⟩
        by_cases h1 : j < i
        · exact hz j r' h1 hj'
        · have : j = i := by omega
          subst this
          rw [hr0] at hj'
          cases hj'
          exact hm
  · rintro σ H2 ⟨e, ⟨o2, rfl⟩, hz⟩
    rw [hlr] at hz
    have hok : ¬ (n ∉ b.names ∨ ∃ r ∈ b.rds, n ∈ r.terms.map (·.1)) := by
      rintro (h | ⟨r, hr0, hm⟩)
      · exact h hn
      · obtain ⟨j, hj, rfl⟩ := List.getElem_of_mem hr0
        exact hz j _ hj (List.getElem?_eq_getElem hj) hm
    have e2 := e1.trans e
    have hb2 := hb.ex e2
    obtain ⟨dB2, hB2⟩ := hb2.ins
    obtain ⟨vr2, hvr2, alr2⟩ := hb2.r
    obtain ⟨kvs, hkv, al⟩ := hb2.d
    obtain ⟨n1, n2, n3, n4, n5, n6⟩ := bk_ne hb
    refine ⟨_, rfl, B.p, CBk K, dB2, _, _, rfl, hB2, T.c_Book, T.n_Book_points, lBk_points, .inl ⟨rfl, _, SqL.of' hb2.l⟩, _, rfl, B.pl, _, _, b.names.idxOf n, .str n, rfl, rfl, hb2.l, rfl, flat_sVs _, sVs_at _ _ hn, by rw [eqV_str]; exact decide_eq_true rfl, sVs_no _ _, ?_⟩
    rw [sVs_rem hnd]
    have f1 : Fr K B.W H (upd H2 B.pl (.lst (sVs (b.names.filter fun x => x != n)))) := e2.fr.upd (.inl (by simp [BkA.W])) hb2.l (fun z => z)
    have hkv1 : upd H2 B.pl (.lst (sVs (b.names.filter fun x => x != n))) B.pd = some (.dK kvs) := by rw [upd_ne (Ne.symm n4)]; exact hkv
    refine ⟨_, rfl, B.p, CBk K, dB2, _, _, rfl, by rw [upd_ne n1]; exact hB2, T.c_Book, T.n_Book_approximations, lBk_approximations, _, rfl, B.pd, kvs, .inr n, rfl, hkv1, rfl, ?_, ?_⟩
    · rcases kv_get al n with ⟨h1, h2⟩ | ⟨v, q', h1, _⟩
      · exact absurd hn h2
      · rw [h1]; rfl
    have f2 := f1.upd (o := .dK (dropK kvs (.inr n))) (.inl (by simp [BkA.W] : B.pd ∈ B.W)) hkv1 (fun z => z)
    have k2 : Kp K H2 (upd (upd H2 B.pl (.lst (sVs (b.names.filter fun x => x != n)))) B.pd (.dK (dropK kvs (.inr n)))) := (Kp.refl.upd hb2.l (fun z => z)).upd hkv1 (fun z => z)
    refine kq _ _ (if_neg hok) f2 ⟨⟨dB2, by rw [upd_ne n2, upd_ne n1]; exact hB2⟩, ?_, ⟨_, upd_same, al_filter (al.imp fun kv p ⟨a, c⟩ => ⟨a, c.kp k2⟩)⟩, ⟨vr2, by rw [upd_ne (Ne.symm n6), upd_ne (Ne.symm n5)]; exact hvr2, alr2.imp fun v x r => stayRd _ _ _ _ k2 r⟩, hb.ne⟩
    rw [upd_ne n4, upd_same]
    have : (b.pts.filter fun p => decide (p.1 ≠ n)).map (·.1) = b.names.filter fun x => x != n := by
      unfold Bk.names
      rw [List.filter_map]
      congr 1
      apply List.filter_congr
      intro p hp
      show decide (p.1 ≠ n) = (p.1 != n)
      by_cases h : p.1 = n
      · rw [h]; simp
      · simp [h]
    show some (HO.lst (sVs (b.names.filter fun x => x != n))) = some (.lst (sVs ((b.pts.filter fun p => decide (p.1 ≠ n)).map (·.1))))
    rw [this]

/-! ### twin -/
def spTwin (K : PySem.W.Frag) : Sp := fun vs H Q _ => ∃ B b, vs = [.ref B.p] ∧ IsBk K H B b ∧ b.names.Nodup ∧ b.pts.length ≤ 12 ∧ b.rds.length ≤ 1000 ∧
  ∀ B' H', Ex H H' → H B'.p = none → (∀ a ∈ B'.W, H a = none) → IsBk K H' B' b → Q (.ref B'.p) H'
theorem sc_Book_twin : FnScope ["self", "other", "name"] ["self"] (defScope s_Book_twin) := ⟨rfl, rfl, rfl, by decide +kernel, rfl, by decide +kernel, by decide +kernel⟩
theorem m_Book_twin (T : Txt K mg) : MDef PP w K mg base CX0 (CBk K) "twin" (a_Book_twin K) 4 ["self"] (spTwin K) := by
  obtain ⟨fd, F⟩ := T.d_Book_twin
  refine ⟨⟨fd, ok0 F sc_Book_twin (fun vs H Q E h => ?_) (fun cdv A outer s H vs Q E hr h => ?_), F.bindsN fun _ _ _ _ _ _ us hl => match us, hl with | [_], _ => rfl⟩, T.m_Book_twin, T.c_Book⟩
  · obtain ⟨B, b, rfl, _⟩ := h
    rfl
  obtain ⟨B, b, rfl, hb, hnd, hz1, hz2, k⟩ := h
  have nd := sc_Book_twin.nd
  have hu := hu_of hr
  refine ⟨_, pss_cons (ps_set (i := 1) nd rfl (Or.inl rfl) (pe_makeD0 (k_Book T) (hr.mono (by decide))))
    (pss_cons (ps_for PassesOwn.never rfl (pi_list (pe_fld (pv 0) rfl)) (pg_name (i := 2) nd rfl (Or.inl rfl))
      (pss_one (ps_expr (pe_methDX (m_Book_add_point T) hr passL (pv 1) (pa_cons (pv 2) (pa_cons (pe_dget hu (pe_fld (pv 0) rfl) (pv 2) (fun _ _ => rfl)) pa_nil))))))
    (pss_cons (ps_expr (pe_bm PySem.F.plainAttrs_list PySem.F.slot_list_extend PySem.F.type_list_extend mt_extend (pe_fld (pv 1) rfl) (pa_cons (pe_fld (pv 0) rfl) pa_nil)))
    (pss_one (ps_ret (pv 1))))), ?_⟩
  intro x0 dx0 nx0 nd0 ne0
  refine mkBk' nx0 nd0 ne0 fun B' H1 hB' hW e1 hb' => ⟨rfl, ?_⟩
  subst hB'
  obtain ⟨dB, hB⟩ := hb.ins
  obtain ⟨kvs, hkv, al⟩ := hb.d
  obtain ⟨vr, hvr, alr⟩ := hb.r
  have hbl := hb.l
  refine ⟨_, rfl, B.p, CBk K, dB, _, _, rfl, e1 _ _ hB, T.c_Book, T.n_Book_points, lBk_points, B.pl, rfl, ⟨_, SqL.of' (e1 _ _ hbl)⟩, for_it (walk_list (xs := sVs b.names)) (fun i σ H' => Ex H H' ∧ (∃ o2, σ = [some (.ref B.p), some (.ref B'.p), o2]) ∧ IsBk K H' B' ⟨b.pts.take i, []⟩)
    ⟨e1, ⟨_, rfl⟩, by rw [List.take_zero]; exact hb'⟩ (fun i σ H' _ p => SqL.of' (p.1 _ _ hbl)) ?_ ?_⟩
  · rintro i z σ H2 H3 hi ⟨e, ⟨o2, rfl⟩, hbi⟩ ⟨rfl, hx⟩
    rw [sVs_len] at hi
    have hip : i < b.pts.length := by
      have : b.names.length = b.pts.length := by simp [Bk.names]
      omega
    have hz : z = .str (b.pts[i].1) := by
      unfold sVs Bk.names at hx
      rw [List.getElem?_map, List.getElem?_map, List.getElem?_eq_getElem hip] at hx
      exact (Option.some.inj hx).symm
    subst hz
    obtain ⟨dI, hI⟩ := hbi.ins
    rcases kv_get al b.pts[i].1 with ⟨h1, h2⟩ | ⟨v, q, h1, h2, h3, h4⟩
    · exact absurd (List.mem_map.mpr ⟨b.pts[i], List.getElem_mem hip, rfl⟩) h2
    have hq : q = b.pts[i].2 := by
      have hm := List.mem_of_find?_eq_some h3
      obtain ⟨j, hj, ej⟩ := List.getElem_of_mem hm
      have hj1 : b.pts[j].1 = b.pts[i].1 := by rw [ej]
      have : j = i := by
        have hn : (b.pts.map (·.1)).Nodup := hnd
        exact nd_inj hn (by simpa using hj) (by simpa using hip) (by simpa using hj1)
      subst this
      rw [ej]
    subst hq
    have hadd : addPointB ⟨b.pts.take i, []⟩ b.pts[i].1 b.pts[i].2 = some ⟨b.pts.take (i + 1), []⟩ := by
      unfold addPointB
      rw [if_neg]
      · rw [List.take_add_one, List.getElem?_eq_getElem hip]
        rfl
      · rintro (z | z)
        · have z : b.pts[i].1 ∈ (b.pts.take i).map (·.1) := z
          obtain ⟨p, hp, ep⟩ := List.mem_map.mp z
          obtain ⟨j, hj, rfl⟩ := List.getElem_of_mem hp
          rw [List.length_take] at hj
          rw [List.getElem_take] at ep
          have hn : (b.pts.map (·.1)).Nodup := hnd
          have := nd_inj hn (i := j) (j := i) (by simp; omega) (by simpa using hip) (by simpa using ep)
          omega
        · have z : (b.pts.take i).length = 12 := z
          rw [List.length_take] at z
          omega
    refine ⟨_, rfl, B'.p, dI, _, rfl, hI, nBk_add_point, _, rfl, _, rfl, B.p, CBk K, dB, _, _, rfl, e _ _ hB, T.c_Book, T.n_Book_approximations, lBk_approximations, _, rfl, B.pd, v, rfl, ?_, ?_⟩
    · have := DGet.k (k := Sum.inr b.pts[i].1) (e _ _ hkv)
      rw [h1] at this
      exact this
    refine ⟨B', _, b.pts[i].1, v, b.pts[i].2, rfl, hbi, h2.ex e, ?_, fun b2 H4 hb2 f4 h4' => ?_, fun hno => ?_⟩
    · show (b.pts.take i).length ≤ 1000
      rw [List.length_take]
      omega
    · rw [hadd] at hb2
      cases hb2
      exact ⟨e.frn f4 hW, ⟨_, rfl⟩, h4'⟩
    · rw [hadd] at hno
      cases hno
  · rintro σ H2 ⟨e, ⟨o2, rfl⟩, hbi⟩
    rw [List.take_of_length_le (by rw [sVs_len]; simp [Bk.names])] at hbi
    obtain ⟨dI, hI⟩ := hbi.ins
    obtain ⟨vI, hvI, alI⟩ := hbi.r
    have evI : vI = [] := by have := alI.len; simpa using this
    subst evI
    have hlr := alr.len
    refine ⟨_, rfl, B'.p, CBk K, dI, _, _, rfl, hI, T.c_Book, T.n_Book_readings, lBk_readings, .inl ⟨rfl, _, SqL.of' hvI⟩, ?_⟩
    refine ⟨_, rfl, B.p, CBk K, dB, _, _, rfl, e _ _ hB, T.c_Book, T.n_Book_readings, lBk_readings, B'.pr, B.pr, [], vr, rfl, rfl, hvI, e _ _ hvr, by rw [sizeLine_eq]; show 0 + vr.length ≤ _; omega, ?_⟩
    obtain ⟨f, hb3⟩ := bk_setR hbi (Ex.refl H2) (al_kp stayRd alr e.kp)
    exact ⟨_, rfl, k B' _ (e.frn f hW) nx0 hW hb3⟩
end
end Pn
set_option maxHeartbeats 4000000
/-! Book: add_reading -/
namespace Pn
open PySem PySem.Spec PyProof.Rows L2
section
variable {w : World} {K : PySem.W.Frag} {mg : Str → Option Value} {base : Heap}
def spAddR (K : PySem.W.Frag) : Sp := fun vs H Q E => ∃ B b n tv vv wv ts v q, vs = [.ref B.p, .str n, tv, vv, wv] ∧ IsBk K H B b ∧ IsTerms H tv ts ∧ IsR K H vv v ∧ IsR K H wv q ∧ b.pts.length ≤ 1000 ∧ b.rds.length ≤ 1000 ∧ ts.length ≤ 1000 ∧ BRes K H B Q E (addReadingB ltS eS b ⟨n, ts, v, q⟩)
abbrev nAddR : List Str := ["self", "name", "terms", "value", "weight", "reading", "point", "_"]
theorem sc_Book_add_reading : FnScope nAddR ["self", "name", "terms", "value", "weight"] (defScope s_Book_add_reading) := ⟨rfl, rfl, rfl, by decide +kernel, rfl, by decide +kernel, by decide +kernel⟩
theorem m_Book_add_reading (T : Txt K mg) : MDef PP w K mg base (L2.CX PP w) (CBk K) "add_reading" (a_Book_add_reading K) 4 ["self", "name", "terms", "value", "weight"] (spAddR K) := by
  obtain ⟨fd, F⟩ := T.d_Book_add_reading
  refine ⟨⟨fd, okX F sc_Book_add_reading (fun vs H Q E h => ?_) (fun cdv A outer s H vs Q E hr h => ?_), F.bindsN fun _ _ _ _ _ _ us hl => match us, hl with | [_, _, _, _, _], _ => rfl⟩, T.m_Book_add_reading, T.c_Book⟩
  · obtain ⟨B, b, n, tv, vv, wv, ts, v, q, rfl, _⟩ := h
    rfl
  obtain ⟨B, b, n, _, vv, _, ts, v, q, rfl, hb, ⟨tp, vt, rfl, htp, lt⟩, hv, ⟨aq, dq, rfl, hq⟩, hz1, hz2, hz3, kq, ke⟩ := h
  have nd := sc_Book_add_reading.nd
  have hlt := lt.len
  refine ⟨_, pss_cons (ps_for (passes_of rfl) rfl (pi_list (pe_fld (pv 0) rfl)) (pg_name (i := 5) nd rfl (Or.inl rfl))
      (pss_one (ps_if (pt_cmpR op_eq (pe_fld (pv 5) rfl) (pv 1) (nomark _)) (pss_one (ps_raiseX rfl (takes_of rfl rfl rfl rfl) (hr.mono (by decide)) T.xDN (i_DN T) T.g_DuplicateName (pa_cons (pv 1) pa_nil))) pss_nil)))
    (pss_cons (ps_if (pt_not (pt_val (pe_callD (d_terms_fit_ok T) (hr.mono (by decide)) (pa_cons (pv 2) pa_nil)))) (pss_one (ps_raiseX rfl (takes_of rfl rfl rfl rfl) (hr.mono (by decide)) T.xBR (i_BR T) T.g_BadReading (pa_cons pe_str pa_nil))) pss_nil)
    (pss_cons (ps_for (passes_of rfl) rfl (pi_tup (pv 2)) (pg_tup rfl (pgs_cons (pg_name (i := 6) nd rfl (Or.inl rfl)) (pgs_cons (pg_name (i := 7) nd rfl (Or.inl rfl)) pgs_nil)))
      (pss_one (ps_expr (pe_methDX (m_Book_require_point T) hr (passes_call (takes_of rfl rfl rfl rfl) fun _ _ _ _ h => h) (pv 0) (pa_cons (pv 6) pa_nil)))))
    (pss_cons (ps_if (pt_cmpR op_le (pe_fld (pv 4) rfl) pe_int (nomark _)) (pss_one (ps_raiseX rfl (takes_of rfl rfl rfl rfl) (hr.mono (by decide)) T.xBR (i_BR T) T.g_BadReading (pa_cons pe_str pa_nil))) pss_nil)
    (pss_cons (ps_if (pt_cmpR op_eq (pe_callB call_len_seq (by rfl) T.f_len boot_len (pa_cons (pe_fld (pv 0) rfl) pa_nil)) (pe_gi T.i_MOST_READINGS_books) (nomark _)) (pss_one (ps_raiseX rfl (takes_of rfl rfl rfl rfl) (hr.mono (by decide)) T.xLR (i_LR T) T.g_LimitReached (pa_cons pe_str pa_nil))) pss_nil)
    (pss_one (ps_expr (pe_bm PySem.F.plainAttrs_list PySem.F.slot_list_append PySem.F.type_list_append mt_append (pe_fld (pv 0) rfl) (pa_cons (pe_makeD (k_Reading T) (hr.mono (by decide)) (pa_cons (pv 1) (pa_cons (pv 2) (pa_cons (pv 3) (pa_cons (pv 4) pa_nil))))) pa_nil)))))))), ?_⟩
  obtain ⟨dB, hB⟩ := hb.ins
  obtain ⟨vr, hvr, alr⟩ := hb.r
  have hlr := alr.len
  refine ⟨_, rfl, B.p, CBk K, dB, _, _, rfl, hB, T.c_Book, T.n_Book_readings, lBk_readings, B.pr, rfl, ⟨_, SqL.of' hvr⟩, for_it (walk_list (xs := vr)) (fun i σ H' => Ex H H' ∧ (∃ o5, σ = [some (.ref B.p), some (.str n), some (.ref tp), some vv, some (.ref aq), o5, none, none]) ∧ ∀ j r, j < i → b.rds[j]? = some r → r.name ≠ n)
    ⟨Ex.refl _, ⟨_, rfl⟩, fun j r h => by omega⟩ (fun i σ H' _ p => SqL.of' (p.1 _ _ hvr)) ?_ ?_⟩
  · rintro i z σ H2 H3 hi ⟨e, ⟨o2, rfl⟩, hz⟩ ⟨rfl, hx⟩
    obtain ⟨r, hr0, p, dx, tv, vv', wv, rfl, hp, h3, h4, h5⟩ := alr.get hx
    refine ⟨_, rfl, p, CRd K, dx, _, _, rfl, e _ _ hp, T.c_Reading, T.n_Reading_name, lRd_name, _, rfl, rfl, _, rfl, ite2 (fun h => ?_) (fun h => ?_)⟩
    · have hn : r.name = n := by
        have : V.str r.name = V.str n := by simpa using h
        injection this
      refine ⟨_, rfl, mkX fun d H' e' => ke (if_pos (.inl ?_)) _ _ _ (sv_DN T) (e.trans e')⟩
      exact List.mem_map.mpr ⟨r, List.mem_of_getElem? hr0, hn⟩
    · have hn : r.name ≠ n := fun z => h (by rw [z]; simp)
      refine ⟨e, ⟨_, rfl⟩, fun j r' hj hj' => ?_⟩
      by_cases h1 : j < i
      · exact hz j r' h1 hj'
      · have : j = i := by omega
        subst this
        rw [hr0] at hj'
        cases hj'
        exact hn
  · rintro σ H2 ⟨e, ⟨o2, rfl⟩, hz⟩
    rw [hlr] at hz
    have hc1 : n ∉ b.rds.map (·.name) := fun h => by
      obtain ⟨r, hr0, hn⟩ := List.mem_map.mp h
      obtain ⟨j, hj, rfl⟩ := List.getElem_of_mem hr0
      exact hz j _ hj (List.getElem?_eq_getElem hj) hn
    refine ⟨_, rfl, _, ts, rfl, ⟨tp, vt, rfl, e _ _ htp, al_kp stayTm lt (Ex.kp (K := K) e)⟩, fun H3 e3 => ?_⟩
    have e03 := e.trans e3
    refine ⟨_, rfl, ?_⟩
    by_cases ht : tfGo ltS eS ts = true
    · by_cases hne : ts = []
      · rw [hne]
        refine iteT ⟨by show [V.str _].length ≤ 1000; decide, (mkX fun d H' e' => ke (if_pos (.inr (.inr (.inl hne)))) _ _ _ (sv_BR T) (e03.trans e')).2⟩
      · rw [ht, decide_eq_true hne]
        refine iteF ?_
        refine ⟨_, rfl, tp, rfl, ⟨_, SqT.of' (e03 _ _ htp)⟩, for_it (walk_tup (xs := vt)) (fun i σ H' => Ex H H' ∧ (∃ o5 o6 o7, σ = [some (.ref B.p), some (.str n), some (.ref tp), some vv, some (.ref aq), o5, o6, o7]) ∧ ∀ j t, j < i → ts[j]? = some t → t.1 ∈ b.names)
          ⟨e03, ⟨_, _, _, rfl⟩, fun j r h => by omega⟩ (fun i σ H' _ p => SqT.of' (p.1 _ _ htp)) ?_ ?_⟩
        · rintro i z σ H4 H5 hi ⟨e4, ⟨o5, o6, o7, rfl⟩, hz4⟩ ⟨rfl, hx⟩
          obtain ⟨t, ht0, p, rfl, hp⟩ := lt.get hx
          refine ⟨p, _, rfl, SqT.of' (e4 _ _ hp), rfl, _, _, rfl, _, _, rfl, rfl, ?_⟩
          refine ⟨_, rfl, B.p, dB, _, rfl, e4 _ _ hB, nBk_require_point, _, rfl, B, b, t.1, rfl, hb.ex e4, fun hm H6 e6 => ?_, fun hm c d H' sv e' => ke (if_pos (.inr (.inr (.inr (.inl ⟨t, List.mem_of_getElem? ht0, hm⟩))))) c d H' sv (e4.trans e')⟩
          refine ⟨e4.trans e6, ⟨_, _, _, rfl⟩, fun j t' hj hj' => ?_⟩
          by_cases h1 : j < i
          · exact hz4 j t' h1 hj'
          · have : j = i := by omega
            subst this
            rw [ht0] at hj'
            cases hj'
            exact hm
        · rintro σ H4 ⟨e4, ⟨o5, o6, o7, rfl⟩, hz4⟩
          rw [hlt] at hz4
          have hc4 : ¬ ∃ t ∈ ts, t.1 ∉ b.names := by
            rintro ⟨t, ht0, hm⟩
            obtain ⟨j, hj, rfl⟩ := List.getElem_of_mem ht0
            exact hm (hz4 j _ hj (List.getElem?_eq_getElem hj))
          refine ⟨_, rfl, aq, CRt K, dq, _, _, rfl, e4 _ _ hq, T.c_Ratio, T.n_Ratio_top, rf_top _ _, _, _, rfl, rfl, _, rfl, ite2 (fun h => ?_) (fun h => ?_)⟩
          · have hle : q.num ≤ 0 := by simpa using h
            exact mkX fun d H' e' => ke (if_pos (.inr (.inr (.inr (.inr (.inl hle)))))) _ _ _ (sv_BR T) (e4.trans e')
          have hle : ¬ q.num ≤ 0 := by simpa using h
          refine ⟨_, rfl, B.p, CBk K, dB, _, _, rfl, e4 _ _ hB, T.c_Book, T.n_Book_readings, lBk_readings, B.pr, _, rfl, .inl (SqL.of' (e4 _ _ hvr)), rfl, _, rfl, ite2 (fun h => ?_) (fun h => ?_)⟩
          · have h24 : b.rds.length = 24 := by
              have : V.int ((vr.length : Nat)) = V.int 24 := by simpa using h
              injection this with this
              omega
            exact mkX fun d H' e' => ke (if_pos (.inr (.inr (.inr (.inr (.inr h24)))))) _ _ _ (sv_LR T) (e4.trans e')
          have h24 : b.rds.length ≠ 24 := fun z => h (by rw [hlr, z]; simp)
          refine ⟨_, rfl, B.p, CBk K, dB, _, _, rfl, e4 _ _ hB, T.c_Book, T.n_Book_readings, lBk_readings, .inl ⟨rfl, _, SqL.of' (e4 _ _ hvr)⟩, ?_⟩
          refine ⟨_, rfl, _, rfl, _, rfl, _, rfl, ?_⟩
          intro x0 dx0 nx0 nd0 ne0
          refine mkRd' nx0 nd0 ne0 ⟨tp, vt, rfl, e4 _ _ htp, al_kp stayTm lt (Ex.kp (K := K) e4)⟩ (hv.ex e4) ⟨aq, dq, rfl, e4 _ _ hq⟩ fun H5 e5 r5 => ⟨rfl, ?_⟩
          refine ⟨B.pr, vr, _, rfl, rfl, e5 _ _ (e4 _ _ hvr), by rw [sizeLine_eq]; omega, ?_⟩
          have al5 : Al (IsRd K H5) (vr ++ [.ref x0]) (b.rds ++ [⟨n, ts, v, q⟩]) := (al_kp stayRd alr (e4.trans e5).kp).append (Al.cons r5 Al.nil)
          obtain ⟨f, hb5⟩ := bk_setR hb (e4.trans e5) al5
          refine kq _ _ (if_neg ?_) f hb5
          rintro (z | z | z | z | z | z)
          · exact hc1 z
          · exact absurd (z.symm.trans ht) (by decide)
          · exact hne z
          · exact hc4 z
          · exact hle z
          · exact h24 z
    · have ht' : tfGo ltS eS ts = false := by simpa using ht
      rw [ht']
      refine iteT ⟨by show [V.str _].length ≤ 1000; decide, (mkX fun d H' e' => ke (if_pos (.inr (.inl ht'))) _ _ _ (sv_BR T) (e03.trans e')).2⟩
end
end Pn
set_option maxHeartbeats 4000000
/-! Net: in the heap; making, add_point, row -/
namespace Pn
open PySem PySem.Spec PyProof.Rows L2
structure NtA where
  p : Addr
  pl : Addr
  pr : Addr
def NtA.W (N : NtA) : List Addr := [N.p, N.pl, N.pr]
structure NtF (K : PySem.W.Frag) (H : Hp) (N : NtA) (n : Nt Str) (dx : Addr) (va vm vi vr vt : V) : Prop where
  ins : H N.p = some (.ins (CNt K) dx (fNt (.ref N.pl) va (.ref N.pr) vm vi vr vt))
  l : H N.pl = some (.lst (sVs n.pts))
  r : IsL (IsRd K) H N.pr n.rds
  x : IsV K H va n.x0
  m : IsM K H vm n.normal
  i : IsM K H vi n.inverse
  rt : IsV K H vr n.right
  t : IsR K H vt n.total
  ne : N.pl ≠ N.pr
def IsNt (K : PySem.W.Frag) (H : Hp) (N : NtA) (n : Nt Str) : Prop := ∃ dx va vm vi vr vt, NtF K H N n dx va vm vi vr vt
section
variable {K : PySem.W.Frag} {H H' : Hp} {N : NtA} {n : Nt Str} {dx : Addr} {va vm vi vr vt v : V}
theorem NtF.fr {W : List Addr} (h : NtF K H N n dx va vm vi vr vt) (e : Fr K W H H') (hw : N.p ∉ W ∧ N.pl ∉ W ∧ N.pr ∉ W) : NtF K H' N n dx va vm vi vr vt := by
  obtain ⟨vs, h4, h5⟩ := h.r
  exact ⟨e.f _ _ h.ins hw.1, e.f _ _ h.l hw.2.1, ⟨vs, e.f _ _ h4 hw.2.2, al_kp stayRd h5 e.k⟩, h.x.kp e.k, h.m.kp e.k, h.i.kp e.k, h.rt.kp e.k, h.t.kp e.k, h.ne⟩
theorem NtF.ex (h : NtF K H N n dx va vm vi vr vt) (e : Ex H H') : NtF K H' N n dx va vm vi vr vt := h.fr (W := []) e.fr ⟨by simp, by simp, by simp⟩
theorem IsNt.ex (h : IsNt K H N n) (e : Ex H H') : IsNt K H' N n := by
  obtain ⟨dx, va, vm, vi, vr, vt, h⟩ := h
  exact ⟨dx, va, vm, vi, vr, vt, h.ex e⟩
theorem IsNt.fr {W : List Addr} (h : IsNt K H N n) (e : Fr K W H H') (hw : N.p ∉ W ∧ N.pl ∉ W ∧ N.pr ∉ W) : IsNt K H' N n := by
  obtain ⟨dx, va, vm, vi, vr, vt, h⟩ := h
  exact ⟨dx, va, vm, vi, vr, vt, h.fr e hw⟩
theorem NtF.nes (h : NtF K H N n dx va vm vi vr vt) : N.p ≠ N.pl ∧ N.p ≠ N.pr := by
  obtain ⟨vs, h4, h5⟩ := h.r
  have h1 := h.ins
  have h2 := h.l
  refine ⟨fun z => ?_, fun z => ?_⟩
  · rw [z, h2] at h1; cases h1
  · rw [z, h4] at h1; cases h1
theorem im_nt (hc : CNt K ≠ CRt K ∧ CNt K ≠ CRd K) {dx : Addr} {fs : List (Str × V)} : ¬ Im K (.ins (CNt K) dx fs) := fun z => by
  rcases z with z | z
  · exact hc.1 z
  · exact hc.2 z
/-- the instance is written anew -/
theorem NtF.put (hc : CNt K ≠ CRt K ∧ CNt K ≠ CRd K) (h : NtF K H N n dx va vm vi vr vt) {va' vm' vi' vr' vt' : V} {n' : Nt Str} (hp : n'.pts = n.pts) (hr : n'.rds = n.rds) (x : IsV K H va' n'.x0) (m : IsM K H vm' n'.normal) (i : IsM K H vi' n'.inverse) (rt : IsV K H vr' n'.right) (t : IsR K H vt' n'.total) :
    NtF K (upd H N.p (.ins (CNt K) dx (fNt (.ref N.pl) va' (.ref N.pr) vm' vi' vr' vt'))) N n' dx va' vm' vi' vr' vt' ∧ Fr K N.W H (upd H N.p (.ins (CNt K) dx (fNt (.ref N.pl) va' (.ref N.pr) vm' vi' vr' vt'))) := by
  obtain ⟨vs, h4, h5⟩ := h.r
  obtain ⟨n1, n2⟩ := h.nes
  have k : Kp K H (upd H N.p (.ins (CNt K) dx (fNt (.ref N.pl) va' (.ref N.pr) vm' vi' vr' vt'))) := Kp.refl.upd h.ins (im_nt hc)
  exact ⟨⟨upd_same, by rw [upd_ne (Ne.symm n1), hp]; exact h.l, ⟨vs, by rw [upd_ne (Ne.symm n2)]; exact h4, by rw [hr]; exact al_kp stayRd h5 k⟩, x.kp k, m.kp k, i.kp k, rt.kp k, t.kp k, h.ne⟩,
    Fr.refl.upd (.inl (by simp [NtA.W])) h.ins (im_nt hc)⟩
end
section
variable {K : PySem.W.Frag} {mg : Str → Option Value}
theorem fun_ne {x x' q q' : Str} {p p' : Arguments} {b b' : List Stmt} {s s' : Scope} {d d' : List V} {k k' : List (Str × V)} {f f' : Addr} {fd fd' : FuncData} (F : FunD K x q p b s d k f fd) (G : FunD K x' q' p' b' s' d' k' f' fd') (h : q ≠ q') : f ≠ f' := by
  intro z
  subst z
  obtain ⟨oc, od, dV, kV, doc, pm, an, cdv, ct, osl, rfl, lk, _⟩ := F.ex
  obtain ⟨oc', od', dV', kV', doc', pm', an', cdv', ct', osl', rfl, lk', _⟩ := G.ex
  rw [lk] at lk'
  have e := Option.some.inj lk'
  have e2 : (fun o : Obj => match o.data with | .func fd => fd.qualname | _ => "") ⟨oc, od, .func (PySem.W.fnOf x q p b s dV kV doc pm an cdv ct), osl⟩ = (fun o : Obj => match o.data with | .func fd => fd.qualname | _ => "") ⟨oc', od', .func (PySem.W.fnOf x' q' p' b' s' dV' kV' doc' pm' an' cdv' ct'), osl'⟩ := by rw [e]
  exact h e2
theorem cls_ne {A B : Str} {q q' : Str} {p p' : Arguments} {b b' : List Stmt} {s s' : Scope} {d d' : List V} {k k' : List (Str × V)} {fd fd' : FuncData}
    (F : FunD K "__init__" q p b s d k (He.ma K (He.ga K A) "__init__") fd) (G : FunD K "__init__" q' p' b' s' d' k' (He.ma K (He.ga K B) "__init__") fd') (h : q ≠ q') : He.ga K A ≠ He.ga K B := fun z => fun_ne F G h (by rw [z])
theorem ne_nt (T : Txt K mg) : CNt K ≠ CRt K ∧ CNt K ≠ CRd K := by
  obtain ⟨f1, F1⟩ := T.d_Net_init
  obtain ⟨f2, F2⟩ := T.d_Ratio_init
  obtain ⟨f3, F3⟩ := T.d_Reading_init
  exact ⟨cls_ne F1 F2 (by decide +kernel), cls_ne F1 F3 (by decide +kernel)⟩
end
section
variable {w : World} {K : PySem.W.Frag} {mg : Str → Option Value} {base : Heap}
/-! ### Net() -/
def Ks (x : Addr) (G G' : Hp) : Prop := ∀ a o, G a = some o → a ≠ x → G' a = some o
theorem Ks.trans {x : Addr} {G G1 G2 : Hp} (a : Ks x G G1) (b : Ks x G1 G2) : Ks x G G2 := fun c o h n => b c o (a c o h n) n
theorem fstep {G : Hp} {q x : Addr} {o u v : HO} (h2 : G x = some v) (h3 : G q = none) : q ≠ x ∧ Ks x G (upd (upd G q o) x u) ∧ upd (upd G q o) x u q = some o := by
  have hq : q ≠ x := fun z => by rw [z, h2] at h3; cases h3
  refine ⟨hq, fun a w ha hne => ?_, by rw [upd_ne hq, upd_same]⟩
  have : a ≠ q := ne_of_none ha h3
  rw [upd_ne hne, upd_ne this]
  exact ha
def fNt0 (k : Nat) (x0 x1 x2 x3 x4 x5 : V) : List (Str × V) := ([("points", x0), ("approximations", x1), ("readings", x2), ("normal", x3), ("inverse", x4), ("right", x5)] : List (Str × V)).take k
def spNtI (K : PySem.W.Frag) : Sp := fun vs H Q _ => ∃ (x dx : Addr), vs = [.ref x] ∧ H x = some (.ins (CNt K) dx []) ∧
  ∀ N H', N.p = x → H N.pl = none → H N.pr = none → (∀ a o, H a = some o → a ≠ x → H' a = some o) → IsNt K H' N Nt.empty → Q .non H'
theorem sc_Net_init : FnScope ["self"] ["self"] (defScope s_Net_init) := ⟨rfl, rfl, rfl, by decide +kernel, rfl, by decide +kernel, by decide +kernel⟩
theorem isV_nil {H : Hp} {p : Addr} (h : H p = some (.tup [])) : IsV K H (.ref p) [] := ⟨p, [], rfl, h, Al.nil⟩
theorem isM_nil {H : Hp} {p : Addr} (h : H p = some (.tup [])) : IsM K H (.ref p) [] := ⟨p, [], rfl, h, Al.nil⟩
theorem k_Net (T : Txt K mg) (hN : base.NoSeer) : KDef PP w K mg base CX0 "Net" (CNt K) (a_Net_init K) 43 ["self"] [] (spNtI K) := by
  obtain ⟨fd, F⟩ := T.d_Net_init
  refine ⟨⟨fd, [], ok0 F sc_Net_init (fun vs H Q E h => ?_) (fun cdv A outer s H vs Q E hr h => ?_), .nil, F.bindsN fun _ _ _ _ _ _ us hl => match us, hl with | [_], _ => rfl⟩, T.g_Net, T.k_Net⟩
  · obtain ⟨x, dx, rfl, _⟩ := h
    rfl
  obtain ⟨x, dx, rfl, hx, k⟩ := h
  refine ⟨_, pss_cons (ps_fld (pv 0) (pe_lst pa_nil) rfl) (pss_cons (ps_fld (pv 0) (pe_tup pa_nil) rfl) (pss_cons (ps_fld (pv 0) (pe_lst pa_nil) rfl) (pss_cons (ps_fld (pv 0) (pe_tup pa_nil) rfl) (pss_cons (ps_fld (pv 0) (pe_tup pa_nil) rfl) (pss_cons (ps_fld (pv 0) (pe_tup pa_nil) rfl)
    (pss_one (ps_fld (pv 0) (pe_makeD (k_Ratio1 T hN) hr (pa_cons pe_int pa_nil)) rfl))))))), ?_⟩
  refine ⟨by show 0 ≤ sizeLine; decide, fun q1 z1 => ?_⟩
  obtain ⟨n1, s1, t1⟩ := fstep (o := .lst []) (u := .ins (CNt K) dx (fNt0 1 (.ref q1) .non .non .non .non .non)) hx z1
  refine ⟨_, rfl, x, CNt K, dx, [], rfl, by rw [upd_ne (Ne.symm n1)]; exact hx, T.c_Net, T.n_Net_points, (by show 0 < 1000; decide), ?_⟩
  rw [eNt_points]
  refine ⟨by show 0 ≤ sizeLine; decide, fun q2 z2 => ?_⟩
  obtain ⟨n2, s2, t2⟩ := fstep (o := .tup []) (u := .ins (CNt K) dx (fNt0 2 (.ref q1) (.ref q2) .non .non .non .non)) upd_same z2
  refine ⟨_, rfl, x, CNt K, dx, _, rfl, by rw [upd_ne (Ne.symm n2), upd_same], T.c_Net, T.n_Net_approximations, (by show 1 < 1000; decide), ?_⟩
  rw [eNt_approximations]
  refine ⟨by show 0 ≤ sizeLine; decide, fun q3 z3 => ?_⟩
  obtain ⟨n3, s3, t3⟩ := fstep (o := .lst []) (u := .ins (CNt K) dx (fNt0 3 (.ref q1) (.ref q2) (.ref q3) .non .non .non)) upd_same z3
  refine ⟨_, rfl, x, CNt K, dx, _, rfl, by rw [upd_ne (Ne.symm n3), upd_same], T.c_Net, T.n_Net_readings, (by show 2 < 1000; decide), ?_⟩
  rw [eNt_readings]
  refine ⟨by show 0 ≤ sizeLine; decide, fun q4 z4 => ?_⟩
  obtain ⟨n4, s4, t4⟩ := fstep (o := .tup []) (u := .ins (CNt K) dx (fNt0 4 (.ref q1) (.ref q2) (.ref q3) (.ref q4) .non .non)) upd_same z4
  refine ⟨_, rfl, x, CNt K, dx, _, rfl, by rw [upd_ne (Ne.symm n4), upd_same], T.c_Net, T.n_Net_normal, (by show 3 < 1000; decide), ?_⟩
  rw [eNt_normal]
  refine ⟨by show 0 ≤ sizeLine; decide, fun q5 z5 => ?_⟩
  obtain ⟨n5, s5, t5⟩ := fstep (o := .tup []) (u := .ins (CNt K) dx (fNt0 5 (.ref q1) (.ref q2) (.ref q3) (.ref q4) (.ref q5) .non)) upd_same z5
  refine ⟨_, rfl, x, CNt K, dx, _, rfl, by rw [upd_ne (Ne.symm n5), upd_same], T.c_Net, T.n_Net_inverse, (by show 4 < 1000; decide), ?_⟩
  rw [eNt_inverse]
  refine ⟨by show 0 ≤ sizeLine; decide, fun q6 z6 => ?_⟩
  obtain ⟨n6, s6, t6⟩ := fstep (o := .tup []) (u := .ins (CNt K) dx (fNt0 6 (.ref q1) (.ref q2) (.ref q3) (.ref q4) (.ref q5) (.ref q6))) upd_same z6
  refine ⟨_, rfl, x, CNt K, dx, _, rfl, by rw [upd_ne (Ne.symm n6), upd_same], T.c_Net, T.n_Net_right, (by show 5 < 1000; decide), ?_⟩
  rw [eNt_right]
  intro x0 dx0 nx0 nd0 ne0
  refine mk0' nx0 nd0 ne0 fun H7 e7 r7 => ⟨rfl, ?_⟩
  refine ⟨_, rfl, x, CNt K, dx, _, rfl, e7 _ _ upd_same, T.c_Net, T.n_Net_total, (by show 6 < 1000; decide), ?_⟩
  rw [eNt_total]
  have s7 : Ks x H7 (upd H7 x (.ins (CNt K) dx (fNt (.ref q1) (.ref q2) (.ref q3) (.ref q4) (.ref q5) (.ref q6) (.ref x0)))) := fun a o ha hne => by rw [upd_ne hne]; exact ha
  have c6 : Ks x _ H7 := fun a o ha _ => e7 a o ha
  have g6 := c6.trans s7
  have g5 := s6.trans g6
  have g4 := s5.trans g5
  have g3 := s4.trans g4
  have g2 := s3.trans g3
  have g1 := s2.trans g2
  have g0 := s1.trans g1
  have w1 := g1 _ _ t1 n1
  have w2 := g2 _ _ t2 n2
  have w3 := g3 _ _ t3 n3
  have w4 := g4 _ _ t4 n4
  have w5 := g5 _ _ t5 n5
  have w6 := g6 _ _ t6 n6
  have fr : ∀ (G : Hp) (q : Addr), Ks x H G → G q = none → q ≠ x → H q = none := fun G q h hq hne => by
    cases e : H q with
    | none => rfl
    | some u => rw [h q u e hne] at hq; cases hq
  have hnx0 : x0 ≠ x := fun z => by rw [z, upd_same] at nx0; cases nx0
  obtain ⟨a0, d0, ea0, h0⟩ := r7
  cases ea0
  refine k ⟨x, q1, q3⟩ _ rfl (fr _ _ (fun a o h _ => h) z1 n1) (fr _ _ (s1.trans s2) z3 n3) g0 ⟨dx, _, _, _, _, _, ⟨upd_same, w1, ⟨[], w3, Al.nil⟩, isV_nil w2, isM_nil w4, isM_nil w5, isV_nil w6, ⟨x0, d0, rfl, s7 _ _ h0 hnx0⟩, ne_of_none (s2 _ _ t1 n1) z3⟩⟩
end
end Pn
set_option maxHeartbeats 4000000
/-! Net: add_point, row, place_of, tally -/
namespace Pn
open PySem PySem.Spec PyProof.Rows L2
section
variable {w : World} {K : PySem.W.Frag} {mg : Str → Option Value} {base : Heap}
/-- Net(): behind intro x dx nx nd ne -/
theorem mkNt' {H : Hp} {x dx : Addr} {Qe : VK} (nx : H x = none) (nd : H dx = none) (ne : dx ≠ x) (k : ∀ N H', N.p = x → (∀ a ∈ N.W, H a = none) → Ex H H' → IsNt K H' N Nt.empty → Qe .non H') :
    spNtI K [.ref x] (upd (upd H dx (.own x)) x (.ins (CNt K) dx [])) Qe E0 := by
  have back : ∀ a, upd (upd H dx (.own x)) x (.ins (CNt K) dx []) a = none → H a = none := fun a h1 => by
    by_cases hx : a = x
    · rw [hx]; exact nx
    · rw [upd_ne hx] at h1
      by_cases hd : a = dx
      · rw [hd]; exact nd
      · rw [upd_ne hd] at h1
        exact h1
  refine ⟨x, dx, rfl, upd_same, fun N H' hB h1 h2 hk hb => k N H' hB (fun a ha => ?_) (fun a o hao => ?_) hb⟩
  · have : a = N.p ∨ a = N.pl ∨ a = N.pr := by simpa [NtA.W] using ha
    rcases this with z | z | z
    · rw [z, hB]; exact nx
    · rw [z]; exact back _ h1
    · rw [z]; exact back _ h2
  · have h1 : a ≠ x := ne_of_none hao nx
    have h2 : a ≠ dx := ne_of_none hao nd
    exact hk a o (by rw [upd_ne h1, upd_ne h2]; exact hao) h1

/-! ### row -/
def rowAt (pts : List Str) (ts : List (Str × Int)) (i : Nat) : Vec := rowTo pts (ts.take i)
theorem rowAt_succ {pts : List Str} {ts : List (Str × Int)} {i : Nat} {t : Str × Int} (h : ts[i]? = some t) : rowAt pts ts (i + 1) = (rowAt pts ts i).set (pts.idxOf t.1) (t.2 : Rat) := by
  unfold rowAt rowTo
  rw [List.take_add_one, h, List.foldl_append]
  rfl
theorem rowTo_len (pts : List Str) (ts : List (Str × Int)) : (rowTo pts ts).length = pts.length := by
  unfold rowTo
  have : ∀ (l : List (Str × Int)) (a : Vec), (l.foldl (fun acc t => acc.set (pts.idxOf t.1) (t.2 : Rat)) a).length = a.length := by
    intro l
    induction l with
    | nil => intro a; rfl
    | cons t r ih => intro a; rw [List.foldl_cons, ih, List.length_set]
  rw [this, List.length_replicate]
def spRow (K : PySem.W.Frag) : Sp := fun vs H Q _ => ∃ N n vr r, vs = [.ref (NtA.p N), vr] ∧ IsNt K H N n ∧ IsRd K H vr r ∧ (∀ t ∈ r.terms, t.1 ∈ n.pts) ∧ n.pts.length ≤ 100 ∧ ∀ v H', Ex H H' → IsV K H' v (ntRow n r) → Q v H'
abbrev nRow : List Str := ["self", "reading", "found", "_", "name", "coefficient"]
theorem sc_Net_row : FnScope nRow ["self", "reading"] (defScope s_Net_row) := ⟨rfl, rfl, rfl, by decide +kernel, rfl, by decide +kernel, by decide +kernel⟩
theorem m_Net_row (T : Txt K mg) (hN : base.NoSeer) : MDef PP w K mg base CX0 (CNt K) "row" (a_Net_row K) 43 ["self", "reading"] (spRow K) := by
  obtain ⟨fd, F⟩ := T.d_Net_row
  refine ⟨⟨fd, ok0 F sc_Net_row (fun vs H Q E h => ?_) (fun cdv A outer s H vs Q E hr h => ?_), F.bindsN fun _ _ _ _ _ _ us hl => match us, hl with | [_, _], _ => rfl⟩, T.m_Net_row, T.c_Net⟩
  · obtain ⟨N, n, vr, r, rfl, _⟩ := h
    rfl
  obtain ⟨N, n, _, r, rfl, ⟨dx, va, vm, vi, vr, vt, hn⟩, ⟨p, dp, _, vv, wv, rfl, hp, ⟨tp, vts, rfl, htp, lt⟩, hv, hw⟩, hts, hz, k⟩ := h
  have nd := sc_Net_row.nd
  refine ⟨_, pss_cons (ps_setLc (i := 2) (own := [("_", 3)]) (g := gName 3) (tt := tYes) (te := tMake (CRt K) (spRInit K) [.int 1] E0 (tCons (tC (.int 0)) tNil)) rfl nd rfl rfl (sw_true rfl rfl rfl (by decide +kernel))
      (pi_list (pe_fld (pv 0) rfl)) (blkOk_by (N := nRow) (sc := defScope s_Net_row) (by decide +kernel))
      (fun _ _ _ _ _ => pg_name (i := 3) nd rfl (Or.inl rfl)) (fun _ _ _ _ _ => pts_nil) (fun _ _ _ _ _ => pe_makeD (k_Ratio1 T hN) hr (pa_cons pe_int pa_nil)))
    (pss_cons (ps_for PassesOwn.never rfl (pi_tup (pe_fld (pv 1) rfl)) (pg_tup rfl (pgs_cons (pg_name (i := 4) nd rfl (Or.inl rfl)) (pgs_cons (pg_name (i := 5) nd rfl (Or.inl rfl)) pgs_nil)))
      (pss_one (ps_asg (pe_makeD (k_Ratio1 T hN) hr (pa_cons (pv 5) pa_nil)) (pg_sub (pv 2) (pe_bm PySem.F.plainAttrs_list PySem.F.slot_list_index PySem.F.type_list_index mt_index (pe_fld (pv 0) rfl) (pa_cons (pv 4) pa_nil)) set_list))))
    (pss_one (ps_ret (pe_callTy call_tuple_of (by rfl) T.f_tuple boot_tuple (pa_cons (pv 2) pa_nil))))), ?_⟩
  refine ⟨_, rfl, N.p, CNt K, dx, _, _, rfl, hn.ins, T.c_Net, T.n_Net_points, lNt_points, N.pl, rfl, ⟨_, SqL.of' hn.l⟩, fun D hD => ?_⟩
  refine lc_al (K := K) (walk_list (xs := sVs n.pts)) stayR (List.replicate n.pts.length 0) (by rw [sVs_len]; simp) (by rw [sVs_len]; omega) hD (fun H1 e => SqL.of' (e _ _ hn.l)) yat_ex ?_ ?_
  · rintro i z y H3 H4 hi hy e5 ⟨rfl, hx⟩ Rk kk
    have ey : y = 0 := by
      rw [sVs_len] at hi
      rw [List.getElem?_replicate, if_pos hi] at hy
      exact (Option.some.inj hy).symm
    subst ey
    refine ⟨rfl, ?_⟩
    intro x0 dx0 nx0 nd0 ne0
    exact mk0' nx0 nd0 ne0 fun H6 e6 r6 => ⟨rfl, kk _ _ e6 r6⟩
  intro H1 acc e1 h1 hal
  have hlt := lt.len
  refine ⟨_, rfl, p, CRd K, dp, _, _, rfl, e1 _ _ hp, T.c_Reading, T.n_Reading_terms, lRd_terms, tp, rfl, ⟨_, SqT.of' (e1 _ _ htp)⟩, for_it (walk_tup (xs := vts)) (fun i σ H' => Ex H H' ∧ (∃ o4 o5, σ = [some (.ref N.p), some (.ref p), some (.ref D), none, o4, o5]) ∧ IsL (IsR K) H' D (rowAt n.pts r.terms i))
    ⟨e1, ⟨_, _, rfl⟩, acc, h1, hal⟩ (fun i σ H' _ q => SqT.of' (q.1 _ _ htp)) ?_ ?_⟩
  · rintro i z σ H2 H3 hi ⟨e, ⟨o4, o5, rfl⟩, vf, hvf, lf⟩ ⟨rfl, hx⟩
    obtain ⟨t, ht, q, rfl, hq⟩ := lt.get hx
    have htm := hts t (List.mem_of_getElem? ht)
    refine ⟨q, _, rfl, SqT.of' (e _ _ hq), rfl, _, _, rfl, _, _, rfl, rfl, ?_⟩
    refine ⟨_, rfl, ?_⟩
    intro x0 dx0 nx0 nd0 ne0
    refine mkI' nx0 nd0 ne0 fun H4 e4 r4 => ⟨rfl, ?_⟩
    have e04 := e.trans e4
    refine ⟨_, rfl, _, rfl, N.p, CNt K, dx, _, _, rfl, e04 _ _ hn.ins, T.c_Net, T.n_Net_points, lNt_points, .inl ⟨rfl, _, SqL.of' (e04 _ _ hn.l)⟩, _, rfl, N.pl, _, _, n.pts.idxOf t.1, .str t.1, rfl, rfl, SqL.of' (e04 _ _ hn.l), rfl, flat_sVs _, sVs_at _ _ htm, by rw [eqV_str]; exact decide_eq_true rfl, sVs_no _ _, ?_⟩
    have hl : vf.length = n.pts.length := by
      rw [lf.len]
      exact rowTo_len _ _
    have hix := List.idxOf_lt_length_of_mem htm
    refine ⟨D, vf, _, n.pts.idxOf t.1, rfl, rfl, e4 _ _ hvf, ixN_n (by omega), ?_⟩
    have k8 : Kp K H3 (upd H4 D (.lst (vf.set (n.pts.idxOf t.1) (.ref x0)))) := e4.kp.upd (e4 _ _ hvf) (fun z => z)
    refine ⟨e04.mut hD, ⟨_, _, rfl⟩, _, upd_same, ?_⟩
    rw [rowAt_succ ht]
    exact (al_kpR lf k8).set _ (r4.kp (Kp.refl.upd (e4 _ _ hvf) (fun z => z)))
  · rintro σ H2 ⟨e, ⟨o4, o5, rfl⟩, vf, hvf, lf⟩
    rw [hlt] at lf
    unfold rowAt at lf
    rw [List.take_length] at lf
    refine ⟨_, rfl, D, _, rfl, .inl ⟨SqL.of' hvf, fun l5 hl5 => ?_⟩⟩
    exact k _ _ (e.new hl5) ⟨l5, _, rfl, upd_same, al_kpR lf (Kp.refl.new hl5)⟩

/-! ### place_of: it is there -/
def spPlN (K : PySem.W.Frag) : Sp := fun vs H Q _ => ∃ N n nm i, vs = [.ref (NtA.p N), .str nm] ∧ IsNt K H N n ∧ placeOf n.rds nm = some i ∧ ∀ H', Ex H H' → Q (.int (i : Nat)) H'
theorem sc_Net_place_of : FnScope ["self", "name", "place", "reading"] ["self", "name"] (defScope s_Net_place_of) := ⟨rfl, rfl, rfl, by decide +kernel, rfl, by decide +kernel, by decide +kernel⟩
theorem m_Net_place_of (T : Txt K mg) : MDef PP w K mg base CX0 (CNt K) "place_of" (a_Net_place_of K) 3 ["self", "name"] (spPlN K) := by
  obtain ⟨fd, F⟩ := T.d_Net_place_of
  refine ⟨⟨fd, ok0 F sc_Net_place_of (fun vs H Q E h => ?_) (fun cdv A outer s H vs Q E hr h => ?_), F.bindsN fun _ _ _ _ _ _ us hl => match us, hl with | [_, _], _ => rfl⟩, T.m_Net_place_of, T.c_Net⟩
  · obtain ⟨N, n, nm, i, rfl, _⟩ := h
    rfl
  obtain ⟨N, n, nm, i0, rfl, ⟨dx, va, vm, vi, vr, vt, hn⟩, hpl, k⟩ := h
  have nd := sc_Net_place_of.nd
  refine ⟨_, pss_cons (ps_for PassesOwn.never rfl (pi_enum (by rfl) T.f_enumerate (pa_cons (pe_fld (pv 0) rfl) pa_nil)) (pg_tup rfl (pgs_cons (pg_name (i := 2) nd rfl (Or.inl rfl)) (pgs_cons (pg_name (i := 3) nd rfl (Or.inl rfl)) pgs_nil)))
      (pss_one (ps_if (pt_cmpR op_eq (pe_fld (pv 3) rfl) (pv 1) (nomark _)) (pss_one (ps_ret (pv 2))) pss_nil)))
    (pss_one ps_never), ?_⟩
  obtain ⟨vrd, hvr, al⟩ := hn.r
  refine ⟨_, rfl, N.p, CNt K, dx, _, _, rfl, hn.ins, T.c_Net, T.n_Net_readings, lNt_readings, N.pr, vrd, rfl, SqL.of' hvr, for_it (walk_enum (xs := vrd)) (fun i σ H' => Ex H H' ∧ (∃ o2 o3, σ = [some (.ref N.p), some (.str nm), o2, o3]) ∧ ∀ j r, j < i → n.rds[j]? = some r → r.name ≠ nm)
    ⟨Ex.refl H, ⟨_, _, rfl⟩, fun j r h => by omega⟩ (fun i σ H' _ p => SqL.of' (p.1 _ _ hvr)) ?_ ?_⟩
  · rintro i z σ H1 H2 hi ⟨e, ⟨o2, o3, rfl⟩, hz⟩ ⟨Tp, vx, vy, rfl, hT, rfl, hx, hy⟩
    have hvx : vx = .int (i : Nat) := (Option.some.inj hx).symm
    subst hvx
    obtain ⟨r, hr0, p, dx, tv, vv, wv, rfl, hp, h3, h4, h5⟩ := al.get hy
    have e1 : Ex H (upd H1 Tp (.tup [.int (i : Nat), .ref p])) := e.new hT
    refine ⟨Tp, _, rfl, SqT.of' upd_same, rfl, _, _, rfl, _, _, rfl, rfl, ?_⟩
    refine ⟨_, rfl, p, CRd K, dx, _, _, rfl, e1 _ _ hp, T.c_Reading, T.n_Reading_name, lRd_name, _, rfl, rfl, _, rfl, ite2 (fun h => ?_) (fun h => ?_)⟩
    · have hnm : r.name = nm := by
        have : V.str r.name = V.str nm := by simpa using h
        injection this
      have := pl_some hr0 hnm hz
      rw [hpl] at this
      cases this
      exact ⟨_, rfl, k _ e1⟩
    · have hnm : r.name ≠ nm := fun z => h (by rw [z]; simp)
      refine ⟨e1, ⟨_, _, rfl⟩, fun j r' hj hj' => ?_⟩
      by_cases h1 : j < i
      · exact hz j r' h1 hj'
      · have : j = i := by omega
        subst this
        rw [hr0] at hj'
        cases hj'
        exact hnm
  · rintro σ H1 ⟨e, ⟨o2, o3, rfl⟩, hz⟩
    rw [al.len] at hz
    have hp := pl_none hz
    rw [hpl] at hp
    cases hp

/-! ### tally -/
def spTal (K : PySem.W.Frag) : Sp := fun vs H Q _ => ∃ N n vr vw r c, vs = [.ref (NtA.p N), vr, vw] ∧ IsNt K H N n ∧ IsRd K H vr r ∧ IsR K H vw c ∧ NSz n ∧ (∀ t ∈ r.terms, t.1 ∈ n.pts) ∧ FTally n r c ∧
  ∀ H', Fr K N.W H H' → IsNt K H' N (ntTally n r c) → Q .non H'
abbrev nTal : List Str := ["self", "reading", "weight", "row", "shift"]
theorem sc_Net_tally : FnScope nTal ["self", "reading", "weight"] (defScope s_Net_tally) := ⟨rfl, rfl, rfl, by decide +kernel, rfl, by decide +kernel, by decide +kernel⟩
theorem NSz.sm {n : Nt Str} (h : NSz n) : Sz n.normal := ⟨h.m.n, fun r hr => by rw [h.m.w r hr]; have := h.nz; omega⟩
theorem NSz.si {n : Nt Str} (h : NSz n) : Sz n.inverse := ⟨h.i.n, fun r hr => by rw [h.i.w r hr]; have := h.nz; omega⟩
theorem m_Net_tally (T : Txt K mg) (hN : base.NoSeer) : MDef PP w K mg base CX0 (CNt K) "tally" (a_Net_tally K) 47 ["self", "reading", "weight"] (spTal K) := by
  obtain ⟨fd, F⟩ := T.d_Net_tally
  refine ⟨⟨fd, ok0 F sc_Net_tally (fun vs H Q E h => ?_) (fun cdv A outer s H vs Q E hr h => ?_), F.bindsN fun _ _ _ _ _ _ us hl => match us, hl with | [_, _, _], _ => rfl⟩, T.m_Net_tally, T.c_Net⟩
  · obtain ⟨N, n, vr, vw, r, c, rfl, _⟩ := h
    rfl
  obtain ⟨N, n, vrd, vw, r, c, rfl, ⟨dx, va, vm, vi, vr, vt, hn⟩, hrd, hw, sz, hts, f, k⟩ := h
  have nd := sc_Net_tally.nd
  have hr43 : Room 43 _ := hr.mono (by decide)
  have hnt := ne_nt T
  refine ⟨_, pss_cons (ps_set (i := 3) nd rfl (Or.inl rfl) (pe_methD (m_Net_row T hN) hr43 (pv 0) (pa_cons (pv 1) pa_nil)))
    (pss_cons (ps_set (i := 4) nd rfl (Or.inl rfl) (pe_op (oSub (m_Ratio_sub T hN) T hr43) (pe_fld (pv 1) rfl) (pe_callD (d_dot_ok T hN) (hr.mono (by decide)) (pa_cons (pv 3) (pa_cons (pe_fld (pv 0) rfl) pa_nil)))))
    (pss_cons (ps_fld (pv 0) (pe_callD (d_add_term_ok T hN) hr (pa_cons (pe_fld (pv 0) rfl) (pa_cons (pv 3) (pa_cons (pv 2) pa_nil)))) rfl)
    (pss_cons (ps_fld (pv 0) (pe_callD (d_plus_ok T hN) (hr.mono (by decide)) (pa_cons (pe_fld (pv 0) rfl) (pa_cons (pe_callD (d_scale_ok T hN) (hr.mono (by decide)) (pa_cons (pe_op (oMul (m_Ratio_mul T hN) T hr43) (pv 2) (pv 4)) (pa_cons (pv 3) pa_nil))) pa_nil))) rfl)
    (pss_one (ps_fld (pv 0) (pe_op (oAdd (m_Ratio_add T hN) T hr43) (pe_fld (pv 0) rfl) (pe_op (oMul (m_Ratio_mul T hN) T hr43) (pe_op (oMul (m_Ratio_mul T hN) T hr43) (pv 2) (pv 4)) (pv 4))) rfl))))), ?_⟩
  have hz := sz.nz
  have hrl : (ntRow n r).length = n.pts.length := rowTo_len _ _
  refine ⟨_, rfl, N.p, dx, _, rfl, hn.ins, nNt_row, _, rfl, N, n, vrd, r, rfl, ⟨dx, va, vm, vi, vr, vt, hn⟩, hrd, hts, by omega, fun v1 H1 e1 h1 => ?_⟩
  have hn1 := hn.ex e1
  obtain ⟨p, dp, tv, vv, wv, rfl, hp, h3, h4, h5⟩ := stayRd _ _ _ _ (Ex.kp (K := K) e1) hrd
  refine ⟨_, rfl, p, CRd K, dp, _, _, rfl, hp, T.c_Reading, T.n_Reading_value, lRd_value, ?_⟩
  refine ⟨_, rfl, _, rfl, N.p, CNt K, dx, _, _, rfl, hn1.ins, T.c_Net, T.n_Net_approximations, lNt_approximations, ?_⟩
  refine ⟨_, _, ntRow n r, n.x0, rfl, h1, hn1.x, f.dot, fun v2 H2 e2 h2 => ?_⟩
  refine ⟨r.value, _, h4.ex e2, h2, f.val, f.dotf, fun v3 H3 e3 h3' => ?_⟩
  have e13 := e2.trans e3
  have hn3 := hn1.ex e13
  have hr3 := h1.ex e13
  have hw3 := hw.ex (e1.trans e13)
  replace h3' : IsR K H3 v3 (ntShift n r) := h3'
  refine ⟨_, rfl, N.p, CNt K, dx, _, _, rfl, hn3.ins, T.c_Net, T.n_Net_normal, lNt_normal, _, rfl, _, rfl, ?_⟩
  refine ⟨_, _, _, n.normal, ntRow n r, c, rfl, hn3.m, hr3, hw3, f.add, sz.sm, by omega, fun v4 H4 e4 h4' => ?_⟩
  have hn4 := hn3.ex e4
  refine ⟨_, rfl, N.p, CNt K, dx, _, rfl, hn4.ins, T.c_Net, T.n_Net_normal, (by show 7 < 1000; decide), ?_⟩
  rw [pNt_normal]
  obtain ⟨hn5, f5⟩ := hn4.put hnt (n' := { n with normal := addTermM n.normal (ntRow n r) c }) rfl rfl hn4.x h4' hn4.i hn4.rt hn4.t
  have k35 := e4.kp.trans f5.k
  have hr5 := hr3.kp k35
  have hw5 := hw3.kp k35
  have hs5 := h3'.kp k35
  refine ⟨_, rfl, N.p, CNt K, dx, _, _, rfl, hn5.ins, T.c_Net, T.n_Net_right, lNt_right, ?_⟩
  refine ⟨_, rfl, _, rfl, c, ntShift n r, hw5, hs5, f.add.hw, f.sh, fun v6 H6 e6 h6 => ?_⟩
  have hn6 := hn5.ex e6
  refine ⟨_, rfl, _, _, _, ntRow n r, rfl, h6, hr5.ex e6, f.ws, f.row, by omega, fun v7 H7 e7 h7 => ?_⟩
  have hn7 := hn6.ex e7
  refine ⟨_, _, n.right, _, rfl, hn7.rt, h7, f.rt, f.sr, by rw [sz.r]; omega, fun v8 H8 e8 h8 => ?_⟩
  have hn8 := hn7.ex e8
  refine ⟨_, rfl, N.p, CNt K, dx, _, rfl, hn8.ins, T.c_Net, T.n_Net_right, (by show 7 < 1000; decide), ?_⟩
  rw [pNt_right]
  obtain ⟨hn9, f9⟩ := hn8.put hnt (n' := { n with normal := addTermM n.normal (ntRow n r) c, right := plusM n.right (scaleM (c * ntShift n r) (ntRow n r)) }) rfl rfl hn8.x hn8.m hn8.i h8 hn8.t
  have e58 := e6.trans (e7.trans e8)
  have k59 := (e58.kp (K := K)).trans f9.k
  have hw9 := hw5.kp k59
  have hs9 := hs5.kp k59
  refine ⟨_, rfl, N.p, CNt K, dx, _, _, rfl, hn9.ins, T.c_Net, T.n_Net_total, lNt_total, ?_⟩
  refine ⟨_, rfl, _, rfl, c, ntShift n r, hw9, hs9, f.add.hw, f.sh, fun v10 H10 e10 h10 => ?_⟩
  refine ⟨_, rfl, _, _, h10, hs9.ex e10, f.ws, f.sh, fun v11 H11 e11 h11 => ?_⟩
  have hn11 := hn9.ex (e10.trans e11)
  refine ⟨n.total, _, hn11.t, h11, f.tot, f.wss, fun v12 H12 e12 h12 => ?_⟩
  have hn12 := hn11.ex e12
  refine ⟨_, rfl, N.p, CNt K, dx, _, rfl, hn12.ins, T.c_Net, T.n_Net_total, (by show 7 < 1000; decide), ?_⟩
  rw [pNt_total]
  obtain ⟨hn13, f13⟩ := hn12.put hnt (n' := ntTally n r c) rfl rfl hn12.x hn12.m hn12.i hn12.rt h12
  refine k _ ?_ ⟨_, _, _, _, _, _, hn13⟩
  exact ((((e1.trans (e13.trans e4)).fr.trans f5).ex e58).trans f9).ex (e10.trans (e11.trans e12)) |>.trans f13
end
end Pn
set_option maxHeartbeats 4000000
/-! Net: add_point, put, take, add, withdraw, change_value, change_weight -/
namespace Pn
open PySem PySem.Spec PyProof.Rows L2
/-! ### shapes -/
theorem rect_step {P : Mat} {w : Nat} {f : Rat} {a b : Vec} (h : Rect P w) (hl : P.length = w) (ha : a.length = w) (hb : b.length = w) : Rect (sumM P (scaledM f (outerM a b))) w ∧ (sumM P (scaledM f (outerM a b))).length = w := by
  have hn := h.n
  refine ⟨⟨by simp [sumM]; omega, fun r hr => ?_⟩, by simp [sumM, scaledM, outerM]; omega⟩
  unfold sumM at hr
  obtain ⟨i, hi, rfl⟩ := List.getElem_of_mem hr
  rw [List.length_zipWith] at hi
  rw [List.getElem_zipWith, len_plus, h.w _ (List.getElem_mem _)]
  have : ((scaledM f (outerM a b))[i]'(by omega)).length = w := by
    unfold scaledM outerM
    rw [List.getElem_map, List.getElem_map, len_scale, len_scale]
    exact hb
  omega
theorem rect_added {M P : Mat} {w : Nat} {c : Rat} {a : Vec} (h : Rect P w) (hl : P.length = w) (hM : M.length = w) (ha : a.length = w) : Rect (withAddedM M P a c) w ∧ (withAddedM M P a c).length = w := by
  have hg : (applyM P a).length = w := by rw [len_apply]; exact hl
  have hu : (minusM a (applyM M (applyM P a))).length = w := by rw [len_minus, len_apply]; omega
  unfold withAddedM
  split
  · exact rect_step h hl hg hg
  · obtain ⟨h1, l1⟩ := rect_step (f := -1) h hl (by rw [len_scale]; exact hu : (scaleM (1 / dotM (minusM a (applyM M (applyM P a))) (minusM a (applyM M (applyM P a)))) (minusM a (applyM M (applyM P a)))).length = w) hg
    obtain ⟨h2, l2⟩ := rect_step (f := -1) h1 l1 hg (by rw [len_scale]; exact hu : (scaleM (1 / dotM (minusM a (applyM M (applyM P a))) (minusM a (applyM M (applyM P a)))) (minusM a (applyM M (applyM P a)))).length = w)
    exact rect_step h2 l2 (by rw [len_scale]; exact hu) (by rw [len_scale]; exact hu)
theorem rect_removed {P : Mat} {w : Nat} {c : Rat} {a : Vec} (h : Rect P w) (hl : P.length = w) : Rect (withRemovedM P a c) w ∧ (withRemovedM P a c).length = w := by
  have hg : (applyM P a).length = w := by rw [len_apply]; exact hl
  have hh : (applyM P (applyM P a)).length = w := by rw [len_apply]; exact hl
  unfold withRemovedM
  split
  · exact rect_step h hl hg hg
  · obtain ⟨h1, l1⟩ := rect_step (f := -1 / dotM (applyM P a) (applyM P a)) h hl hh hg
    obtain ⟨h2, l2⟩ := rect_step (f := -1 / dotM (applyM P a) (applyM P a)) h1 l1 hg hh
    exact rect_step h2 l2 hg hg
section
variable {n : Nt Str} {r : Rdg Str} {c : Rat}
theorem row_len (n : Nt Str) (r : Rdg Str) : (ntRow n r).length = n.pts.length := rowTo_len _ _
theorem nsz_inv (h : NSz n) {P : Mat} (hP : Rect P n.pts.length ∧ P.length = n.pts.length) : NSz { n with inverse := P } := ⟨h.nz, h.x, h.m, h.ml, hP.1, hP.2, h.r, h.rz, h.rt, h.rn⟩
theorem nsz_rds (h : NSz n) {rds : List (Rdg Str)} (hz : rds.length ≤ 24) (ht : ∀ r ∈ rds, ∀ t ∈ r.terms, t.1 ∈ n.pts) : NSz { n with rds := rds } := ⟨h.nz, h.x, h.m, h.ml, h.i, h.il, h.r, hz, ht, h.rn⟩
theorem nsz_tally (h : NSz n) : NSz (ntTally n r c) := by
  obtain ⟨a, b⟩ := rect_step (f := c) h.m h.ml (row_len n r) (row_len n r)
  refine ⟨h.nz, h.x, a, b, h.i, h.il, ?_, h.rz, h.rt, h.rn⟩
  show (plusM n.right (scaleM (c * ntShift n r) (ntRow n r))).length = n.pts.length
  rw [len_plus, len_scale, row_len, h.r]
  omega
theorem nsz_put (h : NSz n) : NSz (ntPut n r) := nsz_tally (nsz_inv h (rect_added h.i h.il h.ml (row_len n r)))
theorem nsz_take (h : NSz n) : NSz (ntTake n r) := nsz_tally (nsz_inv h (rect_removed h.i h.il))
end
section
variable {w : World} {K : PySem.W.Frag} {mg : Str → Option Value} {base : Heap}
theorem NtF.setR {H : Hp} {N : NtA} {n : Nt Str} {dx : Addr} {va vm vi vr vt : V} {vs : List V} {rds' : List Rg} (h : NtF K H N n dx va vm vi vr vt) (al : Al (IsRd K H) vs rds') :
    NtF K (upd H N.pr (.lst vs)) N { n with rds := rds' } dx va vm vi vr vt ∧ Fr K N.W H (upd H N.pr (.lst vs)) := by
  obtain ⟨vs0, h4, h5⟩ := h.r
  obtain ⟨n1, n2⟩ := h.nes
  have k : Kp K H (upd H N.pr (.lst vs)) := Kp.refl.upd h4 (fun z => z)
  exact ⟨⟨by rw [upd_ne n2]; exact h.ins, by rw [upd_ne h.ne]; exact h.l, ⟨vs, upd_same, al_kp stayRd al k⟩, h.x.kp k, h.m.kp k, h.i.kp k, h.rt.kp k, h.t.kp k, h.ne⟩, Fr.refl.upd (.inl (by simp [NtA.W])) h4 (fun z => z)⟩

/-! ### add_point: it is new, there is room -/
def spNAP (K : PySem.W.Frag) : Sp := fun vs H Q _ => ∃ N n nm vq q, vs = [.ref (NtA.p N), .str nm, vq] ∧ IsNt K H N n ∧ IsR K H vq q ∧ NSz n ∧ nm ∉ n.pts ∧ n.pts.length ≠ 12 ∧ ∀ H', Fr K N.W H H' → IsNt K H' N (ntAddPoint n nm q) → Q .non H'
theorem sc_Net_add_point : FnScope ["self", "name", "approximation"] ["self", "name", "approximation"] (defScope s_Net_add_point) := ⟨rfl, rfl, rfl, by decide +kernel, rfl, by decide +kernel, by decide +kernel⟩
theorem m_Net_add_point (T : Txt K mg) (hN : base.NoSeer) : MDef PP w K mg base CX0 (CNt K) "add_point" (a_Net_add_point K) 44 ["self", "name", "approximation"] (spNAP K) := by
  obtain ⟨fd, F⟩ := T.d_Net_add_point
  refine ⟨⟨fd, ok0 F sc_Net_add_point (fun vs H Q E h => ?_) (fun cdv A outer s H vs Q E hr h => ?_), F.bindsN fun _ _ _ _ _ _ us hl => match us, hl with | [_, _, _], _ => rfl⟩, T.m_Net_add_point, T.c_Net⟩
  · obtain ⟨N, n, nm, vq, q, rfl, _⟩ := h
    rfl
  obtain ⟨N, n, nm, vq, q, rfl, ⟨dx, va, vm, vi, vr, vt, hn⟩, hq, sz, hm, h12, k⟩ := h
  have hnt := ne_nt T
  have hr42 : Room 42 _ := hr.mono (by decide)
  refine ⟨_, pss_cons (ps_if (pt_cmpR op_in_seq (pv 1) (pe_fld (pv 0) rfl) (by rfl)) (pss_one ps_never) pss_nil)
    (pss_cons (ps_if (pt_cmpR op_eq (pe_callB call_len_seq (by rfl) T.f_len boot_len (pa_cons (pe_fld (pv 0) rfl) pa_nil)) (pe_gi T.i_MOST_POINTS_adjust) (nomark _)) (pss_one ps_never) pss_nil)
    (pss_cons (ps_expr (pe_bm PySem.F.plainAttrs_list PySem.F.slot_list_append PySem.F.type_list_append mt_append (pe_fld (pv 0) rfl) (pa_cons (pv 1) pa_nil)))
    (pss_cons (ps_fld (pv 0) (pe_op op_catA (pe_fld (pv 0) rfl) (pe_tup (pa_cons (pv 2) pa_nil))) rfl)
    (pss_cons (ps_fld (pv 0) (pe_callD (d_widened_ok T hN) hr (pa_cons (pe_fld (pv 0) rfl) pa_nil)) rfl)
    (pss_cons (ps_fld (pv 0) (pe_callD (d_widened_ok T hN) hr (pa_cons (pe_fld (pv 0) rfl) pa_nil)) rfl)
    (pss_one (ps_fld (pv 0) (pe_op op_catA (pe_fld (pv 0) rfl) (pe_tup (pa_cons (pe_makeD (k_Ratio1 T hN) hr42 (pa_cons pe_int pa_nil)) pa_nil))) rfl))))))), ?_⟩
  have hz := sz.nz
  refine ⟨_, rfl, _, rfl, N.p, CNt K, dx, _, _, rfl, hn.ins, T.c_Net, T.n_Net_points, lNt_points, N.pl, _, rfl, .inl (SqL.of' hn.l), rfl, flat_sVs _, _, rfl, ?_⟩
  show (if (if (false : Bool) = true then !inV (.str nm) (sVs n.pts) else inV (.str nm) (sVs n.pts)) = true then _ else _)
  rw [if_neg (by decide : ¬ (false = true)), in_sVs, decide_eq_false hm]
  refine iteF ?_
  refine ⟨_, rfl, N.p, CNt K, dx, _, _, rfl, hn.ins, T.c_Net, T.n_Net_points, lNt_points, N.pl, _, rfl, .inl (SqL.of' hn.l), rfl, _, rfl, ?_⟩
  rw [sVs_len, decide_eq_false (fun z => h12 (by injection z with z; omega))]
  refine iteF ?_
  refine ⟨_, rfl, N.p, CNt K, dx, _, _, rfl, hn.ins, T.c_Net, T.n_Net_points, lNt_points, .inl ⟨rfl, _, SqL.of' hn.l⟩, _, rfl, N.pl, _, _, rfl, rfl, hn.l, by rw [sVs_len, sizeLine_eq]; omega, ?_⟩
  obtain ⟨n1, n2⟩ := hn.nes
  have el : sVs n.pts ++ [V.str nm] = sVs (n.pts ++ [nm]) := by unfold sVs; rw [List.map_append]; rfl
  rw [el]
  have f1 : Fr K N.W H (upd H N.pl (.lst (sVs (n.pts ++ [nm])))) := Fr.refl.upd (.inl (by simp [NtA.W])) hn.l (fun z => z)
  have k1 := f1.k
  obtain ⟨vrd, hrd, ard⟩ := hn.r
  have hn1 : NtF K (upd H N.pl (.lst (sVs (n.pts ++ [nm])))) N { n with pts := n.pts ++ [nm] } dx va vm vi vr vt :=
    ⟨by rw [upd_ne n1]; exact hn.ins, upd_same, ⟨vrd, by rw [upd_ne (Ne.symm hn.ne)]; exact hrd, al_kp stayRd ard k1⟩, hn.x.kp k1, hn.m.kp k1, hn.i.kp k1, hn.rt.kp k1, hn.t.kp k1, hn.ne⟩
  have hq1 := hq.kp k1
  refine ⟨_, rfl, N.p, CNt K, dx, _, _, rfl, hn1.ins, T.c_Net, T.n_Net_approximations, lNt_approximations, _, rfl, by show 1 ≤ sizeLine; decide, fun tp htp => ?_⟩
  have e2 : Ex (upd H N.pl (.lst (sVs (n.pts ++ [nm])))) (upd (upd H N.pl (.lst (sVs (n.pts ++ [nm])))) tp (.tup [vq])) := (Ex.refl _).new htp
  have hn2 := hn1.ex e2
  obtain ⟨xa, xvs, rfl, hxa, lxa⟩ := hn2.x
  have hxl := lxa.len
  have hx0 := sz.x
  have hx0' : ({ n with pts := n.pts ++ [nm] } : Nt Str).x0.length = n.pts.length := hx0
  refine cat_one hxa upd_same (by rw [sizeLine_eq]; omega) fun p3 H3 e3 h3 => ?_
  have hn3 := hn2.ex e3
  refine ⟨_, rfl, N.p, CNt K, dx, _, rfl, hn3.ins, T.c_Net, T.n_Net_approximations, (by show 7 < 1000; decide), ?_⟩
  rw [pNt_approximations]
  have e13 := e2.trans e3
  obtain ⟨hn4, f4⟩ := hn3.put hnt (va' := .ref p3) (n' := { n with pts := n.pts ++ [nm], x0 := n.x0 ++ [q] }) rfl rfl ⟨p3, _, rfl, h3, (al_kpR lxa e3.kp).append (Al.cons (hq1.ex e13) Al.nil)⟩ hn3.m hn3.i hn3.rt hn3.t
  have F4 := (f1.ex e13).trans f4
  refine ⟨_, rfl, N.p, CNt K, dx, _, _, rfl, hn4.ins, T.c_Net, T.n_Net_normal, lNt_normal, ?_⟩
  refine ⟨_, n.normal, rfl, hn4.m, sz.sm, by rw [sz.ml]; omega, fun v5 H5 e5 h5 => ?_⟩
  have hn5 := hn4.ex e5
  refine ⟨_, rfl, N.p, CNt K, dx, _, rfl, hn5.ins, T.c_Net, T.n_Net_normal, (by show 7 < 1000; decide), ?_⟩
  rw [pNt_normal]
  obtain ⟨hn6, f6⟩ := hn5.put hnt (n' := { n with pts := n.pts ++ [nm], x0 := n.x0 ++ [q], normal := widenM n.normal }) rfl rfl hn5.x h5 hn5.i hn5.rt hn5.t
  have F6 := (F4.ex e5).trans f6
  refine ⟨_, rfl, N.p, CNt K, dx, _, _, rfl, hn6.ins, T.c_Net, T.n_Net_inverse, lNt_inverse, ?_⟩
  refine ⟨_, n.inverse, rfl, hn6.i, sz.si, by rw [sz.il]; omega, fun v7 H7 e7 h7 => ?_⟩
  have hn7 := hn6.ex e7
  refine ⟨_, rfl, N.p, CNt K, dx, _, rfl, hn7.ins, T.c_Net, T.n_Net_inverse, (by show 7 < 1000; decide), ?_⟩
  rw [pNt_inverse]
  obtain ⟨hn8, f8⟩ := hn7.put hnt (n' := { n with pts := n.pts ++ [nm], x0 := n.x0 ++ [q], normal := widenM n.normal, inverse := widenM n.inverse }) rfl rfl hn7.x hn7.m h7 hn7.rt hn7.t
  have F8 := (F6.ex e7).trans f8
  refine ⟨_, rfl, N.p, CNt K, dx, _, _, rfl, hn8.ins, T.c_Net, T.n_Net_right, lNt_right, ?_⟩
  intro x0 dx0 nx0 nd0 ne0
  refine mk0' nx0 nd0 ne0 fun H9 e9 r9 => ⟨rfl, by show 1 ≤ sizeLine; decide, fun tq htq => ?_⟩
  have e10 : Ex H9 (upd H9 tq (.tup [.ref x0])) := (Ex.refl _).new htq
  have hn10 := (hn8.ex e9).ex e10
  obtain ⟨ya, yvs, rfl, hya, lya⟩ := hn10.rt
  have hyl := lya.len
  have hr0' : ({ n with pts := n.pts ++ [nm], x0 := n.x0 ++ [q], normal := widenM n.normal, inverse := widenM n.inverse } : Nt Str).right.length = n.pts.length := sz.r
  refine cat_one hya upd_same (by rw [sizeLine_eq]; omega) fun p11 H11 e11 h11 => ?_
  have hn11 := hn10.ex e11
  refine ⟨_, rfl, N.p, CNt K, dx, _, rfl, hn11.ins, T.c_Net, T.n_Net_right, (by show 7 < 1000; decide), ?_⟩
  rw [pNt_right]
  obtain ⟨hn12, f12⟩ := hn11.put hnt (vr' := .ref p11) (n' := ntAddPoint n nm q) rfl rfl hn11.x hn11.m hn11.i ⟨p11, _, rfl, h11, (al_kpR lya e11.kp).append (Al.cons (r9.ex (e10.trans e11)) Al.nil)⟩ hn11.t
  exact k _ ((F8.ex (e9.trans (e10.trans e11))).trans f12) ⟨_, _, _, _, _, _, hn12⟩

/-! ### put, take -/
def spPut (K : PySem.W.Frag) (F : Nt Str → Rg → Prop) (g : Nt Str → Rg → Nt Str) : Sp := fun vs H Q _ => ∃ N n vr r, vs = [.ref (NtA.p N), vr] ∧ IsNt K H N n ∧ IsRd K H vr r ∧ NSz n ∧ (∀ t ∈ r.terms, t.1 ∈ n.pts) ∧ F n r ∧ ∀ H', Fr K N.W H H' → IsNt K H' N (g n r) → Q .non H'
theorem sc_Net_put : FnScope ["self", "reading"] ["self", "reading"] (defScope s_Net_put) := ⟨rfl, rfl, rfl, by decide +kernel, rfl, by decide +kernel, by decide +kernel⟩
theorem m_Net_put (T : Txt K mg) (hN : base.NoSeer) : MDef PP w K mg base CX0 (CNt K) "put" (a_Net_put K) 48 ["self", "reading"] (spPut K FPut ntPut) := by
  obtain ⟨fd, F⟩ := T.d_Net_put
  refine ⟨⟨fd, ok0 F sc_Net_put (fun vs H Q E h => ?_) (fun cdv A outer s H vs Q E hr h => ?_), F.bindsN fun _ _ _ _ _ _ us hl => match us, hl with | [_, _], _ => rfl⟩, T.m_Net_put, T.c_Net⟩
  · obtain ⟨N, n, vr, r, rfl, _⟩ := h
    rfl
  obtain ⟨N, n, vrd, r, rfl, ⟨dx, va, vm, vi, vr, vt, hn⟩, hrd, sz, hts, f, k⟩ := h
  have hnt := ne_nt T
  refine ⟨_, pss_cons (ps_fld (pv 0) (pe_callD (d_with_added_ok T hN) (hr.mono (by decide)) (pa_cons (pe_fld (pv 0) rfl) (pa_cons (pe_fld (pv 0) rfl) (pa_cons (pe_methD (m_Net_row T hN) (hr.mono (by decide)) (pv 0) (pa_cons (pv 1) pa_nil)) (pa_cons (pe_fld (pv 1) rfl) pa_nil))))) rfl)
    (pss_one (ps_expr (pe_methD (m_Net_tally T hN) hr (pv 0) (pa_cons (pv 1) (pa_cons (pe_fld (pv 1) rfl) pa_nil))))), ?_⟩
  have hz := sz.nz
  have hrl := row_len n r
  refine ⟨_, rfl, N.p, CNt K, dx, _, _, rfl, hn.ins, T.c_Net, T.n_Net_normal, lNt_normal, _, rfl, N.p, CNt K, dx, _, _, rfl, hn.ins, T.c_Net, T.n_Net_inverse, lNt_inverse, ?_⟩
  refine ⟨_, rfl, N.p, dx, _, rfl, hn.ins, nNt_row, _, rfl, N, n, vrd, r, rfl, ⟨dx, va, vm, vi, vr, vt, hn⟩, hrd, hts, by omega, fun v1 H1 e1 h1 => ?_⟩
  have hn1 := hn.ex e1
  obtain ⟨p, dp, tv, vv, wv, rfl, hp, h3, h4, h5⟩ := stayRd _ _ _ _ (Ex.kp (K := K) e1) hrd
  refine ⟨_, rfl, p, CRd K, dp, _, _, rfl, hp, T.c_Reading, T.n_Reading_weight, lRd_weight, ?_⟩
  refine ⟨_, _, _, _, n.normal, n.inverse, ntRow n r, r.weight, rfl, hn1.m, hn1.i, h1, h5, f.inv, sz.sm, sz.si, by omega, fun v2 H2 e2 h2 => ?_⟩
  have hn2 := hn1.ex e2
  refine ⟨_, rfl, N.p, CNt K, dx, _, rfl, hn2.ins, T.c_Net, T.n_Net_inverse, (by show 7 < 1000; decide), ?_⟩
  rw [pNt_inverse]
  obtain ⟨hn3, f3⟩ := hn2.put hnt (n' := { n with inverse := withAddedM n.normal n.inverse (ntRow n r) r.weight }) rfl rfl hn2.x hn2.m h2 hn2.rt hn2.t
  have k13 := (e2.kp (K := K)).trans f3.k
  have hp3 := k13 _ _ hp (.inr rfl)
  refine ⟨_, rfl, N.p, dx, _, rfl, hn3.ins, nNt_tally, _, rfl, _, rfl, p, CRd K, dp, _, _, rfl, hp3, T.c_Reading, T.n_Reading_weight, lRd_weight, ?_⟩
  refine ⟨N, _, _, _, r, r.weight, rfl, ⟨_, _, _, _, _, _, hn3⟩, ⟨p, dp, tv, vv, wv, rfl, hp3, stayTms _ _ _ _ k13 h3, h4.kp k13, h5.kp k13⟩, h5.kp k13, nsz_inv sz (rect_added sz.i sz.il sz.ml hrl), hts, ⟨f.t.dot, f.t.dotf, f.t.val, f.t.sh, f.t.add, f.t.ws, f.t.rt, f.t.row, f.t.sr, f.t.tot, f.t.wss⟩, fun H4 f4 h4' => ?_⟩
  exact k _ (((e1.trans e2).fr.trans f3).trans f4) h4'
theorem sc_Net_take : FnScope ["self", "reading"] ["self", "reading"] (defScope s_Net_take) := ⟨rfl, rfl, rfl, by decide +kernel, rfl, by decide +kernel, by decide +kernel⟩
theorem m_Net_take (T : Txt K mg) (hN : base.NoSeer) : MDef PP w K mg base CX0 (CNt K) "take" (a_Net_take K) 48 ["self", "reading"] (spPut K FTake ntTake) := by
  obtain ⟨fd, F⟩ := T.d_Net_take
  refine ⟨⟨fd, ok0 F sc_Net_take (fun vs H Q E h => ?_) (fun cdv A outer s H vs Q E hr h => ?_), F.bindsN fun _ _ _ _ _ _ us hl => match us, hl with | [_, _], _ => rfl⟩, T.m_Net_take, T.c_Net⟩
  · obtain ⟨N, n, vr, r, rfl, _⟩ := h
    rfl
  obtain ⟨N, n, vrd, r, rfl, ⟨dx, va, vm, vi, vr, vt, hn⟩, hrd, sz, hts, f, k⟩ := h
  have hnt := ne_nt T
  refine ⟨_, pss_cons (ps_fld (pv 0) (pe_callD (d_with_removed_ok T hN) (hr.mono (by decide)) (pa_cons (pe_fld (pv 0) rfl) (pa_cons (pe_fld (pv 0) rfl) (pa_cons (pe_methD (m_Net_row T hN) (hr.mono (by decide)) (pv 0) (pa_cons (pv 1) pa_nil)) (pa_cons (pe_fld (pv 1) rfl) pa_nil))))) rfl)
    (pss_one (ps_expr (pe_methD (m_Net_tally T hN) hr (pv 0) (pa_cons (pv 1) (pa_cons (pe_un (un_R (m_Ratio_neg T hN) (hr.mono (by decide))) (pe_fld (pv 1) rfl)) pa_nil))))), ?_⟩
  have hz := sz.nz
  have hrl := row_len n r
  refine ⟨_, rfl, N.p, CNt K, dx, _, _, rfl, hn.ins, T.c_Net, T.n_Net_normal, lNt_normal, _, rfl, N.p, CNt K, dx, _, _, rfl, hn.ins, T.c_Net, T.n_Net_inverse, lNt_inverse, ?_⟩
  refine ⟨_, rfl, N.p, dx, _, rfl, hn.ins, nNt_row, _, rfl, N, n, vrd, r, rfl, ⟨dx, va, vm, vi, vr, vt, hn⟩, hrd, hts, by omega, fun v1 H1 e1 h1 => ?_⟩
  have hn1 := hn.ex e1
  obtain ⟨p, dp, tv, vv, wv, rfl, hp, h3, h4, h5⟩ := stayRd _ _ _ _ (Ex.kp (K := K) e1) hrd
  refine ⟨_, rfl, p, CRd K, dp, _, _, rfl, hp, T.c_Reading, T.n_Reading_weight, lRd_weight, ?_⟩
  refine ⟨_, _, _, _, n.inverse, ntRow n r, r.weight, rfl, hn1.i, h1, h5, f.inv, sz.si, fun v2 H2 e2 h2 => ?_⟩
  have hn2 := hn1.ex e2
  refine ⟨_, rfl, N.p, CNt K, dx, _, rfl, hn2.ins, T.c_Net, T.n_Net_inverse, (by show 7 < 1000; decide), ?_⟩
  rw [pNt_inverse]
  obtain ⟨hn3, f3⟩ := hn2.put hnt (n' := { n with inverse := withRemovedM n.inverse (ntRow n r) r.weight }) rfl rfl hn2.x hn2.m h2 hn2.rt hn2.t
  have k13 := (e2.kp (K := K)).trans f3.k
  have hp3 := k13 _ _ hp (.inr rfl)
  refine ⟨_, rfl, N.p, dx, _, rfl, hn3.ins, nNt_tally, _, rfl, _, rfl, p, CRd K, dp, _, _, rfl, hp3, T.c_Reading, T.n_Reading_weight, lRd_weight, ?_⟩
  refine ⟨r.weight, h5.kp k13, fun v4 H4 e4 h4n => ?_⟩
  have hn4 := hn3.ex e4
  have k14 := k13.trans (e4.kp (K := K))
  refine ⟨N, _, _, _, r, -r.weight, rfl, ⟨_, _, _, _, _, _, hn4⟩, ⟨p, dp, tv, vv, wv, rfl, k14 _ _ hp (.inr rfl), stayTms _ _ _ _ k14 h3, h4.kp k14, h5.kp k14⟩, h4n, nsz_inv sz (rect_removed sz.i sz.il), hts, ⟨f.t.dot, f.t.dotf, f.t.val, f.t.sh, f.t.add, f.t.ws, f.t.rt, f.t.row, f.t.sr, f.t.tot, f.t.wss⟩, fun H5 f5 h5' => ?_⟩
  exact k _ ((((e1.trans e2).fr.trans f3).ex e4).trans f5) h5'
end
end Pn
set_option maxHeartbeats 4000000
/-! Net: add, withdraw, change_value, change_weight -/
namespace Pn
open PySem PySem.Spec PyProof.Rows L2
section
variable {w : World} {K : PySem.W.Frag} {mg : Str → Option Value} {base : Heap}
def spNAdd (K : PySem.W.Frag) : Sp := fun vs H Q _ => ∃ N n vr r, vs = [.ref (NtA.p N), vr] ∧ IsNt K H N n ∧ IsRd K H vr r ∧ NSz n ∧ (∀ t ∈ r.terms, t.1 ∈ n.pts) ∧ r.name ∉ n.rds.map (·.name) ∧ n.rds.length ≠ 24 ∧ FPut n r ∧ ∀ H', Fr K N.W H H' → IsNt K H' N (ntAdd n r) → Q .non H'
abbrev nNAdd : List Str := ["self", "reading", "other", "name", "_"]
theorem sc_Net_add : FnScope nNAdd ["self", "reading"] (defScope s_Net_add) := ⟨rfl, rfl, rfl, by decide +kernel, rfl, by decide +kernel, by decide +kernel⟩
theorem m_Net_add (T : Txt K mg) (hN : base.NoSeer) : MDef PP w K mg base CX0 (CNt K) "add" (a_Net_add K) 49 ["self", "reading"] (spNAdd K) := by
  obtain ⟨fd, F⟩ := T.d_Net_add
  refine ⟨⟨fd, ok0 F sc_Net_add (fun vs H Q E h => ?_) (fun cdv A outer s H vs Q E hr h => ?_), F.bindsN fun _ _ _ _ _ _ us hl => match us, hl with | [_, _], _ => rfl⟩, T.m_Net_add, T.c_Net⟩
  · obtain ⟨N, n, vr, r, rfl, _⟩ := h
    rfl
  obtain ⟨N, n, _, r, rfl, ⟨dx, va, vm, vi, vr, vt, hn⟩, ⟨p, dp, _, vv, wv, rfl, hp, ⟨tp, vts, rfl, htp, lt⟩, h4, h5⟩, sz, hts, hnm, h24, f, k⟩ := h
  have nd := sc_Net_add.nd
  refine ⟨_, pss_cons (ps_for PassesOwn.never rfl (pi_list (pe_fld (pv 0) rfl)) (pg_name (i := 2) nd rfl (Or.inl rfl)) (pss_one (ps_if (pt_cmpR op_eq (pe_fld (pv 2) rfl) (pe_fld (pv 1) rfl) (nomark _)) (pss_one ps_never) pss_nil)))
    (pss_cons (ps_for PassesOwn.never rfl (pi_tup (pe_fld (pv 1) rfl)) (pg_tup rfl (pgs_cons (pg_name (i := 3) nd rfl (Or.inl rfl)) (pgs_cons (pg_name (i := 4) nd rfl (Or.inl rfl)) pgs_nil)))
      (pss_one (ps_if (pt_cmpR op_notIn_seq (pv 3) (pe_fld (pv 0) rfl) (by rfl)) (pss_one ps_never) pss_nil)))
    (pss_cons (ps_if (pt_cmpR op_eq (pe_callB call_len_seq (by rfl) T.f_len boot_len (pa_cons (pe_fld (pv 0) rfl) pa_nil)) (pe_gi T.i_MOST_READINGS_adjust) (nomark _)) (pss_one ps_never) pss_nil)
    (pss_cons (ps_expr (pe_methD (m_Net_put T hN) hr (pv 0) (pa_cons (pv 1) pa_nil)))
    (pss_one (ps_expr (pe_bm PySem.F.plainAttrs_list PySem.F.slot_list_append PySem.F.type_list_append mt_append (pe_fld (pv 0) rfl) (pa_cons (pv 1) pa_nil))))))), ?_⟩
  obtain ⟨vrd, hvr, alr⟩ := hn.r
  have hlr := alr.len
  have hlt := lt.len
  have hrz := sz.rz
  refine ⟨_, rfl, N.p, CNt K, dx, _, _, rfl, hn.ins, T.c_Net, T.n_Net_readings, lNt_readings, N.pr, rfl, ⟨_, SqL.of' hvr⟩, for_it (walk_list (xs := vrd)) (fun i σ H' => Ex H H' ∧ (∃ o2, σ = [some (.ref N.p), some (.ref p), o2, none, none]))
    ⟨Ex.refl _, ⟨_, rfl⟩⟩ (fun i σ H' _ q => SqL.of' (q.1 _ _ hvr)) ?_ ?_⟩
  · rintro i z σ H2 H3 hi ⟨e, ⟨o2, rfl⟩⟩ ⟨rfl, hx⟩
    obtain ⟨r', hr0, p', dx', tv', vv', wv', rfl, hp', _, _, _⟩ := alr.get hx
    have hne : r'.name ≠ r.name := fun z => hnm (List.mem_map.mpr ⟨r', List.mem_of_getElem? hr0, z⟩)
    refine ⟨_, rfl, p', CRd K, dx', _, _, rfl, e _ _ hp', T.c_Reading, T.n_Reading_name, lRd_name, _, rfl, p, CRd K, dp, _, _, rfl, e _ _ hp, T.c_Reading, T.n_Reading_name, lRd_name, rfl, _, rfl, ?_⟩
    rw [decide_eq_false (fun z => hne (by injection z))]
    exact iteF ⟨e, ⟨_, rfl⟩⟩
  rintro σ H2 ⟨e, ⟨o2, rfl⟩⟩
  refine ⟨_, rfl, p, CRd K, dp, _, _, rfl, e _ _ hp, T.c_Reading, T.n_Reading_terms, lRd_terms, tp, rfl, ⟨_, SqT.of' (e _ _ htp)⟩, for_it (walk_tup (xs := vts)) (fun i σ H' => Ex H H' ∧ (∃ o2 o3 o4, σ = [some (.ref N.p), some (.ref p), o2, o3, o4]))
    ⟨e, ⟨_, _, _, rfl⟩⟩ (fun i σ H' _ q => SqT.of' (q.1 _ _ htp)) ?_ ?_⟩
  · rintro i z σ H3 H4 hi ⟨e3, ⟨o2, o3, o4, rfl⟩⟩ ⟨rfl, hx⟩
    obtain ⟨t, ht, q, rfl, hq⟩ := lt.get hx
    have htm := hts t (List.mem_of_getElem? ht)
    refine ⟨q, _, rfl, SqT.of' (e3 _ _ hq), rfl, _, _, rfl, _, _, rfl, rfl, ?_⟩
    refine ⟨_, rfl, _, rfl, N.p, CNt K, dx, _, _, rfl, e3 _ _ hn.ins, T.c_Net, T.n_Net_points, lNt_points, N.pl, _, rfl, .inl (SqL.of' (e3 _ _ hn.l)), rfl, flat_sVs _, _, rfl, ?_⟩
    show (if (if (true : Bool) = true then !inV (.str t.1) (sVs n.pts) else inV (.str t.1) (sVs n.pts)) = true then _ else _)
    rw [if_pos rfl, in_sVs, decide_eq_true htm]
    exact iteF ⟨e3, ⟨_, _, _, rfl⟩⟩
  rintro σ H3 ⟨e3, ⟨o2', o3, o4, rfl⟩⟩
  refine ⟨_, rfl, N.p, CNt K, dx, _, _, rfl, e3 _ _ hn.ins, T.c_Net, T.n_Net_readings, lNt_readings, N.pr, _, rfl, .inl (SqL.of' (e3 _ _ hvr)), rfl, _, rfl, ?_⟩
  rw [decide_eq_false (fun z => h24 (by injection z with z; omega))]
  refine iteF ?_
  refine ⟨_, rfl, N.p, dx, _, rfl, e3 _ _ hn.ins, nNt_put, _, rfl, N, n, _, r, rfl, ⟨_, _, _, _, _, _, hn.ex e3⟩, ⟨p, dp, _, vv, wv, rfl, e3 _ _ hp, ⟨tp, vts, rfl, e3 _ _ htp, al_kp stayTm lt (Ex.kp (K := K) e3)⟩, h4.ex e3, h5.ex e3⟩, sz, hts, f, fun H4 f4 h4' => ?_⟩
  obtain ⟨dx4, va4, vm4, vi4, vr4, vt4, hn4⟩ := h4'
  have f04 := (e3.fr (K := K)).trans f4
  obtain ⟨vrd4, hvr4, alr4⟩ := hn4.r
  have hlr4 := alr4.len
  have hlr4' : vrd4.length = n.rds.length := hlr4
  refine ⟨_, rfl, N.p, CNt K, dx4, _, _, rfl, hn4.ins, T.c_Net, T.n_Net_readings, lNt_readings, .inl ⟨rfl, _, SqL.of' hvr4⟩, _, rfl, N.pr, vrd4, _, rfl, rfl, hvr4, by rw [sizeLine_eq]; omega, ?_⟩
  have kp4 := f04.k
  have rd4 : IsRd K H4 (.ref p) r := ⟨p, dp, _, vv, wv, rfl, kp4 _ _ hp (.inr rfl), ⟨tp, vts, rfl, kp4 _ _ htp trivial, al_kp stayTm lt kp4⟩, h4.kp kp4, h5.kp kp4⟩
  obtain ⟨hn5, f5⟩ := hn4.setR (rds' := n.rds ++ [r]) (alr4.append (Al.cons rd4 Al.nil))
  exact k _ (f04.trans f5) ⟨_, _, _, _, _, _, hn5⟩

/-! ### withdraw -/
def spNWd (K : PySem.W.Frag) : Sp := fun vs H Q _ => ∃ N n nm i r, vs = [.ref (NtA.p N), .str nm] ∧ IsNt K H N n ∧ NSz n ∧ placeOf n.rds nm = some i ∧ n.rds[i]? = some r ∧ FTake n r ∧ ∀ H', Fr K N.W H H' → IsNt K H' N (ntWithdrawAt n i r) → Q .non H'
theorem sc_Net_withdraw : FnScope ["self", "name", "place"] ["self", "name"] (defScope s_Net_withdraw) := ⟨rfl, rfl, rfl, by decide +kernel, rfl, by decide +kernel, by decide +kernel⟩
theorem m_Net_withdraw (T : Txt K mg) (hN : base.NoSeer) : MDef PP w K mg base CX0 (CNt K) "withdraw" (a_Net_withdraw K) 49 ["self", "name"] (spNWd K) := by
  obtain ⟨fd, F⟩ := T.d_Net_withdraw
  refine ⟨⟨fd, ok0 F sc_Net_withdraw (fun vs H Q E h => ?_) (fun cdv A outer s H vs Q E hr h => ?_), F.bindsN fun _ _ _ _ _ _ us hl => match us, hl with | [_, _], _ => rfl⟩, T.m_Net_withdraw, T.c_Net⟩
  · obtain ⟨N, n, nm, i, r, rfl, _⟩ := h
    rfl
  obtain ⟨N, n, nm, i, r, rfl, ⟨dx, va, vm, vi, vr, vt, hn⟩, sz, hpl, hri, f, k⟩ := h
  have nd := sc_Net_withdraw.nd
  refine ⟨_, pss_cons (ps_set (i := 2) nd rfl (Or.inl rfl) (pe_methD (m_Net_place_of T) (hr.mono (by decide)) (pv 0) (pa_cons (pv 1) pa_nil)))
    (pss_cons (ps_expr (pe_methD (m_Net_take T hN) hr (pv 0) (pa_cons (pe_ix ix_list (pe_fld (pv 0) rfl) (pv 2) (fun _ _ => rfl)) pa_nil)))
    (pss_one (ps_delL (pe_fld (pv 0) rfl) (pv 2)))), ?_⟩
  refine ⟨_, rfl, N.p, dx, _, rfl, hn.ins, nNt_place_of, _, rfl, N, n, nm, i, rfl, ⟨_, _, _, _, _, _, hn⟩, hpl, fun H1 e1 => ?_⟩
  have hn1 := hn.ex e1
  obtain ⟨vrd, hvr, alr⟩ := hn1.r
  obtain ⟨v, hv, rv⟩ := alr.get' hri
  have hts := sz.rt r (List.mem_of_getElem? hri)
  refine ⟨_, rfl, N.p, dx, _, rfl, hn1.ins, nNt_take, _, rfl, N.p, CNt K, dx, _, _, rfl, hn1.ins, T.c_Net, T.n_Net_readings, lNt_readings, _, rfl, N.pr, vrd, _, v, rfl, rfl, SqL.of' hvr, atI_nat hv, ?_⟩
  refine ⟨N, n, v, r, rfl, ⟨_, _, _, _, _, _, hn1⟩, rv, sz, hts, f, fun H2 f2 h2 => ?_⟩
  obtain ⟨dx2, va2, vm2, vi2, vr2, vt2, hn2⟩ := h2
  obtain ⟨vrd2, hvr2, alr2⟩ := hn2.r
  have hlr2 : vrd2.length = n.rds.length := alr2.len
  have hil : i < n.rds.length := (List.getElem?_eq_some_iff.mp hri).1
  have hrz := sz.rz
  refine ⟨_, rfl, N.p, CNt K, dx2, _, _, rfl, hn2.ins, T.c_Net, T.n_Net_readings, lNt_readings, _, rfl, N.pr, vrd2, _, i, rfl, rfl, hvr2, by omega, by omega, (ixN_seq (ixN_n (by omega))).1, ?_⟩
  obtain ⟨hn3, f3⟩ := hn2.setR (rds' := n.rds.eraseIdx i) (al_erase i alr2)
  exact k _ ((e1.fr.trans f2).trans f3) ⟨_, _, _, _, _, _, hn3⟩

/-! ### change_value, change_weight -/
def spNCV (K : PySem.W.Frag) : Sp := fun vs H Q _ => ∃ N n nm i r vq q, vs = [.ref (NtA.p N), .str nm, vq] ∧ IsNt K H N n ∧ IsR K H vq q ∧ NSz n ∧ placeOf n.rds nm = some i ∧ n.rds[i]? = some r ∧ FValue n r q ∧ ∀ H', Fr K N.W H H' → IsNt K H' N (ntValueAt n i r q) → Q .non H'
abbrev nNCV : List Str := ["self", "name", "value", "place", "old", "new"]
theorem sc_Net_change_value : FnScope nNCV ["self", "name", "value"] (defScope s_Net_change_value) := ⟨rfl, rfl, rfl, by decide +kernel, rfl, by decide +kernel, by decide +kernel⟩
theorem m_Net_change_value (T : Txt K mg) (hN : base.NoSeer) : MDef PP w K mg base CX0 (CNt K) "change_value" (a_Net_change_value K) 48 ["self", "name", "value"] (spNCV K) := by
  obtain ⟨fd, F⟩ := T.d_Net_change_value
  refine ⟨⟨fd, ok0 F sc_Net_change_value (fun vs H Q E h => ?_) (fun cdv A outer s H vs Q E hr h => ?_), F.bindsN fun _ _ _ _ _ _ us hl => match us, hl with | [_, _, _], _ => rfl⟩, T.m_Net_change_value, T.c_Net⟩
  · obtain ⟨N, n, nm, i, r, vq, q, rfl, _⟩ := h
    rfl
  obtain ⟨N, n, nm, i, r, vq, q, rfl, ⟨dx, va, vm, vi, vr, vt, hn⟩, hq, sz, hpl, hri, f, k⟩ := h
  have nd := sc_Net_change_value.nd
  refine ⟨_, pss_cons (ps_set (i := 3) nd rfl (Or.inl rfl) (pe_methD (m_Net_place_of T) (hr.mono (by decide)) (pv 0) (pa_cons (pv 1) pa_nil)))
    (pss_cons (ps_set (i := 4) nd rfl (Or.inl rfl) (pe_ix ix_list (pe_fld (pv 0) rfl) (pv 3) (fun _ _ => rfl)))
    (pss_cons (ps_set (i := 5) nd rfl (Or.inl rfl) (pe_makeD (k_Reading T) (hr.mono (by decide)) (pa_cons (pe_fld (pv 4) rfl) (pa_cons (pe_fld (pv 4) rfl) (pa_cons (pv 2) (pa_cons (pe_fld (pv 4) rfl) pa_nil))))))
    (pss_cons (ps_expr (pe_methD (m_Net_tally T hN) hr (pv 0) (pa_cons (pv 4) (pa_cons (pe_un (un_R (m_Ratio_neg T hN) (hr.mono (by decide))) (pe_fld (pv 4) rfl)) pa_nil))))
    (pss_cons (ps_expr (pe_methD (m_Net_tally T hN) hr (pv 0) (pa_cons (pv 5) (pa_cons (pe_fld (pv 5) rfl) pa_nil))))
    (pss_one (ps_asg (pv 5) (pg_sub (pe_fld (pv 0) rfl) (pv 3) set_list))))))), ?_⟩
  refine ⟨_, rfl, N.p, dx, _, rfl, hn.ins, nNt_place_of, _, rfl, N, n, nm, i, rfl, ⟨_, _, _, _, _, _, hn⟩, hpl, fun H1 e1 => ?_⟩
  have hn1 := hn.ex e1
  obtain ⟨vrd, hvr, alr⟩ := hn1.r
  obtain ⟨v, hv, p, dp, tv, vv, wv, rfl, hp, h3, h4, h5⟩ := alr.get' hri
  have hts := sz.rt r (List.mem_of_getElem? hri)
  have hil : i < n.rds.length := (List.getElem?_eq_some_iff.mp hri).1
  refine ⟨_, rfl, N.p, CNt K, dx, _, _, rfl, hn1.ins, T.c_Net, T.n_Net_readings, lNt_readings, _, rfl, N.pr, vrd, _, .ref p, rfl, rfl, SqL.of' hvr, atI_nat hv, ?_⟩
  refine ⟨_, rfl, p, CRd K, dp, _, _, rfl, hp, T.c_Reading, T.n_Reading_name, lRd_name, _, rfl, p, CRd K, dp, _, _, rfl, hp, T.c_Reading, T.n_Reading_terms, lRd_terms, _, rfl, _, rfl, p, CRd K, dp, _, _, rfl, hp, T.c_Reading, T.n_Reading_weight, lRd_weight, ?_⟩
  intro x0 dx0 nx0 nd0 ne0
  refine mkRd' nx0 nd0 ne0 h3 (hq.ex e1) h5 fun H2 e2 r2 => ⟨rfl, ?_⟩
  have hn2 := hn1.ex e2
  have hp2 := e2 _ _ hp
  refine ⟨_, rfl, N.p, dx, _, rfl, hn2.ins, nNt_tally, _, rfl, _, rfl, p, CRd K, dp, _, _, rfl, hp2, T.c_Reading, T.n_Reading_weight, lRd_weight, ?_⟩
  refine ⟨r.weight, h5.ex e2, fun v3 H3 e3 hw3 => ?_⟩
  have hn3 := hn2.ex e3
  have r3 := stayRd _ _ _ _ (Ex.kp (K := K) e3) r2
  refine ⟨N, n, _, _, r, -r.weight, rfl, ⟨_, _, _, _, _, _, hn3⟩, ⟨p, dp, tv, vv, wv, rfl, e3 _ _ hp2, stayTms _ _ _ _ (Ex.kp (K := K) (e2.trans e3)) h3, h4.ex (e2.trans e3), h5.ex (e2.trans e3)⟩, hw3, sz, hts, f.1, fun H4 f4 h4' => ?_⟩
  obtain ⟨dx4, va4, vm4, vi4, vr4, vt4, hn4⟩ := h4'
  have r4 := stayRd _ _ _ _ f4.k r3
  obtain ⟨p', dp', tv', vv', wv', ep', hp', h3', h4'', h5'⟩ := id r4
  cases ep'
  refine ⟨_, rfl, N.p, dx4, _, rfl, hn4.ins, nNt_tally, _, rfl, _, rfl, x0, CRd K, dp', _, _, rfl, hp', T.c_Reading, T.n_Reading_weight, lRd_weight, ?_⟩
  refine ⟨N, _, _, _, { r with value := q }, r.weight, rfl, ⟨_, _, _, _, _, _, hn4⟩, r4, h5', nsz_tally sz, hts, f.2, fun H5 f5 h5n => ?_⟩
  obtain ⟨dx5, va5, vm5, vi5, vr5, vt5, hn5⟩ := h5n
  obtain ⟨vrd5, hvr5, alr5⟩ := hn5.r
  have hlr5 : vrd5.length = n.rds.length := alr5.len
  refine ⟨_, rfl, _, rfl, N.p, CNt K, dx5, _, _, rfl, hn5.ins, T.c_Net, T.n_Net_readings, lNt_readings, _, rfl, N.pr, vrd5, _, i, rfl, rfl, hvr5, ixN_n (by omega), ?_⟩
  obtain ⟨hn6, f6⟩ := hn5.setR (rds' := n.rds.set i { r with value := q }) (alr5.set i (stayRd _ _ _ _ f5.k r4))
  exact k _ (((((e1.trans e2).trans e3).fr.trans f4).trans f5).trans f6) ⟨_, _, _, _, _, _, hn6⟩
def spNCW (K : PySem.W.Frag) : Sp := fun vs H Q _ => ∃ N n nm i r vq q, vs = [.ref (NtA.p N), .str nm, vq] ∧ IsNt K H N n ∧ IsR K H vq q ∧ NSz n ∧ placeOf n.rds nm = some i ∧ n.rds[i]? = some r ∧ 0 < q.num ∧ FWeight n r q ∧ ∀ H', Fr K N.W H H' → IsNt K H' N (ntWeightAt n i r q) → Q .non H'
abbrev nNCW : List Str := ["self", "name", "weight", "place", "old", "new"]
theorem sc_Net_change_weight : FnScope nNCW ["self", "name", "weight"] (defScope s_Net_change_weight) := ⟨rfl, rfl, rfl, by decide +kernel, rfl, by decide +kernel, by decide +kernel⟩
theorem m_Net_change_weight (T : Txt K mg) (hN : base.NoSeer) : MDef PP w K mg base CX0 (CNt K) "change_weight" (a_Net_change_weight K) 49 ["self", "name", "weight"] (spNCW K) := by
  obtain ⟨fd, F⟩ := T.d_Net_change_weight
  refine ⟨⟨fd, ok0 F sc_Net_change_weight (fun vs H Q E h => ?_) (fun cdv A outer s H vs Q E hr h => ?_), F.bindsN fun _ _ _ _ _ _ us hl => match us, hl with | [_, _, _], _ => rfl⟩, T.m_Net_change_weight, T.c_Net⟩
  · obtain ⟨N, n, nm, i, r, vq, q, rfl, _⟩ := h
    rfl
  obtain ⟨N, n, nm, i, r, _, q, rfl, ⟨dx, va, vm, vi, vr, vt, hn⟩, ⟨aq, dq, rfl, hq⟩, sz, hpl, hri, hpos, f, k⟩ := h
  have nd := sc_Net_change_weight.nd
  refine ⟨_, pss_cons (ps_set (i := 3) nd rfl (Or.inl rfl) (pe_methD (m_Net_place_of T) (hr.mono (by decide)) (pv 0) (pa_cons (pv 1) pa_nil)))
    (pss_cons (ps_if (pt_cmpR op_le (pe_fld (pv 2) rfl) pe_int (nomark _)) (pss_one ps_never) pss_nil)
    (pss_cons (ps_set (i := 4) nd rfl (Or.inl rfl) (pe_ix ix_list (pe_fld (pv 0) rfl) (pv 3) (fun _ _ => rfl)))
    (pss_cons (ps_set (i := 5) nd rfl (Or.inl rfl) (pe_makeD (k_Reading T) (hr.mono (by decide)) (pa_cons (pe_fld (pv 4) rfl) (pa_cons (pe_fld (pv 4) rfl) (pa_cons (pe_fld (pv 4) rfl) (pa_cons (pv 2) pa_nil))))))
    (pss_cons (ps_expr (pe_methD (m_Net_take T hN) hr (pv 0) (pa_cons (pv 4) pa_nil)))
    (pss_cons (ps_expr (pe_methD (m_Net_put T hN) hr (pv 0) (pa_cons (pv 5) pa_nil)))
    (pss_one (ps_asg (pv 5) (pg_sub (pe_fld (pv 0) rfl) (pv 3) set_list)))))))), ?_⟩
  refine ⟨_, rfl, N.p, dx, _, rfl, hn.ins, nNt_place_of, _, rfl, N, n, nm, i, rfl, ⟨_, _, _, _, _, _, hn⟩, hpl, fun H1 e1 => ?_⟩
  have hn1 := hn.ex e1
  obtain ⟨vrd, hvr, alr⟩ := hn1.r
  obtain ⟨v, hv, p, dp, tv, vv, wv, rfl, hp, h3, h4, h5⟩ := alr.get' hri
  have hts := sz.rt r (List.mem_of_getElem? hri)
  have hil : i < n.rds.length := (List.getElem?_eq_some_iff.mp hri).1
  have hq1 := e1 _ _ hq
  refine ⟨_, rfl, aq, CRt K, dq, _, _, rfl, hq1, T.c_Ratio, T.n_Ratio_top, rf_top _ _, _, _, rfl, rfl, _, rfl, ?_⟩
  rw [decide_eq_false (by omega)]
  refine iteF ?_
  refine ⟨_, rfl, N.p, CNt K, dx, _, _, rfl, hn1.ins, T.c_Net, T.n_Net_readings, lNt_readings, _, rfl, N.pr, vrd, _, .ref p, rfl, rfl, SqL.of' hvr, atI_nat hv, ?_⟩
  refine ⟨_, rfl, p, CRd K, dp, _, _, rfl, hp, T.c_Reading, T.n_Reading_name, lRd_name, _, rfl, p, CRd K, dp, _, _, rfl, hp, T.c_Reading, T.n_Reading_terms, lRd_terms, _, rfl, p, CRd K, dp, _, _, rfl, hp, T.c_Reading, T.n_Reading_value, lRd_value, _, rfl, ?_⟩
  intro x0 dx0 nx0 nd0 ne0
  refine mkRd' nx0 nd0 ne0 h3 h4 ⟨aq, dq, rfl, hq1⟩ fun H2 e2 r2 => ⟨rfl, ?_⟩
  have hn2 := hn1.ex e2
  have hp2 := e2 _ _ hp
  refine ⟨_, rfl, N.p, dx, _, rfl, hn2.ins, nNt_take, _, rfl, ?_⟩
  refine ⟨N, n, _, r, rfl, ⟨_, _, _, _, _, _, hn2⟩, ⟨p, dp, tv, vv, wv, rfl, hp2, stayTms _ _ _ _ (Ex.kp (K := K) e2) h3, h4.ex e2, h5.ex e2⟩, sz, hts, f.1, fun H4 f4 h4' => ?_⟩
  obtain ⟨dx4, va4, vm4, vi4, vr4, vt4, hn4⟩ := h4'
  have r4 := stayRd _ _ _ _ f4.k r2
  refine ⟨_, rfl, N.p, dx4, _, rfl, hn4.ins, nNt_put, _, rfl, ?_⟩
  refine ⟨N, _, _, { r with weight := q }, rfl, ⟨_, _, _, _, _, _, hn4⟩, r4, nsz_take sz, hts, f.2, fun H5 f5 h5n => ?_⟩
  obtain ⟨dx5, va5, vm5, vi5, vr5, vt5, hn5⟩ := h5n
  obtain ⟨vrd5, hvr5, alr5⟩ := hn5.r
  have hlr5 : vrd5.length = n.rds.length := alr5.len
  refine ⟨_, rfl, _, rfl, N.p, CNt K, dx5, _, _, rfl, hn5.ins, T.c_Net, T.n_Net_readings, lNt_readings, _, rfl, N.pr, vrd5, _, i, rfl, rfl, hvr5, ixN_n (by omega), ?_⟩
  obtain ⟨hn6, f6⟩ := hn5.setR (rds' := n.rds.set i { r with weight := q }) (alr5.set i (stayRd _ _ _ _ f5.k r4))
  exact k _ ((((e1.trans e2).fr.trans f4).trans f5).trans f6) ⟨_, _, _, _, _, _, hn6⟩
end
end Pn
set_option maxHeartbeats 4000000
/-! Net: rows, heights, misfits, squares, rank, paper -/
namespace Pn
open PySem PySem.Spec PyProof.Rows L2
section
variable {w : World} {K : PySem.W.Frag} {mg : Str → Option Value} {base : Heap}
/-- a look at a net -/
def spLook (K : PySem.W.Frag) (F : Nt Str → Prop) (R : Hp → V → Nt Str → Prop) : Sp := fun vs H Q _ => ∃ N n, vs = [.ref (NtA.p N)] ∧ IsNt K H N n ∧ NSz n ∧ F n ∧ ∀ v H', Ex H H' → R H' v n → Q v H'
theorem len1 {F : Nt Str → Prop} {R : Hp → V → Nt Str → Prop} : ∀ vs H Q E, spLook K F R vs H Q E → vs.length = 1 := fun vs H Q E h => by
  obtain ⟨N, n, rfl, _⟩ := h
  rfl
theorem sc_Net_rows : FnScope ["self", "reading"] ["self"] (defScope s_Net_rows) := ⟨rfl, rfl, rfl, by decide +kernel, rfl, by decide +kernel, by decide +kernel⟩
theorem m_Net_rows (T : Txt K mg) (hN : base.NoSeer) : MDef PP w K mg base CX0 (CNt K) "rows" (a_Net_rows K) 44 ["self"] (spLook K (fun _ => True) fun H v n => IsM K H v (ntRows n)) := by
  obtain ⟨fd, F⟩ := T.d_Net_rows
  refine ⟨⟨fd, ok0 F sc_Net_rows len1 (fun cdv A outer s H vs Q E hr h => ?_), F.bindsN fun _ _ _ _ _ _ us hl => match us, hl with | [_], _ => rfl⟩, T.m_Net_rows, T.c_Net⟩
  obtain ⟨N, n, rfl, ⟨dx, va, vm, vi, vr, vt, hn⟩, sz, _, k⟩ := h
  have nd := sc_Net_rows.nd
  refine ⟨_, pss_one (ps_ret (pe_callTy call_tuple_of (by rfl) T.f_tuple boot_tuple (pa_cons (pe_lc (own := [("reading", 1)]) (g := gName 1) (tt := tYes) (te := tMeth (CNt K) "row" (spRow K) [] E0 (tVar 0) (tCons (tVar 1) tNil)) rfl nd (pi_list (pe_fld (pv 0) rfl)) (blkOk_by (N := ["self", "reading"]) (sc := defScope s_Net_rows) (by decide +kernel))
    (fun _ _ _ _ _ => pg_name (i := 1) nd rfl (Or.inl rfl)) (fun _ _ _ _ _ => pts_nil) (fun _ _ _ _ _ => pe_methD (m_Net_row T hN) hr (pv 0) (pa_cons (pv 1) pa_nil))) pa_nil))), ?_⟩
  obtain ⟨vrd, hvr, alr⟩ := hn.r
  have hlr := alr.len
  have hrz := sz.rz
  have hz := sz.nz
  refine ⟨_, rfl, N.p, CNt K, dx, _, _, rfl, hn.ins, T.c_Net, T.n_Net_readings, lNt_readings, N.pr, rfl, ⟨_, SqL.of' hvr⟩, fun D hD => ?_⟩
  refine lc_al (K := K) (walk_list (xs := vrd)) stayV (ntRows n) (by unfold ntRows; rw [List.length_map]; exact hlr) (by omega) hD (fun H1 e => SqL.of' (e _ _ hvr)) yat_ex ?_ ?_
  · rintro i z y H1 H2 hi hy e1 ⟨rfl, hx⟩ Rk kk
    obtain ⟨r, hr0, rv⟩ := alr.get hx
    have ey : y = ntRow n r := by
      unfold ntRows at hy
      rw [List.getElem?_map, hr0] at hy
      exact (Option.some.inj hy).symm
    subst ey
    refine ⟨rfl, _, rfl, N.p, dx, _, rfl, e1 _ _ hn.ins, nNt_row, _, rfl, N, n, _, r, rfl, ⟨_, _, _, _, _, _, hn.ex e1⟩, stayRd _ _ _ _ (Ex.kp (K := K) e1) rv, sz.rt r (List.mem_of_getElem? hr0), by omega, fun v H4 e4 h4 => kk v H4 e4 h4⟩
  · intro H1 acc e1 h1 hal
    exact ⟨D, acc, rfl, .inl ⟨SqL.of' h1, fun l hl => k _ _ (e1.new hl) ⟨l, acc, rfl, upd_same, al_kp stayV hal (Kp.refl.new hl)⟩⟩⟩
theorem sc_Net_heights : FnScope ["self"] ["self"] (defScope s_Net_heights) := ⟨rfl, rfl, rfl, by decide +kernel, rfl, by decide +kernel, by decide +kernel⟩
theorem m_Net_heights (T : Txt K mg) (hN : base.NoSeer) : MDef PP w K mg base CX0 (CNt K) "heights" (a_Net_heights K) 46 ["self"] (spLook K FLook fun H v n => IsV K H v (ntHeights n)) := by
  obtain ⟨fd, F⟩ := T.d_Net_heights
  refine ⟨⟨fd, ok0 F sc_Net_heights len1 (fun cdv A outer s H vs Q E hr h => ?_), F.bindsN fun _ _ _ _ _ _ us hl => match us, hl with | [_], _ => rfl⟩, T.m_Net_heights, T.c_Net⟩
  obtain ⟨N, n, rfl, ⟨dx, va, vm, vi, vr, vt, hn⟩, sz, f, k⟩ := h
  refine ⟨_, pss_one (ps_ret (pe_callD (d_plus_ok T hN) (hr.mono (by decide)) (pa_cons (pe_fld (pv 0) rfl) (pa_cons (pe_callD (d_apply_ok T hN) hr (pa_cons (pe_fld (pv 0) rfl) (pa_cons (pe_fld (pv 0) rfl) pa_nil))) pa_nil)))), ?_⟩
  have hz := sz.nz
  refine ⟨_, rfl, N.p, CNt K, dx, _, _, rfl, hn.ins, T.c_Net, T.n_Net_approximations, lNt_approximations, ?_⟩
  refine ⟨_, rfl, N.p, CNt K, dx, _, _, rfl, hn.ins, T.c_Net, T.n_Net_inverse, lNt_inverse, _, rfl, N.p, CNt K, dx, _, _, rfl, hn.ins, T.c_Net, T.n_Net_right, lNt_right, ?_⟩
  refine ⟨_, _, n.inverse, n.right, rfl, hn.i, hn.rt, f.ar, by rw [sz.il]; omega, fun v1 H1 e1 h1 => ?_⟩
  exact ⟨_, _, n.x0, _, rfl, hn.x.ex e1, h1, f.x, f.af, by rw [sz.x]; omega, fun v2 H2 e2 h2 => k v2 H2 (e1.trans e2) h2⟩
abbrev nMis : List Str := ["self", "heights", "reading"]
theorem sc_Net_misfits : FnScope nMis ["self"] (defScope s_Net_misfits) := ⟨rfl, rfl, rfl, by decide +kernel, rfl, by decide +kernel, by decide +kernel⟩
theorem m_Net_misfits (T : Txt K mg) (hN : base.NoSeer) : MDef PP w K mg base CX0 (CNt K) "misfits" (a_Net_misfits K) 47 ["self"] (spLook K FLook fun H v n => IsV K H v (ntMisfits n)) := by
  obtain ⟨fd, F⟩ := T.d_Net_misfits
  refine ⟨⟨fd, ok0 F sc_Net_misfits len1 (fun cdv A outer s H vs Q E hr h => ?_), F.bindsN fun _ _ _ _ _ _ us hl => match us, hl with | [_], _ => rfl⟩, T.m_Net_misfits, T.c_Net⟩
  obtain ⟨N, n, rfl, ⟨dx, va, vm, vi, vr, vt, hn⟩, sz, f, k⟩ := h
  have nd := sc_Net_misfits.nd
  have hr43 : Room 43 _ := hr.mono (by decide)
  refine ⟨_, pss_cons (ps_set (i := 1) nd rfl (Or.inr rfl) (pe_methD0 (m_Net_heights T hN) hr (pv 0)))
    (pss_one (ps_ret (pe_callTy call_tuple_of (by rfl) T.f_tuple boot_tuple (pa_cons (pe_lc (own := [("reading", 2)]) (g := gName 2) (tt := tYes)
      (te := tOp (rBin K (· - ·)) (tCall (spDot K) [] E0 (tCons (tMeth (CNt K) "row" (spRow K) [] E0 (tVar 0) (tCons (tVar 2) tNil)) (tCons (tVar 1) tNil))) (tFld K (tVar 2) "value")) rfl nd (pi_list (pe_fld (pv 0) rfl)) (blkOk_by (N := nMis) (sc := defScope s_Net_misfits) (by decide +kernel))
    (fun _ _ _ _ _ => pg_name (i := 2) nd rfl (Or.inl rfl)) (fun _ _ _ _ _ => pts_nil)
    (fun _ _ _ _ _ => pe_op (oSub (m_Ratio_sub T hN) T hr43) (pe_callD (d_dot_ok T hN) (hr.mono (by decide)) (pa_cons (pe_methD (m_Net_row T hN) hr43 (pv 0) (pa_cons (pv 2) pa_nil)) (pa_cons (pv 1) pa_nil))) (pe_fld (pv 2) rfl))) pa_nil)))), ?_⟩
  have hrz := sz.rz
  have hz := sz.nz
  refine ⟨_, rfl, N.p, dx, _, rfl, hn.ins, nNt_heights, N, n, rfl, ⟨_, _, _, _, _, _, hn⟩, sz, f, fun vh H0 e0 hh => ?_⟩
  have hn0 := hn.ex e0
  obtain ⟨vrd, hvr, alr⟩ := hn0.r
  have hlr := alr.len
  refine ⟨_, rfl, N.p, CNt K, dx, _, _, rfl, hn0.ins, T.c_Net, T.n_Net_readings, lNt_readings, N.pr, rfl, ⟨_, SqL.of' hvr⟩, fun D hD => ?_⟩
  refine lc_al (K := K) (walk_list (xs := vrd)) stayR (ntMisfits n) (by unfold ntMisfits; rw [List.length_map]; exact hlr) (by omega) hD (fun H1 e => SqL.of' (e _ _ hvr)) yat_ex ?_ ?_
  · rintro i z y H1 H2 hi hy e1 ⟨rfl, hx⟩ Rk kk
    obtain ⟨r, hr0, p, dp, tv, vv, wv, rfl, hp, h3, h4, h5⟩ := alr.get hx
    have hrm := List.mem_of_getElem? hr0
    obtain ⟨f1, f2, f3⟩ := f.rows r hrm
    have ey : y = dotM (ntRow n r) (ntHeights n) - r.value := by
      unfold ntMisfits at hy
      rw [List.getElem?_map, hr0] at hy
      exact (Option.some.inj hy).symm
    subst ey
    refine ⟨rfl, _, rfl, N.p, dx, _, rfl, e1 _ _ hn0.ins, nNt_row, _, rfl, N, n, _, r, rfl, ⟨_, _, _, _, _, _, hn0.ex e1⟩, stayRd _ _ _ _ (Ex.kp (K := K) e1) ⟨p, dp, tv, vv, wv, rfl, hp, h3, h4, h5⟩, sz.rt r hrm, by omega, fun v H4 e4 h4' => ?_⟩
    refine ⟨_, rfl, _, _, ntRow n r, ntHeights n, rfl, h4', hh.ex (e1.trans e4), f1, fun v5 H5 e5 h5' => ?_⟩
    have e15 := e1.trans (e4.trans e5)
    refine ⟨_, rfl, p, CRd K, dp, _, _, rfl, e15 _ _ hp, T.c_Reading, T.n_Reading_value, lRd_value, ?_⟩
    exact ⟨_, _, h5', h4.ex e15, f2, f3, fun v6 H6 e6 h6 => kk v6 H6 (e4.trans (e5.trans e6)) h6⟩
  · intro H1 acc e1 h1 hal
    exact ⟨D, acc, rfl, .inl ⟨SqL.of' h1, fun l hl => k _ _ (e0.trans (e1.new hl)) ⟨l, acc, rfl, upd_same, al_kpR hal (Kp.refl.new hl)⟩⟩⟩
theorem sc_Net_squares : FnScope ["self"] ["self"] (defScope s_Net_squares) := ⟨rfl, rfl, rfl, by decide +kernel, rfl, by decide +kernel, by decide +kernel⟩
theorem m_Net_squares (T : Txt K mg) (hN : base.NoSeer) : MDef PP w K mg base CX0 (CNt K) "squares" (a_Net_squares K) 46 ["self"] (spLook K FLook fun H v n => IsR K H v (ntSquares n)) := by
  obtain ⟨fd, F⟩ := T.d_Net_squares
  refine ⟨⟨fd, ok0 F sc_Net_squares len1 (fun cdv A outer s H vs Q E hr h => ?_), F.bindsN fun _ _ _ _ _ _ us hl => match us, hl with | [_], _ => rfl⟩, T.m_Net_squares, T.c_Net⟩
  obtain ⟨N, n, rfl, ⟨dx, va, vm, vi, vr, vt, hn⟩, sz, f, k⟩ := h
  have hr43 : Room 43 _ := hr.mono (by decide)
  refine ⟨_, pss_one (ps_ret (pe_op (oSub (m_Ratio_sub T hN) T hr43) (pe_fld (pv 0) rfl) (pe_callD (d_dot_ok T hN) (hr.mono (by decide)) (pa_cons (pe_fld (pv 0) rfl) (pa_cons (pe_callD (d_apply_ok T hN) hr (pa_cons (pe_fld (pv 0) rfl) (pa_cons (pe_fld (pv 0) rfl) pa_nil))) pa_nil))))), ?_⟩
  have hz := sz.nz
  refine ⟨_, rfl, N.p, CNt K, dx, _, _, rfl, hn.ins, T.c_Net, T.n_Net_total, lNt_total, ?_⟩
  refine ⟨_, rfl, N.p, CNt K, dx, _, _, rfl, hn.ins, T.c_Net, T.n_Net_right, lNt_right, ?_⟩
  refine ⟨_, rfl, N.p, CNt K, dx, _, _, rfl, hn.ins, T.c_Net, T.n_Net_inverse, lNt_inverse, _, rfl, N.p, CNt K, dx, _, _, rfl, hn.ins, T.c_Net, T.n_Net_right, lNt_right, ?_⟩
  refine ⟨_, _, n.inverse, n.right, rfl, hn.i, hn.rt, f.ar, by rw [sz.il]; omega, fun v1 H1 e1 h1 => ?_⟩
  refine ⟨_, _, n.right, _, rfl, hn.rt.ex e1, h1, f.d, fun v2 H2 e2 h2 => ?_⟩
  exact ⟨_, _, hn.t.ex (e1.trans e2), h2, f.tot, f.df, fun v3 H3 e3 h3 => k v3 H3 (e1.trans (e2.trans e3)) h3⟩
theorem d_rank_echelon_ok (T : Txt K mg) (hN : base.NoSeer) : Def PP w K mg base CX0 "rank_echelon" (He.ga K "rank_echelon") 47 ["matrix", "width"] (spRank K) := by
  obtain ⟨fd, F⟩ := T.d_rank_echelon
  refine ⟨⟨fd, ok0 F sc_rank (fun vs H Q E h => ?_) (fun cdv A outer s H vs Q E hr h => ?_), F.bindsN fun _ _ _ _ _ _ us hl => match us, hl with | [_, _], _ => rfl⟩, T.g_rank_echelon, T.q_rank_echelon⟩
  · obtain ⟨vm, m, wd, rfl, _⟩ := h
    rfl
  obtain ⟨vm, m, wd, rfl, hm, rc, hwd, f, k⟩ := h
  refine ⟨_, pss_one (ps_ret (pe_callB call_len_seq (by rfl) T.f_len boot_len (pa_cons (pe_ix ix_tup (pe_callD (d_reduced_ok T hN) hr (pa_cons (pv 0) (pa_cons (pv 1) pa_nil))) pe_int (fun _ _ => rfl)) pa_nil))), ?_⟩
  refine ⟨_, rfl, _, rfl, vm, m, wd, rfl, hm, rc, hwd, f, fun v H1 e1 ⟨p, vr, q, hv, hp, h1, h2⟩ => ?_⟩
  subst hv
  refine ⟨p, _, _, .ref q, rfl, rfl, SqT.of' hp, rfl, q, _, rfl, .inr (SqT.of' h2), ?_⟩
  rw [nVs_len]
  exact k H1 e1
theorem rect_rows {n : Nt Str} (sz : NSz n) : Rect (ntRows n) n.pts.length := by
  refine ⟨by unfold ntRows; rw [List.length_map]; have := sz.rz; omega, fun r hr => ?_⟩
  unfold ntRows at hr
  obtain ⟨x, _, rfl⟩ := List.mem_map.mp hr
  exact row_len n x
theorem sc_Net_rank : FnScope ["self"] ["self"] (defScope s_Net_rank) := ⟨rfl, rfl, rfl, by decide +kernel, rfl, by decide +kernel, by decide +kernel⟩
theorem m_Net_rank (T : Txt K mg) (hN : base.NoSeer) : MDef PP w K mg base CX0 (CNt K) "rank" (a_Net_rank K) 48 ["self"] (spLook K FLook fun H v n => v = .int (ntRank n : Nat)) := by
  obtain ⟨fd, F⟩ := T.d_Net_rank
  refine ⟨⟨fd, ok0 F sc_Net_rank len1 (fun cdv A outer s H vs Q E hr h => ?_), F.bindsN fun _ _ _ _ _ _ us hl => match us, hl with | [_], _ => rfl⟩, T.m_Net_rank, T.c_Net⟩
  obtain ⟨N, n, rfl, ⟨dx, va, vm, vi, vr, vt, hn⟩, sz, f, k⟩ := h
  refine ⟨_, pss_one (ps_ret (pe_callD (d_rank_echelon_ok T hN) hr (pa_cons (pe_methD0 (m_Net_rows T hN) (hr.mono (by decide)) (pv 0)) (pa_cons (pe_callB call_len_seq (by rfl) T.f_len boot_len (pa_cons (pe_fld (pv 0) rfl) pa_nil)) pa_nil)))), ?_⟩
  have hz := sz.nz
  refine ⟨_, rfl, N.p, dx, _, rfl, hn.ins, nNt_rows, N, n, rfl, ⟨_, _, _, _, _, _, hn⟩, sz, trivial, fun v1 H1 e1 h1 => ?_⟩
  refine ⟨_, rfl, N.p, CNt K, dx, _, _, rfl, e1 _ _ hn.ins, T.c_Net, T.n_Net_points, lNt_points, N.pl, _, rfl, .inl (SqL.of' (e1 _ _ hn.l)), ?_⟩
  rw [sVs_len]
  exact ⟨_, ntRows n, n.pts.length, rfl, h1, rect_rows sz, by omega, f.rank, fun H2 e2 => k _ _ (e1.trans e2) rfl⟩
/-- a paper, its factors there -/
def IsPap (K : PySem.W.Frag) (H : Hp) (v : V) (h m f : Vec) : Prop := ∃ p vh vm vf, v = .ref p ∧ H p = some (.tup [vh, vm, vf]) ∧ IsV K H vh h ∧ IsV K H vm m ∧ IsV K H vf f
theorem sc_Net_paper : FnScope ["self", "heights", "moved"] ["self"] (defScope s_Net_paper) := ⟨rfl, rfl, rfl, by decide +kernel, rfl, by decide +kernel, by decide +kernel⟩
theorem m_Net_paper (T : Txt K mg) (hN : base.NoSeer) : MDef PP w K mg base CX0 (CNt K) "paper" (a_Net_paper K) 49 ["self"] (spLook K (fun n => FLook n ∧ FAll (ntHeights n) ∧ ∃ x, ntFactors n = some x) fun H v n => ∃ x, ntFactors n = some x ∧ IsPap K H v (ntHeights n) (ntMisfits n) x) := by
  obtain ⟨fd, F⟩ := T.d_Net_paper
  refine ⟨⟨fd, ok0 F sc_Net_paper len1 (fun cdv A outer s H vs Q E hr h => ?_), F.bindsN fun _ _ _ _ _ _ us hl => match us, hl with | [_], _ => rfl⟩, T.m_Net_paper, T.c_Net⟩
  obtain ⟨N, n, rfl, ⟨dx, va, vm, vi, vr, vt, hn⟩, sz, ⟨f, hf, x, hx⟩, k⟩ := h
  have nd := sc_Net_paper.nd
  refine ⟨_, pss_cons (ps_set (i := 1) nd rfl (Or.inl rfl) (pe_methD0 (m_Net_heights T hN) (hr.mono (by decide)) (pv 0)))
    (pss_cons (ps_set (i := 2) nd rfl (Or.inl rfl) (pe_callD (d_minus_ok T hN) (hr.mono (by decide)) (pa_cons (pv 1) (pa_cons (pe_fld (pv 0) rfl) pa_nil))))
    (pss_one (ps_ret (pe_tup (pa_cons (pv 1) (pa_cons (pe_methD0 (m_Net_misfits T hN) (hr.mono (by decide)) (pv 0)) (pa_cons (pe_callD (d_span_of_ok T hN) hr (pa_cons (pe_methD0 (m_Net_rows T hN) (hr.mono (by decide)) (pv 0)) (pa_cons (pe_callB call_len_seq (by rfl) T.f_len boot_len (pa_cons (pe_fld (pv 0) rfl) pa_nil)) (pa_cons (pv 2) pa_nil)))) pa_nil))))))), ?_⟩
  have hz := sz.nz
  have hrz := sz.rz
  refine ⟨_, rfl, N.p, dx, _, rfl, hn.ins, nNt_heights, N, n, rfl, ⟨_, _, _, _, _, _, hn⟩, sz, f, fun v1 H1 e1 h1 => ?_⟩
  have hn1 := hn.ex e1
  have hlen : (ntHeights n).length ≤ 1000 := by
    unfold ntHeights
    rw [len_plus, sz.x]
    omega
  refine ⟨_, rfl, _, rfl, N.p, CNt K, dx, _, _, rfl, hn1.ins, T.c_Net, T.n_Net_approximations, lNt_approximations, ?_⟩
  refine ⟨_, _, ntHeights n, n.x0, rfl, h1, hn1.x, hf, f.x, hlen, fun v2 H2 e2 h2 => ?_⟩
  have hn2 := hn1.ex e2
  refine ⟨_, rfl, _, rfl, N.p, dx, _, rfl, hn2.ins, nNt_misfits, N, n, rfl, ⟨_, _, _, _, _, _, hn2⟩, sz, f, fun v3 H3 e3 h3 => ?_⟩
  have hn3 := hn2.ex e3
  refine ⟨_, rfl, N.p, dx, _, rfl, hn3.ins, nNt_rows, N, n, rfl, ⟨_, _, _, _, _, _, hn3⟩, sz, trivial, fun v4 H4 e4 h4 => ?_⟩
  have hn4 := hn3.ex e4
  refine ⟨_, rfl, N.p, CNt K, dx, _, _, rfl, hn4.ins, T.c_Net, T.n_Net_points, lNt_points, N.pl, _, rfl, .inl (SqL.of' hn4.l), ?_⟩
  rw [sVs_len]
  have hrl : (ntRows n).length = n.rds.length := by unfold ntRows; rw [List.length_map]
  refine ⟨_, rfl, _, _, ntRows n, ntMoved n, n.pts.length, rfl, h4, h2.ex (e3.trans e4), (rect_rows sz).w, by omega, by omega, by rw [hrl]; exact f.span, fun hno => ?_, fun x' hx' v5 H5 e5 h5 => ?_⟩
  · have : ntFactors n = none := hno
    rw [hx] at this
    cases this
  · have ex' : x' = x := by
      have : ntFactors n = some x' := hx'
      rw [hx] at this
      exact (Option.some.inj this).symm
    subst ex'
    refine ⟨by show 3 ≤ sizeLine; decide, fun p hp => ?_⟩
    have e25 := e3.trans (e4.trans e5)
    have en : Ex H5 (upd H5 p (.tup [v1, v3, v5])) := (Ex.refl _).new hp
    exact k _ _ ((e1.trans (e2.trans e25)).trans en) ⟨x', hx, p, v1, v3, v5, rfl, upd_same, h1.ex ((e2.trans e25).trans en), h3.ex ((e4.trans e5).trans en), h5.ex en⟩
end
end Pn
set_option maxHeartbeats 4000000
/-! net_of, perform -/
namespace Pn
open PySem PySem.Spec PyProof.Rows L2
theorem rect_widen {m : Mat} {w : Nat} (h : Rect m w) (hl : m.length = w) (hw : w ≤ 900) : Rect (widenM m) (w + 1) ∧ (widenM m).length = w + 1 := by
  refine ⟨⟨by simp [widenM]; omega, fun r hr => ?_⟩, by simp [widenM, hl]⟩
  unfold widenM at hr
  rcases List.mem_append.mp hr with z | z
  · obtain ⟨x, hx, rfl⟩ := List.mem_map.mp z
    rw [List.length_append, h.w x hx]
    rfl
  · have : r = List.replicate (m.length + 1) 0 := by simpa using z
    rw [this, List.length_replicate, hl]
theorem nsz_point {n : Nt Str} {nm : Str} {q : Rat} (h : NSz n) (h1 : nm ∉ n.pts) (h2 : n.pts.length ≠ 12) : NSz (ntAddPoint n nm q) := by
  have hz := h.nz
  have e : (n.pts ++ [nm]).length = n.pts.length + 1 := by simp
  obtain ⟨a, b⟩ := rect_widen h.m h.ml (by omega)
  obtain ⟨c, d⟩ := rect_widen h.i h.il (by omega)
  refine ⟨?_, ?_, ?_, ?_, ?_, ?_, ?_, h.rz, fun r hr t ht => List.mem_append_left _ (h.rt r hr t ht), ?_⟩
  · show (n.pts ++ [nm]).length ≤ 12
    omega
  · show (n.x0 ++ [q]).length = (n.pts ++ [nm]).length
    rw [e, List.length_append, h.x]
    rfl
  · show Rect (widenM n.normal) (n.pts ++ [nm]).length
    rw [e]; exact a
  · show (widenM n.normal).length = (n.pts ++ [nm]).length
    rw [e]; exact b
  · show Rect (widenM n.inverse) (n.pts ++ [nm]).length
    rw [e]; exact c
  · show (widenM n.inverse).length = (n.pts ++ [nm]).length
    rw [e]; exact d
  · show (n.right ++ [0]).length = (n.pts ++ [nm]).length
    rw [e, List.length_append, h.r]
    rfl
  · show (n.pts ++ [nm]).Nodup
    rw [List.nodup_append]
    exact ⟨h.rn, by simp, fun a ha b hb z => by
      have : b = nm := by simpa using hb
      subst this
      exact h1 (z ▸ ha)⟩
theorem nsz_add {n : Nt Str} {r : Rg} (h : NSz n) (ht : ∀ t ∈ r.terms, t.1 ∈ n.pts) (h24 : n.rds.length < 24) : NSz (ntAdd n r) := by
  refine nsz_rds (nsz_put h) (by simp; omega) fun x hx t htx => ?_
  rcases List.mem_append.mp hx with z | z
  · exact h.rt x z t htx
  · have : x = r := by simpa using z
    subst this
    exact ht t htx
theorem nsz_empty : NSz (Nt.empty : Nt Str) := by
  refine ⟨by simp [Nt.empty], rfl, ⟨by simp [Nt.empty], fun r hr => by simp [Nt.empty] at hr⟩, rfl, ⟨by simp [Nt.empty], fun r hr => by simp [Nt.empty] at hr⟩, rfl, rfl, by simp [Nt.empty], fun r hr => by simp [Nt.empty] at hr, by simp [Nt.empty]⟩
def ptsTo (b : Bk Str) (i : Nat) : Nt Str := (b.pts.take i).foldl (fun n p => ntAddPoint n p.1 p.2) Nt.empty
theorem ptsTo_succ {b : Bk Str} {i : Nat} {p : Str × Rat} (h : b.pts[i]? = some p) : ptsTo b (i + 1) = ntAddPoint (ptsTo b i) p.1 p.2 := by
  unfold ptsTo
  rw [List.take_add_one, h, List.foldl_append]
  rfl
theorem netTo_succ {b : Bk Str} {i : Nat} {r : Rg} (h : b.rds[i]? = some r) : netTo b (i + 1) = ntAdd (netTo b i) r := by
  unfold netTo
  rw [List.take_add_one, h, List.foldl_append]
  rfl
theorem ptsTo_ok {b : Bk Str} (hb : BkOk b) : ∀ i, i ≤ b.pts.length → NSz (ptsTo b i) ∧ (ptsTo b i).pts = (b.pts.take i).map (·.1) ∧ (ptsTo b i).rds = []
  | 0, _ => ⟨nsz_empty, rfl, rfl⟩
  | i + 1, h => by
    obtain ⟨h1, h2, h3⟩ := ptsTo_ok hb i (by omega)
    have hg : b.pts[i]? = some b.pts[i] := List.getElem?_eq_getElem (by omega)
    rw [ptsTo_succ hg]
    refine ⟨nsz_point h1 ?_ ?_, ?_, h3⟩
    · rw [h2]
      intro z
      obtain ⟨p, hp, ep⟩ := List.mem_map.mp z
      obtain ⟨j, hj, rfl⟩ := List.getElem_of_mem hp
      rw [List.length_take] at hj
      rw [List.getElem_take] at ep
      have hn : (b.pts.map (·.1)).Nodup := hb.nd
      have := nd_inj hn (i := j) (j := i) (by simp; omega) (by simp; omega) (by simpa using ep)
      omega
    · rw [h2, List.length_map, List.length_take]
      have := hb.pz
      omega
    · show (ptsTo b i).pts ++ [b.pts[i].1] = _
      rw [h2, List.take_add_one, hg, List.map_append]
      rfl
theorem netTo_ok {b : Bk Str} (hb : BkOk b) : ∀ i, i ≤ b.rds.length → NSz (netTo b i) ∧ (netTo b i).pts = b.names ∧ (netTo b i).rds = b.rds.take i
  | 0, _ => by
    obtain ⟨h1, h2, h3⟩ := ptsTo_ok hb b.pts.length (Nat.le_refl _)
    have : ptsTo b b.pts.length = netTo b 0 := by
      unfold ptsTo netTo
      rw [List.take_length]
      rfl
    rw [this] at h1 h2 h3
    rw [List.take_length] at h2
    exact ⟨h1, h2, by rw [h3]; rfl⟩
  | i + 1, h => by
    obtain ⟨h1, h2, h3⟩ := netTo_ok hb i (by omega)
    have hg : b.rds[i]? = some b.rds[i] := List.getElem?_eq_getElem (by omega)
    have hm : b.rds[i] ∈ b.rds := List.getElem_mem _
    rw [netTo_succ hg]
    refine ⟨nsz_add h1 (fun t ht => by rw [h2]; exact (hb.r _ hm).mem t ht) ?_, h2, ?_⟩
    · rw [h3, List.length_take]
      have := hb.rz
      omega
    · show (netTo b i).rds ++ [b.rds[i]] = _
      rw [h3, List.take_add_one, hg]
      rfl
section
variable {w : World} {K : PySem.W.Frag} {mg : Str → Option Value} {base : Heap}
def spNetOf (K : PySem.W.Frag) : Sp := fun vs H Q _ => ∃ B b, vs = [.ref (BkA.p B)] ∧ IsBk K H B b ∧ BkOk b ∧ FNetOf b ∧ ∀ N H', Ex H H' → (∀ a ∈ NtA.W N, H a = none) → IsNt K H' N (netOf b) → Q (.ref N.p) H'
theorem sc_net_of : FnScope ["book", "net", "name", "reading"] ["book"] (defScope s_net_of) := ⟨rfl, rfl, rfl, by decide +kernel, rfl, by decide +kernel, by decide +kernel⟩
theorem d_net_of_ok (T : Txt K mg) (hN : base.NoSeer) : Def PP w K mg base CX0 "net_of" (a_net_of K) 50 ["book"] (spNetOf K) := by
  obtain ⟨fd, F⟩ := T.d_net_of
  refine ⟨⟨fd, ok0 F sc_net_of (fun vs H Q E h => ?_) (fun cdv A outer s H vs Q E hr h => ?_), F.bindsN fun _ _ _ _ _ _ us hl => match us, hl with | [_], _ => rfl⟩, T.g_net_of, F.kp⟩
  · obtain ⟨B, b, rfl, _⟩ := h
    rfl
  obtain ⟨B, b, rfl, hb, ok, f, k⟩ := h
  have nd := sc_net_of.nd
  have hu := hu_of hr
  refine ⟨_, pss_cons (ps_set (i := 1) nd rfl (Or.inl rfl) (pe_makeD0 (k_Net T hN) (hr.mono (by decide))))
    (pss_cons (ps_for PassesOwn.never rfl (pi_list (pe_fld (pv 0) rfl)) (pg_name (i := 2) nd rfl (Or.inl rfl))
      (pss_one (ps_expr (pe_methD (m_Net_add_point T hN) (hr.mono (by decide)) (pv 1) (pa_cons (pv 2) (pa_cons (pe_dget hu (pe_fld (pv 0) rfl) (pv 2) (fun _ _ => rfl)) pa_nil))))))
    (pss_cons (ps_for PassesOwn.never rfl (pi_list (pe_fld (pv 0) rfl)) (pg_name (i := 3) nd rfl (Or.inl rfl))
      (pss_one (ps_expr (pe_methD (m_Net_add T hN) hr (pv 1) (pa_cons (pv 3) pa_nil)))))
    (pss_one (ps_ret (pv 1))))), ?_⟩
  intro x0 dx0 nx0 nd0 ne0
  refine mkNt' nx0 nd0 ne0 fun N H1 hB' hW e1 hn0 => ⟨rfl, ?_⟩
  subst hB'
  obtain ⟨dB, hB⟩ := hb.ins
  obtain ⟨kvs, hkv, al⟩ := hb.d
  obtain ⟨vr, hvr, alr⟩ := hb.r
  have hbl := hb.l
  have hlr := alr.len
  refine ⟨_, rfl, B.p, CBk K, dB, _, _, rfl, e1 _ _ hB, T.c_Book, T.n_Book_points, lBk_points, B.pl, rfl, ⟨_, SqL.of' (e1 _ _ hbl)⟩, for_it (walk_list (xs := sVs b.names)) (fun i σ H' => Ex H H' ∧ (∃ o2 o3, σ = [some (.ref B.p), some (.ref N.p), o2, o3]) ∧ IsNt K H' N (ptsTo b i))
    ⟨e1, ⟨_, _, rfl⟩, hn0⟩ (fun i σ H' _ p => SqL.of' (p.1 _ _ hbl)) ?_ ?_⟩
  · rintro i z σ H2 H3 hi ⟨e, ⟨o2, o3, rfl⟩, hni⟩ ⟨rfl, hx⟩
    rw [sVs_len] at hi
    have hip : i < b.pts.length := by
      have : b.names.length = b.pts.length := by simp [Bk.names]
      omega
    have hg : b.pts[i]? = some b.pts[i] := List.getElem?_eq_getElem hip
    have hz : z = .str (b.pts[i].1) := by
      unfold sVs Bk.names at hx
      rw [List.getElem?_map, List.getElem?_map, hg] at hx
      exact (Option.some.inj hx).symm
    subst hz
    rcases kv_get al b.pts[i].1 with ⟨h1, h2⟩ | ⟨v, q, h1, h2, h3, h4⟩
    · exact absurd (List.mem_map.mpr ⟨b.pts[i], List.getElem_mem hip, rfl⟩) h2
    have hq : q = b.pts[i].2 := by
      have hm := List.mem_of_find?_eq_some h3
      obtain ⟨j, hj, ej⟩ := List.getElem_of_mem hm
      have hj1 : b.pts[j].1 = b.pts[i].1 := by rw [ej]
      have hn : (b.pts.map (·.1)).Nodup := ok.nd
      have := nd_inj hn (i := j) (j := i) (by simpa using hj) (by simpa using hip) (by simpa using hj1)
      subst this
      rw [ej]
    subst hq
    obtain ⟨dx, va, vm, vi, vrr, vt, hn⟩ := hni
    obtain ⟨s1, s2, s3⟩ := ptsTo_ok ok i (by omega)
    refine ⟨_, rfl, N.p, dx, _, rfl, hn.ins, nNt_add_point, _, rfl, _, rfl, B.p, CBk K, dB, _, _, rfl, e _ _ hB, T.c_Book, T.n_Book_approximations, lBk_approximations, _, rfl, B.pd, v, rfl, ?_, ?_⟩
    · have := DGet.k (k := Sum.inr b.pts[i].1) (e _ _ hkv)
      rw [h1] at this
      exact this
    refine ⟨N, ptsTo b i, b.pts[i].1, v, b.pts[i].2, rfl, ⟨_, _, _, _, _, _, hn⟩, h2.ex e, s1, ?_, ?_, fun H4 f4 h4' => ?_⟩
    · rw [s2]
      intro z
      obtain ⟨p, hp, ep⟩ := List.mem_map.mp z
      obtain ⟨j, hj, rfl⟩ := List.getElem_of_mem hp
      rw [List.length_take] at hj
      rw [List.getElem_take] at ep
      have hnn : (b.pts.map (·.1)).Nodup := ok.nd
      have := nd_inj hnn (i := j) (j := i) (by simp; omega) (by simp; omega) (by simpa using ep)
      omega
    · rw [s2, List.length_map, List.length_take]
      have := ok.pz
      omega
    · rw [← ptsTo_succ hg] at h4'
      exact ⟨e.frn f4 hW, ⟨_, _, rfl⟩, h4'⟩
  rintro σ H2 ⟨e, ⟨o2, o3, rfl⟩, hni⟩
  have hp0 : ptsTo b (sVs b.names).length = netTo b 0 := by
    have : (sVs b.names).length = b.pts.length := by rw [sVs_len]; simp [Bk.names]
    rw [this]
    unfold ptsTo netTo
    rw [List.take_length]
    rfl
  rw [hp0] at hni
  refine ⟨_, rfl, B.p, CBk K, dB, _, _, rfl, e _ _ hB, T.c_Book, T.n_Book_readings, lBk_readings, B.pr, rfl, ⟨_, SqL.of' (e _ _ hvr)⟩, for_it (walk_list (xs := vr)) (fun i σ H' => Ex H H' ∧ (∃ o2 o3, σ = [some (.ref B.p), some (.ref N.p), o2, o3]) ∧ IsNt K H' N (netTo b i))
    ⟨e, ⟨_, _, rfl⟩, hni⟩ (fun i σ H' _ p => SqL.of' (p.1 _ _ hvr)) ?_ ?_⟩
  · rintro i z σ H3 H4 hi ⟨e3, ⟨o2, o3, rfl⟩, hni⟩ ⟨rfl, hx⟩
    obtain ⟨r, hr0, rv⟩ := alr.get hx
    have hil : i < b.rds.length := (List.getElem?_eq_some_iff.mp hr0).1
    have hrm := List.mem_of_getElem? hr0
    obtain ⟨dx, va, vm, vi, vrr, vt, hn⟩ := hni
    obtain ⟨s1, s2, s3⟩ := netTo_ok ok i (by omega)
    refine ⟨_, rfl, N.p, dx, _, rfl, hn.ins, nNt_add, _, rfl, ?_⟩
    refine ⟨N, netTo b i, _, r, rfl, ⟨_, _, _, _, _, _, hn⟩, stayRd _ _ _ _ (Ex.kp (K := K) e3) rv, s1, fun t ht => by rw [s2]; exact (ok.r r hrm).mem t ht, ?_, ?_, f i r hr0, fun H5 f5 h5 => ?_⟩
    · rw [s3]
      intro z
      obtain ⟨x, hx1, hx2⟩ := List.mem_map.mp z
      obtain ⟨j, hj, rfl⟩ := List.getElem_of_mem hx1
      rw [List.length_take] at hj
      rw [List.getElem_take] at hx2
      obtain ⟨_, er⟩ := List.getElem?_eq_some_iff.mp hr0
      have hnn : (b.rds.map (·.name)).Nodup := ok.rn
      have := nd_inj hnn (i := j) (j := i) (by simp; omega) (by simpa using hil) (by rw [List.getElem_map, List.getElem_map, hx2, er])
      omega
    · rw [s3, List.length_take]
      have := ok.rz
      omega
    · rw [← netTo_succ hr0] at h5
      exact ⟨e3.frn f5 hW, ⟨_, _, rfl⟩, h5⟩
  · rintro σ H3 ⟨e3, ⟨o2, o3, rfl⟩, hni⟩
    rw [hlr] at hni
    refine ⟨_, rfl, k N _ e3 hW ?_⟩
    unfold netTo at hni
    rw [List.take_length] at hni
    exact hni
end
end Pn
set_option maxHeartbeats 4000000
/-! judge: sum_at, squares_at, weighted_sum -/
namespace Pn
open PySem PySem.Spec PyProof.Rows L2
theorem sumAt_succ {pts : List Str} {ts : List (Str × Int)} {h : Vec} {i : Nat} {t : Str × Int} (ht : ts[i]? = some t) : sumAtM pts (ts.take (i + 1)) h = sumAtM pts (ts.take i) h + (t.2 : Rat) * h.getD (pts.idxOf t.1) 0 := by
  unfold sumAtM
  rw [List.take_add_one, ht, List.foldl_append]
  rfl
theorem sqAt_succ {b : Bk Str} {h : Vec} {i : Nat} {r : Rg} (hr : b.rds[i]? = some r) : sqAtM { b with rds := b.rds.take (i + 1) } h = sqAtM { b with rds := b.rds.take i } h + r.weight * (sumAtM b.names r.terms h - r.value) * (sumAtM b.names r.terms h - r.value) := by
  unfold sqAtM
  show (b.rds.take (i + 1)).foldl _ 0 = (b.rds.take i).foldl _ 0 + _
  rw [List.take_add_one, hr, List.foldl_append]
  rfl
def inW (nm : Str) (x : Rat) (acc : Rat) (ts : List (Str × Int)) : Rat := ts.foldl (fun acc t => if t.1 = nm then acc + (t.2 : Rat) * x else acc) acc
theorem inW_succ {nm : Str} {x acc : Rat} {ts : List (Str × Int)} {j : Nat} {t : Str × Int} (ht : ts[j]? = some t) : inW nm x acc (ts.take (j + 1)) = if t.1 = nm then inW nm x acc (ts.take j) + (t.2 : Rat) * x else inW nm x acc (ts.take j) := by
  unfold inW
  rw [List.take_add_one, ht, List.foldl_append]
  rfl
theorem wsum_succ {rds : List Rg} {nm : Str} {xs : Vec} {i : Nat} {r : Rg} {x : Rat} (hr : rds[i]? = some r) (hx : xs[i]? = some x) : wsumM (rds.take (i + 1)) nm (xs.take (i + 1)) = inW nm x (wsumM (rds.take i) nm (xs.take i)) r.terms := by
  unfold wsumM inW
  have h1 : (rds.take (i + 1)).zip (xs.take (i + 1)) = (rds.take i).zip (xs.take i) ++ [(r, x)] := by
    unfold List.zip
    rw [← List.take_zipWith, ← List.take_zipWith, List.take_add_one]
    have : (List.zipWith Prod.mk rds xs)[i]? = some (r, x) := by simp [List.getElem?_zipWith, hr, hx]
    rw [this]
    rfl
  rw [h1, List.foldl_append]
  rfl
theorem pi_or {X : Cx} {tg it : Expr} {w1 w2 : TI} (h1 : PI X tg it w1) (h2 : PI X tg it w2) : PI X tg it (fun σ H R => w1 σ H R ∨ w2 σ H R) := ⟨fun pins s σ H R I h => h.elim (h1.run pins s σ H R I) (h2.run pins s σ H R I)⟩
section
variable {w : World} {K : PySem.W.Frag} {mg : Str → Option Value} {base : Heap}
def spSumAt (K : PySem.W.Frag) : Sp := fun vs H Q _ => ∃ B b vr r vh h, vs = [.ref (BkA.p B), vr, vh] ∧ IsBk K H B b ∧ IsRd K H vr r ∧ IsV K H vh h ∧ (∀ t ∈ r.terms, t.1 ∈ b.names) ∧ h.length = b.pts.length ∧ FSum b.names r.terms h ∧ ∀ v H', Ex H H' → IsR K H' v (sumAtM b.names r.terms h) → Q v H'
abbrev nSumAt : List Str := ["book", "reading", "heights", "total", "name", "coefficient"]
theorem sc_sum_at : FnScope nSumAt ["book", "reading", "heights"] (defScope s_sum_at) := ⟨rfl, rfl, rfl, by decide +kernel, rfl, by decide +kernel, by decide +kernel⟩
theorem d_sum_at_ok (T : Txt K mg) (hN : base.NoSeer) : Def PP w K mg base CX0 "sum_at" (a_sum_at K) 44 ["book", "reading", "heights"] (spSumAt K) := by
  obtain ⟨fd, F⟩ := T.d_sum_at
  refine ⟨⟨fd, ok0 F sc_sum_at (fun vs H Q E h => ?_) (fun cdv A outer s H vs Q E hr h => ?_), F.bindsN fun _ _ _ _ _ _ us hl => match us, hl with | [_, _, _], _ => rfl⟩, T.g_sum_at, F.kp⟩
  · obtain ⟨B, b, vr, r, vh, h, rfl, _⟩ := h
    rfl
  obtain ⟨B, b, _, r, _, h, rfl, hb, ⟨p, dp, _, vv, wv, rfl, hp, ⟨tp, vts, rfl, htp, lt⟩, h4, h5⟩, ⟨ha, vha, rfl, hha, lh⟩, hts, hhl, f, k⟩ := h
  have nd := sc_sum_at.nd
  refine ⟨_, pss_cons (ps_set (i := 3) nd rfl (Or.inl rfl) (pe_makeD (k_Ratio1 T hN) (hr.mono (by decide)) (pa_cons pe_int pa_nil)))
    (pss_cons (ps_for PassesOwn.never rfl (pi_tup (pe_fld (pv 1) rfl)) (pg_tup rfl (pgs_cons (pg_name (i := 4) nd rfl (Or.inl rfl)) (pgs_cons (pg_name (i := 5) nd rfl (Or.inl rfl)) pgs_nil)))
      (pss_one (ps_set (i := 3) nd rfl (Or.inl rfl) (pe_op (oAdd (m_Ratio_add T hN) T hr) (pv 3) (pe_op (oMul (m_Ratio_mul T hN) T hr) (pe_makeD (k_Ratio1 T hN) (hr.mono (by decide)) (pa_cons (pv 5) pa_nil))
        (pe_ix ix_tup (pv 2) (pe_bm PySem.F.plainAttrs_list PySem.F.slot_list_index PySem.F.type_list_index mt_index (pe_fld (pv 0) rfl) (pa_cons (pv 4) pa_nil)) (fun _ _ => rfl)))))))
    (pss_one (ps_ret (pv 3)))), ?_⟩
  obtain ⟨dB, hB⟩ := hb.ins
  have hbl := hb.l
  have hlt := lt.len
  intro x0 dx0 nx0 nd0 ne0
  refine mk0' nx0 nd0 ne0 fun H1 e1 r1 => ⟨rfl, ?_⟩
  refine ⟨_, rfl, p, CRd K, dp, _, _, rfl, e1 _ _ hp, T.c_Reading, T.n_Reading_terms, lRd_terms, tp, rfl, ⟨_, SqT.of' (e1 _ _ htp)⟩, for_it (walk_tup (xs := vts)) (fun i σ H' => Ex H H' ∧ ∃ tv o4 o5, σ = [some (.ref B.p), some (.ref p), some (.ref ha), some tv, o4, o5] ∧ IsR K H' tv (sumAtM b.names (r.terms.take i) h))
    ⟨e1, _, _, _, rfl, r1⟩ (fun i σ H' _ q => SqT.of' (q.1 _ _ htp)) ?_ ?_⟩
  · rintro i z σ H2 H3 hi ⟨e, tv, o4, o5, rfl, hv⟩ ⟨rfl, hx⟩
    obtain ⟨t, ht, q, rfl, hq⟩ := lt.get hx
    have htm := List.mem_of_getElem? ht
    have hnm := hts t htm
    obtain ⟨f1, f2, f3⟩ := f.c t htm
    have hil : i < r.terms.length := (List.getElem?_eq_some_iff.mp ht).1
    refine ⟨q, _, rfl, SqT.of' (e _ _ hq), rfl, _, _, rfl, _, _, rfl, rfl, ?_⟩
    refine ⟨_, rfl, _, rfl, ?_⟩
    intro x2 dx2 nx2 nd2 ne2
    refine mkI' nx2 nd2 ne2 fun H4 e4 r4 => ⟨rfl, ?_⟩
    have e04 := e.trans e4
    have hix := List.idxOf_lt_length_of_mem hnm
    have hnl : b.names.length = b.pts.length := by simp [Bk.names]
    obtain ⟨u, hu, ru⟩ := lh.at' (d := 0) (i := b.names.idxOf t.1) (by omega)
    refine ⟨_, rfl, _, rfl, B.p, CBk K, dB, _, _, rfl, e04 _ _ hB, T.c_Book, T.n_Book_points, lBk_points, .inl ⟨rfl, _, SqL.of' (e04 _ _ hbl)⟩, _, rfl, B.pl, _, _, b.names.idxOf t.1, .str t.1, rfl, rfl, SqL.of' (e04 _ _ hbl), rfl, flat_sVs _, sVs_at _ _ hnm, by rw [eqV_str]; exact decide_eq_true rfl, sVs_no _ _, ?_⟩
    refine ⟨ha, vha, _, u, rfl, rfl, SqT.of' (e04 _ _ hha), atI_nat hu, ?_⟩
    refine ⟨_, _, r4, ru.ex e04, f1, f2, fun v5 H5 e5 h5' => ?_⟩
    refine ⟨_, _, hv.ex (e4.trans e5), h5', f.s i (by omega), f3, fun v6 H6 e6 h6 => ?_⟩
    refine ⟨e.trans (e4.trans (e5.trans e6)), v6, _, _, rfl, ?_⟩
    rw [sumAt_succ ht]
    exact h6
  · rintro σ H2 ⟨e, tv, o4, o5, rfl, hv⟩
    rw [hlt, List.take_length] at hv
    exact ⟨_, rfl, k _ _ e hv⟩
def spSqAt (K : PySem.W.Frag) : Sp := fun vs H Q _ => ∃ B b vh h, vs = [.ref (BkA.p B), vh] ∧ IsBk K H B b ∧ IsV K H vh h ∧ (∀ r ∈ b.rds, ∀ t ∈ r.terms, t.1 ∈ b.names) ∧ h.length = b.pts.length ∧ FSq b h ∧ ∀ v H', Ex H H' → IsR K H' v (sqAtM b h) → Q v H'
abbrev nSqAt : List Str := ["book", "heights", "total", "reading", "misfit"]
theorem sc_squares_at : FnScope nSqAt ["book", "heights"] (defScope s_squares_at) := ⟨rfl, rfl, rfl, by decide +kernel, rfl, by decide +kernel, by decide +kernel⟩
theorem d_squares_at_ok (T : Txt K mg) (hN : base.NoSeer) : Def PP w K mg base CX0 "squares_at" (a_squares_at K) 45 ["book", "heights"] (spSqAt K) := by
  obtain ⟨fd, F⟩ := T.d_squares_at
  refine ⟨⟨fd, ok0 F sc_squares_at (fun vs H Q E h => ?_) (fun cdv A outer s H vs Q E hr h => ?_), F.bindsN fun _ _ _ _ _ _ us hl => match us, hl with | [_, _], _ => rfl⟩, T.g_squares_at, F.kp⟩
  · obtain ⟨B, b, vh, h, rfl, _⟩ := h
    rfl
  obtain ⟨B, b, vh, h, rfl, hb, hh, hts, hhl, f, k⟩ := h
  have nd := sc_squares_at.nd
  have hr43 : Room 43 _ := hr.mono (by decide)
  refine ⟨_, pss_cons (ps_set (i := 2) nd rfl (Or.inl rfl) (pe_makeD (k_Ratio1 T hN) (hr.mono (by decide)) (pa_cons pe_int pa_nil)))
    (pss_cons (ps_for PassesOwn.never rfl (pi_list (pe_fld (pv 0) rfl)) (pg_name (i := 3) nd rfl (Or.inl rfl))
      (pss_cons (ps_set (i := 4) nd rfl (Or.inl rfl) (pe_op (oSub (m_Ratio_sub T hN) T hr43) (pe_callD (d_sum_at_ok T hN) hr (pa_cons (pv 0) (pa_cons (pv 3) (pa_cons (pv 1) pa_nil)))) (pe_fld (pv 3) rfl)))
      (pss_one (ps_set (i := 2) nd rfl (Or.inl rfl) (pe_op (oAdd (m_Ratio_add T hN) T hr43) (pv 2) (pe_op (oMul (m_Ratio_mul T hN) T hr43) (pe_op (oMul (m_Ratio_mul T hN) T hr43) (pe_fld (pv 3) rfl) (pv 4)) (pv 4)))))))
    (pss_one (ps_ret (pv 2)))), ?_⟩
  obtain ⟨dB, hB⟩ := hb.ins
  obtain ⟨vr, hvr, alr⟩ := hb.r
  have hlr := alr.len
  intro x0 dx0 nx0 nd0 ne0
  refine mk0' nx0 nd0 ne0 fun H1 e1 r1 => ⟨rfl, ?_⟩
  refine ⟨_, rfl, B.p, CBk K, dB, _, _, rfl, e1 _ _ hB, T.c_Book, T.n_Book_readings, lBk_readings, B.pr, rfl, ⟨_, SqL.of' (e1 _ _ hvr)⟩, for_it (walk_list (xs := vr)) (fun i σ H' => Ex H H' ∧ ∃ tv o3 o4, σ = [some (.ref B.p), some vh, some tv, o3, o4] ∧ IsR K H' tv (sqAtM { b with rds := b.rds.take i } h))
    ⟨e1, _, _, _, rfl, r1⟩ (fun i σ H' _ q => SqL.of' (q.1 _ _ hvr)) ?_ ?_⟩
  · rintro i z σ H2 H3 hi ⟨e, tv, o4, o5, rfl, hv⟩ ⟨rfl, hx⟩
    obtain ⟨r, hr0, p, dp, tt, vv, wv, rfl, hp, h3, h4, h5⟩ := alr.get hx
    have hrm := List.mem_of_getElem? hr0
    obtain ⟨f1, f2, f3, f4, f5, f6⟩ := f.s r hrm
    have hil : i < b.rds.length := (List.getElem?_eq_some_iff.mp hr0).1
    refine ⟨_, rfl, _, rfl, _, rfl, B, b, _, r, _, h, rfl, hb.ex e, ⟨p, dp, tt, vv, wv, rfl, e _ _ hp, stayTms _ _ _ _ (Ex.kp (K := K) e) h3, h4.ex e, h5.ex e⟩, hh.ex e, hts r hrm, hhl, f1, fun v4 H4 e4 h4' => ?_⟩
    have e04 := e.trans e4
    refine ⟨_, rfl, p, CRd K, dp, _, _, rfl, e04 _ _ hp, T.c_Reading, T.n_Reading_value, lRd_value, ?_⟩
    have fs : Fit (sumAtM b.names r.terms h) := by
      have := f1.s r.terms.length (Nat.le_refl _)
      rw [List.take_length] at this
      exact this
    refine ⟨_, _, h4', h4.ex e04, fs, f2, fun v5 H5 e5 h5' => ?_⟩
    have e05 := e04.trans e5
    refine ⟨_, rfl, _, rfl, p, CRd K, dp, _, _, rfl, e05 _ _ hp, T.c_Reading, T.n_Reading_weight, lRd_weight, _, rfl, ?_⟩
    refine ⟨_, _, h5.ex e05, h5', f3, f4, fun v6 H6 e6 h6 => ?_⟩
    refine ⟨_, rfl, _, _, h6, h5'.ex e6, f5, f4, fun v7 H7 e7 h7 => ?_⟩
    refine ⟨_, _, hv.ex (e4.trans (e5.trans (e6.trans e7))), h7, f.t i (by omega), f6, fun v8 H8 e8 h8 => ?_⟩
    refine ⟨e05.trans (e6.trans (e7.trans e8)), v8, _, _, rfl, ?_⟩
    rw [sqAt_succ hr0]
    exact h8
  · rintro σ H2 ⟨e, tv, o4, o5, rfl, hv⟩
    rw [hlr, List.take_length] at hv
    exact ⟨_, rfl, k _ _ e hv⟩
/-- numbers: a list at an address or a tuple -/
def IsLT (K : PySem.W.Frag) (H : Hp) (v : V) (x : Vec) : Prop := (∃ p, v = .ref p ∧ IsL (IsR K) H p x) ∨ IsV K H v x
def spWs (K : PySem.W.Frag) : Sp := fun vs H Q _ => ∃ B b nm vx x, vs = [.ref (BkA.p B), .str nm, vx] ∧ IsBk K H B b ∧ IsLT K H vx x ∧ x.length = b.rds.length ∧ FWs b.rds nm x ∧ ∀ v H', Ex H H' → IsR K H' v (wsumM b.rds nm x) → Q v H'
abbrev nWs : List Str := ["book", "name", "numbers", "total", "reading", "number", "other", "coefficient"]
theorem sc_weighted_sum : FnScope nWs ["book", "name", "numbers"] (defScope s_weighted_sum) := ⟨rfl, rfl, rfl, by decide +kernel, rfl, by decide +kernel, by decide +kernel⟩
theorem d_weighted_sum_ok (T : Txt K mg) (hN : base.NoSeer) : Def PP w K mg base CX0 "weighted_sum" (a_weighted_sum K) 44 ["book", "name", "numbers"] (spWs K) := by
  obtain ⟨fd, F⟩ := T.d_weighted_sum
  refine ⟨⟨fd, ok0 F sc_weighted_sum (fun vs H Q E h => ?_) (fun cdv A outer s H vs Q E hr h => ?_), F.bindsN fun _ _ _ _ _ _ us hl => match us, hl with | [_, _, _], _ => rfl⟩, T.g_weighted_sum, F.kp⟩
  · obtain ⟨B, b, nm, vx, x, rfl, _⟩ := h
    rfl
  obtain ⟨B, b, nm, vx, x, rfl, hb, hx, hxl, f, k⟩ := h
  have nd := sc_weighted_sum.nd
  refine ⟨_, pss_cons (ps_set (i := 3) nd rfl (Or.inl rfl) (pe_makeD (k_Ratio1 T hN) (hr.mono (by decide)) (pa_cons pe_int pa_nil)))
    (pss_cons (ps_for PassesOwn.never rfl (pi_or (RZ.pi_zipA (by rfl) T.f_zip (pa_cons (pe_fld (pv 0) rfl) (pa_cons (pv 2) pa_nil))) (pi_zipM (by rfl) T.f_zip (pa_cons (pe_fld (pv 0) rfl) (pa_cons (pv 2) pa_nil)))) (pg_tup rfl (pgs_cons (pg_name (i := 4) nd rfl (Or.inl rfl)) (pgs_cons (pg_name (i := 5) nd rfl (Or.inl rfl)) pgs_nil)))
      (pss_one (ps_for PassesOwn.never rfl (pi_tup (pe_fld (pv 4) rfl)) (pg_tup rfl (pgs_cons (pg_name (i := 6) nd rfl (Or.inl rfl)) (pgs_cons (pg_name (i := 7) nd rfl (Or.inl rfl)) pgs_nil)))
        (pss_one (ps_if (pt_cmpR op_eq (pv 6) (pv 1) (nomark _)) (pss_one (ps_set (i := 3) nd rfl (Or.inl rfl) (pe_op (oAdd (m_Ratio_add T hN) T hr) (pv 3) (pe_op (oMul (m_Ratio_mul T hN) T hr) (pe_makeD (k_Ratio1 T hN) (hr.mono (by decide)) (pa_cons (pv 7) pa_nil)) (pv 5))))) pss_nil)))))
    (pss_one (ps_ret (pv 3)))), ?_⟩
  obtain ⟨dB, hB⟩ := hb.ins
  obtain ⟨vr, hvr, alr⟩ := hb.r
  have hlr := alr.len
  intro x0 dx0 nx0 nd0 ne0
  refine mk0' nx0 nd0 ne0 fun H1 e1 r1 => ⟨rfl, ?_⟩
  obtain ⟨J, G, vxs, hw, hG, lx, hR⟩ : ∃ (J : It) (G : Hp → Prop) (vxs : List V), Walk J vr.length G (YPair (fun i => vr[i]?) (fun i => vxs[i]?)) ∧ (∀ H', Ex H H' → G H') ∧ Al (IsR K H) vxs x ∧
      ∀ R : It → Hp → Prop, R J H1 → (RZ.iZipA K (tCons (tFld K (tVar 0) "readings") (tCons (tVar 2) tNil)) [some (.ref B.p), some (.str nm), some vx, some (.ref x0), none, none, none, none] H1 R ∨
        iZipM K (tCons (tFld K (tVar 0) "readings") (tCons (tVar 2) tNil)) [some (.ref B.p), some (.str nm), some vx, some (.ref x0), none, none, none, none] H1 R) := by
    rcases hx with ⟨xp, rfl, vxs, hxp, lx⟩ | ⟨xp, vxs, rfl, hxp, lx⟩
    · have hlx := lx.len
      exact ⟨Itz K B.pr xp, _, vxs, walk_zip (xs := vr) (ys := vxs) (by omega), fun H' e => ⟨SqL.of' (e _ _ hvr), SqL.of' (e _ _ hxp)⟩, lx, fun R hR => .inl ⟨_, rfl, B.p, CBk K, dB, _, _, rfl, e1 _ _ hB, T.c_Book, T.n_Book_readings, lBk_readings, _, rfl, B.pr, xp, vr, vxs, rfl, .inl ⟨SqL.of' (e1 _ _ hvr), SqL.of' (e1 _ _ hxp), hR⟩⟩⟩
    · have hlx := lx.len
      exact ⟨ItzM K B.pr xp, _, vxs, walk_zipM (xs := vr) (ys := vxs) (by omega), fun H' e => ⟨SqL.of' (e _ _ hvr), SqT.of' (e _ _ hxp)⟩, lx, fun R hR => .inr ⟨_, rfl, B.p, CBk K, dB, _, _, rfl, e1 _ _ hB, T.c_Book, T.n_Book_readings, lBk_readings, _, rfl, B.pr, xp, vr, vxs, rfl, SqL.of' (e1 _ _ hvr), SqT.of' (e1 _ _ hxp), hR⟩⟩
  refine hR _ (for_it hw (fun i σ H' => Ex H H' ∧ ∃ tv o4 o5 o6 o7, σ = [some (.ref B.p), some (.str nm), some vx, some tv, o4, o5, o6, o7] ∧ IsR K H' tv (wsumM (b.rds.take i) nm (x.take i)))
    ⟨e1, _, _, _, _, _, rfl, r1⟩ (fun i σ H' _ q => hG H' q.1) ?_ ?_)
  · rintro i z σ H2 H3 hi ⟨e, tv, o4, o5, o6, o7, rfl, hv⟩ ⟨Tp, v1, v2, rfl, hT, rfl, h1, h2⟩
    obtain ⟨r, hr0, p, dp, _, vv, wv, rfl, hp, ⟨tp, vts, rfl, htp, lt⟩, h4, h5⟩ := alr.get h1
    obtain ⟨y, hy, ry⟩ := lx.get h2
    have e2 : Ex H2 (upd H2 Tp (.tup [.ref p, v2])) := (Ex.refl _).new hT
    have e02 := e.trans e2
    have hlt := lt.len
    have fy := f.x y (List.mem_of_getElem? hy)
    refine ⟨Tp, _, rfl, SqT.of' upd_same, rfl, _, _, rfl, _, _, rfl, rfl, ?_⟩
    refine ⟨_, rfl, p, CRd K, dp, _, _, rfl, e02 _ _ hp, T.c_Reading, T.n_Reading_terms, lRd_terms, tp, rfl, ⟨_, SqT.of' (e02 _ _ htp)⟩, for_it (walk_tup (xs := vts)) (fun j σ H' => Ex H H' ∧ ∃ tv o6 o7, σ = [some (.ref B.p), some (.str nm), some vx, some tv, some (.ref p), some v2, o6, o7] ∧ IsR K H' tv (inW nm y (wsumM (b.rds.take i) nm (x.take i)) (r.terms.take j)))
      ⟨e02, _, _, _, rfl, hv.ex e2⟩ (fun j σ H' _ q => SqT.of' (q.1 _ _ htp)) ?_ ?_⟩
    · rintro j z σ H4 H5 hj ⟨e4, tv, o6, o7, rfl, hv⟩ ⟨rfl, hx2⟩
      obtain ⟨t, ht, q, rfl, hq⟩ := lt.get hx2
      obtain ⟨f1, f2⟩ := f.c i r y hr0 hy t (List.mem_of_getElem? ht)
      have hjl : j < r.terms.length := (List.getElem?_eq_some_iff.mp ht).1
      refine ⟨q, _, rfl, SqT.of' (e4 _ _ hq), rfl, _, _, rfl, _, _, rfl, rfl, ?_⟩
      refine ⟨_, rfl, _, rfl, rfl, _, rfl, ite2 (fun hh => ?_) (fun hh => ?_)⟩
      · have hn : t.1 = nm := by
          have : V.str t.1 = V.str nm := by simpa using hh
          injection this
        refine ⟨_, rfl, _, rfl, ?_⟩
        intro x2 dx2 nx2 nd2 ne2
        refine mkI' nx2 nd2 ne2 fun H6 e6 r6 => ⟨rfl, _, rfl, ?_⟩
        refine ⟨_, _, r6, ry.ex (e4.trans e6), f1, fy, fun v7 H7 e7 h7 => ?_⟩
        refine ⟨_, _, hv.ex (e6.trans e7), h7, f.s i r y hr0 hy j (by omega), f2, fun v8 H8 e8 h8 => ?_⟩
        refine ⟨e4.trans (e6.trans (e7.trans e8)), v8, _, _, rfl, ?_⟩
        rw [inW_succ ht, if_pos hn]
        exact h8
      · have hn : t.1 ≠ nm := fun z => hh (by rw [z]; simp)
        refine ⟨e4, tv, _, _, rfl, ?_⟩
        rw [inW_succ ht, if_neg hn]
        exact hv
    · rintro σ H4 ⟨e4, tv, o6, o7, rfl, hv⟩
      rw [hlt, List.take_length] at hv
      refine ⟨e4, tv, _, _, _, _, rfl, ?_⟩
      rw [wsum_succ hr0 hy]
      exact hv
  · rintro σ H2 ⟨e, tv, o4, o5, o6, o7, rfl, hv⟩
    rw [hlr, List.take_length, List.take_of_length_le (by omega)] at hv
    exact ⟨_, rfl, k _ _ e hv⟩
end
end Pn
set_option maxHeartbeats 4000000
/-! judge: fault_of -/
namespace Pn
open PySem PySem.Spec PyProof.Rows L2
theorem oNe {X : Cx} (T : Txt X.K X.mg) (hP : X.prog = PP) (hr : Room 2 X.A) : OpR X (compareOp .NotEq) (rNeI (CRt X.K) (REq X.K)) := by
  have D := m_Ratio_eq (w := X.w) (base := X.base) T
  rw [← hP] at D
  obtain ⟨fd, F, b⟩ := D.ok
  exact op_neI F hr b D.m T.neq
/-- two equal fractions, != -/
theorem neR {K : PySem.W.Frag} {H : Hp} {v u : V} {q : Rat} {Q : VK} (hv : IsR K H v q) (hu : IsR K H u q) (k : ∀ H', Ex H H' → Q (.bl false) H') : rNeI (CRt K) (REq K) v u H Q := by
  obtain ⟨a, dx, rfl, ha⟩ := hv
  obtain ⟨b, dy, rfl, hb⟩ := hu
  exact ⟨⟨a, b, dx, dy, _, _, rfl, rfl, ha, hb, q, ⟨a, dx, rfl, ha⟩, ⟨b, dy, rfl, hb⟩⟩, k⟩
section
variable {w : World} {K : PySem.W.Frag} {mg : Str → Option Value} {base : Heap}
def spFault (K : PySem.W.Frag) : Sp := fun vs H Q _ => ∃ B b vp h m f, vs = [.ref (BkA.p B), vp] ∧ IsBk K H B b ∧ IsPap K H vp h m f ∧ BkOk b ∧ JOk b h m f ∧ FJudge b h m f ∧ ∀ H', Ex H H' → Q .non H'
abbrev nFlt : List Str := ["book", "paper", "heights", "misfits", "factors", "count", "reading", "misfit", "forces", "name", "place"]
theorem sc_fault_of : FnScope nFlt ["book", "paper"] (defScope s_fault_of) := ⟨rfl, rfl, rfl, by decide +kernel, rfl, by decide +kernel, by decide +kernel⟩
theorem d_fault_of_ok (T : Txt K mg) (hN : base.NoSeer) : Def PP w K mg base CX0 "fault_of" (a_fault_of K) 46 ["book", "paper"] (spFault K) := by
  obtain ⟨fd, F⟩ := T.d_fault_of
  refine ⟨⟨fd, ok0 F sc_fault_of (fun vs H Q E h => ?_) (fun cdv A outer s H vs Q E hr h => ?_), F.bindsN fun _ _ _ _ _ _ us hl => match us, hl with | [_, _], _ => rfl⟩, T.g_fault_of, F.kp⟩
  · obtain ⟨B, b, vp, h, m, f, rfl, _⟩ := h
    rfl
  obtain ⟨B, b, _, h, m, f, rfl, hb, ⟨pp, vh, vm, vf, rfl, hpp, hvh, hvm, hvf⟩, ok, jo, fj, k⟩ := h
  have nd := sc_fault_of.nd
  have hu := hu_of hr
  have hr43 : Room 43 _ := hr.mono (by decide)
  refine ⟨_, pss_cons (ps_asg (pv 1) (pg_tup rfl (pgs_cons (pg_name (i := 2) nd rfl (Or.inl rfl)) (pgs_cons (pg_name (i := 3) nd rfl (Or.inl rfl)) (pgs_cons (pg_name (i := 4) nd rfl (Or.inl rfl)) pgs_nil)))))
    (pss_cons (ps_set (i := 5) nd rfl (Or.inl rfl) (pe_callB call_len_seq (by rfl) T.f_len boot_len (pa_cons (pe_fld (pv 0) rfl) pa_nil)))
    (pss_cons (ps_if (PW.pt (pw_or (pt_cmpR op_ne (pe_callB call_len_seq (by rfl) T.f_len boot_len (pa_cons (pv 2) pa_nil)) (pe_callB call_len_seq (by rfl) T.f_len boot_len (pa_cons (pe_fld (pv 0) rfl) pa_nil)) (nomark _))
        (pw_or (pt_cmpR op_ne (pe_callB call_len_seq (by rfl) T.f_len boot_len (pa_cons (pv 3) pa_nil)) (pv 5) (nomark _)) (pw_or1 (pt_cmpR op_ne (pe_callB call_len_seq (by rfl) T.f_len boot_len (pa_cons (pv 4) pa_nil)) (pv 5) (nomark _))))))
        (pss_one (ps_ret pe_str)) pss_nil)
    (pss_cons (ps_for PassesOwn.never rfl (pi_zipM (by rfl) T.f_zip (pa_cons (pe_fld (pv 0) rfl) (pa_cons (pv 3) pa_nil))) (pg_tup rfl (pgs_cons (pg_name (i := 6) nd rfl (Or.inl rfl)) (pgs_cons (pg_name (i := 7) nd rfl (Or.inl rfl)) pgs_nil)))
      (pss_one (ps_if (pt_cmpR (oNe T rfl (hr.mono (by decide))) (pe_op (oSub (m_Ratio_sub T hN) T hr43) (pe_callD (d_sum_at_ok T hN) (hr.mono (by decide)) (pa_cons (pv 0) (pa_cons (pv 6) (pa_cons (pv 2) pa_nil)))) (pe_fld (pv 6) rfl)) (pv 7) (nomark _)) (pss_one (ps_ret pe_str)) pss_nil)))
    (pss_cons (ps_setLc (i := 8) (own := [("reading", 6), ("misfit", 7)]) (g := gTup K 2 (gCons (gName 6) (gCons (gName 7) gNil))) (tt := tYes) (te := tOp (rBin K (· * ·)) (tFld K (tVar 6) "weight") (tVar 7)) rfl nd rfl rfl (sw_true rfl rfl rfl (by decide +kernel))
      (pi_zipM (by rfl) T.f_zip (pa_cons (pe_fld (pv 0) rfl) (pa_cons (pv 3) pa_nil))) (blkOk_by (N := nFlt) (sc := defScope s_fault_of) (by decide +kernel))
      (fun _ _ _ _ _ => pg_tup rfl (pgs_cons (pg_name (i := 6) nd rfl (Or.inl rfl)) (pgs_cons (pg_name (i := 7) nd rfl (Or.inl rfl)) pgs_nil))) (fun _ _ _ _ _ => pts_nil)
      (fun _ _ _ _ _ => pe_op (oMul (m_Ratio_mul T hN) T hr43) (pe_fld (pv 6) rfl) (pv 7)))
    (pss_cons (ps_for PassesOwn.never rfl (pi_list (pe_fld (pv 0) rfl)) (pg_name (i := 9) nd rfl (Or.inl rfl))
      (pss_one (ps_if (pt_cmpR op_ne (pe_fld (pe_callD (d_weighted_sum_ok T hN) (hr.mono (by decide)) (pa_cons (pv 0) (pa_cons (pv 9) (pa_cons (pv 8) pa_nil)))) rfl) pe_int (nomark _)) (pss_one (ps_ret pe_str)) pss_nil)))
    (pss_cons (ps_for PassesOwn.never rfl (pi_enum (by rfl) T.f_enumerate (pa_cons (pe_fld (pv 0) rfl) pa_nil)) (pg_tup rfl (pgs_cons (pg_name (i := 10) nd rfl (Or.inl rfl)) (pgs_cons (pg_name (i := 9) nd rfl (Or.inl rfl)) pgs_nil)))
      (pss_one (ps_if (pt_cmpR (oNe T rfl (hr.mono (by decide))) (pe_op (oSub (m_Ratio_sub T hN) T hr43) (pe_ix ix_tup (pv 2) (pv 10) (fun _ _ => rfl)) (pe_dget hu (pe_fld (pv 0) rfl) (pv 9) (fun _ _ => rfl))) (pe_callD (d_weighted_sum_ok T hN) (hr.mono (by decide)) (pa_cons (pv 0) (pa_cons (pv 9) (pa_cons (pv 4) pa_nil)))) (nomark _)) (pss_one (ps_ret pe_str)) pss_nil)))
    (pss_one (ps_ret pe_non)))))))), ?_⟩
  obtain ⟨dB, hB⟩ := hb.ins
  obtain ⟨kvs, hkv, al⟩ := hb.d
  obtain ⟨vr, hvr, alr⟩ := hb.r
  have hbl := hb.l
  have hlr := alr.len
  have hnl : b.names.length = b.pts.length := by simp [Bk.names]
  have hpz := ok.pz
  have hrz := ok.rz
  obtain ⟨ah, vhs, rfl, hah, lh⟩ := hvh
  obtain ⟨am, vms, rfl, ham, lm⟩ := hvm
  obtain ⟨af, vfs, rfl, haf, lf⟩ := hvf
  have l1 := lh.len
  have l2 := lm.len
  have l3 := lf.len
  have j1 := jo.lh
  have j2 := jo.lm
  have j3 := jo.lf
  refine ⟨_, rfl, pp, _, rfl, SqT.of' hpp, rfl, _, _, rfl, _, _, rfl, _, _, rfl, rfl, ?_⟩
  refine ⟨_, rfl, B.p, CBk K, dB, _, _, rfl, hB, T.c_Book, T.n_Book_readings, lBk_readings, B.pr, _, rfl, .inl (SqL.of' hvr), ?_⟩
  refine ⟨_, rfl, ah, _, rfl, .inr (SqT.of' hah), _, rfl, B.p, CBk K, dB, _, _, rfl, hB, T.c_Book, T.n_Book_points, lBk_points, B.pl, _, rfl, .inl (SqL.of' hbl), rfl, _, rfl, ?_⟩
  rw [decide_eq_true (by rw [sVs_len]; congr 1; omega : V.int (vhs.length : Nat) = V.int ((sVs b.names).length : Nat))]
  refine iteF ?_
  refine ⟨_, rfl, am, _, rfl, .inr (SqT.of' ham), _, rfl, rfl, _, rfl, ?_⟩
  rw [decide_eq_true (by congr 1; omega : V.int (vms.length : Nat) = V.int (vr.length : Nat))]
  refine iteF ?_
  refine ⟨_, rfl, af, _, rfl, .inr (SqT.of' haf), _, rfl, rfl, _, rfl, ?_⟩
  rw [decide_eq_true (by congr 1; omega : V.int (vfs.length : Nat) = V.int (vr.length : Nat))]
  refine iteF ?_
  refine ⟨_, rfl, B.p, CBk K, dB, _, _, rfl, hB, T.c_Book, T.n_Book_readings, lBk_readings, _, rfl, B.pr, am, vr, vms, rfl, SqL.of' hvr, SqT.of' ham,
    for_it (walk_zipM (xs := vr) (ys := vms) rfl) (fun i σ H' => Ex H H' ∧ ∃ o6 o7, σ = [some (.ref B.p), some (.ref pp), some (.ref ah), some (.ref am), some (.ref af), some (.int (vr.length : Nat)), o6, o7, none, none, none])
    ⟨Ex.refl H, _, _, rfl⟩ (fun i σ H' _ q => ⟨SqL.of' (q.1 _ _ hvr), SqT.of' (q.1 _ _ ham)⟩) ?_ ?_⟩
  · rintro i z σ H2 H3 hi ⟨e, o6, o7, rfl⟩ ⟨Tp, v1, v2, rfl, hT, rfl, h1, h2⟩
    obtain ⟨r, hr0, p, dp, tt, vv, wv, rfl, hp, h3, h4, h5⟩ := alr.get h1
    obtain ⟨y, hy, ry⟩ := lm.get h2
    have e2 : Ex H2 (upd H2 Tp (.tup [.ref p, v2])) := (Ex.refl _).new hT
    have e02 := e.trans e2
    have hrm := List.mem_of_getElem? hr0
    obtain ⟨f1, f2, f3, f4, f5, f6⟩ := fj.s.s r hrm
    have fs : Fit (sumAtM b.names r.terms h) := by
      have := f1.s r.terms.length (Nat.le_refl _)
      rw [List.take_length] at this
      exact this
    refine ⟨Tp, _, rfl, SqT.of' upd_same, rfl, _, _, rfl, _, _, rfl, rfl, ?_⟩
    refine ⟨_, rfl, _, rfl, _, rfl, B, b, _, r, _, h, rfl, hb.ex e02, ⟨p, dp, tt, vv, wv, rfl, e02 _ _ hp, stayTms _ _ _ _ (Ex.kp (K := K) e02) h3, h4.ex e02, h5.ex e02⟩, ⟨ah, vhs, rfl, e02 _ _ hah, al_kpR lh e02.kp⟩, (ok.r r hrm).mem, j1, f1, fun v4 H4 e4 h4' => ?_⟩
    have e04 := e02.trans e4
    refine ⟨_, rfl, p, CRd K, dp, _, _, rfl, e04 _ _ hp, T.c_Reading, T.n_Reading_value, lRd_value, ?_⟩
    refine ⟨_, _, h4', h4.ex e04, fs, f2, fun v5 H5 e5 h5' => ?_⟩
    have e05 := e04.trans e5
    replace h5' : IsR K H5 v5 (sumAtM b.names r.terms h - r.value) := h5'
    rw [jo.mis i r y hr0 hy] at h5'
    refine ⟨_, rfl, neR h5' (ry.ex e05) fun H6 e6 => ⟨_, rfl, iteF ⟨e05.trans e6, _, _, rfl⟩⟩⟩
  rintro σ H1 ⟨e1, o6, o7, rfl⟩
  refine ⟨_, rfl, B.p, CBk K, dB, _, _, rfl, e1 _ _ hB, T.c_Book, T.n_Book_readings, lBk_readings, _, rfl, B.pr, am, vr, vms, rfl, SqL.of' (e1 _ _ hvr), SqT.of' (e1 _ _ ham), fun D hD => ?_⟩
  refine lc_al (K := K) (walk_zipM (xs := vr) (ys := vms) rfl) stayR (List.zipWith (fun r x => r.weight * x) b.rds m) (by rw [List.length_zipWith]; omega) (by omega) hD (fun H2 e => ⟨SqL.of' (e _ _ (e1 _ _ hvr)), SqT.of' (e _ _ (e1 _ _ ham))⟩) ypair_ex ?_ ?_
  · rintro i z y H2 H3 hi hy e2 ⟨Tp, v1, v2, rfl, hT, rfl, h1, h2⟩ Rk kk
    obtain ⟨r, hr0, p, dp, tt, vv, wv, rfl, hp, h3, h4, h5⟩ := alr.get h1
    obtain ⟨x, hx0, rx⟩ := lm.get h2
    have ey : y = r.weight * x := by
      rw [List.getElem?_zipWith, hr0, hx0] at hy
      exact (Option.some.inj hy).symm
    subst ey
    have e3 : Ex H2 (upd H2 Tp (.tup [.ref p, v2])) := (Ex.refl _).new hT
    have e03 := e1.trans (e2.trans e3)
    obtain ⟨g1, g2⟩ := fj.mf i r x hr0 hx0
    refine ⟨Tp, _, rfl, SqT.of' upd_same, rfl, _, _, rfl, _, _, rfl, rfl, rfl, ?_⟩
    refine ⟨_, rfl, p, CRd K, dp, _, _, rfl, e03 _ _ hp, T.c_Reading, T.n_Reading_weight, lRd_weight, _, rfl, ?_⟩
    exact ⟨_, _, h5.ex e03, rx.ex e03, g1, g2, fun v4 H4 e4 h4' => kk v4 H4 e4 h4'⟩
  intro H2 acc e2 h2 hal
  have e02 := e1.trans e2
  refine ⟨_, rfl, B.p, CBk K, dB, _, _, rfl, e02 _ _ hB, T.c_Book, T.n_Book_points, lBk_points, B.pl, rfl, ⟨_, SqL.of' (e02 _ _ hbl)⟩, for_it (walk_list (xs := sVs b.names)) (fun i σ H' => Ex H2 H' ∧ ∃ o6 o7 o9, σ = [some (.ref B.p), some (.ref pp), some (.ref ah), some (.ref am), some (.ref af), some (.int (vr.length : Nat)), o6, o7, some (.ref D), o9, none])
    ⟨Ex.refl _, _, _, _, rfl⟩ (fun i σ H' _ q => SqL.of' (q.1 _ _ (e02 _ _ hbl))) ?_ ?_⟩
  · rintro i z σ H3 H4 hi ⟨e, o6, o7, o9, rfl⟩ ⟨rfl, hx⟩
    rw [sVs_len] at hi
    have hg : b.names[i]? = some b.names[i] := List.getElem?_eq_getElem hi
    have hz : z = .str b.names[i] := by
      unfold sVs at hx
      rw [List.getElem?_map, hg] at hx
      exact (Option.some.inj hx).symm
    subst hz
    have hm := List.mem_of_getElem? hg
    have e03 := e02.trans e
    refine ⟨_, rfl, _, rfl, _, rfl, B, b, _, _, List.zipWith (fun (r : Rg) x => r.weight * x) b.rds m, rfl, hb.ex e03, .inl ⟨D, rfl, acc, e _ _ h2, al_kpR (K := K) hal e.kp⟩, by rw [List.length_zipWith]; omega, fj.fo _ hm, fun v4 H5 e5 h5' => ?_⟩
    obtain ⟨c, dc, rfl, hc⟩ := h5'
    rw [jo.least _ hm] at hc
    refine ⟨c, CRt K, dc, _, _, rfl, hc, T.c_Ratio, T.n_Ratio_top, rf_top _ _, rfl, _, rfl, ?_⟩
    rw [decide_eq_true (by rfl : V.int ((0 : Rat).num) = V.int 0)]
    exact iteF ⟨e.trans e5, _, _, _, rfl⟩
  rintro σ H3 ⟨e, o6', o7', o9, rfl⟩
  have e03 := e02.trans e
  refine ⟨_, rfl, B.p, CBk K, dB, _, _, rfl, e03 _ _ hB, T.c_Book, T.n_Book_points, lBk_points, B.pl, _, rfl, SqL.of' (e03 _ _ hbl), for_it (walk_enum (xs := sVs b.names)) (fun i σ H' => Ex H H' ∧ ∃ o6 o7 o9 o10, σ = [some (.ref B.p), some (.ref pp), some (.ref ah), some (.ref am), some (.ref af), some (.int (vr.length : Nat)), o6, o7, some (.ref D), o9, o10])
    ⟨e03, _, _, _, _, rfl⟩ (fun i σ H' _ q => SqL.of' (q.1 _ _ hbl)) ?_ ?_⟩
  · rintro i z σ H4 H5 hi ⟨e4, o6, o7, o9, o10, rfl⟩ ⟨Tp, v1, v2, rfl, hT, rfl, h1, h2⟩
    have hv1 : v1 = .int (i : Nat) := (Option.some.inj h1).symm
    subst hv1
    rw [sVs_len] at hi
    have hip : i < b.pts.length := by omega
    have hz : v2 = .str (b.pts[i].1) := by
      have h2 : (sVs b.names)[i]? = some v2 := h2
      unfold sVs Bk.names at h2
      rw [List.getElem?_map, List.getElem?_map, List.getElem?_eq_getElem hip] at h2
      exact (Option.some.inj h2).symm
    subst hz
    have hmp : b.pts[i] ∈ b.pts := List.getElem_mem hip
    rcases kv_get al b.pts[i].1 with ⟨q1, q2⟩ | ⟨v, q, q1, q2, q3, q4⟩
    · exact absurd (List.mem_map.mpr ⟨b.pts[i], hmp, rfl⟩) q2
    have hq : q = b.pts[i].2 := by
      have hm := List.mem_of_find?_eq_some q3
      obtain ⟨j, hj, ej⟩ := List.getElem_of_mem hm
      have hj1 : b.pts[j].1 = b.pts[i].1 := by rw [ej]
      have hn : (b.pts.map (·.1)).Nodup := ok.nd
      have := nd_inj hn (i := j) (j := i) (by simpa using hj) (by simpa using hip) (by simpa using hj1)
      subst this
      rw [ej]
    subst hq
    have e5 : Ex H4 (upd H4 Tp (.tup [.int (i : Nat), .str b.pts[i].1])) := (Ex.refl _).new hT
    have e05 := e4.trans e5
    obtain ⟨u, hu2, ru⟩ := lh.at' (d := 0) (i := i) (by omega)
    have hgx : h[i]? = some (h.getD i 0) := by
      rw [List.getD_eq_getElem?_getD, List.getElem?_eq_getElem (by omega)]
      rfl
    refine ⟨Tp, _, rfl, SqT.of' upd_same, rfl, _, _, rfl, _, _, rfl, rfl, ?_⟩
    refine ⟨_, rfl, _, rfl, ah, vhs, _, u, rfl, rfl, SqT.of' (e05 _ _ hah), atI_nat hu2, ?_⟩
    refine ⟨_, rfl, B.p, CBk K, dB, _, _, rfl, e05 _ _ hB, T.c_Book, T.n_Book_approximations, lBk_approximations, _, rfl, B.pd, v, rfl, ?_, ?_⟩
    · have := DGet.k (k := Sum.inr b.pts[i].1) (e05 _ _ hkv)
      rw [q1] at this
      exact this
    refine ⟨_, _, ru.ex e05, q2.ex e05, fj.h _ (List.mem_of_getElem? hgx), fj.x0 _ hmp, fun v6 H6 e6 h6 => ?_⟩
    have e06 := e05.trans e6
    have hm : b.pts[i].1 ∈ b.names := List.mem_map.mpr ⟨b.pts[i], hmp, rfl⟩
    refine ⟨_, rfl, _, rfl, _, rfl, B, b, _, _, f, rfl, hb.ex e06, .inr ⟨af, vfs, rfl, e06 _ _ haf, al_kpR lf e06.kp⟩, j3, fj.fa _ hm, fun v7 H7 e7 h7 => ?_⟩
    rw [← jo.near i _ _ (List.getElem?_eq_getElem hip) hgx] at h7
    exact neR (h6.ex e7) h7 fun H8 e8 => ⟨_, rfl, iteF ⟨e06.trans (e7.trans e8), _, _, _, _, rfl⟩⟩
  · rintro σ H4 ⟨e4, o6, o7, o9, o10, rfl⟩
    exact k _ e4
end
end Pn
set_option maxHeartbeats 4000000
/-! deeds, perform -/
namespace Pn
open PySem PySem.Spec PyProof.Rows L2
def IsDd (K : PySem.W.Frag) (H : Hp) (v : V) : Dd Str → Prop
  | .point n q => ∃ p vq, v = .ref p ∧ H p = some (.tup [.str "point", .str n, vq]) ∧ IsR K H vq q
  | .reading n ts x y => ∃ p vt vx vy, v = .ref p ∧ H p = some (.tup [.str "reading", .str n, vt, vx, vy]) ∧ IsTerms H vt ts ∧ IsR K H vx x ∧ IsR K H vy y
  | .approx n q => ∃ p vq, v = .ref p ∧ H p = some (.tup [.str "approximation", .str n, vq]) ∧ IsR K H vq q
  | .value n q => ∃ p vq, v = .ref p ∧ H p = some (.tup [.str "value", .str n, vq]) ∧ IsR K H vq q
  | .weight n q => ∃ p vq, v = .ref p ∧ H p = some (.tup [.str "weight", .str n, vq]) ∧ IsR K H vq q
  | .withdraw n => ∃ p, v = .ref p ∧ H p = some (.tup [.str "withdraw", .str n])
  | .remove n => ∃ p, v = .ref p ∧ H p = some (.tup [.str "remove", .str n])
theorem stayDd {K : PySem.W.Frag} : Stay K (IsDd K) := by
  intro H H' v d e h
  cases d with
  | point n q => obtain ⟨p, vq, h1, h2, h3⟩ := h; exact ⟨p, vq, h1, e p _ h2 trivial, h3.kp e⟩
  | reading n ts x y => obtain ⟨p, vt, vx, vy, h1, h2, h3, h4, h5⟩ := h; exact ⟨p, vt, vx, vy, h1, e p _ h2 trivial, stayTms _ _ _ _ e h3, h4.kp e, h5.kp e⟩
  | approx n q => obtain ⟨p, vq, h1, h2, h3⟩ := h; exact ⟨p, vq, h1, e p _ h2 trivial, h3.kp e⟩
  | value n q => obtain ⟨p, vq, h1, h2, h3⟩ := h; exact ⟨p, vq, h1, e p _ h2 trivial, h3.kp e⟩
  | weight n q => obtain ⟨p, vq, h1, h2, h3⟩ := h; exact ⟨p, vq, h1, e p _ h2 trivial, h3.kp e⟩
  | withdraw n => obtain ⟨p, h1, h2⟩ := h; exact ⟨p, h1, e p _ h2 trivial⟩
  | remove n => obtain ⟨p, h1, h2⟩ := h; exact ⟨p, h1, e p _ h2 trivial⟩
/-- a deed's word -/
def word : Dd Str → Str
  | .point _ _ => "point"
  | .reading _ _ _ _ => "reading"
  | .approx _ _ => "approximation"
  | .value _ _ => "value"
  | .weight _ _ => "weight"
  | .withdraw _ => "withdraw"
  | .remove _ => "remove"
theorem dd_tup {K : PySem.W.Frag} {H : Hp} {v : V} {d : Dd Str} (h : IsDd K H v d) : ∃ p n r, v = .ref p ∧ H p = some (.tup (.str (word d) :: .str n :: r)) := by
  cases d with
  | point n q => obtain ⟨p, vq, h1, h2, h3⟩ := h; exact ⟨p, _, _, h1, h2⟩
  | reading n ts x y => obtain ⟨p, vt, vx, vy, h1, h2, h3, h4, h5⟩ := h; exact ⟨p, _, _, h1, h2⟩
  | approx n q => obtain ⟨p, vq, h1, h2, h3⟩ := h; exact ⟨p, _, _, h1, h2⟩
  | value n q => obtain ⟨p, vq, h1, h2, h3⟩ := h; exact ⟨p, _, _, h1, h2⟩
  | weight n q => obtain ⟨p, vq, h1, h2, h3⟩ := h; exact ⟨p, _, _, h1, h2⟩
  | withdraw n => obtain ⟨p, h1, h2⟩ := h; exact ⟨p, _, _, h1, h2⟩
  | remove n => obtain ⟨p, h1, h2⟩ := h; exact ⟨p, _, _, h1, h2⟩
theorem wne {a b : Str} (h : ¬ a = b) : decide (V.str a = V.str b) = false := decide_eq_false fun z => h (by injection z)
theorem weq {a : Str} : decide (V.str a = V.str a) = true := decide_eq_true rfl
section
variable {w : World} {K : PySem.W.Frag} {mg : Str → Option Value} {base : Heap}
def spPerf (K : PySem.W.Frag) : Sp := fun vs H Q E => ∃ B b dv d, vs = [.ref (BkA.p B), dv] ∧ IsBk K H B b ∧ IsDd K H dv d ∧ BkOk b ∧ DdOk d ∧ BRes K H B Q E (performB ltS eS b d)
theorem sc_perform : FnScope ["book", "deed", "word"] ["book", "deed"] (defScope s_perform) := ⟨rfl, rfl, rfl, by decide +kernel, rfl, by decide +kernel, by decide +kernel⟩
theorem terms_len {pts : List Str} {r : Rg} (h : ROk pts r) (hz : pts.length ≤ 12) : r.terms.length ≤ 1000 := by
  have h1 : (r.terms.map (·.1)).length ≤ pts.length := h.nd.length_le_of_subset fun x hx => by
    obtain ⟨t, ht, rfl⟩ := List.mem_map.mp hx
    exact h.mem t ht
  rw [List.length_map] at h1
  omega
theorem d_perform_ok (T : Txt K mg) : Def PP w K mg base (L2.CX PP w) "perform" (a_perform K) 5 ["book", "deed"] (spPerf K) := by
  obtain ⟨fd, F⟩ := T.d_perform
  refine ⟨⟨fd, okX F sc_perform (fun vs H Q E h => ?_) (fun cdv A outer s H vs Q E hr h => ?_), F.bindsN fun _ _ _ _ _ _ us hl => match us, hl with | [_, _], _ => rfl⟩, T.g_perform, F.kp⟩
  · obtain ⟨B, b, dv, d, rfl, _⟩ := h
    rfl
  obtain ⟨B, b, dv, d, rfl, hb, hd, ok, dok, res⟩ := h
  have nd := sc_perform.nd
  refine ⟨_, pss_cons (ps_set (i := 2) nd rfl (Or.inl rfl) (pe_ix ix_tup (pv 1) pe_int (fun _ _ => rfl)))
    (pss_one (ps_if (pt_cmpR op_eq (pv 2) pe_str (nomark _)) (pss_one (ps_expr (pe_methDX (m_Book_add_point T) (hr.mono (by decide)) (passes_call (takes_of rfl rfl rfl rfl) fun _ _ _ _ h => h) (pv 0) (pa_cons (pe_ix ix_tup (pv 1) pe_int (fun _ _ => rfl)) (pa_cons (pe_ix ix_tup (pv 1) pe_int (fun _ _ => rfl)) pa_nil)))))
    (pss_one (ps_if (pt_cmpR op_eq (pv 2) pe_str (nomark _)) (pss_one (ps_expr (pe_methDX (m_Book_add_reading T) hr (passes_call (takes_of rfl rfl rfl rfl) fun _ _ _ _ h => h) (pv 0) (pa_cons (pe_ix ix_tup (pv 1) pe_int (fun _ _ => rfl)) (pa_cons (pe_ix ix_tup (pv 1) pe_int (fun _ _ => rfl)) (pa_cons (pe_ix ix_tup (pv 1) pe_int (fun _ _ => rfl)) (pa_cons (pe_ix ix_tup (pv 1) pe_int (fun _ _ => rfl)) pa_nil)))))))
    (pss_one (ps_if (pt_cmpR op_eq (pv 2) pe_str (nomark _)) (pss_one (ps_expr (pe_methDX (m_Book_change_approximation T) hr (passes_call (takes_of rfl rfl rfl rfl) fun _ _ _ _ h => h) (pv 0) (pa_cons (pe_ix ix_tup (pv 1) pe_int (fun _ _ => rfl)) (pa_cons (pe_ix ix_tup (pv 1) pe_int (fun _ _ => rfl)) pa_nil)))))
    (pss_one (ps_if (pt_cmpR op_eq (pv 2) pe_str (nomark _)) (pss_one (ps_expr (pe_methDX (m_Book_change_value T) hr (passes_call (takes_of rfl rfl rfl rfl) fun _ _ _ _ h => h) (pv 0) (pa_cons (pe_ix ix_tup (pv 1) pe_int (fun _ _ => rfl)) (pa_cons (pe_ix ix_tup (pv 1) pe_int (fun _ _ => rfl)) pa_nil)))))
    (pss_one (ps_if (pt_cmpR op_eq (pv 2) pe_str (nomark _)) (pss_one (ps_expr (pe_methDX (m_Book_change_weight T) hr (passes_call (takes_of rfl rfl rfl rfl) fun _ _ _ _ h => h) (pv 0) (pa_cons (pe_ix ix_tup (pv 1) pe_int (fun _ _ => rfl)) (pa_cons (pe_ix ix_tup (pv 1) pe_int (fun _ _ => rfl)) pa_nil)))))
    (pss_one (ps_if (pt_cmpR op_eq (pv 2) pe_str (nomark _)) (pss_one (ps_expr (pe_methDX (m_Book_withdraw T) hr (passes_call (takes_of rfl rfl rfl rfl) fun _ _ _ _ h => h) (pv 0) (pa_cons (pe_ix ix_tup (pv 1) pe_int (fun _ _ => rfl)) pa_nil))))
    (pss_one (ps_expr (pe_methDX (m_Book_remove_point T) hr (passes_call (takes_of rfl rfl rfl rfl) fun _ _ _ _ h => h) (pv 0) (pa_cons (pe_ix ix_tup (pv 1) pe_int (fun _ _ => rfl)) pa_nil)))))))))))))))), ?_⟩
  obtain ⟨dB, hB⟩ := hb.ins
  have hpz := ok.pz
  have hrz := ok.rz
  have w1 : ¬ ("reading" : Str) = "point" := by decide +kernel
  have w2 : ¬ ("approximation" : Str) = "point" := by decide +kernel
  have w3 : ¬ ("approximation" : Str) = "reading" := by decide +kernel
  have w4 : ¬ ("value" : Str) = "point" := by decide +kernel
  have w5 : ¬ ("value" : Str) = "reading" := by decide +kernel
  have w6 : ¬ ("value" : Str) = "approximation" := by decide +kernel
  have w7 : ¬ ("weight" : Str) = "point" := by decide +kernel
  have w8 : ¬ ("weight" : Str) = "reading" := by decide +kernel
  have w9 : ¬ ("weight" : Str) = "approximation" := by decide +kernel
  have w10 : ¬ ("weight" : Str) = "value" := by decide +kernel
  have w11 : ¬ ("withdraw" : Str) = "point" := by decide +kernel
  have w12 : ¬ ("withdraw" : Str) = "reading" := by decide +kernel
  have w13 : ¬ ("withdraw" : Str) = "approximation" := by decide +kernel
  have w14 : ¬ ("withdraw" : Str) = "value" := by decide +kernel
  have w15 : ¬ ("withdraw" : Str) = "weight" := by decide +kernel
  have w16 : ¬ ("remove" : Str) = "point" := by decide +kernel
  have w17 : ¬ ("remove" : Str) = "reading" := by decide +kernel
  have w18 : ¬ ("remove" : Str) = "approximation" := by decide +kernel
  have w19 : ¬ ("remove" : Str) = "value" := by decide +kernel
  have w20 : ¬ ("remove" : Str) = "weight" := by decide +kernel
  have w21 : ¬ ("remove" : Str) = "withdraw" := by decide +kernel
  cases d with
  | point n q =>
    obtain ⟨p, vq, rfl, hp, hq⟩ := hd
    refine ⟨_, rfl, p, _, _, _, rfl, rfl, SqT.of' hp, rfl, ?_⟩
    refine ⟨_, rfl, rfl, _, rfl, ?_⟩
    rw [weq]
    refine iteT ?_
    exact ⟨_, rfl, B.p, dB, _, rfl, hB, nBk_add_point, _, rfl, p, _, _, _, rfl, rfl, SqT.of' hp, rfl, _, rfl, p, _, _, _, rfl, rfl, SqT.of' hp, rfl, B, b, n, vq, q, rfl, hb, hq, by omega, res⟩
  | reading n ts x y =>
    obtain ⟨p, vt, vx, vy, rfl, hp, ht, hx, hy⟩ := hd
    refine ⟨_, rfl, p, _, _, _, rfl, rfl, SqT.of' hp, rfl, ?_⟩
    refine ⟨_, rfl, rfl, _, rfl, ?_⟩
    rw [wne w1]
    refine iteF ⟨_, rfl, rfl, _, rfl, ?_⟩
    rw [weq]
    refine iteT ?_
    exact ⟨_, rfl, B.p, dB, _, rfl, hB, nBk_add_reading, _, rfl, p, _, _, _, rfl, rfl, SqT.of' hp, rfl, _, rfl, p, _, _, _, rfl, rfl, SqT.of' hp, rfl, _, rfl, p, _, _, _, rfl, rfl, SqT.of' hp, rfl, _, rfl, p, _, _, _, rfl, rfl, SqT.of' hp, rfl, B, b, n, vt, vx, vy, ts, x, y, rfl, hb, ht, hx, hy, by omega, by omega, dok.1, res⟩
  | approx n q =>
    obtain ⟨p, vq, rfl, hp, hq⟩ := hd
    refine ⟨_, rfl, p, _, _, _, rfl, rfl, SqT.of' hp, rfl, ?_⟩
    refine ⟨_, rfl, rfl, _, rfl, ?_⟩
    rw [wne w2]
    refine iteF ⟨_, rfl, rfl, _, rfl, ?_⟩
    rw [wne w3]
    refine iteF ⟨_, rfl, rfl, _, rfl, ?_⟩
    rw [weq]
    refine iteT ?_
    exact ⟨_, rfl, B.p, dB, _, rfl, hB, nBk_change_approximation, _, rfl, p, _, _, _, rfl, rfl, SqT.of' hp, rfl, _, rfl, p, _, _, _, rfl, rfl, SqT.of' hp, rfl, B, b, n, vq, q, rfl, hb, hq, by omega, res⟩
  | value n q =>
    obtain ⟨p, vq, rfl, hp, hq⟩ := hd
    refine ⟨_, rfl, p, _, _, _, rfl, rfl, SqT.of' hp, rfl, ?_⟩
    refine ⟨_, rfl, rfl, _, rfl, ?_⟩
    rw [wne w4]
    refine iteF ⟨_, rfl, rfl, _, rfl, ?_⟩
    rw [wne w5]
    refine iteF ⟨_, rfl, rfl, _, rfl, ?_⟩
    rw [wne w6]
    refine iteF ⟨_, rfl, rfl, _, rfl, ?_⟩
    rw [weq]
    refine iteT ?_
    exact ⟨_, rfl, B.p, dB, _, rfl, hB, nBk_change_value, _, rfl, p, _, _, _, rfl, rfl, SqT.of' hp, rfl, _, rfl, p, _, _, _, rfl, rfl, SqT.of' hp, rfl, B, b, n, vq, q, rfl, hb, hq, by omega, res⟩
  | weight n q =>
    obtain ⟨p, vq, rfl, hp, hq⟩ := hd
    refine ⟨_, rfl, p, _, _, _, rfl, rfl, SqT.of' hp, rfl, ?_⟩
    refine ⟨_, rfl, rfl, _, rfl, ?_⟩
    rw [wne w7]
    refine iteF ⟨_, rfl, rfl, _, rfl, ?_⟩
    rw [wne w8]
    refine iteF ⟨_, rfl, rfl, _, rfl, ?_⟩
    rw [wne w9]
    refine iteF ⟨_, rfl, rfl, _, rfl, ?_⟩
    rw [wne w10]
    refine iteF ⟨_, rfl, rfl, _, rfl, ?_⟩
    rw [weq]
    refine iteT ?_
    exact ⟨_, rfl, B.p, dB, _, rfl, hB, nBk_change_weight, _, rfl, p, _, _, _, rfl, rfl, SqT.of' hp, rfl, _, rfl, p, _, _, _, rfl, rfl, SqT.of' hp, rfl, B, b, n, vq, q, rfl, hb, hq, by omega, res⟩
  | withdraw n =>
    obtain ⟨p, rfl, hp⟩ := hd
    refine ⟨_, rfl, p, _, _, _, rfl, rfl, SqT.of' hp, rfl, ?_⟩
    refine ⟨_, rfl, rfl, _, rfl, ?_⟩
    rw [wne w11]
    refine iteF ⟨_, rfl, rfl, _, rfl, ?_⟩
    rw [wne w12]
    refine iteF ⟨_, rfl, rfl, _, rfl, ?_⟩
    rw [wne w13]
    refine iteF ⟨_, rfl, rfl, _, rfl, ?_⟩
    rw [wne w14]
    refine iteF ⟨_, rfl, rfl, _, rfl, ?_⟩
    rw [wne w15]
    refine iteF ⟨_, rfl, rfl, _, rfl, ?_⟩
    rw [weq]
    refine iteT ?_
    exact ⟨_, rfl, B.p, dB, _, rfl, hB, nBk_withdraw, _, rfl, p, _, _, _, rfl, rfl, SqT.of' hp, rfl, B, b, n, rfl, hb, by omega, res⟩
  | remove n =>
    obtain ⟨p, rfl, hp⟩ := hd
    refine ⟨_, rfl, p, _, _, _, rfl, rfl, SqT.of' hp, rfl, ?_⟩
    refine ⟨_, rfl, rfl, _, rfl, ?_⟩
    rw [wne w16]
    refine iteF ⟨_, rfl, rfl, _, rfl, ?_⟩
    rw [wne w17]
    refine iteF ⟨_, rfl, rfl, _, rfl, ?_⟩
    rw [wne w18]
    refine iteF ⟨_, rfl, rfl, _, rfl, ?_⟩
    rw [wne w19]
    refine iteF ⟨_, rfl, rfl, _, rfl, ?_⟩
    rw [wne w20]
    refine iteF ⟨_, rfl, rfl, _, rfl, ?_⟩
    rw [wne w21]
    refine iteF ?_
    exact ⟨_, rfl, B.p, dB, _, rfl, hB, nBk_remove_point, _, rfl, p, _, _, _, rfl, rfl, SqT.of' hp, rfl, B, b, n, rfl, hb, ok.nd, by omega, by omega, fun r hr => terms_len (ok.r r hr) (by simpa [Bk.names] using hpz), res⟩
end
end Pn
set_option maxHeartbeats 4000000
/-! Log: in the heap; making, follow -/
namespace Pn
open PySem PySem.Spec PyProof.Rows L2
structure LgA where
  p : Addr
  pd : Addr
  pb : Addr
  pl : Addr
  net : NtA
  bks : List BkA
def LgA.W (L : LgA) : List Addr := [L.p, L.pd, L.pb, L.pl, L.net.p, L.net.pl, L.net.pr]
def BkA.all (B : BkA) : List Addr := [B.p, B.pl, B.pd, B.pr]
structure LgF (K : PySem.W.Frag) (H : Hp) (L : LgA) (l : Lg Str) (dx : Addr) : Prop where
  ins : H L.p = some (.ins (CLg K) dx (fLg (.ref L.pd) (.ref L.pb) (.ref L.pl) (.ref L.net.p)))
  d : IsL (IsDd K) H L.pd l.done
  b : H L.pb = some (.lst (L.bks.map fun B => .ref B.p))
  bs : Al (IsBk K H) L.bks l.books
  t : IsL (IsDd K) H L.pl l.later
  n : IsNt K H L.net l.net
  nd : L.W.Nodup
  sep : ∀ B ∈ L.bks, ∀ a ∈ B.all, a ∉ L.W
def IsLg (K : PySem.W.Frag) (H : Hp) (L : LgA) (l : Lg Str) : Prop := ∃ dx, LgF K H L l dx
/-- a log is carried on -/
structure LgR (K : PySem.W.Frag) (H : Hp) (L : LgA) (H' : Hp) (L' : LgA) (l' : Lg Str) : Prop where
  p : L'.p = L.p
  fr : Fr K L.W H H'
  w : ∀ a ∈ L'.W, a ∈ L.W ∨ H a = none
  g : IsLg K H' L' l'
section
variable {K : PySem.W.Frag} {H H1 H2 H' : Hp} {L L' : LgA} {l l' : Lg Str} {dx : Addr} {W W' : List Addr}
theorem Fr.comp (a : Fr K W H H1) (b : Fr K W' H1 H2) (h : ∀ x ∈ W', x ∈ W ∨ H x = none) : Fr K W H H2 := by
  refine ⟨fun c o hc hn => b.f c o (a.f c o hc hn) fun hw => ?_, a.k.trans b.k⟩
  rcases h c hw with z | z
  · exact hn z
  · rw [z] at hc
    cases hc
theorem bks_fr {bks : List BkA} {books : List (Bk Str)} (h : Al (IsBk K H) bks books) (e : Fr K W H H') (s : ∀ B ∈ bks, ∀ a ∈ B.all, a ∉ W) : Al (IsBk K H') bks books :=
  ⟨h.len, fun i B b hB hb => (h.at_ i B b hB hb).fr e (by
    have := s B (List.mem_of_getElem? hB)
    exact ⟨this _ (by simp [BkA.all]), this _ (by simp [BkA.all]), this _ (by simp [BkA.all]), this _ (by simp [BkA.all])⟩)⟩
/-- what is made outside the log leaves it -/
theorem LgF.fr (h : LgF K H L l dx) (e : Fr K W H H') (hw : ∀ a ∈ L.W, a ∉ W) (hs : ∀ B ∈ L.bks, ∀ a ∈ B.all, a ∉ W) : LgF K H' L l dx := by
  have m : ∀ a, a ∈ L.W → a ∉ W := hw
  obtain ⟨v1, d1, d2⟩ := h.d
  obtain ⟨v2, t1, t2⟩ := h.t
  exact ⟨e.f _ _ h.ins (m _ (by simp [LgA.W])), ⟨v1, e.f _ _ d1 (m _ (by simp [LgA.W])), al_kp stayDd d2 e.k⟩, e.f _ _ h.b (m _ (by simp [LgA.W])), bks_fr h.bs e hs, ⟨v2, e.f _ _ t1 (m _ (by simp [LgA.W])), al_kp stayDd t2 e.k⟩,
    h.n.fr e ⟨m _ (by simp [LgA.W]), m _ (by simp [LgA.W]), m _ (by simp [LgA.W])⟩, h.nd, h.sep⟩
theorem LgF.ex (h : LgF K H L l dx) (e : Ex H H') : LgF K H' L l dx := h.fr (W := []) e.fr (by simp) (by simp)
/-- inequalities in L.W -/
structure LgN (L : LgA) : Prop where
  pd : L.p ≠ L.pd
  pb : L.p ≠ L.pb
  pl : L.p ≠ L.pl
  pn : L.p ≠ L.net.p
  pnl : L.p ≠ L.net.pl
  pnr : L.p ≠ L.net.pr
  db : L.pd ≠ L.pb
  dl : L.pd ≠ L.pl
  dn : L.pd ≠ L.net.p
  dnl : L.pd ≠ L.net.pl
  dnr : L.pd ≠ L.net.pr
  bl : L.pb ≠ L.pl
  bn : L.pb ≠ L.net.p
  bnl : L.pb ≠ L.net.pl
  bnr : L.pb ≠ L.net.pr
  ln : L.pl ≠ L.net.p
  lnl : L.pl ≠ L.net.pl
  lnr : L.pl ≠ L.net.pr
theorem LgF.ne (h : LgF K H L l dx) : LgN L := by
  have := h.nd
  unfold LgA.W at this
  simp only [List.nodup_cons, List.mem_cons, not_or, List.not_mem_nil, not_false_eq_true] at this
  obtain ⟨⟨a1, a2, a3, a4, a5, a6, _⟩, ⟨b1, b2, b3, b4, b5, _⟩, ⟨c1, c2, c3, c4, _⟩, ⟨d1, d2, d3, _⟩, _⟩ := this
  exact ⟨a1, a2, a3, a4, a5, a6, b1, b2, b3, b4, b5, c1, c2, c3, c4, d1, d2, d3⟩
/-- the net in the log is changed in place -/
theorem LgF.netFr (h : LgF K H L l dx) {n' : Nt Str} (e : Fr K L.net.W H H') (hn : IsNt K H' L.net n') : LgF K H' L { l with net := n' } dx ∧ Fr K L.W H H' := by
  have q := h.ne
  obtain ⟨v1, d1, d2⟩ := h.d
  obtain ⟨v2, t1, t2⟩ := h.t
  refine ⟨⟨e.f _ _ h.ins ?_, ⟨v1, e.f _ _ d1 ?_, al_kp stayDd d2 e.k⟩, e.f _ _ h.b ?_, bks_fr h.bs e (fun B hB a ha hm => h.sep B hB a ha ?_), ⟨v2, e.f _ _ t1 ?_, al_kp stayDd t2 e.k⟩, hn, h.nd, h.sep⟩, e.mono fun x hx => ?_⟩
  · simp [NtA.W]; exact ⟨q.pn, q.pnl, q.pnr⟩
  · simp [NtA.W]; exact ⟨q.dn, q.dnl, q.dnr⟩
  · simp [NtA.W]; exact ⟨q.bn, q.bnl, q.bnr⟩
  · simp [NtA.W] at hm; simp [LgA.W]; rcases hm with z | z | z <;> simp [z]
  · simp [NtA.W]; exact ⟨q.ln, q.lnl, q.lnr⟩
  · simp [NtA.W] at hx; simp [LgA.W]; rcases hx with z | z | z <;> simp [z]
theorem LgR.refl (h : IsLg K H L l) : LgR K H L H L l := ⟨rfl, Fr.refl, fun a ha => .inl ha, h⟩
theorem LgR.trans {L1 L2 : LgA} {l1 l2 : Lg Str} (a : LgR K H L H1 L1 l1) (b : LgR K H1 L1 H2 L2 l2) : LgR K H L H2 L2 l2 := by
  refine ⟨b.p.trans a.p, a.fr.comp b.fr a.w, fun x hx => ?_, b.g⟩
  rcases b.w x hx with z | z
  · exact a.w x z
  · by_cases hm : x ∈ L.W
    · exact .inl hm
    · exact .inr (a.fr.free hm z)
end
section
variable {w : World} {K : PySem.W.Frag} {mg : Str → Option Value} {base : Heap}
theorem ne_lg (T : Txt K mg) : CLg K ≠ CRt K ∧ CLg K ≠ CRd K := by
  obtain ⟨f1, F1⟩ := T.d_Log_init
  obtain ⟨f2, F2⟩ := T.d_Ratio_init
  obtain ⟨f3, F3⟩ := T.d_Reading_init
  exact ⟨cls_ne F1 F2 (by decide +kernel), cls_ne F1 F3 (by decide +kernel)⟩
theorem im_lg (hc : CLg K ≠ CRt K ∧ CLg K ≠ CRd K) {dx : Addr} {fs : List (Str × V)} : ¬ Im K (.ins (CLg K) dx fs) := fun z => by
  rcases z with z | z
  · exact hc.1 z
  · exact hc.2 z
theorem LgF.alive {H : Hp} {L : LgA} {l : Lg Str} {dx : Addr} (h : LgF K H L l dx) : (∀ a ∈ L.W, H a ≠ none) ∧ ∀ B ∈ L.bks, ∀ a ∈ B.all, H a ≠ none := by
  obtain ⟨v1, d1, d2⟩ := h.d
  obtain ⟨v2, t1, t2⟩ := h.t
  obtain ⟨dn, va, vm, vi, vr, vt, hn⟩ := h.n
  obtain ⟨v3, r1, r2⟩ := hn.r
  refine ⟨fun a ha => ?_, fun B hB a ha => ?_⟩
  · unfold LgA.W at ha
    simp only [List.mem_cons, List.not_mem_nil, or_false] at ha
    rcases ha with z | z | z | z | z | z | z
    · rw [z, h.ins]; simp
    · rw [z, d1]; simp
    · rw [z, h.b]; simp
    · rw [z, t1]; simp
    · rw [z, hn.ins]; simp
    · rw [z, hn.l]; simp
    · rw [z, r1]; simp
  · obtain ⟨i, hi, rfl⟩ := List.getElem_of_mem hB
    obtain ⟨b, hb, hbk⟩ := h.bs.get (List.getElem?_eq_getElem hi)
    obtain ⟨dB, hins⟩ := hbk.ins
    obtain ⟨kvs, hkv, _⟩ := hbk.d
    obtain ⟨vr', hvr, _⟩ := hbk.r
    unfold BkA.all at ha
    simp only [List.mem_cons, List.not_mem_nil, or_false] at ha
    rcases ha with z | z | z | z
    · rw [z, hins]; simp
    · rw [z, hbk.l]; simp
    · rw [z, hkv]; simp
    · rw [z, hvr]; simp
/-- a new net is put into the log -/
theorem LgF.setNet {H : Hp} {L : LgA} {l : Lg Str} {dx : Addr} (hc : CLg K ≠ CRt K ∧ CLg K ≠ CRd K) (h : LgF K H L l dx) {N : NtA} {n' : Nt Str} (hn : IsNt K H N n') (hW : ∀ a ∈ N.W, a ∉ L.W ∧ ∀ B ∈ L.bks, a ∉ B.all) (hN : N.W.Nodup) :
    LgF K (upd H L.p (.ins (CLg K) dx (fLg (.ref L.pd) (.ref L.pb) (.ref L.pl) (.ref N.p)))) { L with net := N } { l with net := n' } dx ∧ Fr K L.W H (upd H L.p (.ins (CLg K) dx (fLg (.ref L.pd) (.ref L.pb) (.ref L.pl) (.ref N.p)))) := by
  have q := h.ne
  obtain ⟨v1, d1, d2⟩ := h.d
  obtain ⟨v2, t1, t2⟩ := h.t
  have f : Fr K [L.p] H (upd H L.p (.ins (CLg K) dx (fLg (.ref L.pd) (.ref L.pb) (.ref L.pl) (.ref N.p)))) := Fr.refl.upd (.inl (by simp)) h.ins (im_lg hc)
  have k := f.k
  have m1 := hW N.p (by simp [NtA.W])
  have m2 := hW N.pl (by simp [NtA.W])
  have m3 := hW N.pr (by simp [NtA.W])
  have sepP : ∀ B ∈ L.bks, ∀ a ∈ B.all, a ∉ [L.p] := fun B hB a ha hm => h.sep B hB a ha (by simp at hm; simp [LgA.W, hm])
  refine ⟨⟨upd_same, ⟨v1, by rw [upd_ne (Ne.symm q.pd)]; exact d1, al_kp stayDd d2 k⟩, by rw [upd_ne (Ne.symm q.pb)]; exact h.b, bks_fr h.bs f sepP, ⟨v2, by rw [upd_ne (Ne.symm q.pl)]; exact t1, al_kp stayDd t2 k⟩, hn.fr f ⟨?_, ?_, ?_⟩, ?_, fun B hB a ha => ?_⟩, f.mono (by simp [LgA.W])⟩
  · intro z; exact m1.1 (by simp at z; simp [LgA.W, z])
  · intro z; exact m2.1 (by simp at z; simp [LgA.W, z])
  · intro z; exact m3.1 (by simp at z; simp [LgA.W, z])
  · have nd := h.nd
    unfold LgA.W at nd m1 m2 m3 ⊢
    unfold NtA.W at hN
    simp only [List.nodup_cons, List.mem_cons, not_or, List.not_mem_nil, not_false_eq_true] at nd hN m1 m2 m3 ⊢
    obtain ⟨⟨a1, a2, a3, a4, a5, a6, _⟩, ⟨b1, b2, b3, b4, b5, _⟩, ⟨c1, c2, c3, c4, _⟩, ⟨e1, e2, e3, _⟩, _⟩ := nd
    obtain ⟨⟨n1, n2, _⟩, ⟨n3, _⟩, _⟩ := hN
    exact ⟨⟨a1, a2, a3, fun z => m1.1.1 z.symm, fun z => m2.1.1 z.symm, fun z => m3.1.1 z.symm, trivial⟩, ⟨b1, b2, fun z => m1.1.2.1 z.symm, fun z => m2.1.2.1 z.symm, fun z => m3.1.2.1 z.symm, trivial⟩,
      ⟨c1, fun z => m1.1.2.2.1 z.symm, fun z => m2.1.2.2.1 z.symm, fun z => m3.1.2.2.1 z.symm, trivial⟩, ⟨fun z => m1.1.2.2.2.1 z.symm, fun z => m2.1.2.2.2.1 z.symm, fun z => m3.1.2.2.2.1 z.symm, trivial⟩, ⟨n1, n2, trivial⟩, ⟨n3, trivial⟩, ⟨trivial, List.nodup_nil⟩⟩
  · intro z
    have hs := h.sep B hB a ha
    unfold LgA.W at z hs
    simp only [List.mem_cons, not_or, List.not_mem_nil, or_false] at z hs
    rcases z with z | z | z | z | z | z | z
    · exact hs.1 z
    · exact hs.2.1 z
    · exact hs.2.2.1 z
    · exact hs.2.2.2.1 z
    · exact m1.2 B hB (z ▸ ha)
    · exact m2.2 B hB (z ▸ ha)
    · exact m3.2 B hB (z ▸ ha)
/-- a new net, made since H0 -/
theorem LgF.setNew {H0 H : Hp} {L : LgA} {l : Lg Str} {dx : Addr} (hc : CLg K ≠ CRt K ∧ CLg K ≠ CRd K) (h : LgF K H0 L l dx) (e : Ex H0 H) {N : NtA} {n' : Nt Str} (hn : IsNt K H N n') (hW : ∀ a ∈ N.W, H0 a = none) :
    LgR K H0 L (upd H L.p (.ins (CLg K) dx (fLg (.ref L.pd) (.ref L.pb) (.ref L.pl) (.ref N.p)))) { L with net := N } { l with net := n' } := by
  obtain ⟨l1, l2⟩ := h.alive
  obtain ⟨dn, va, vm, vi, vr, vt, hnf⟩ := id hn
  obtain ⟨n1, n2⟩ := hnf.nes
  obtain ⟨g, f⟩ := (h.ex e).setNet hc hn (fun a ha => ⟨fun z => l1 a z (hW a ha), fun B hB z => l2 B hB a z (hW a ha)⟩) (by simp [NtA.W]; exact ⟨⟨n1, n2⟩, hnf.ne⟩)
  refine ⟨rfl, e.fr.trans f, fun a ha => ?_, ⟨_, g⟩⟩
  unfold LgA.W at ha ⊢
  simp only [List.mem_cons, List.not_mem_nil, or_false] at ha ⊢
  rcases ha with z | z | z | z | z | z | z
  · exact .inl (.inl z)
  · exact .inl (.inr (.inl z))
  · exact .inl (.inr (.inr (.inl z)))
  · exact .inl (.inr (.inr (.inr (.inl z))))
  · exact .inr (hW a (by simp [NtA.W]; exact .inl z))
  · exact .inr (hW a (by simp [NtA.W]; exact .inr (.inl z)))
  · exact .inr (hW a (by simp [NtA.W]; exact .inr (.inr z)))
end
end Pn
set_option maxHeartbeats 4000000
/-! Log: follow -/
namespace Pn
open PySem PySem.Spec PyProof.Rows L2
theorem atI_m1 {α : Type} {xs : List α} {k : Nat} {v : α} (h : xs.length = k + 1) (hv : xs[k]? = some v) : atI xs (-1) = some v := by
  unfold atI
  have e : ixN xs.length (-1) = some k := by
    unfold ixN
    rw [if_neg (by omega), if_pos (by omega)]
    congr 1
    omega
  rw [e]
  exact hv
theorem ordS : Ord ltS := by
  refine ⟨fun a => decide_eq_false (List.lt_irrefl _), fun a b c h1 h2 => decide_eq_true (List.lt_trans (of_decide_eq_true h1) (of_decide_eq_true h2))⟩
section
variable {w : World} {K : PySem.W.Frag} {mg : Str → Option Value} {base : Heap}
theorem empty_ok : BkOk (Bk.empty : Bk Str) := ⟨by simp [Bk.empty, Bk.names], by simp [Bk.empty], by simp [Bk.empty], by simp [Bk.empty], fun p h => by simp [Bk.empty] at h, fun p h => by simp [Bk.empty] at h⟩
def spFollow (K : PySem.W.Frag) (M : Mth Str) : Sp := fun vs H Q _ => ∃ L l dv d B b b', vs = [.ref (LgA.p L), dv, .ref (BkA.p B)] ∧ IsLg K H L l ∧ IsDd K H dv d ∧ IsBk K H B b' ∧ BkOk b ∧ M.Ok b l.net ∧ DdOk d ∧ performB ltS eS b d = some b' ∧
  ∀ n' L' H', M.Ok b' n' → LgR K H L H' L' { l with net := n' } → L'.bks = L.bks → Q .non H'
theorem sc_Log_follow : FnScope ["self", "deed", "book", "word"] ["self", "deed", "book"] (defScope s_Log_follow) := ⟨rfl, rfl, rfl, by decide +kernel, rfl, by decide +kernel, by decide +kernel⟩
theorem m_Log_follow (T : Txt K mg) (hN : base.NoSeer) (M : Mth Str) : MDef PP w K mg base CX0 (CLg K) "follow" (a_Log_follow K) 51 ["self", "deed", "book"] (spFollow K M) := by
  obtain ⟨fd, F⟩ := T.d_Log_follow
  refine ⟨⟨fd, ok0 F sc_Log_follow (fun vs H Q E h => ?_) (fun cdv A outer s H vs Q E hr h => ?_), F.bindsN fun _ _ _ _ _ _ us hl => match us, hl with | [_, _, _], _ => rfl⟩, T.m_Log_follow, T.c_Log⟩
  · obtain ⟨L, l, dv, d, B, b, b', rfl, _⟩ := h
    rfl
  obtain ⟨L, l, dv, d, B, b, b', rfl, ⟨dx, hL⟩, hd, hB, ok, hM, dok, hpf, k⟩ := h
  have nd := sc_Log_follow.nd
  have hlg := ne_lg T
  refine ⟨_, pss_cons (ps_set (i := 3) nd rfl (Or.inl rfl) (pe_ix ix_tup (pv 1) pe_int (fun _ _ => rfl)))
    (pss_one (ps_if (pt_cmpR op_eq (pv 3) pe_str (nomark _)) (pss_one (ps_expr (pe_methD (m_Net_add_point T hN) (hr.mono (by decide)) (pe_fld (pv 0) rfl) (pa_cons (pe_ix ix_tup (pv 1) pe_int (fun _ _ => rfl)) (pa_cons (pe_ix ix_tup (pv 1) pe_int (fun _ _ => rfl)) pa_nil)))))
    (pss_one (ps_if (pt_cmpR op_eq (pv 3) pe_str (nomark _)) (pss_one (ps_expr (pe_methD (m_Net_add T hN) (hr.mono (by decide)) (pe_fld (pv 0) rfl) (pa_cons (pe_ix ix_list (pe_fld (pv 2) rfl) (pe_un un_neg pe_int) (fun _ _ => rfl)) pa_nil))))
    (pss_one (ps_if (pt_cmpR op_eq (pv 3) pe_str (nomark _)) (pss_one (ps_expr (pe_methD (m_Net_change_value T hN) (hr.mono (by decide)) (pe_fld (pv 0) rfl) (pa_cons (pe_ix ix_tup (pv 1) pe_int (fun _ _ => rfl)) (pa_cons (pe_ix ix_tup (pv 1) pe_int (fun _ _ => rfl)) pa_nil)))))
    (pss_one (ps_if (pt_cmpR op_eq (pv 3) pe_str (nomark _)) (pss_one (ps_expr (pe_methD (m_Net_change_weight T hN) (hr.mono (by decide)) (pe_fld (pv 0) rfl) (pa_cons (pe_ix ix_tup (pv 1) pe_int (fun _ _ => rfl)) (pa_cons (pe_ix ix_tup (pv 1) pe_int (fun _ _ => rfl)) pa_nil)))))
    (pss_one (ps_if (pt_cmpR op_eq (pv 3) pe_str (nomark _)) (pss_one (ps_expr (pe_methD (m_Net_withdraw T hN) (hr.mono (by decide)) (pe_fld (pv 0) rfl) (pa_cons (pe_ix ix_tup (pv 1) pe_int (fun _ _ => rfl)) pa_nil))))
    (pss_one (ps_fld (pv 0) (pe_callD (d_net_of_ok T hN) hr (pa_cons (pv 2) pa_nil)) rfl)))))))))))), ?_⟩
  have w1 : ¬ ("reading" : Str) = "point" := by decide +kernel
  have w2 : ¬ ("approximation" : Str) = "point" := by decide +kernel
  have w3 : ¬ ("approximation" : Str) = "reading" := by decide +kernel
  have w3' : ¬ ("approximation" : Str) = "value" := by decide +kernel
  have w3'' : ¬ ("approximation" : Str) = "weight" := by decide +kernel
  have w3''' : ¬ ("approximation" : Str) = "withdraw" := by decide +kernel
  have w4 : ¬ ("value" : Str) = "point" := by decide +kernel
  have w5 : ¬ ("value" : Str) = "reading" := by decide +kernel
  have w7 : ¬ ("weight" : Str) = "point" := by decide +kernel
  have w8 : ¬ ("weight" : Str) = "reading" := by decide +kernel
  have w10 : ¬ ("weight" : Str) = "value" := by decide +kernel
  have w11 : ¬ ("withdraw" : Str) = "point" := by decide +kernel
  have w12 : ¬ ("withdraw" : Str) = "reading" := by decide +kernel
  have w14 : ¬ ("withdraw" : Str) = "value" := by decide +kernel
  have w15 : ¬ ("withdraw" : Str) = "weight" := by decide +kernel
  have w16 : ¬ ("remove" : Str) = "point" := by decide +kernel
  have w17 : ¬ ("remove" : Str) = "reading" := by decide +kernel
  have w19 : ¬ ("remove" : Str) = "value" := by decide +kernel
  have w20 : ¬ ("remove" : Str) = "weight" := by decide +kernel
  have w21 : ¬ ("remove" : Str) = "withdraw" := by decide +kernel
  have hins := hL.ins
  obtain ⟨dN, va, vm, vi, vr, vt, hnf⟩ := id hL.n
  have hnt : IsNt K H L.net l.net := ⟨_, _, _, _, _, _, hnf⟩
  have sz := M.nsz ok hM
  have ep := M.pts hM
  have er := M.rds hM
  -- a net changed in place
  have inpl : ∀ (n' : Nt Str) (H' : Hp), M.Ok b' n' → Fr K L.net.W H H' → IsNt K H' L.net n' → Q .non H' := fun n' H' h1 h2 h3 => by
    obtain ⟨g, f⟩ := hL.netFr h2 h3
    exact k n' L H' h1 ⟨rfl, f, fun a ha => .inl ha, ⟨_, g⟩⟩ rfl
  -- a net made anew
  have anew : BkOk b' → FNetOf b' ∧ ∀ N H', Ex H H' → (∀ a ∈ NtA.W N, H a = none) → IsNt K H' N (netOf b') → H' L.p = some (.ins (CLg K) dx (fLg (.ref L.pd) (.ref L.pb) (.ref L.pl) (.ref L.net.p))) ∧ Q .non (upd H' L.p (.ins (CLg K) dx (fLg (.ref L.pd) (.ref L.pb) (.ref L.pl) (.ref N.p)))) := fun ok' => by
    obtain ⟨m1, m2⟩ := M.netOf ok'
    exact ⟨m1, fun N H' e hW hn => ⟨e _ _ hins, k _ _ _ m2 (hL.setNew hlg e hn hW) rfl⟩⟩
  cases d with
  | point n q =>
    obtain ⟨p, vq, rfl, hp, hq⟩ := hd
    have hpf : addPointB b n q = some b' := hpf
    unfold addPointB at hpf
    split at hpf
    · cases hpf
    rename_i hc
    rw [not_or] at hc
    cases hpf
    have hpz := ok.pz
    have lp : l.net.pts.length = b.pts.length := by rw [ep]; simp [Bk.names]
    refine ⟨_, rfl, p, _, _, _, rfl, rfl, SqT.of' hp, rfl, ?_⟩
    refine ⟨_, rfl, rfl, _, rfl, ?_⟩
    rw [weq]
    refine iteT ?_
    refine ⟨_, rfl, L.p, CLg K, dx, _, _, rfl, hins, T.c_Log, T.n_Log_net, lLg_net, L.net.p, dN, _, rfl, hnf.ins, nNt_add_point, _, rfl, p, _, _, _, rfl, rfl, SqT.of' hp, rfl, _, rfl, p, _, _, _, rfl, rfl, SqT.of' hp, rfl, L.net, l.net, n, vq, q, rfl, hnt, hq, sz, by rw [ep]; exact hc.1, by omega, fun H' f h' => inpl _ H' (M.point ok hM dok hc.1 (by omega)) f h'⟩
  | reading n ts x y =>
    obtain ⟨p, vt', vx, vy, rfl, hp, ht, hx, hy⟩ := hd
    obtain ⟨rfl, rok, h3, h4⟩ := addR_ok ordS dok hpf
    have hrz := ok.rz
    obtain ⟨m1, m2⟩ := M.add ok hM rok h3 (by omega)
    obtain ⟨dB, hBi⟩ := hB.ins
    obtain ⟨vrd, hvr, alr⟩ := hB.r
    have hlr : vrd.length = b.rds.length + 1 := by rw [alr.len]; simp
    have hlast : (b.rds ++ [(⟨n, ts, x, y⟩ : Rg)])[b.rds.length]? = some ⟨n, ts, x, y⟩ := by simp
    obtain ⟨v, hv, rv⟩ := alr.get' hlast
    refine ⟨_, rfl, p, _, _, _, rfl, rfl, SqT.of' hp, rfl, ?_⟩
    refine ⟨_, rfl, rfl, _, rfl, ?_⟩
    rw [wne w1]
    refine iteF ⟨_, rfl, rfl, _, rfl, ?_⟩
    rw [weq]
    refine iteT ?_
    refine ⟨_, rfl, L.p, CLg K, dx, _, _, rfl, hins, T.c_Log, T.n_Log_net, lLg_net, L.net.p, dN, _, rfl, hnf.ins, nNt_add, ?_⟩
    refine ⟨_, rfl, B.p, CBk K, dB, _, _, rfl, hBi, T.c_Book, T.n_Book_readings, lBk_readings, _, rfl, B.pr, vrd, _, v, rfl, rfl, SqL.of' hvr, ?_, ?_⟩
    · exact atI_m1 hlr hv
    exact ⟨L.net, l.net, v, _, rfl, hnt, rv, sz, fun t ht => by rw [ep]; exact rok.mem t ht, by rw [er]; exact h3, by rw [er]; exact h4, m1, fun H' f h' => inpl _ H' m2 f h'⟩
  | approx n q =>
    obtain ⟨p, vq, rfl, hp, hq⟩ := hd
    obtain ⟨m1, m2⟩ := anew (perf_ok ordS ok dok hpf)
    refine ⟨_, rfl, p, _, _, _, rfl, rfl, SqT.of' hp, rfl, ?_⟩
    refine ⟨_, rfl, rfl, _, rfl, ?_⟩
    rw [wne w2]
    refine iteF ⟨_, rfl, rfl, _, rfl, ?_⟩
    rw [wne w3]
    refine iteF ⟨_, rfl, rfl, _, rfl, ?_⟩
    rw [wne w3']
    refine iteF ⟨_, rfl, rfl, _, rfl, ?_⟩
    rw [wne w3'']
    refine iteF ⟨_, rfl, rfl, _, rfl, ?_⟩
    rw [wne w3''']
    refine iteF ⟨_, rfl, B, b', rfl, hB, perf_ok ordS ok dok hpf, m1, fun N H' e hW hn => ?_⟩
    obtain ⟨m3, m4⟩ := m2 N H' e hW hn
    refine ⟨_, rfl, L.p, CLg K, dx, _, rfl, m3, T.c_Log, T.n_Log_net, (by show 4 < 1000; decide), ?_⟩
    rw [pLg_net]
    exact m4
  | value n q =>
    obtain ⟨p, vq, rfl, hp, hq⟩ := hd
    have hpf : valueB b n q = some b' := hpf
    unfold valueB at hpf
    split at hpf
    · cases hpf
    rename_i i hi
    obtain ⟨r, hri, hrn, _⟩ := placeOf_at hi
    cases hpf
    rw [mod_eq hri] at *
    obtain ⟨m1, m2⟩ := M.value ok hM hri dok
    refine ⟨_, rfl, p, _, _, _, rfl, rfl, SqT.of' hp, rfl, ?_⟩
    refine ⟨_, rfl, rfl, _, rfl, ?_⟩
    rw [wne w4]
    refine iteF ⟨_, rfl, rfl, _, rfl, ?_⟩
    rw [wne w5]
    refine iteF ⟨_, rfl, rfl, _, rfl, ?_⟩
    rw [weq]
    refine iteT ?_
    exact ⟨_, rfl, L.p, CLg K, dx, _, _, rfl, hins, T.c_Log, T.n_Log_net, lLg_net, L.net.p, dN, _, rfl, hnf.ins, nNt_change_value, _, rfl, p, _, _, _, rfl, rfl, SqT.of' hp, rfl, _, rfl, p, _, _, _, rfl, rfl, SqT.of' hp, rfl, L.net, l.net, n, i, r, vq, q, rfl, hnt, hq, sz, by rw [er]; exact hi, by rw [er]; exact hri, m1, fun H' f h' => inpl _ H' m2 f h'⟩
  | weight n q =>
    obtain ⟨p, vq, rfl, hp, hq⟩ := hd
    have hpf : weightB b n q = some b' := hpf
    unfold weightB at hpf
    split at hpf
    · cases hpf
    rename_i i hi
    obtain ⟨r, hri, hrn, _⟩ := placeOf_at hi
    split at hpf
    · cases hpf
    rename_i hqn
    cases hpf
    rw [mod_eq hri] at *
    obtain ⟨m1, m2⟩ := M.weight ok hM hri (dok (by omega))
    refine ⟨_, rfl, p, _, _, _, rfl, rfl, SqT.of' hp, rfl, ?_⟩
    refine ⟨_, rfl, rfl, _, rfl, ?_⟩
    rw [wne w7]
    refine iteF ⟨_, rfl, rfl, _, rfl, ?_⟩
    rw [wne w8]
    refine iteF ⟨_, rfl, rfl, _, rfl, ?_⟩
    rw [wne w10]
    refine iteF ⟨_, rfl, rfl, _, rfl, ?_⟩
    rw [weq]
    refine iteT ?_
    exact ⟨_, rfl, L.p, CLg K, dx, _, _, rfl, hins, T.c_Log, T.n_Log_net, lLg_net, L.net.p, dN, _, rfl, hnf.ins, nNt_change_weight, _, rfl, p, _, _, _, rfl, rfl, SqT.of' hp, rfl, _, rfl, p, _, _, _, rfl, rfl, SqT.of' hp, rfl, L.net, l.net, n, i, r, vq, q, rfl, hnt, hq, sz, by rw [er]; exact hi, by rw [er]; exact hri, by omega, m1, fun H' f h' => inpl _ H' m2 f h'⟩
  | withdraw n =>
    obtain ⟨p, rfl, hp⟩ := hd
    have hpf : withdrawB b n = some b' := hpf
    unfold withdrawB at hpf
    split at hpf
    · cases hpf
    rename_i i hi
    obtain ⟨r, hri, hrn, _⟩ := placeOf_at hi
    cases hpf
    obtain ⟨m1, m2⟩ := M.withdraw ok hM hri
    refine ⟨_, rfl, p, _, _, _, rfl, rfl, SqT.of' hp, rfl, ?_⟩
    refine ⟨_, rfl, rfl, _, rfl, ?_⟩
    rw [wne w11]
    refine iteF ⟨_, rfl, rfl, _, rfl, ?_⟩
    rw [wne w12]
    refine iteF ⟨_, rfl, rfl, _, rfl, ?_⟩
    rw [wne w14]
    refine iteF ⟨_, rfl, rfl, _, rfl, ?_⟩
    rw [wne w15]
    refine iteF ⟨_, rfl, rfl, _, rfl, ?_⟩
    rw [weq]
    refine iteT ?_
    exact ⟨_, rfl, L.p, CLg K, dx, _, _, rfl, hins, T.c_Log, T.n_Log_net, lLg_net, L.net.p, dN, _, rfl, hnf.ins, nNt_withdraw, _, rfl, p, _, _, _, rfl, rfl, SqT.of' hp, rfl, L.net, l.net, n, i, r, rfl, hnt, sz, by rw [er]; exact hi, by rw [er]; exact hri, m1, fun H' f h' => inpl _ H' m2 f h'⟩
  | remove n =>
    obtain ⟨p, rfl, hp⟩ := hd
    obtain ⟨m1, m2⟩ := anew (perf_ok ordS ok dok hpf)
    refine ⟨_, rfl, p, _, _, _, rfl, rfl, SqT.of' hp, rfl, ?_⟩
    refine ⟨_, rfl, rfl, _, rfl, ?_⟩
    rw [wne w16]
    refine iteF ⟨_, rfl, rfl, _, rfl, ?_⟩
    rw [wne w17]
    refine iteF ⟨_, rfl, rfl, _, rfl, ?_⟩
    rw [wne w19]
    refine iteF ⟨_, rfl, rfl, _, rfl, ?_⟩
    rw [wne w20]
    refine iteF ⟨_, rfl, rfl, _, rfl, ?_⟩
    rw [wne w21]
    refine iteF ⟨_, rfl, B, b', rfl, hB, perf_ok ordS ok dok hpf, m1, fun N H' e hW hn => ?_⟩
    obtain ⟨m3, m4⟩ := m2 N H' e hW hn
    refine ⟨_, rfl, L.p, CLg K, dx, _, rfl, m3, T.c_Log, T.n_Log_net, (by show 4 < 1000; decide), ?_⟩
    rw [pLg_net]
    exact m4
end
end Pn
set_option maxHeartbeats 4000000
/-! Log: advance, do, book, looks -/
namespace Pn
open PySem PySem.Spec PyProof.Rows L2
section
variable {w : World} {K : PySem.W.Frag} {mg : Str → Option Value} {base : Heap}
theorem lg_last {M : Mth Str} {m : Nat} {l : Lg Str} {H : Hp} {L : LgA} {dx : Addr} (h : LgOk M ltS eS m l) (hL : LgF K H L l dx) : ∃ B b, L.bks.length = l.done.length + 1 ∧ L.bks[l.done.length]? = some B ∧ l.books[l.done.length]? = some b ∧ IsBk K H B b ∧ BkOk b ∧ M.Ok b l.net := by
  obtain ⟨b, hb, hM⟩ := h.net
  obtain ⟨B, hB, hbk⟩ := hL.bs.get' hb
  exact ⟨B, b, by rw [hL.bs.len, h.len], hB, hb, hbk, h.ok b (List.mem_of_getElem? hb), hM⟩
theorem refs_at {bks : List BkA} {i : Nat} {B : BkA} (h : bks[i]? = some B) : (bks.map fun B => V.ref B.p)[i]? = some (.ref B.p) := by rw [List.getElem?_map, h]; rfl
/-! ### advance -/
def spAdv (K : PySem.W.Frag) (M : Mth Str) : Sp := fun vs H Q E => ∃ L l dv d m b, vs = [.ref (LgA.p L), dv] ∧ IsLg K H L l ∧ IsDd K H dv d ∧ LgOk M ltS eS m l ∧ m ≤ 100 ∧ DdOk d ∧ l.books[l.done.length]? = some b ∧
  (∀ b' n' L' H', performB ltS eS b d = some b' → M.Ok b' n' → LgR K H L H' L' ⟨l.done ++ [d], l.books ++ [b'], l.later, n'⟩ → Q .non H') ∧ (performB ltS eS b d = none → ∀ c x H', Surv K c → Ex H H' → E c x H')
theorem sc_Log_advance : FnScope ["self", "deed", "book"] ["self", "deed"] (defScope s_Log_advance) := ⟨rfl, rfl, rfl, by decide +kernel, rfl, by decide +kernel, by decide +kernel⟩
theorem m_Log_advance (T : Txt K mg) (hN : base.NoSeer) (M : Mth Str) : MDef PP w K mg base (L2.CX PP w) (CLg K) "advance" (a_Log_advance K) 52 ["self", "deed"] (spAdv K M) := by
  obtain ⟨fd, F⟩ := T.d_Log_advance
  refine ⟨⟨fd, okX F sc_Log_advance (fun vs H Q E h => ?_) (fun cdv A outer s H vs Q E hr h => ?_), F.bindsN fun _ _ _ _ _ _ us hl => match us, hl with | [_, _], _ => rfl⟩, T.m_Log_advance, T.c_Log⟩
  · obtain ⟨L, l, dv, d, m, b, rfl, _⟩ := h
    rfl
  obtain ⟨L, l, dv, d, m, b, rfl, ⟨dx, hL⟩, hd, ok, hm, dok, hbl, kq, ke⟩ := h
  have nd := sc_Log_advance.nd
  refine ⟨_, pss_cons (ps_set (i := 2) nd rfl (Or.inl rfl) (pe_methD0 (m_Book_twin T) (hr.mono (by decide)) (pe_ix ix_list (pe_fld (pv 0) rfl) (pe_un un_neg pe_int) (fun _ _ => rfl))))
    (pss_cons (ps_expr (pe_callDX (d_perform_ok T) (hr.mono (by decide)) (passes_call (takes_of rfl rfl rfl rfl) fun _ _ _ _ h => h) (pa_cons (pv 2) (pa_cons (pv 1) pa_nil))))
    (pss_cons (ps_if (pt_cmpR op_eq (pe_callB call_len_seq (by rfl) T.f_len boot_len (pa_cons (pe_fld (pv 0) rfl) pa_nil)) (pe_gi T.i_MOST_DEEDS) (nomark _)) (pss_one ps_never) pss_nil)
    (pss_cons (ps_expr (pe_bm PySem.F.plainAttrs_list PySem.F.slot_list_append PySem.F.type_list_append mt_append (pe_fld (pv 0) rfl) (pa_cons (pv 1) pa_nil)))
    (pss_cons (ps_expr (pe_bm PySem.F.plainAttrs_list PySem.F.slot_list_append PySem.F.type_list_append mt_append (pe_fld (pv 0) rfl) (pa_cons (pv 2) pa_nil)))
    (pss_one (ps_expr (pe_methD (m_Log_follow T hN M) hr (pv 0) (pa_cons (pv 1) (pa_cons (pv 2) pa_nil))))))))), ?_⟩
  obtain ⟨B, b0, hbl0, hB, hb0, hbk, bok, hM⟩ := lg_last ok hL
  rw [hbl] at hb0
  cases hb0
  have hz := ok.z
  obtain ⟨dB, hBi⟩ := hbk.ins
  have hpz := bok.pz
  have hrz := bok.rz
  refine ⟨_, rfl, L.p, CLg K, dx, _, _, rfl, hL.ins, T.c_Log, T.n_Log_books, lLg_books, 1, rfl, L.pb, _, _, .ref B.p, rfl, rfl, SqL.of' hL.b, ?_, ?_⟩
  · exact atI_m1 (k := l.done.length) (by simp [hbl0]) (refs_at hB)
  refine ⟨B.p, dB, _, rfl, hBi, nBk_twin, B, b, rfl, hbk, bok.nd, hpz, by omega, fun B' H1 e1 hBp hBW hbk1 => ?_⟩
  refine ⟨_, rfl, _, rfl, B', b, dv, d, rfl, hbk1, stayDd _ _ _ _ (Ex.kp (K := K) e1) hd, bok, dok, fun b' H2 hpf f2 hb2 => ?_, fun hpf c x H2 sv e2 => ke hpf c x H2 sv (e1.trans e2)⟩
  have e2 : Ex H H2 := e1.frn f2 hBW
  have hL2 := hL.ex e2
  obtain ⟨vd, hvd, ald⟩ := hL2.d
  have hld := ald.len
  refine ⟨_, rfl, L.p, CLg K, dx, _, _, rfl, hL2.ins, T.c_Log, T.n_Log_done, lLg_done, L.pd, vd, rfl, .inl (SqL.of' hvd), rfl, _, rfl, ?_⟩
  rw [decide_eq_false (fun z => by injection z with z; omega)]
  refine iteF ?_
  have q := hL.ne
  refine ⟨_, rfl, L.p, CLg K, dx, _, _, rfl, hL2.ins, T.c_Log, T.n_Log_done, lLg_done, .inl ⟨rfl, _, SqL.of' hvd⟩, _, rfl, L.pd, vd, dv, rfl, rfl, hvd, by rw [sizeLine_eq]; omega, ?_⟩
  have f3 : Fr K [L.pd] H2 (upd H2 L.pd (.lst (vd ++ [dv]))) := Fr.refl.upd (.inl (by simp)) hvd (fun z => z)
  have hb3 : upd H2 L.pd (.lst (vd ++ [dv])) L.pb = some (.lst (L.bks.map fun B => .ref B.p)) := by rw [upd_ne (Ne.symm q.db)]; exact hL2.b
  have hi3 : upd H2 L.pd (.lst (vd ++ [dv])) L.p = _ := (upd_ne q.pd).trans hL2.ins
  refine ⟨_, rfl, L.p, CLg K, dx, _, _, rfl, hi3, T.c_Log, T.n_Log_books, lLg_books, .inl ⟨rfl, _, SqL.of' hb3⟩, _, rfl, L.pb, _, _, rfl, rfl, hb3, by rw [sizeLine_eq, List.length_map]; omega, ?_⟩
  have f4 : Fr K [L.pd, L.pb] H2 (upd (upd H2 L.pd (.lst (vd ++ [dv]))) L.pb (.lst ((L.bks.map fun B => V.ref B.p) ++ [.ref B'.p]))) := (f3.mono (by simp)).upd (.inl (by simp)) hb3 (fun z => z)
  obtain ⟨al1, al2⟩ := hL.alive
  have newW : ∀ a ∈ B'.all, a ∉ L.W := fun a ha z => al1 a z (by
    have : a = B'.p ∨ a ∈ B'.W := by simpa [BkA.all, BkA.W] using ha
    rcases this with y | y
    · rw [y]; exact hBp
    · exact hBW a y)
  have inW : ∀ a ∈ [L.pd, L.pb], a ∈ L.W := by simp [LgA.W]
  have hLn : LgF K (upd (upd H2 L.pd (.lst (vd ++ [dv]))) L.pb (.lst ((L.bks.map fun B => V.ref B.p) ++ [.ref B'.p]))) { L with bks := L.bks ++ [B'] } ⟨l.done ++ [d], l.books ++ [b'], l.later, l.net⟩ dx := by
    obtain ⟨v2, t1, t2⟩ := hL2.t
    refine ⟨by rw [upd_ne q.pb]; exact hi3, ⟨vd ++ [dv], by rw [upd_ne q.db, upd_same], (al_kp stayDd ald f4.k).append (Al.cons (stayDd _ _ _ _ ((Ex.kp (K := K) e2).trans f4.k) hd) Al.nil)⟩, ?_, ?_, ⟨v2, by rw [upd_ne (Ne.symm q.bl), upd_ne (Ne.symm q.dl)]; exact t1, al_kp stayDd t2 f4.k⟩, hL2.n.fr f4 ?_, hL.nd, fun X hX a ha => ?_⟩
    · rw [upd_same, List.map_append]
      rfl
    · refine (bks_fr hL2.bs f4 fun X hX a ha z => hL.sep X hX a ha (inW a z)).append (Al.cons (hb2.fr f4 ?_) Al.nil)
      exact ⟨fun z => newW _ (by simp [BkA.all]) (inW _ z), fun z => newW _ (by simp [BkA.all]) (inW _ z), fun z => newW _ (by simp [BkA.all]) (inW _ z), fun z => newW _ (by simp [BkA.all]) (inW _ z)⟩
    · simp; exact ⟨⟨fun z => q.dn z.symm, fun z => q.bn z.symm⟩, ⟨fun z => q.dnl z.symm, fun z => q.bnl z.symm⟩, fun z => q.dnr z.symm, fun z => q.bnr z.symm⟩
    · rcases List.mem_append.mp hX with z | z
      · exact hL.sep X z a ha
      · have : X = B' := by simpa using z
        rw [this] at ha
        exact newW a ha
  have f04 : Fr K L.W H (upd (upd H2 L.pd (.lst (vd ++ [dv]))) L.pb (.lst ((L.bks.map fun B => V.ref B.p) ++ [.ref B'.p]))) := (e2.fr (W := L.W)).trans (f4.mono inW)
  refine ⟨_, rfl, L.p, dx, _, rfl, hLn.ins, nLg_follow, _, rfl, _, rfl, ?_⟩
  have hbk4 : IsBk K (upd (upd H2 L.pd (.lst (vd ++ [dv]))) L.pb (.lst ((L.bks.map fun B => V.ref B.p) ++ [.ref B'.p]))) B' b' :=
    hb2.fr f4 ⟨fun z => newW _ (by simp [BkA.all]) (inW _ z), fun z => newW _ (by simp [BkA.all]) (inW _ z), fun z => newW _ (by simp [BkA.all]) (inW _ z), fun z => newW _ (by simp [BkA.all]) (inW _ z)⟩
  refine ⟨{ L with bks := L.bks ++ [B'] }, _, dv, d, B', b, b', rfl, ⟨dx, hLn⟩, stayDd _ _ _ _ ((Ex.kp (K := K) e2).trans f4.k) hd, hbk4, bok, hM, dok, hpf, fun n' L' H' hM' hR _ => ?_⟩
  refine kq b' n' L' H' hpf hM' ⟨hR.p, f04.comp hR.fr (fun x hx => .inl hx), fun x hx => ?_, hR.g⟩
  rcases hR.w x hx with z | z
  · exact .inl z
  · by_cases hm' : x ∈ L.W
    · exact .inl hm'
    · exact .inr (f04.free hm' z)

/-! ### a turn of a log -/
def spDo (K : PySem.W.Frag) (M : Mth Str) : Sp := fun vs H Q E => ∃ L l dv d m, vs = [.ref (LgA.p L), dv] ∧ IsLg K H L l ∧ IsDd K H dv d ∧ LgOk M ltS eS m l ∧ m ≤ 100 ∧ DdOk d ∧
  (∀ l' L' H', LgOk M ltS eS (m + 1) l' → LgR K H L H' L' l' → Q .non H') ∧ (∀ c x H', Surv K c → Ex H H' → E c x H')
theorem sc_Log_do : FnScope ["self", "deed"] ["self", "deed"] (defScope s_Log_do) := ⟨rfl, rfl, rfl, by decide +kernel, rfl, by decide +kernel, by decide +kernel⟩
theorem m_Log_do (T : Txt K mg) (hN : base.NoSeer) (M : Mth Str) : MDef PP w K mg base (L2.CX PP w) (CLg K) "do" (a_Log_do K) 53 ["self", "deed"] (spDo K M) := by
  obtain ⟨fd, F⟩ := T.d_Log_do
  refine ⟨⟨fd, okX F sc_Log_do (fun vs H Q E h => ?_) (fun cdv A outer s H vs Q E hr h => ?_), F.bindsN fun _ _ _ _ _ _ us hl => match us, hl with | [_, _], _ => rfl⟩, T.m_Log_do, T.c_Log⟩
  · obtain ⟨L, l, dv, d, m, rfl, _⟩ := h
    rfl
  obtain ⟨L, l, dv, d, m, rfl, ⟨dx, hL⟩, hd, ok, hm, dok, kq, ke⟩ := h
  have hlg := ne_lg T
  refine ⟨_, pss_cons (ps_expr (pe_methDX (m_Log_advance T hN M) hr (passes_call (takes_of rfl rfl rfl rfl) fun _ _ _ _ h => h) (pv 0) (pa_cons (pv 1) pa_nil))) (pss_one (ps_fld (pv 0) (pe_lst pa_nil) rfl)), ?_⟩
  obtain ⟨b, hb, hM⟩ := ok.net
  have hz := ok.z
  refine ⟨_, rfl, L.p, dx, _, rfl, hL.ins, nLg_advance, _, rfl, L, l, dv, d, m, b, rfl, ⟨dx, hL⟩, hd, ok, hm, dok, hb, fun b' n' L' H1 hpf hM' hR => ?_, fun _ c x H' sv e => ke c x H' sv e⟩
  obtain ⟨dx1, h1⟩ := hR.g
  refine ⟨by show 0 ≤ sizeLine; decide, fun q hq => ?_⟩
  have hp : L.p = L'.p := hR.p.symm
  have e2 : Ex H1 (upd H1 q (.lst [])) := (Ex.refl _).new hq
  have h2 := h1.ex e2
  have hins2 : upd H1 q (.lst []) L.p = some (.ins (CLg K) dx1 (fLg (.ref L'.pd) (.ref L'.pb) (.ref L'.pl) (.ref L'.net.p))) := by rw [hp]; exact h2.ins
  refine ⟨_, rfl, L.p, CLg K, dx1, _, rfl, hins2, T.c_Log, T.n_Log_later, (by show 4 < 1000; decide), ?_⟩
  rw [pLg_later]
  have ne := h1.ne
  obtain ⟨a1, a2⟩ := h1.alive
  have qW : q ∉ L'.W := fun z => a1 q z hq
  have f3 : Fr K [L'.p] (upd H1 q (.lst [])) (upd (upd H1 q (.lst [])) L.p (.ins (CLg K) dx1 (fLg (.ref L'.pd) (.ref L'.pb) (.ref q) (.ref L'.net.p)))) := Fr.refl.upd (.inl (by simp [hp])) hins2 (im_lg hlg)
  obtain ⟨v1, d1, d2⟩ := h2.d
  have qne : ∀ a ∈ L'.W, a ≠ q := fun a ha z => qW (z ▸ ha)
  have g3 : LgF K (upd (upd H1 q (.lst [])) L.p (.ins (CLg K) dx1 (fLg (.ref L'.pd) (.ref L'.pb) (.ref q) (.ref L'.net.p)))) { L' with pl := q } ⟨l.done ++ [d], l.books ++ [b'], [], n'⟩ dx1 := by
    refine ⟨by show upd _ _ _ L'.p = _; rw [hp, upd_same], ⟨v1, by rw [hp, upd_ne (Ne.symm ne.pd)]; exact d1, al_kp stayDd d2 f3.k⟩, by rw [hp, upd_ne (Ne.symm ne.pb)]; exact h2.b, bks_fr h2.bs f3 (fun X hX a ha z => h1.sep X hX a ha (by simp at z; simp [LgA.W, z])), ⟨[], ?_, Al.nil⟩, h2.n.fr f3 ⟨?_, ?_, ?_⟩, ?_, fun X hX a ha z => ?_⟩
    · show upd _ _ _ q = _
      rw [upd_ne (fun z => qne L'.p (by simp [LgA.W]) (by rw [z, hp])), upd_same]
    · simp; exact fun z => ne.pn z.symm
    · simp; exact fun z => ne.pnl z.symm
    · simp; exact fun z => ne.pnr z.symm
    · have ndd := h1.nd
      unfold LgA.W at ndd qne ⊢
      simp only [List.nodup_cons, List.mem_cons, not_or, List.not_mem_nil, not_false_eq_true] at ndd ⊢
      obtain ⟨⟨a1, a2, a3, a4, a5, a6, _⟩, ⟨b1, b2, b3, b4, b5, _⟩, ⟨c1, c2, c3, c4, _⟩, ⟨e1, e2, e3, _⟩, r⟩ := ndd
      exact ⟨⟨a1, a2, qne _ (by simp), a4, a5, a6, trivial⟩, ⟨b1, qne _ (by simp), b3, b4, b5, trivial⟩, ⟨qne _ (by simp), c2, c3, c4, trivial⟩, ⟨fun z => qne _ (by simp) z.symm, fun z => qne _ (by simp) z.symm, fun z => qne _ (by simp) z.symm, trivial⟩, r⟩
    · have hs := h1.sep X hX a ha
      have haq : a ≠ q := fun y => by
        have := a2 X hX a ha
        rw [y] at this
        exact this hq
      unfold LgA.W at z hs
      simp only [List.mem_cons, not_or, List.not_mem_nil, or_false] at z hs
      rcases z with z | z | z | z | z | z | z
      · exact hs.1 z
      · exact hs.2.1 z
      · exact hs.2.2.1 z
      · exact haq z
      · exact hs.2.2.2.2.1 z
      · exact hs.2.2.2.2.2.1 z
      · exact hs.2.2.2.2.2.2 z
  refine kq _ { L' with pl := q } _ (lg_adv ordS ok hb dok hpf hM' (la := []) (by simp) (by simp; omega)) (hR.trans ⟨rfl, (e2.fr (W := L'.W)).trans (f3.mono (by simp [LgA.W])), fun a ha => ?_, ⟨dx1, g3⟩⟩)
  unfold LgA.W at ha ⊢
  simp only [List.mem_cons, List.not_mem_nil, or_false] at ha ⊢
  rcases ha with z | z | z | z | z | z | z
  · exact .inl (.inl z)
  · exact .inl (.inr (.inl z))
  · exact .inl (.inr (.inr (.inl z)))
  · exact .inr (z ▸ hq)
  · exact .inl (.inr (.inr (.inr (.inr (.inl z)))))
  · exact .inl (.inr (.inr (.inr (.inr (.inr (.inl z))))))
  · exact .inl (.inr (.inr (.inr (.inr (.inr (.inr z))))))
end
end Pn
set_option maxHeartbeats 4000000
/-! Log: undo, redo, book, looks, making -/
namespace Pn
open PySem PySem.Spec PyProof.Rows L2
theorem atI_0 {α : Type} {x : α} {r : List α} : atI (x :: r) 0 = some x := atI_nat (j := 0) rfl
theorem placeOf_names {rds rds' : List Rg} {n : Str} (h : rds.map (·.name) = rds'.map (·.name)) : placeOf rds n = placeOf rds' n := by
  have e : ∀ x : List Rg, placeOf x n = (x.map (·.name)).findIdx? fun y => decide (y = n) := fun x => by
    unfold placeOf
    rw [List.findIdx?_map]
    rfl
  rw [e, e, h]
theorem LgOk.mono {M : Mth Str} {m m' : Nat} {l : Lg Str} (h : LgOk M ltS eS m l) (hm : m ≤ m') : LgOk M ltS eS m' l := ⟨h.len, Nat.le_trans h.z hm, h.ok, h.st, h.lt, h.net⟩
section
variable {w : World} {K : PySem.W.Frag} {mg : Str → Option Value} {base : Heap}
def spTurn (K : PySem.W.Frag) (M : Mth Str) : Sp := fun vs H Q E => ∃ L l m, vs = [.ref (LgA.p L)] ∧ IsLg K H L l ∧ LgOk M ltS eS m l ∧ m ≤ 100 ∧
  (∀ l' L' H', LgOk M ltS eS (m + 1) l' → LgR K H L H' L' l' → Q .non H') ∧ (∀ c x l' L' H', Surv K c → LgOk M ltS eS (m + 1) l' → LgR K H L H' L' l' → E c x H')
/-- raise NothingToUndo() -/
theorem psr_NU {X : Cx} {W : WX} {p pos pos2 : Pos} (T : Txt X.K X.mg) (hc : X.calm = true) (tk : Takes X W) (hg : Gl X "NothingToUndo" := by rfl) : PS X (.Raise (some (.Call (.Name "NothingToUndo" p) [] [] pos)) none pos2) (fun _ σ H => W (.ref (He.ga X.K "NothingToUndo")) none σ H) :=
  ps_raise hc tk (pmk_own0 PySem.F.excBase_ValueError T.xNU.1 T.g_NothingToUndo T.q_NothingToUndo (raises_own T.xNU.2.exC T.xNU.2.tyC) hg)
theorem sc_Log_undo : FnScope ["self", "deed", "book"] ["self"] (defScope s_Log_undo) := ⟨rfl, rfl, rfl, by decide +kernel, rfl, by decide +kernel, by decide +kernel⟩
theorem m_Log_undo (T : Txt K mg) (hN : base.NoSeer) (M : Mth Str) : MDef PP w K mg base (L2.CX PP w) (CLg K) "undo" (a_Log_undo K) 51 ["self"] (spTurn K M) := by
  obtain ⟨fd, F⟩ := T.d_Log_undo
  refine ⟨⟨fd, okX F sc_Log_undo (fun vs H Q E h => ?_) (fun cdv A outer s H vs Q E hr h => ?_), F.bindsN fun _ _ _ _ _ _ us hl => match us, hl with | [_], _ => rfl⟩, T.m_Log_undo, T.c_Log⟩
  · obtain ⟨L, l, m, rfl, _⟩ := h
    rfl
  obtain ⟨L, l, m, rfl, ⟨dx, hL⟩, ok, hm, kq, ke⟩ := h
  have nd := sc_Log_undo.nd
  have hlg := ne_lg T
  refine ⟨_, pss_cons (ps_if (pt_not (pt_truth (pe_fld (pv 0) rfl) (by intro _; rfl))) (pss_one (psr_NU T rfl (takes_of rfl rfl rfl rfl))) pss_nil)
    (pss_cons (ps_set (i := 1) nd rfl (Or.inl rfl) (pe_bm0 PySem.F.plainAttrs_list PySem.F.slot_list_pop PySem.F.type_list_pop mt_pop (pe_fld (pv 0) rfl)))
    (pss_cons (ps_expr (pe_bm0 PySem.F.plainAttrs_list PySem.F.slot_list_pop PySem.F.type_list_pop mt_pop (pe_fld (pv 0) rfl)))
    (pss_cons (ps_expr (pe_bm PySem.F.plainAttrs_list PySem.F.slot_list_append PySem.F.type_list_append mt_append (pe_fld (pv 0) rfl) (pa_cons (pv 1) pa_nil)))
    (pss_cons (ps_set (i := 2) nd rfl (Or.inl rfl) (pe_ix ix_list (pe_fld (pv 0) rfl) (pe_un un_neg pe_int) (fun _ _ => rfl)))
    (pss_one (ps_if (pt_cmpR op_eq (pe_ix ix_tup (pv 1) pe_int (fun _ _ => rfl)) pe_str (nomark _)) (pss_one (ps_expr (pe_methD (m_Net_withdraw T hN) (hr.mono (by decide)) (pe_fld (pv 0) rfl) (pa_cons (pe_ix ix_tup (pv 1) pe_int (fun _ _ => rfl)) pa_nil))))
    (pss_one (ps_if (pt_cmpR op_eq (pe_ix ix_tup (pv 1) pe_int (fun _ _ => rfl)) pe_str (nomark _)) (pss_one (ps_expr (pe_methD (m_Net_change_value T hN) (hr.mono (by decide)) (pe_fld (pv 0) rfl) (pa_cons (pe_ix ix_tup (pv 1) pe_int (fun _ _ => rfl)) (pa_cons (pe_fld (pe_methDX (m_Book_reading T) (hr.mono (by decide)) passL (pv 2) (pa_cons (pe_ix ix_tup (pv 1) pe_int (fun _ _ => rfl)) pa_nil)) rfl) pa_nil)))))
    (pss_one (ps_if (pt_cmpR op_eq (pe_ix ix_tup (pv 1) pe_int (fun _ _ => rfl)) pe_str (nomark _)) (pss_one (ps_expr (pe_methD (m_Net_change_weight T hN) (hr.mono (by decide)) (pe_fld (pv 0) rfl) (pa_cons (pe_ix ix_tup (pv 1) pe_int (fun _ _ => rfl)) (pa_cons (pe_fld (pe_methDX (m_Book_reading T) (hr.mono (by decide)) passL (pv 2) (pa_cons (pe_ix ix_tup (pv 1) pe_int (fun _ _ => rfl)) pa_nil)) rfl) pa_nil)))))
    (pss_one (ps_fld (pv 0) (pe_callD (d_net_of_ok T hN) hr (pa_cons (pv 2) pa_nil)) rfl)))))))))))), ?_⟩
  obtain ⟨vd, hvd, ald⟩ := hL.d
  obtain ⟨vl, hvl, all⟩ := hL.t
  have hld := ald.len
  have hll := all.len
  have hz := ok.z
  have q := hL.ne
  have hbl := hL.bs.len
  have hol := ok.len
  by_cases he : vd.isEmpty = true
  · refine ⟨_, rfl, L.p, CLg K, dx, _, _, rfl, hL.ins, T.c_Log, T.n_Log_done, lLg_done, false, .inl ⟨vd, SqL.of' hvd, by rw [he]; rfl⟩, iteT ?_⟩
    exact ke _ _ l L H (sv_NU T) (ok.mono (by omega)) (.refl ⟨dx, hL⟩)
  refine ⟨_, rfl, L.p, CLg K, dx, _, _, rfl, hL.ins, T.c_Log, T.n_Log_done, lLg_done, true, .inl ⟨vd, SqL.of' hvd, by rw [Bool.not_eq_true] at he; rw [he]; rfl⟩, iteF ?_⟩
  have hne : vd ≠ [] := fun z => he (by rw [z]; rfl)
  have hpos : 0 < vd.length := List.length_pos_iff.mpr hne
  obtain ⟨k, hk⟩ : ∃ k, l.done.length = k + 1 := ⟨l.done.length - 1, by omega⟩
  have hdk : l.done[k]? = some l.done[k] := List.getElem?_eq_getElem (by omega)
  obtain ⟨dv, hdv, hdd⟩ := ald.get' hdk
  have hbk0 : l.books[k]? = some l.books[k] := List.getElem?_eq_getElem (by omega)
  have hbk1 : l.books[k + 1]? = some l.books[k + 1] := List.getElem?_eq_getElem (by omega)
  obtain ⟨dok, hpf⟩ := ok.st k _ _ _ hdk hbk0 hbk1
  have bok := ok.ok _ (List.mem_of_getElem? hbk0)
  have cok := ok.ok _ (List.mem_of_getElem? hbk1)
  obtain ⟨bc, hbc, hM⟩ := ok.net
  rw [hk, hbk1] at hbc
  have hbc' := Option.some.inj hbc
  have hgo := fun n' hn' => lg_undo (n' := n') ok hk hdk hbk0 hn'
  obtain ⟨B, hB, hbk⟩ := hL.bs.get' hbk0
  generalize l.done[k] = d at hdd dok hpf hgo
  generalize l.books[k] = b at hpf bok hgo hbk hbk0
  rw [hbc'] at hpf cok
  clear hbc hbc' hbk1 hdk
  -- the pops
  refine ⟨_, rfl, L.p, CLg K, dx, _, _, rfl, hL.ins, T.c_Log, T.n_Log_done, lLg_done, .inl ⟨rfl, _, SqL.of' hvd⟩, L.pd, vd, dv, rfl, rfl, hvd, by rw [hld, hk]; exact hdv, ?_⟩
  have f1 : Fr K [L.pd, L.pb, L.pl] H (upd H L.pd (.lst vd.dropLast)) := Fr.refl.upd (.inl (by simp)) hvd (fun z => z)
  have hb1 : upd H L.pd (.lst vd.dropLast) L.pb = some (.lst (L.bks.map fun B => .ref B.p)) := by rw [upd_ne (Ne.symm q.db)]; exact hL.b
  have hi1 : upd H L.pd (.lst vd.dropLast) L.p = _ := (upd_ne q.pd).trans hL.ins
  have hblen : (L.bks.map fun B => V.ref B.p).length = k + 2 := by rw [List.length_map]; omega
  refine ⟨_, rfl, L.p, CLg K, dx, _, _, rfl, hi1, T.c_Log, T.n_Log_books, lLg_books, .inl ⟨rfl, _, SqL.of' hb1⟩, L.pb, _, _, rfl, rfl, hb1, List.getElem?_eq_getElem (by omega), ?_⟩
  have f2 := f1.upd (o := .lst (L.bks.map fun B => V.ref B.p).dropLast) (.inl (by simp : L.pb ∈ [L.pd, L.pb, L.pl])) hb1 (fun z => z)
  have hl2 : upd (upd H L.pd (.lst vd.dropLast)) L.pb (.lst (L.bks.map fun B => V.ref B.p).dropLast) L.pl = some (.lst vl) := by rw [upd_ne (Ne.symm q.bl), upd_ne (Ne.symm q.dl)]; exact hvl
  have hi2 : upd (upd H L.pd (.lst vd.dropLast)) L.pb (.lst (L.bks.map fun B => V.ref B.p).dropLast) L.p = _ := (upd_ne q.pb).trans hi1
  refine ⟨_, rfl, L.p, CLg K, dx, _, _, rfl, hi2, T.c_Log, T.n_Log_later, lLg_later, .inl ⟨rfl, _, SqL.of' hl2⟩, _, rfl, L.pl, vl, dv, rfl, rfl, hl2, by rw [sizeLine_eq]; omega, ?_⟩
  have f3 := f2.upd (o := .lst (vl ++ [dv])) (.inl (by simp : L.pl ∈ [L.pd, L.pb, L.pl])) hl2 (fun z => z)
  generalize hH3 : upd (upd (upd H L.pd (.lst vd.dropLast)) L.pb (.lst (L.bks.map fun B => V.ref B.p).dropLast)) L.pl (.lst (vl ++ [dv])) = H3 at f3
  have inW : ∀ a ∈ [L.pd, L.pb, L.pl], a ∈ L.W := by simp [LgA.W]
  have al_drop : ∀ {α β : Type} {R : α → β → Prop} {vs : List α} {xs : List β}, Al R vs xs → Al R vs.dropLast xs.dropLast := fun {α β R vs xs} h => by
    rw [List.dropLast_eq_take, List.dropLast_eq_take, h.len]
    exact h.take _
  have hbd : L.bks.dropLast[k]? = some B := by
    rw [List.getElem?_dropLast, if_pos (by omega)]
    exact hB
  have hL3 : LgF K H3 { L with bks := L.bks.dropLast } ⟨l.done.dropLast, l.books.dropLast, l.later ++ [d], l.net⟩ dx := by
    subst hH3
    refine ⟨by rw [upd_ne q.pl]; exact hi2, ⟨vd.dropLast, by rw [upd_ne q.dl, upd_ne q.db, upd_same], al_kp stayDd (al_drop ald) f3.k⟩, ?_, bks_fr (al_drop hL.bs) f3 (fun X hX a ha z => hL.sep X ((List.dropLast_sublist _).subset hX) a ha (inW a z)), ⟨vl ++ [dv], upd_same, (al_kp stayDd all f3.k).append (Al.cons (stayDd _ _ _ _ f3.k hdd) Al.nil)⟩, hL.n.fr f3 ?_, hL.nd, fun X hX a ha => hL.sep X ((List.dropLast_sublist _).subset hX) a ha⟩
    · rw [upd_ne q.bl, upd_same]
      show some (HO.lst (L.bks.map fun B => V.ref B.p).dropLast) = some (.lst (L.bks.dropLast.map fun B => V.ref B.p))
      rw [List.map_dropLast]
    · simp; exact ⟨⟨fun z => q.dn z.symm, fun z => q.bn z.symm, fun z => q.ln z.symm⟩, ⟨fun z => q.dnl z.symm, fun z => q.bnl z.symm, fun z => q.lnl z.symm⟩, fun z => q.dnr z.symm, fun z => q.bnr z.symm, fun z => q.lnr z.symm⟩
  have R3 : LgR K H L H3 { L with bks := L.bks.dropLast } ⟨l.done.dropLast, l.books.dropLast, l.later ++ [d], l.net⟩ := ⟨rfl, f3.mono inW, fun a ha => .inl ha, ⟨dx, hL3⟩⟩
  have hdd3 := stayDd _ _ _ _ f3.k hdd
  have hbk3 : IsBk K H3 B b := hL3.bs.at_ k B b hbd (by
    show l.books.dropLast[k]? = some b
    rw [List.getElem?_dropLast, if_pos (by omega)]
    exact hbk0)
  clear hbk0
  refine ⟨_, rfl, L.p, CLg K, dx, _, _, rfl, hL3.ins, T.c_Log, T.n_Log_books, lLg_books, 1, rfl, L.pb, _, _, .ref B.p, rfl, rfl, SqL.of' hL3.b, atI_m1 (k := k) (by rw [List.length_map, List.length_dropLast]; omega) (refs_at hbd), ?_⟩
  have w1 : ¬ ("point" : Str) = "reading" := by decide +kernel
  have w2 : ¬ ("point" : Str) = "value" := by decide +kernel
  have w3 : ¬ ("point" : Str) = "weight" := by decide +kernel
  have a1 : ¬ ("approximation" : Str) = "reading" := by decide +kernel
  have a2 : ¬ ("approximation" : Str) = "value" := by decide +kernel
  have a3 : ¬ ("approximation" : Str) = "weight" := by decide +kernel
  have v1 : ¬ ("value" : Str) = "reading" := by decide +kernel
  have g1 : ¬ ("weight" : Str) = "reading" := by decide +kernel
  have g2 : ¬ ("weight" : Str) = "value" := by decide +kernel
  have t1 : ¬ ("withdraw" : Str) = "reading" := by decide +kernel
  have t2 : ¬ ("withdraw" : Str) = "value" := by decide +kernel
  have t3 : ¬ ("withdraw" : Str) = "weight" := by decide +kernel
  have r1 : ¬ ("remove" : Str) = "reading" := by decide +kernel
  have r2 : ¬ ("remove" : Str) = "value" := by decide +kernel
  have r3 : ¬ ("remove" : Str) = "weight" := by decide +kernel
  obtain ⟨dN, va, vm, vi, vr, vt, hnf⟩ := id hL3.n
  replace hnf : NtF K H3 L.net l.net dN va vm vi vr vt := hnf
  have hnt : IsNt K H3 L.net l.net := ⟨_, _, _, _, _, _, hnf⟩
  have sz := M.nsz cok hM
  have ep := M.pts hM
  have er := M.rds hM
  obtain ⟨dBk, hBi⟩ := hbk3.ins
  have hrz := bok.rz
  have inpl : ∀ (n' : Nt Str) (H' : Hp), M.Ok b n' → Fr K L.net.W H3 H' → IsNt K H' L.net n' → Q .non H' := fun n' H' h1 h2 h3 => by
    obtain ⟨g, f⟩ := hL3.netFr h2 h3
    exact kq _ _ _ ((hgo n' h1).mono (by omega)) (R3.trans ⟨rfl, f, fun a ha => .inl ha, ⟨_, g⟩⟩)
  obtain ⟨m1, m2⟩ := M.netOf bok
  have anew : ∀ N H', Ex H3 H' → (∀ a ∈ NtA.W N, H3 a = none) → IsNt K H' N (netOf b) → H' L.p = some (.ins (CLg K) dx (fLg (.ref L.pd) (.ref L.pb) (.ref L.pl) (.ref L.net.p))) ∧ Q .non (upd H' L.p (.ins (CLg K) dx (fLg (.ref L.pd) (.ref L.pb) (.ref L.pl) (.ref N.p)))) := fun N H' e hW hn =>
    ⟨e _ _ hL3.ins, kq _ _ _ ((hgo _ m2).mono (by omega)) (R3.trans (hL3.setNew hlg e hn hW))⟩
  have other : word d = "point" ∨ word d = "approximation" ∨ word d = "withdraw" ∨ word d = "remove" → ¬ word d = "reading" ∧ ¬ word d = "value" ∧ ¬ word d = "weight" := by
    rintro (z | z | z | z) <;> rw [z]
    · exact ⟨w1, w2, w3⟩
    · exact ⟨a1, a2, a3⟩
    · exact ⟨t1, t2, t3⟩
    · exact ⟨r1, r2, r3⟩
  by_cases hw : word d = "point" ∨ word d = "approximation" ∨ word d = "withdraw" ∨ word d = "remove"
  · obtain ⟨o1, o2, o3⟩ := other hw
    obtain ⟨p, nm, rr, rfl, hp⟩ := dd_tup hdd3
    refine ⟨_, rfl, p, _, _, .str (word d), rfl, rfl, SqT.of' hp, atI_0, rfl, _, rfl, ?_⟩
    rw [wne o1]
    refine iteF ⟨_, rfl, p, _, _, .str (word d), rfl, rfl, SqT.of' hp, atI_0, rfl, _, rfl, ?_⟩
    rw [wne o2]
    refine iteF ⟨_, rfl, p, _, _, .str (word d), rfl, rfl, SqT.of' hp, atI_0, rfl, _, rfl, ?_⟩
    rw [wne o3]
    refine iteF ⟨_, rfl, B, b, rfl, hbk3, bok, m1, fun N H' e hW hn => ?_⟩
    obtain ⟨m3, m4⟩ := anew N H' e hW hn
    refine ⟨_, rfl, L.p, CLg K, dx, _, rfl, m3, T.c_Log, T.n_Log_net, (by show 4 < 1000; decide), ?_⟩
    rw [pLg_net]
    exact m4
  cases d with
  | point n q => exact absurd (.inl rfl) hw
  | approx n q => exact absurd (.inr (.inl rfl)) hw
  | withdraw n => exact absurd (.inr (.inr (.inl rfl))) hw
  | remove n => exact absurd (.inr (.inr (.inr rfl))) hw
  | reading n ts x y =>
    obtain ⟨p, vt', vx, vy, rfl, hp, ht, hx, hy⟩ := hdd3
    obtain ⟨rfl, rok, h3, h4⟩ := addR_ok ordS dok hpf
    have hri : (b.rds ++ [(⟨n, ts, x, y⟩ : Rg)])[b.rds.length]? = some ⟨n, ts, x, y⟩ := by simp
    obtain ⟨m3, m4⟩ := M.withdraw cok hM hri
    have eb : ({ b with rds := (b.rds ++ [(⟨n, ts, x, y⟩ : Rg)]).eraseIdx b.rds.length } : Bk Str) = b := by
      rw [List.eraseIdx_append_of_length_le (Nat.le_refl _), Nat.sub_self]
      simp
    have m4' : M.Ok b (ntWithdrawAt l.net b.rds.length ⟨n, ts, x, y⟩) := by
      rw [← eb]
      rw [eb]
      have := m4
      rw [show ({ pts := b.pts, rds := (b.rds ++ [(⟨n, ts, x, y⟩ : Rg)]).eraseIdx b.rds.length } : Bk Str) = b from eb] at this
      exact this
    refine ⟨_, rfl, p, _, _, _, rfl, rfl, SqT.of' hp, rfl, rfl, _, rfl, ?_⟩
    rw [weq]
    refine iteT ?_
    refine ⟨_, rfl, L.p, CLg K, dx, _, _, rfl, hL3.ins, T.c_Log, T.n_Log_net, lLg_net, L.net.p, dN, _, rfl, hnf.ins, nNt_withdraw, _, rfl, p, _, _, _, rfl, rfl, SqT.of' hp, rfl, ?_⟩
    refine ⟨L.net, l.net, n, b.rds.length, ⟨n, ts, x, y⟩, rfl, hnt, sz, ?_, by rw [er]; exact hri, m3, fun H' f h' => inpl _ H' m4' f h'⟩
    rw [er]
    refine placeOf_some hri rfl fun j r' hj hr' z => h3 ?_
    have hr' : (b.rds ++ [(⟨n, ts, x, y⟩ : Rg)])[j]? = some r' := hr'
    rw [List.getElem?_append_left hj] at hr'
    exact List.mem_map.mpr ⟨r', List.mem_of_getElem? hr', z⟩
  | value n qv =>
    obtain ⟨p, vq, rfl, hp, hq⟩ := hdd3
    have hpf : valueB b n qv = some bc := hpf
    unfold valueB at hpf
    split at hpf
    · cases hpf
    rename_i i hi
    obtain ⟨r, hri, hrn, _⟩ := placeOf_at hi
    cases hpf
    rw [mod_eq hri] at *
    have hil : i < b.rds.length := (List.getElem?_eq_some_iff.mp hri).1
    have hri2 : (b.rds.set i { r with value := qv })[i]? = some { r with value := qv } := by rw [List.getElem?_set]; simp [hil]
    have rok := bok.r r (List.mem_of_getElem? hri)
    obtain ⟨m3, m4⟩ := M.value cok hM hri2 rok.v
    have eb : (b.rds.set i { r with value := qv }).set i { ({ r with value := qv } : Rg) with value := r.value } = b.rds := by
      rw [List.set_set]
      obtain ⟨_, e⟩ := List.getElem?_eq_some_iff.mp hri
      show b.rds.set i r = b.rds
      rw [← e, List.set_getElem_self]
    have m4' : M.Ok b (ntValueAt l.net i { r with value := qv } r.value) := by
      have := m4
      rw [show ({ pts := b.pts, rds := (b.rds.set i { r with value := qv }).set i { ({ r with value := qv } : Rg) with value := r.value } } : Bk Str) = b by rw [eb]] at this
      exact this
    refine ⟨_, rfl, p, _, _, _, rfl, rfl, SqT.of' hp, rfl, rfl, _, rfl, ?_⟩
    rw [wne v1]
    refine iteF ⟨_, rfl, p, _, _, _, rfl, rfl, SqT.of' hp, rfl, rfl, _, rfl, ?_⟩
    rw [weq]
    refine iteT ?_
    refine ⟨_, rfl, L.p, CLg K, dx, _, _, rfl, hL3.ins, T.c_Log, T.n_Log_net, lLg_net, L.net.p, dN, _, rfl, hnf.ins, nNt_change_value, _, rfl, p, _, _, _, rfl, rfl, SqT.of' hp, rfl, ?_⟩
    refine ⟨_, rfl, B.p, dBk, _, rfl, hBi, nBk_reading, _, rfl, p, _, _, _, rfl, rfl, SqT.of' hp, rfl, ?_⟩
    refine ⟨B, b, n, rfl, hbk3, by omega, fun i' r' v' H4 hi' hr' e4 hv' => ?_, fun hno => ?_⟩
    · rw [hi] at hi'
      cases hi'
      rw [hri] at hr'
      cases hr'
      obtain ⟨rp, dr, tv, vv, wv, rfl, hrp, g3, g4, g5⟩ := hv'
      refine ⟨rp, CRd K, dr, _, _, rfl, hrp, T.c_Reading, T.n_Reading_value, lRd_value, ?_⟩
      refine ⟨L.net, l.net, n, i, _, vv, r.value, rfl, hnt.ex e4, g4, sz, ?_, by rw [er]; exact hri2, m3, fun H' f h' => inpl _ H' m4' ((e4.fr (W := L.net.W)).trans f) h'⟩
      rw [er]
      exact (placeOf_names (set_names (r' := { r with value := qv }) hri rfl)).trans hi
    · rw [hi] at hno
      cases hno
  | weight n qv =>
    obtain ⟨p, vq, rfl, hp, hq⟩ := hdd3
    have hpf : weightB b n qv = some bc := hpf
    unfold weightB at hpf
    split at hpf
    · cases hpf
    rename_i i hi
    obtain ⟨r, hri, hrn, _⟩ := placeOf_at hi
    split at hpf
    · cases hpf
    cases hpf
    rw [mod_eq hri] at *
    have hil : i < b.rds.length := (List.getElem?_eq_some_iff.mp hri).1
    have hri2 : (b.rds.set i { r with weight := qv })[i]? = some { r with weight := qv } := by rw [List.getElem?_set]; simp [hil]
    have rok := bok.r r (List.mem_of_getElem? hri)
    obtain ⟨m3, m4⟩ := M.weight cok hM hri2 rok.w
    have eb : (b.rds.set i { r with weight := qv }).set i { ({ r with weight := qv } : Rg) with weight := r.weight } = b.rds := by
      rw [List.set_set]
      obtain ⟨_, e⟩ := List.getElem?_eq_some_iff.mp hri
      show b.rds.set i r = b.rds
      rw [← e, List.set_getElem_self]
    have m4' : M.Ok b (ntWeightAt l.net i { r with weight := qv } r.weight) := by
      have := m4
      rw [show ({ pts := b.pts, rds := (b.rds.set i { r with weight := qv }).set i { ({ r with weight := qv } : Rg) with weight := r.weight } } : Bk Str) = b by rw [eb]] at this
      exact this
    refine ⟨_, rfl, p, _, _, _, rfl, rfl, SqT.of' hp, rfl, rfl, _, rfl, ?_⟩
    rw [wne g1]
    refine iteF ⟨_, rfl, p, _, _, _, rfl, rfl, SqT.of' hp, rfl, rfl, _, rfl, ?_⟩
    rw [wne g2]
    refine iteF ⟨_, rfl, p, _, _, _, rfl, rfl, SqT.of' hp, rfl, rfl, _, rfl, ?_⟩
    rw [weq]
    refine iteT ?_
    refine ⟨_, rfl, L.p, CLg K, dx, _, _, rfl, hL3.ins, T.c_Log, T.n_Log_net, lLg_net, L.net.p, dN, _, rfl, hnf.ins, nNt_change_weight, _, rfl, p, _, _, _, rfl, rfl, SqT.of' hp, rfl, ?_⟩
    refine ⟨_, rfl, B.p, dBk, _, rfl, hBi, nBk_reading, _, rfl, p, _, _, _, rfl, rfl, SqT.of' hp, rfl, ?_⟩
    refine ⟨B, b, n, rfl, hbk3, by omega, fun i' r' v' H4 hi' hr' e4 hv' => ?_, fun hno => ?_⟩
    · rw [hi] at hi'
      cases hi'
      rw [hri] at hr'
      cases hr'
      obtain ⟨rp, dr, tv, vv, wv, rfl, hrp, g3, g4, g5⟩ := hv'
      refine ⟨rp, CRd K, dr, _, _, rfl, hrp, T.c_Reading, T.n_Reading_weight, lRd_weight, ?_⟩
      refine ⟨L.net, l.net, n, i, _, wv, r.weight, rfl, hnt.ex e4, g5, sz, ?_, by rw [er]; exact hri2, rok.w.p, m3, fun H' f h' => inpl _ H' m4' ((e4.fr (W := L.net.W)).trans f) h'⟩
      rw [er]
      exact (placeOf_names (set_names (r' := { r with weight := qv }) hri rfl)).trans hi
    · rw [hi] at hno
      cases hno
end
end Pn
set_option maxHeartbeats 4000000
/-! Log: redo, book, looks, making -/
namespace Pn
open PySem PySem.Spec PyProof.Rows L2
section
variable {w : World} {K : PySem.W.Frag} {mg : Str → Option Value} {base : Heap}
theorem sc_Log_redo : FnScope ["self"] ["self"] (defScope s_Log_redo) := ⟨rfl, rfl, rfl, by decide +kernel, rfl, by decide +kernel, by decide +kernel⟩
theorem m_Log_redo (T : Txt K mg) (hN : base.NoSeer) (M : Mth Str) : MDef PP w K mg base (L2.CX PP w) (CLg K) "redo" (a_Log_redo K) 53 ["self"] (spTurn K M) := by
  obtain ⟨fd, F⟩ := T.d_Log_redo
  refine ⟨⟨fd, okX F sc_Log_redo (fun vs H Q E h => ?_) (fun cdv A outer s H vs Q E hr h => ?_), F.bindsN fun _ _ _ _ _ _ us hl => match us, hl with | [_], _ => rfl⟩, T.m_Log_redo, T.c_Log⟩
  · obtain ⟨L, l, m, rfl, _⟩ := h
    rfl
  obtain ⟨L, l, m, rfl, ⟨dx, hL⟩, ok, hm, kq, ke⟩ := h
  refine ⟨_, pss_cons (ps_if (pt_not (pt_truth (pe_fld (pv 0) rfl) (by intro _; rfl))) (pss_one (psr_NU T rfl (takes_of rfl rfl rfl rfl))) pss_nil)
    (pss_one (ps_expr (pe_methDX (m_Log_advance T hN M) hr (passes_call (takes_of rfl rfl rfl rfl) fun _ _ _ _ h => h) (pv 0) (pa_cons (pe_bm0 PySem.F.plainAttrs_list PySem.F.slot_list_pop PySem.F.type_list_pop mt_pop (pe_fld (pv 0) rfl)) pa_nil)))), ?_⟩
  obtain ⟨vl, hvl, all⟩ := hL.t
  have hll := all.len
  have hz := ok.z
  have q := hL.ne
  by_cases he : vl.isEmpty = true
  · refine ⟨_, rfl, L.p, CLg K, dx, _, _, rfl, hL.ins, T.c_Log, T.n_Log_later, lLg_later, false, .inl ⟨vl, SqL.of' hvl, by rw [he]; rfl⟩, iteT ?_⟩
    exact ke _ _ l L H (sv_NU T) (ok.mono (by omega)) (.refl ⟨dx, hL⟩)
  refine ⟨_, rfl, L.p, CLg K, dx, _, _, rfl, hL.ins, T.c_Log, T.n_Log_later, lLg_later, true, .inl ⟨vl, SqL.of' hvl, by rw [Bool.not_eq_true] at he; rw [he]; rfl⟩, iteF ?_⟩
  have hne : vl ≠ [] := fun z => he (by rw [z]; rfl)
  have hpos : 0 < vl.length := List.length_pos_iff.mpr hne
  have hdk : l.later[vl.length - 1]? = some l.later[vl.length - 1] := List.getElem?_eq_getElem (by omega)
  obtain ⟨dv, hdv, hdd⟩ := all.get' hdk
  have dok : DdOk l.later[vl.length - 1] := ok.lt _ (List.mem_of_getElem? hdk)
  generalize l.later[vl.length - 1] = d at hdd dok hdk
  refine ⟨_, rfl, L.p, dx, _, rfl, hL.ins, nLg_advance, _, rfl, L.p, CLg K, dx, _, _, rfl, hL.ins, T.c_Log, T.n_Log_later, lLg_later, .inl ⟨rfl, _, SqL.of' hvl⟩, L.pl, vl, dv, rfl, rfl, hvl, hdv, ?_⟩
  have f1 : Fr K [L.pl] H (upd H L.pl (.lst vl.dropLast)) := Fr.refl.upd (.inl (by simp)) hvl (fun z => z)
  have inW : ∀ a ∈ [L.pl], a ∈ L.W := by simp [LgA.W]
  obtain ⟨v1, d1, d2⟩ := hL.d
  have al_drop : Al (IsDd K H) vl.dropLast l.later.dropLast := by
    rw [List.dropLast_eq_take, List.dropLast_eq_take, hll]
    exact all.take _
  have hL1 : LgF K (upd H L.pl (.lst vl.dropLast)) L ⟨l.done, l.books, l.later.dropLast, l.net⟩ dx := by
    refine ⟨by rw [upd_ne q.pl]; exact hL.ins, ⟨v1, by rw [upd_ne q.dl]; exact d1, al_kp stayDd d2 f1.k⟩, by rw [upd_ne q.bl]; exact hL.b, bks_fr hL.bs f1 (fun X hX a ha z => hL.sep X hX a ha (inW a z)), ⟨_, upd_same, al_kp stayDd al_drop f1.k⟩, hL.n.fr f1 ?_, hL.nd, hL.sep⟩
    simp
    exact ⟨fun z => q.ln z.symm, fun z => q.lnl z.symm, fun z => q.lnr z.symm⟩
  have R1 : LgR K H L (upd H L.pl (.lst vl.dropLast)) L ⟨l.done, l.books, l.later.dropLast, l.net⟩ := ⟨rfl, f1.mono inW, fun a ha => .inl ha, ⟨dx, hL1⟩⟩
  have ok1 : LgOk M ltS eS m ⟨l.done, l.books, l.later.dropLast, l.net⟩ := ⟨ok.len, by simp; omega, ok.ok, ok.st, fun x hx => ok.lt x ((List.dropLast_sublist _).subset hx), ok.net⟩
  obtain ⟨b, hb, hM⟩ := ok.net
  refine ⟨L, _, dv, d, m, b, rfl, ⟨dx, hL1⟩, stayDd _ _ _ _ f1.k hdd, ok1, hm, dok, hb, fun b' n' L' H' hpf hM' hR => ?_, fun hpf c x H' sv e => ?_⟩
  · exact kq _ _ _ (lg_adv ordS ok hb dok hpf hM' ok1.lt (by simp; omega)) (R1.trans hR)
  · exact ke c x _ _ H' sv (ok1.mono (by omega)) (R1.trans ⟨rfl, e.fr, fun a ha => .inl ha, ⟨dx, hL1.ex e⟩⟩)

/-! ### book -/
def spLBook (K : PySem.W.Frag) (M : Mth Str) : Sp := fun vs H Q _ => ∃ L l m, vs = [.ref (LgA.p L)] ∧ IsLg K H L l ∧ LgOk M ltS eS m l ∧ ∀ b B' H', l.books[l.done.length]? = some b → BkOk b → M.Ok b l.net → Ex H H' → H B'.p = none → (∀ a ∈ BkA.W B', H a = none) → IsBk K H' B' b → Q (.ref B'.p) H'
theorem sc_Log_book : FnScope ["self"] ["self"] (defScope s_Log_book) := ⟨rfl, rfl, rfl, by decide +kernel, rfl, by decide +kernel, by decide +kernel⟩
theorem m_Log_book (T : Txt K mg) (M : Mth Str) : MDef PP w K mg base CX0 (CLg K) "book" (a_Log_book K) 5 ["self"] (spLBook K M) := by
  obtain ⟨fd, F⟩ := T.d_Log_book
  refine ⟨⟨fd, ok0 F sc_Log_book (fun vs H Q E h => ?_) (fun cdv A outer s H vs Q E hr h => ?_), F.bindsN fun _ _ _ _ _ _ us hl => match us, hl with | [_], _ => rfl⟩, T.m_Log_book, T.c_Log⟩
  · obtain ⟨L, l, m, rfl, _⟩ := h
    rfl
  obtain ⟨L, l, m, rfl, ⟨dx, hL⟩, ok, k⟩ := h
  refine ⟨_, pss_one (ps_ret (pe_methD0 (m_Book_twin T) hr (pe_ix ix_list (pe_fld (pv 0) rfl) (pe_un un_neg pe_int) (fun _ _ => rfl)))), ?_⟩
  obtain ⟨B, b, hbl, hB, hb, hbk, bok, hM⟩ := lg_last ok hL
  obtain ⟨dB, hBi⟩ := hbk.ins
  have hrz := bok.rz
  refine ⟨_, rfl, L.p, CLg K, dx, _, _, rfl, hL.ins, T.c_Log, T.n_Log_books, lLg_books, 1, rfl, L.pb, _, _, .ref B.p, rfl, rfl, SqL.of' hL.b, atI_m1 (k := l.done.length) (by simp [hbl]) (refs_at hB), ?_⟩
  exact ⟨B.p, dB, _, rfl, hBi, nBk_twin, B, b, rfl, hbk, bok.nd, bok.pz, by omega, fun B' H1 e1 hBp hBW hbk1 => k b B' H1 hb bok hM e1 hBp hBW hbk1⟩

/-! ### looks -/
def spLL (K : PySem.W.Frag) (M : Mth Str) (R : Hp → V → Nt Str → Prop) : Sp := fun vs H Q _ => ∃ L l m, vs = [.ref (LgA.p L)] ∧ IsLg K H L l ∧ LgOk M ltS eS m l ∧ ∀ v H', Ex H H' → R H' v l.net → Q v H'
theorem lenL {M : Mth Str} {R : Hp → V → Nt Str → Prop} : ∀ vs H Q E, spLL K M R vs H Q E → vs.length = 1 := fun vs H Q E h => by
  obtain ⟨L, l, m, rfl, _⟩ := h
  rfl
theorem sc_Log_heights : FnScope ["self"] ["self"] (defScope s_Log_heights) := ⟨rfl, rfl, rfl, by decide +kernel, rfl, by decide +kernel, by decide +kernel⟩
theorem m_Log_heights (T : Txt K mg) (hN : base.NoSeer) (M : Mth Str) : MDef PP w K mg base CX0 (CLg K) "heights" (a_Log_heights K) 47 ["self"] (spLL K M fun H v n => IsV K H v (ntHeights n)) := by
  obtain ⟨fd, F⟩ := T.d_Log_heights
  refine ⟨⟨fd, ok0 F sc_Log_heights lenL (fun cdv A outer s H vs Q E hr h => ?_), F.bindsN fun _ _ _ _ _ _ us hl => match us, hl with | [_], _ => rfl⟩, T.m_Log_heights, T.c_Log⟩
  obtain ⟨L, l, m, rfl, ⟨dx, hL⟩, ok, k⟩ := h
  refine ⟨_, pss_one (ps_ret (pe_methD0 (m_Net_heights T hN) hr (pe_fld (pv 0) rfl))), ?_⟩
  obtain ⟨B, b, hbl, hB, hb, hbk, bok, hM⟩ := lg_last ok hL
  obtain ⟨dN, va, vm, vi, vr, vt, hnf⟩ := id hL.n
  exact ⟨_, rfl, L.p, CLg K, dx, _, _, rfl, hL.ins, T.c_Log, T.n_Log_net, lLg_net, L.net.p, dN, _, rfl, hnf.ins, nNt_heights, L.net, l.net, rfl, hL.n, M.nsz bok hM, M.look bok hM, k⟩
theorem sc_Log_misfits : FnScope ["self"] ["self"] (defScope s_Log_misfits) := ⟨rfl, rfl, rfl, by decide +kernel, rfl, by decide +kernel, by decide +kernel⟩
theorem m_Log_misfits (T : Txt K mg) (hN : base.NoSeer) (M : Mth Str) : MDef PP w K mg base CX0 (CLg K) "misfits" (a_Log_misfits K) 48 ["self"] (spLL K M fun H v n => IsV K H v (ntMisfits n)) := by
  obtain ⟨fd, F⟩ := T.d_Log_misfits
  refine ⟨⟨fd, ok0 F sc_Log_misfits lenL (fun cdv A outer s H vs Q E hr h => ?_), F.bindsN fun _ _ _ _ _ _ us hl => match us, hl with | [_], _ => rfl⟩, T.m_Log_misfits, T.c_Log⟩
  obtain ⟨L, l, m, rfl, ⟨dx, hL⟩, ok, k⟩ := h
  refine ⟨_, pss_one (ps_ret (pe_methD0 (m_Net_misfits T hN) hr (pe_fld (pv 0) rfl))), ?_⟩
  obtain ⟨B, b, hbl, hB, hb, hbk, bok, hM⟩ := lg_last ok hL
  obtain ⟨dN, va, vm, vi, vr, vt, hnf⟩ := id hL.n
  exact ⟨_, rfl, L.p, CLg K, dx, _, _, rfl, hL.ins, T.c_Log, T.n_Log_net, lLg_net, L.net.p, dN, _, rfl, hnf.ins, nNt_misfits, L.net, l.net, rfl, hL.n, M.nsz bok hM, M.look bok hM, k⟩
theorem sc_Log_squares : FnScope ["self"] ["self"] (defScope s_Log_squares) := ⟨rfl, rfl, rfl, by decide +kernel, rfl, by decide +kernel, by decide +kernel⟩
theorem m_Log_squares (T : Txt K mg) (hN : base.NoSeer) (M : Mth Str) : MDef PP w K mg base CX0 (CLg K) "squares" (a_Log_squares K) 47 ["self"] (spLL K M fun H v n => IsR K H v (ntSquares n)) := by
  obtain ⟨fd, F⟩ := T.d_Log_squares
  refine ⟨⟨fd, ok0 F sc_Log_squares lenL (fun cdv A outer s H vs Q E hr h => ?_), F.bindsN fun _ _ _ _ _ _ us hl => match us, hl with | [_], _ => rfl⟩, T.m_Log_squares, T.c_Log⟩
  obtain ⟨L, l, m, rfl, ⟨dx, hL⟩, ok, k⟩ := h
  refine ⟨_, pss_one (ps_ret (pe_methD0 (m_Net_squares T hN) hr (pe_fld (pv 0) rfl))), ?_⟩
  obtain ⟨B, b, hbl, hB, hb, hbk, bok, hM⟩ := lg_last ok hL
  obtain ⟨dN, va, vm, vi, vr, vt, hnf⟩ := id hL.n
  exact ⟨_, rfl, L.p, CLg K, dx, _, _, rfl, hL.ins, T.c_Log, T.n_Log_net, lLg_net, L.net.p, dN, _, rfl, hnf.ins, nNt_squares, L.net, l.net, rfl, hL.n, M.nsz bok hM, M.look bok hM, k⟩
theorem sc_Log_rank : FnScope ["self"] ["self"] (defScope s_Log_rank) := ⟨rfl, rfl, rfl, by decide +kernel, rfl, by decide +kernel, by decide +kernel⟩
theorem m_Log_rank (T : Txt K mg) (hN : base.NoSeer) (M : Mth Str) : MDef PP w K mg base CX0 (CLg K) "rank" (a_Log_rank K) 49 ["self"] (spLL K M fun H v n => v = .int (ntRank n : Nat)) := by
  obtain ⟨fd, F⟩ := T.d_Log_rank
  refine ⟨⟨fd, ok0 F sc_Log_rank lenL (fun cdv A outer s H vs Q E hr h => ?_), F.bindsN fun _ _ _ _ _ _ us hl => match us, hl with | [_], _ => rfl⟩, T.m_Log_rank, T.c_Log⟩
  obtain ⟨L, l, m, rfl, ⟨dx, hL⟩, ok, k⟩ := h
  refine ⟨_, pss_one (ps_ret (pe_methD0 (m_Net_rank T hN) hr (pe_fld (pv 0) rfl))), ?_⟩
  obtain ⟨B, b, hbl, hB, hb, hbk, bok, hM⟩ := lg_last ok hL
  obtain ⟨dN, va, vm, vi, vr, vt, hnf⟩ := id hL.n
  exact ⟨_, rfl, L.p, CLg K, dx, _, _, rfl, hL.ins, T.c_Log, T.n_Log_net, lLg_net, L.net.p, dN, _, rfl, hnf.ins, nNt_rank, L.net, l.net, rfl, hL.n, M.nsz bok hM, M.look bok hM, k⟩

theorem ks_fr {x : Addr} {H H' : Hp} {u : HO} (hx : H x = some u) (hn : ¬ Im K u) (h : Ks x H H') : Fr K [x] H H' :=
  ⟨fun a o ha hm => h a o ha (by simpa using hm), fun a o ha hi => h a o ha fun z => by
    rw [z, hx] at ha
    cases ha
    exact hn hi⟩
/-! ### Log() -/
def spLgI (K : PySem.W.Frag) : Sp := fun vs H Q _ => ∃ (x dx : Addr), vs = [.ref x] ∧ H x = some (.ins (CLg K) dx []) ∧
  ∀ L H', L.p = x → (∀ a ∈ L.W, a = x ∨ H a = none) → Ks x H H' → IsLg K H' L Lg.start → Q .non H'
theorem sc_Log_init : FnScope ["self"] ["self"] (defScope s_Log_init) := ⟨rfl, rfl, rfl, by decide +kernel, rfl, by decide +kernel, by decide +kernel⟩
theorem k_Log (T : Txt K mg) (hN : base.NoSeer) : KDef PP w K mg base CX0 "Log" (CLg K) (a_Log_init K) 51 ["self"] [] (spLgI K) := by
  obtain ⟨fd, F⟩ := T.d_Log_init
  refine ⟨⟨fd, [], ok0 F sc_Log_init (fun vs H Q E h => ?_) (fun cdv A outer s H vs Q E hr h => ?_), .nil, F.bindsN fun _ _ _ _ _ _ us hl => match us, hl with | [_], _ => rfl⟩, T.g_Log, T.k_Log⟩
  · obtain ⟨x, dx, rfl, _⟩ := h
    rfl
  obtain ⟨x, dx, rfl, hx, k⟩ := h
  refine ⟨_, pss_cons (ps_fld (pv 0) (pe_lst pa_nil) rfl) (pss_cons (ps_fld (pv 0) (pe_lst (pa_cons (pe_makeD0 (k_Book T) (hr.mono (by decide))) pa_nil)) rfl) (pss_cons (ps_fld (pv 0) (pe_lst pa_nil) rfl)
    (pss_one (ps_fld (pv 0) (pe_callD (d_net_of_ok T hN) hr (pa_cons (pe_makeD0 (k_Book T) (hr.mono (by decide))) pa_nil)) rfl)))), ?_⟩
  refine ⟨by show 0 ≤ sizeLine; decide, fun q1 z1 => ?_⟩
  obtain ⟨n1, s1, t1⟩ := fstep (o := .lst []) (u := .ins (CLg K) dx ([("done", V.ref q1)] : List (Str × V))) hx z1
  refine ⟨_, rfl, x, CLg K, dx, [], rfl, by rw [upd_ne (Ne.symm n1)]; exact hx, T.c_Log, T.n_Log_done, (by show 0 < 1000; decide), ?_⟩
  rw [eLg_done]
  intro x2 dx2 nx2 nd2 ne2
  refine mkBk' nx2 nd2 ne2 fun B H2 hB2 hW2 e2 hb2 => ⟨rfl, by show 1 ≤ sizeLine; decide, fun q3 z3 => ?_⟩
  subst hB2
  obtain ⟨n3, s3, t3⟩ := fstep (o := .lst [V.ref B.p]) (u := .ins (CLg K) dx ([("done", V.ref q1), ("books", V.ref q3)] : List (Str × V))) (e2 _ _ upd_same) z3
  refine ⟨_, rfl, x, CLg K, dx, _, rfl, by rw [upd_ne (Ne.symm n3)]; exact e2 _ _ upd_same, T.c_Log, T.n_Log_books, (by show 1 < 1000; decide), ?_⟩
  rw [eLg_books]
  refine ⟨by show 0 ≤ sizeLine; decide, fun q4 z4 => ?_⟩
  obtain ⟨n4, s4, t4⟩ := fstep (o := .lst []) (u := .ins (CLg K) dx ([("done", V.ref q1), ("books", V.ref q3), ("later", V.ref q4)] : List (Str × V))) upd_same z4
  refine ⟨_, rfl, x, CLg K, dx, _, rfl, by rw [upd_ne (Ne.symm n4), upd_same], T.c_Log, T.n_Log_later, (by show 2 < 1000; decide), ?_⟩
  rw [eLg_later]
  intro x5 dx5 nx5 nd5 ne5
  refine mkBk' nx5 nd5 ne5 fun B5 H5 hB5 hW5 e5 hb5 => ⟨rfl, ?_⟩
  subst hB5
  refine ⟨B5, Bk.empty, rfl, hb5, empty_ok, fun i r h => by simp [Bk.empty] at h, fun N H6 e6 hW6 hn6 => ?_⟩
  have hx5 := e5 x _ upd_same
  have hx6 := e6 _ _ hx5
  refine ⟨_, rfl, x, CLg K, dx, _, rfl, hx6, T.c_Log, T.n_Log_net, (by show 3 < 1000; decide), ?_⟩
  rw [eLg_net]
  have s6 : Ks x H6 (upd H6 x (.ins (CLg K) dx (fLg (.ref q1) (.ref q3) (.ref q4) (.ref N.p)))) := fun a o ha hne => by rw [upd_ne hne]; exact ha
  have c2 : Ks x _ H2 := fun a o ha _ => e2 a o ha
  have c5 : Ks x _ H6 := fun a o ha _ => e6 a o (e5 a o ha)
  have g5 := c5.trans s6
  have g4 := s4.trans g5
  have g3 := s3.trans g4
  have g2 := c2.trans g3
  have g1 := s1.trans g2
  have hlg := ne_lg T
  have w1 := g2 _ _ t1 n1
  have w3 := g4 _ _ t3 n3
  have w4 := g5 _ _ t4 n4
  have back : ∀ (G : Hp) (a : Addr), Ks x H G → a ≠ x → G a = none → H a = none := fun G a h hne hn => by
    cases e : H a with
    | none => rfl
    | some u => rw [h a u e hne] at hn; cases hn
  have x1 := upd_same (H := upd H q1 (.lst [])) (a := x) (o := .ins (CLg K) dx ([("done", V.ref q1)] : List (Str × V)))
  have x2 := e2 _ _ x1
  have k2 : Ks x H H2 := s1.trans c2
  have k3 := k2.trans s3
  have k5 := (k3.trans s4).trans (fun a o ha _ => e5 a o ha : Ks x _ H5)
  -- the book's places
  have bN1 : ∀ a ∈ B.all, upd (upd H q1 (.lst [])) x (.ins (CLg K) dx ([("done", V.ref q1)] : List (Str × V))) a = none := fun a ha => by
    have : a = B.p ∨ a ∈ B.W := by simpa [BkA.all, BkA.W] using ha
    rcases this with z | z
    · rw [z]; exact nx2
    · exact hW2 a z
  have bA2 : ∀ a ∈ B.all, ∃ o, H2 a = some o := fun a ha => by
    obtain ⟨dB, hi⟩ := hb2.ins
    obtain ⟨kvs, hkv, _⟩ := hb2.d
    obtain ⟨vr, hvr, _⟩ := hb2.r
    have : a = B.p ∨ a = B.pl ∨ a = B.pd ∨ a = B.pr := by simpa [BkA.all] using ha
    rcases this with z | z | z | z
    · exact ⟨_, z ▸ hi⟩
    · exact ⟨_, z ▸ hb2.l⟩
    · exact ⟨_, z ▸ hkv⟩
    · exact ⟨_, z ▸ hvr⟩
  have bx : ∀ a ∈ B.all, a ≠ x := fun a ha z => by rw [z] at ha; have := bN1 x ha; rw [x1] at this; cases this
  have bq1 : ∀ a ∈ B.all, a ≠ q1 := fun a ha z => by rw [z] at ha; have := bN1 q1 ha; rw [t1] at this; cases this
  have bq3 : ∀ a ∈ B.all, a ≠ q3 := fun a ha => by obtain ⟨o, ho⟩ := bA2 a ha; exact ne_of_none ho z3
  have bA3 : ∀ a ∈ B.all, ∃ o, upd (upd H2 q3 (.lst [V.ref B.p])) x (.ins (CLg K) dx ([("done", V.ref q1), ("books", V.ref q3)] : List (Str × V))) a = some o := fun a ha => by obtain ⟨o, ho⟩ := bA2 a ha; exact ⟨o, s3 a o ho (bx a ha)⟩
  have bq4 : ∀ a ∈ B.all, a ≠ q4 := fun a ha => by obtain ⟨o, ho⟩ := bA3 a ha; exact ne_of_none ho z4
  have bA5 : ∀ a ∈ B.all, ∃ o, H5 a = some o := fun a ha => by obtain ⟨o, ho⟩ := bA3 a ha; exact ⟨o, e5 a o (s4 a o ho (bx a ha))⟩
  -- the net's places
  have nx : ∀ a ∈ N.W, a ≠ x := fun a ha z => by have := hW6 a ha; rw [z, hx5] at this; cases this
  have q1A3 := s3 _ _ (e2 _ _ t1) n1
  have q1A5 := e5 _ _ (s4 _ _ q1A3 n1)
  have q3A5 := e5 _ _ (s4 _ _ t3 n3)
  have q4A5 := e5 _ _ t4
  have nq1 : ∀ a ∈ N.W, q1 ≠ a := fun a ha => ne_of_none q1A5 (hW6 a ha)
  have nq3 : ∀ a ∈ N.W, q3 ≠ a := fun a ha => ne_of_none q3A5 (hW6 a ha)
  have nq4 : ∀ a ∈ N.W, q4 ≠ a := fun a ha => ne_of_none q4A5 (hW6 a ha)
  have nB : ∀ a ∈ N.W, ∀ c ∈ B.all, c ≠ a := fun a ha c hc => by obtain ⟨o, ho⟩ := bA5 c hc; exact ne_of_none ho (hW6 a ha)
  obtain ⟨dn, va, vm, vi, vr, vt, hnf⟩ := id hn6
  obtain ⟨m1, m2⟩ := hnf.nes
  have mp : N.p ∈ N.W := by simp [NtA.W]
  have mpl : N.pl ∈ N.W := by simp [NtA.W]
  have mpr : N.pr ∈ N.W := by simp [NtA.W]
  have fB : Fr K [x] H2 (upd H6 x (.ins (CLg K) dx (fLg (.ref q1) (.ref q3) (.ref q4) (.ref N.p)))) := ks_fr x2 (im_lg hlg) g3
  have fN : Fr K [x] H6 (upd H6 x (.ins (CLg K) dx (fLg (.ref q1) (.ref q3) (.ref q4) (.ref N.p)))) := ks_fr hx6 (im_lg hlg) s6
  refine k ⟨x, q1, q3, q4, N, [B]⟩ _ rfl (fun a ha => ?_) g1 ⟨dx, ⟨upd_same, ⟨[], w1, Al.nil⟩, w3, Al.cons (hb2.fr fB ?_) Al.nil, ⟨[], w4, Al.nil⟩, hn6.fr fN ?_, ?_, ?_⟩⟩
  · unfold LgA.W at ha
    simp only [List.mem_cons, List.not_mem_nil, or_false] at ha
    rcases ha with z | z | z | z | z | z | z
    · exact .inl z
    · exact .inr (z ▸ z1)
    · exact .inr (z ▸ back _ _ k2 n3 z3)
    · exact .inr (z ▸ back _ _ k3 n4 z4)
    · exact .inr (z ▸ back _ _ k5 (nx _ mp) (hW6 _ mp))
    · exact .inr (z ▸ back _ _ k5 (nx _ mpl) (hW6 _ mpl))
    · exact .inr (z ▸ back _ _ k5 (nx _ mpr) (hW6 _ mpr))
  · simp
    exact ⟨bx _ (by simp [BkA.all]), bx _ (by simp [BkA.all]), bx _ (by simp [BkA.all]), bx _ (by simp [BkA.all])⟩
  · simp
    exact ⟨nx _ mp, nx _ mpl, nx _ mpr⟩
  · unfold LgA.W
    simp only [List.nodup_cons, List.mem_cons, not_or, List.not_mem_nil, not_false_eq_true, List.nodup_nil, and_true]
    exact ⟨⟨Ne.symm n1, Ne.symm n3, Ne.symm n4, Ne.symm (nx _ mp), Ne.symm (nx _ mpl), Ne.symm (nx _ mpr)⟩, ⟨ne_of_none (e2 _ _ t1) z3, ne_of_none q1A3 z4, nq1 _ mp, nq1 _ mpl, nq1 _ mpr⟩, ⟨ne_of_none t3 z4, nq3 _ mp, nq3 _ mpl, nq3 _ mpr⟩, ⟨nq4 _ mp, nq4 _ mpl, nq4 _ mpr⟩, ⟨m1, m2⟩, hnf.ne⟩
  · intro X hX a ha z
    have : X = B := by simpa using hX
    subst this
    unfold LgA.W at z
    simp only [List.mem_cons, List.not_mem_nil, or_false] at z
    rcases z with z | z | z | z | z | z | z
    · exact bx a ha z
    · exact bq1 a ha z
    · exact bq3 a ha z
    · exact bq4 a ha z
    · exact nB _ mp a ha z
    · exact nB _ mpl a ha z
    · exact nB _ mpr a ha z
end
end Pn
set_option maxHeartbeats 4000000
/-! t[::-1] of a tuple -/
namespace Pn
open PySem PySem.Spec PyProof.Rows L2 HT
section
variable {prog : Program} {w : World} {A : Around} {E : Value → Shared → Prop} {s : Shared}
theorem adjust_rev (n : Nat) : Builtin.Slice.sliceAdjust none none (-1) (n : Int) = ((n : Int) - 1, -1) := by
  unfold Builtin.Slice.sliceAdjust
  rfl
theorem places_rev (n : Nat) : Builtin.Slice.slicePlaces ((n : Int) - 1) (-1) (-1) = n := by
  unfold Builtin.Slice.slicePlaces
  have h1 : ¬ ((-1 : Int) > 0) := by decide
  rw [if_neg h1, show (-(-1) : Int) = 1 from rfl, Int.ediv_one]
  split <;> omega
theorem fm_congr {α β : Type} {f g : α → Option β} : ∀ {l : List α}, (∀ x ∈ l, f x = g x) → l.filterMap f = l.filterMap g
  | [], _ => rfl
  | a :: r, h => by
    rw [List.filterMap_cons, List.filterMap_cons, h a (List.mem_cons_self), fm_congr fun x hx => h x (List.mem_cons_of_mem _ hx)]
theorem sliceApplied_rev {sl : Addr} {vl vu vs : Value} {n : Nat} {Q : Int × Int × Nat → Shared → Prop} (hs : s.heap.IsSliceOf sl vl vu vs) (pl : IsPart vl none) (pu : IsPart vu none) (ps : IsPart vs (some (-1)))
    (h : Q ((n : Int) - 1, -1, n) s) : wpAny (model prog w) A (Builtin.Slice.sliceApplied (.ref sl) (pure (n : Int))) Q E s := by
  obtain ⟨os, hos, hcs, hds⟩ := id hs
  unfold Builtin.Slice.sliceApplied Builtin.Slice.sliceFields
  refine wpAny_bind (wpAny_bind (wpAny_field hos hds (x := vl) rfl (wpAny_bind (wpAny_field hos hds (x := vu) rfl (wpAny_bind (wpAny_field hos hds (x := vs) rfl (wpAny_pure ?_)))))))
  refine wpAny_bind (slicePart_ ps ?_)
  show wpAny _ _ (if ((-1 : Int) == 0) = true then _ else _) _ _ s
  rw [if_neg (by decide)]
  refine wpAny_bind (slicePart_ pl (wpAny_bind (slicePart_ pu (wpAny_bind (wpAny_pure ?_)))))
  show wpAny _ _ (match Builtin.Slice.sliceAdjust none none (-1) (n : Int) with | (lo, hi) => pure (lo, (-1 : Int), Builtin.Slice.slicePlaces lo hi (-1))) _ _ s
  rw [adjust_rev n]
  show wpAny _ _ (pure ((n : Int) - 1, (-1 : Int), Builtin.Slice.slicePlaces ((n : Int) - 1) (-1) (-1))) _ _ s
  rw [places_rev]
  exact wpAny_pure h
theorem pick_rev (xs : Array Value) : ((List.range xs.size).filterMap fun (m : Nat) => xs[(((xs.size : Int) - 1) + (m : Int) * (-1)).toNat]?).toArray = xs.toList.reverse.toArray := by
  have e : ((List.range xs.size).filterMap fun (m : Nat) => xs[(((xs.size : Int) - 1) + (m : Int) * (-1)).toNat]?) = ((List.range xs.size).map fun k => xs.size - 1 - k).filterMap (xs[·]?) := by
    rw [List.filterMap_map]
    apply fm_congr
    intro m hm
    have := List.mem_range.mp hm
    show xs[(((xs.size : Int) - 1) + (m : Int) * (-1)).toNat]? = xs[xs.size - 1 - m]?
    have : (((xs.size : Int) - 1) + (m : Int) * (-1)).toNat = xs.size - 1 - m := by omega
    rw [this]
  rw [e, PySem.W.krv_range, List.filterMap_reverse, PySem.W.krv_all]
theorem getItem_tuple_rev {t sl : Addr} {items : Array Value} {vl vu vs : Value} {Q : Value → Shared → Prop} (ht : IsTup s.heap t items) (hs : s.heap.IsSliceOf sl vl vu vs) (pl : IsPart vl none) (pu : IsPart vu none) (ps : IsPart vs (some (-1)))
    (h : Q (.ref s.heap.objs.size) { s with heap := s.heap.push { cls := .type "tuple", data := .seq items.toList.reverse.toArray } })
    (hsz : items.size ≤ sizeLine) : wpAny (model prog w) A (getItem (.ref t) (.ref sl)) Q E s := by
  have htake : sizeOk (.seq items.toList.reverse.toArray) := by
    show items.toList.reverse.toArray.size ≤ sizeLine
    rw [List.size_toArray, List.length_reverse, Array.length_toList]
    omega
  obtain ⟨os, hos, hcs, hds⟩ := id hs
  have hTs : s.TypeIs (.ref sl) "slice" := ⟨os, hos, hcs⟩
  unfold getItem
  try with_reducible refine wpAny_holding ?_
  first | refine wpAny_bind (wpAny_pure ?_) | skip
  refine wpAny_bind (wpAny_sequenceKey ht.typeIs (by decide) ?_)
  refine wpAny_bind (wpAny_callSpecial?_slot (name := Str.ofString "__getitem__") ht.typeIs PyProof.Rows.slot_tuple_getitem
    (wpAny_call_entry PyProof.Rows.slot_tuple_getitem ht.typeIs entry_tuple_getitem ?_ (args_tuple_getitem _ _)))
  show wpAny _ _ (Builtin.Tuple.tupleItemsOf (.ref t) >>= _) _ _ s
  refine wpAny_bind (tupleItemsOf_ ht ?_)
  refine wpAny_bind (wpAny_typeOf hTs ?_)
  rw [if_pos (by decide)]
  refine wpAny_bind (sliceApplied_rev hs pl pu ps ?_)
  have hno : ¬ ((((items.size : Int) - 1) == 0 && (-1 : Int) == 1 && items.size == items.size) = true) := by
    intro q
    rw [Bool.and_eq_true, Bool.and_eq_true] at q
    exact absurd q.1.2 (by decide)
  show wpAny _ _ (if (((items.size : Int) - 1) == 0 && (-1 : Int) == 1 && items.size == items.size) = true then _ else _) _ _ s
  rw [if_neg hno, pick_rev]
  first
    | exact wpAny_bind (m := Builtin.Tuple.tupleExact _) (wpAny_newObj_type (wpAny_pure ⟨_, rfl, wpAny_pure h⟩) htake)
    | exact wpAny_bind (m := Builtin.Tuple.tupleExact _) (wpAny_newObj_type (wpAny_bind (wpAny_pure (wpAny_pure ⟨_, rfl, wpAny_pure h⟩))) htake)
    | exact wpAny_bind (wpAny_bind (m := Builtin.Tuple.tupleExact _) (wpAny_newObj_type (wpAny_pure (wpAny_pure ⟨_, rfl, wpAny_pure h⟩)) htake))
    | exact wpAny_bind (wpAny_bind (m := Builtin.Tuple.tupleExact _) (wpAny_newObj_type (wpAny_pure ⟨_, rfl, wpAny_pure h⟩) htake))
end
def tRevT (K : PySem.W.Frag) (te : TE) : TE := fun σ H Q => te σ H fun x H1 => ∃ a xs, x = .ref a ∧ SqT K H1 a xs ∧ ∀ p, H1 p = none → Q (.ref p) (upd H1 p (.tup xs.reverse))
theorem pe_revT {X : Cx} {e : Expr} {te : TE} {k : Nat} {p1 p2 p3 pos : Pos} (he : PE X e te) : PE X (.Subscript e (.Slice none none (some (.UnaryOp .USub (.Constant (.int 1) k p1) p2)) p3) pos) (tRevT X.K te) := by
  refine ⟨fun pins s σ H Q I h => ?_⟩
  refine Subscript_ (thn (he.run pins s σ H _ I h) fun v s1 ⟨x, H1, I1, r1, q1⟩ => ?_)
  obtain ⟨a, xs, ex, hx, q⟩ := q1
  subst ex
  cases r1
  have hst : PO X (some (.UnaryOp .USub (.Constant (.int 1) k p1) p2)) (tPart (tUn (rU fun i => .int (-i)) (tC (.int 1)))) := po_some (pe_un un_neg pe_int)
  refine wpAny_Slice (thn (po_none.run pins s1 σ H1 (fun o H2 => o = none ∧ H2 = H1) I1 ⟨rfl, rfl⟩) fun vl s2 ⟨l, H2, I2, pl, el, e2⟩ => ?_)
  subst el e2
  refine thn (po_none.run pins s2 σ H2 (fun o H3 => o = none ∧ H3 = H2) I2 ⟨rfl, rfl⟩) fun vu s3 ⟨u, H3, I3, pu, eu, e3⟩ => ?_
  subst eu e3
  refine thn (hst.run pins s3 σ H3 (fun o H4 => o = some (-1) ∧ H4 = H3) I3 ⟨1, rfl, -1, rfl, rfl, rfl⟩) fun vs s4 ⟨o, H4, I4, ps, eo, e4⟩ => ?_
  subst eo e4
  have I5 : Inv X pins σ H4 { s4 with heap := s4.heap.push { cls := .type "slice", data := .fields #[vl, vu, vs] } } := I4.kept (t' := s4.toks) fun b ob q => Heap.get?_push_of_some _ q
  obtain ⟨its, r, ht, hz⟩ := I5.tuple hx
  have hlen := r.length
  show wpAny (model X.prog X.w) X.A (subscriptTail e (.Slice none none (some (.UnaryOp .USub (.Constant (.int 1) k p1) p2)) p3) (.ref a) (.ref s4.heap.objs.size)) (EP X pins σ Q) X.xe { s4 with heap := s4.heap.push { cls := .type "slice", data := .fields #[vl, vu, vs] } }
  refine tail_any (ops := [.ref a, .ref s4.heap.objs.size]) ht.typeIs (PyProof.Rows.slot_tuple_getitem.lookup) ?_ (by with_unfolding_all rfl)
  refine getItem_tuple_rev ht (Heap.IsSliceOf.new _ vl vu vs) pl pu ps ?_ (by rw [List.size_toArray]; omega)
  refine ⟨.ref _, _, I5.laid (t' := s4.toks) (o := .tup xs.reverse) (fun b ob q => Heap.get?_push_of_some _ q) (Nat.le_refl _) ?_, rfl, q _ (I5.hok.fresh (Nat.le_refl _))⟩
  exact ⟨by rw [List.length_reverse]; exact hz, _, r.reverse, IsTup.new _ _⟩
end Pn
set_option maxHeartbeats 4000000
/-! the law's defs: tape, draw, take, common, pair, number, weight, made, menu -/
namespace Pn
open PySem PySem.Spec PyProof.Rows L2
theorem boot_int' : bootBuiltins "int" = some (.type "int") := by decide +kernel
theorem boot_abs' : bootBuiltins "abs" = some (.builtin "abs") := by decide +kernel
theorem fmod_ok {i m : Int} (h : 0 < m) : 0 ≤ i.fmod m ∧ i.fmod m < m := ⟨Int.fmod_nonneg_of_pos _ h, Int.fmod_lt_of_pos _ h⟩
section
variable {w : World} {K : PySem.W.Frag} {mg : Str → Option Value} {base : Heap}
abbrev iLst (H : Hp) (p : Addr) (ns : List Int) : Prop := H p = some (.lst (ns.map V.int))
def spTape (K : PySem.W.Frag) : Sp := fun vs H Q _ => ∃ (p : Addr) (ns : List Int), vs = [.ref p] ∧ SqL K H p (ns.map V.int) ∧ ns.length ≤ 63 ∧ ∀ (q : Addr) (ms : List Int) H', H q = none → Ex H H' → iLst H' q ms → ms.length ≤ 100000 → Q (.ref q) H'
abbrev nTape : List Str := ["_law_script", "_law_tape_here", "_law_cell", "_law_number_here", "_law_k", "_law_first"]
theorem sc__law_tape : FnScope nTape ["_law_script"] (defScope s__law_tape) := ⟨rfl, rfl, rfl, by decide +kernel, rfl, by decide +kernel, by decide +kernel⟩
theorem d__law_tape_ok (T : Txt K mg) : Def PP w K mg base CX0 "_law_tape" (a__law_tape K) 1 ["_law_script"] (spTape K) := by
  obtain ⟨fd, F⟩ := T.d__law_tape
  refine ⟨⟨fd, ok0 F sc__law_tape (fun vs H Q E h => ?_) (fun cdv A outer s H vs Q E hr h => ?_), F.bindsN fun _ _ _ _ _ _ us hl => match us, hl with | [_], _ => rfl⟩, T.g__law_tape, F.kp⟩
  · obtain ⟨p, ns, rfl, _⟩ := h
    rfl
  obtain ⟨p, ns, rfl, hp, hz, k⟩ := h
  have nd := sc__law_tape.nd
  refine ⟨_, pss_cons (ps_set (i := 1) nd rfl (Or.inl rfl) (pe_lst (pa_nil)))
      (pss_cons (ps_for (PassesOwn.never) rfl (pi_list (pv 0)) (pg_name (i := 2) nd rfl (Or.inl rfl)) (pss_cons (ps_set (i := 3) nd rfl (Or.inl rfl) (pe_op op_mul (pe_int) (pe_callTy call_int1 (by rfl) T.f_int boot_int' (pa_cons (pv 2) (pa_nil)))))
      (pss_cons (ps_if (pt_cmpR op_lt (pv 3) (pe_int) (nomark _)) (pss_one (ps_set (i := 3) nd rfl (Or.inl rfl) (pe_op op_sub (pe_un un_neg pe_int) (pv 3)))) (pss_nil))
      (pss_one (ps_if (pt_cmpR op_ge (pv 3) (pe_op op_pow (pe_int) (pe_int)) (nomark _)) (pss_one (ps_for (PassesOwn.never) rfl (pi_range1 rfl T.f_range (pa_cons (pe_int) (pa_nil))) (pg_name (i := 4) nd rfl (Or.inl rfl)) (pss_one (ps_if (pt_cmpR op_gt (pv 3) (pe_int) (nomark _)) (pss_cons (ps_expr (pe_bm PySem.F.plainAttrs_list PySem.F.slot_list_append PySem.F.type_list_append mt_append (pv 1) (pa_cons (pe_op op_modN (pe_callTy call_int1 (by rfl) T.f_int boot_int' (pa_cons (pv 3) (pa_nil))) (pe_int)) (pa_nil))))
      (pss_one (ps_set (i := 3) nd rfl (Or.inl rfl) (pe_op op_fdivN (pv 3) (pe_int))))) (pss_nil))))) (pss_one (ps_for (PassesOwn.never) rfl (pi_range1 rfl T.f_range (pa_cons (pe_int) (pa_nil))) (pg_name (i := 4) nd rfl (Or.inl rfl)) (pss_cons (ps_set (i := 5) nd rfl (Or.inl rfl) (pe_op op_modN (pe_callTy call_int1 (by rfl) T.f_int boot_int' (pa_cons (pe_op op_add (pe_op op_add (pe_op op_mul (pv 3) (pe_int)) (pe_op op_mul (pv 4) (pe_int))) (pe_int)) (pa_nil))) (pe_int)))
      (pss_one (ps_expr (pe_bm PySem.F.plainAttrs_list PySem.F.slot_list_append PySem.F.type_list_append mt_append (pv 1) (pa_cons (pe_op op_modN (pe_callTy call_int1 (by rfl) T.f_int boot_int' (pa_cons (pe_op op_add (pe_op op_mul (pv 5) (pe_int)) (pe_op op_fdivN (pv 5) (pe_int))) (pa_nil))) (pe_int)) (pa_nil)))))))))))))
      (pss_one (ps_ret (pv 1)))), ?_⟩
  refine ⟨by show 0 ≤ sizeLine; decide, fun D hD => ?_⟩
  have e1 : Ex H (upd H D (.lst [])) := (Ex.refl H).new hD
  have push : ∀ (H' : Hp) (ms : List Int) (n : Int), Ex H H' → iLst H' D ms → Ex H (upd H' D (.lst (ms.map V.int ++ [V.int n]))) ∧ iLst (upd H' D (.lst (ms.map V.int ++ [V.int n]))) D (ms ++ [n]) := fun H' ms n e h => ⟨e.mut hD, by
    show upd _ _ _ D = _
    rw [upd_same, List.map_append]
    rfl⟩
  refine ⟨_, rfl, p, rfl, ⟨_, hp.ext e1⟩, for_it (walk_list (xs := ns.map V.int)) (fun i σ H' => Ex H H' ∧ (∃ o2 o3 o4 o5, σ = [some (.ref p), some (.ref D), o2, o3, o4, o5]) ∧ ∃ ms : List Int, iLst H' D ms ∧ ms.length ≤ 40 * i)
    ⟨e1, ⟨_, _, _, _, rfl⟩, [], upd_same, by simp⟩ (fun i σ H' _ q => hp.ext q.1) ?_ ?_⟩
  · rintro i z σ H2 H3 hi ⟨e, ⟨o2, o3, o4, o5, rfl⟩, ms, hms, hml⟩ ⟨rfl, hx⟩
    rw [List.length_map] at hi
    have hn : z = .int ns[i] := by
      rw [List.getElem?_map, List.getElem?_eq_getElem hi] at hx
      exact (Option.some.inj hx).symm
    subst hn
    refine ⟨_, rfl, .inl ⟨_, rfl, _, _, rfl, rfl, .inl ⟨by decide, by decide⟩, ?_⟩⟩
    refine ⟨_, rfl, _, _, rfl, rfl, _, rfl, ite2 (fun h => ?_) (fun h => ?_)⟩
    · have hN : 0 ≤ -1 - 2 * ns[i] := by
        have := of_decide_eq_true h
        omega
      refine ⟨1, rfl, _, rfl, _, _, rfl, rfl, ?_⟩
      change 0 ≤ (-1 : Int) - 2 * ns[i] at hN
      refine ⟨_, rfl, _, _, rfl, rfl, ⟨by decide, by decide, by decide⟩, _, _, rfl, rfl, _, rfl, ite2 (fun hb => ?_) (fun hb => ?_)⟩
      · refine ⟨(40 : Int), rfl, by decide, by decide, for_it (walk_range0 (n := 40)) (fun j σ H' => Ex H H' ∧ (∃ o2 N' o4 o5, σ = [some (.ref p), some (.ref D), o2, some (.int N'), o4, o5]) ∧ ∃ ms : List Int, iLst H' D ms ∧ ms.length ≤ 40 * i + j)
          ⟨e, ⟨_, ((-1 : Int) - 2 * ns[i]), _, _, rfl⟩, ms, hms, hml⟩ (fun _ _ _ _ _ => trivial) ?_ ?_⟩
        · rintro j z σ H4 H5 hj ⟨e4, ⟨o2', N', o4', o5', rfl⟩, ms', hms', hml'⟩ ⟨rfl, rfl⟩
          refine ⟨_, rfl, _, _, rfl, rfl, _, rfl, ite2 (fun hc => ?_) (fun hc => ?_)⟩
          · refine ⟨_, rfl, .inl ⟨rfl, _, SqL.of' hms'⟩, _, rfl, .inl ⟨_, rfl, _, _, rfl, rfl, (show (1000 : Int) ≠ 0 by decide), D, _, _, rfl, rfl, hms', by rw [List.length_map, sizeLine_eq]; omega, ?_⟩⟩
            obtain ⟨p1, p2⟩ := push _ ms' (N'.fmod 1000) e4 hms'
            exact ⟨_, rfl, _, _, rfl, rfl, ⟨by decide, by decide⟩, p1, ⟨_, _, _, _, rfl⟩, _, p2, by simp; omega⟩
          · exact ⟨e4, ⟨_, _, _, _, rfl⟩, ms', hms', by omega⟩
        · rintro σ H4 ⟨e4, ⟨o2', N', o4', o5', rfl⟩, ms', hms', hml'⟩
          exact ⟨e4, ⟨_, _, _, _, rfl⟩, ms', hms', by omega⟩
      · have hN2 : ((-1 : Int) - 2 * ns[i]) < 1000000000000000000 := by
          have hb' : ¬ (((-1 : Int) - 2 * ns[i]) ≥ (10 : Int) ^ (18 : Int).toNat) := fun z => hb (decide_eq_true z)
          have : (10 : Int) ^ (18 : Int).toNat = 1000000000000000000 := by decide
          omega
        refine ⟨(3 : Int), rfl, by decide, by decide, for_it (walk_range0 (n := 3)) (fun j σ H' => Ex H H' ∧ (∃ o2 o4 o5, σ = [some (.ref p), some (.ref D), o2, some (.int ((-1 : Int) - 2 * ns[i])), o4, o5]) ∧ ∃ ms : List Int, iLst H' D ms ∧ ms.length ≤ 40 * i + j)
          ⟨e, ⟨_, _, _, rfl⟩, ms, hms, hml⟩ (fun _ _ _ _ _ => trivial) ?_ ?_⟩
        · rintro j z σ H4 H5 hj ⟨e4, ⟨o2', o4', o5', rfl⟩, ms', hms', hml'⟩ ⟨rfl, rfl⟩
          refine ⟨_, rfl, _, _, rfl, rfl, .inl ⟨by omega, by omega⟩, _, rfl, _, _, rfl, rfl, .inl ⟨by omega, by omega⟩, _, _, rfl, rfl, _, _, rfl, rfl, .inl ⟨_, rfl, _, _, rfl, rfl, (show (2147483629 : Int) ≠ 0 by decide), ?_⟩⟩
          obtain ⟨g1, g2⟩ := fmod_ok (i := ((-1 : Int) - 2 * ns[i]) * 48271 + (j : Int) * 40503 + 11) (m := 2147483629) (by decide)
          refine ⟨_, rfl, .inl ⟨rfl, _, SqL.of' hms'⟩, _, rfl, _, _, rfl, rfl, .inl ⟨by omega, by omega⟩, _, rfl, _, _, rfl, rfl, ⟨by decide, by decide⟩, _, _, rfl, rfl, .inl ⟨_, rfl, _, _, rfl, rfl, (show (2147483629 : Int) ≠ 0 by decide), D, _, _, rfl, rfl, hms', by rw [List.length_map, sizeLine_eq]; omega, ?_⟩⟩
          obtain ⟨p1, p2⟩ := push _ ms' (((((-1 : Int) - 2 * ns[i]) * 48271 + (j : Int) * 40503 + 11).fmod 2147483629 * 69621 + ((((-1 : Int) - 2 * ns[i]) * 48271 + (j : Int) * 40503 + 11).fmod 2147483629).fdiv 65536).fmod 2147483629) e4 hms'
          exact ⟨p1, ⟨_, _, _, rfl⟩, _, p2, by simp; omega⟩
        · rintro σ H4 ⟨e4, ⟨o2', o4', o5', rfl⟩, ms', hms', hml'⟩
          exact ⟨e4, ⟨_, _, _, _, rfl⟩, ms', hms', by omega⟩
    · have hN : 0 ≤ 2 * ns[i] := by
        have : ¬ (2 * ns[i] < 0) := fun z => h (decide_eq_true z)
        omega
      refine ⟨_, rfl, _, _, rfl, rfl, ⟨by decide, by decide, by decide⟩, _, _, rfl, rfl, _, rfl, ite2 (fun hb => ?_) (fun hb => ?_)⟩
      · refine ⟨(40 : Int), rfl, by decide, by decide, for_it (walk_range0 (n := 40)) (fun j σ H' => Ex H H' ∧ (∃ o2 N' o4 o5, σ = [some (.ref p), some (.ref D), o2, some (.int N'), o4, o5]) ∧ ∃ ms : List Int, iLst H' D ms ∧ ms.length ≤ 40 * i + j)
          ⟨e, ⟨_, (2 * ns[i]), _, _, rfl⟩, ms, hms, hml⟩ (fun _ _ _ _ _ => trivial) ?_ ?_⟩
        · rintro j z σ H4 H5 hj ⟨e4, ⟨o2', N', o4', o5', rfl⟩, ms', hms', hml'⟩ ⟨rfl, rfl⟩
          refine ⟨_, rfl, _, _, rfl, rfl, _, rfl, ite2 (fun hc => ?_) (fun hc => ?_)⟩
          · refine ⟨_, rfl, .inl ⟨rfl, _, SqL.of' hms'⟩, _, rfl, .inl ⟨_, rfl, _, _, rfl, rfl, (show (1000 : Int) ≠ 0 by decide), D, _, _, rfl, rfl, hms', by rw [List.length_map, sizeLine_eq]; omega, ?_⟩⟩
            obtain ⟨p1, p2⟩ := push _ ms' (N'.fmod 1000) e4 hms'
            exact ⟨_, rfl, _, _, rfl, rfl, ⟨by decide, by decide⟩, p1, ⟨_, _, _, _, rfl⟩, _, p2, by simp; omega⟩
          · exact ⟨e4, ⟨_, _, _, _, rfl⟩, ms', hms', by omega⟩
        · rintro σ H4 ⟨e4, ⟨o2', N', o4', o5', rfl⟩, ms', hms', hml'⟩
          exact ⟨e4, ⟨_, _, _, _, rfl⟩, ms', hms', by omega⟩
      · have hN2 : (2 * ns[i]) < 1000000000000000000 := by
          have hb' : ¬ ((2 * ns[i]) ≥ (10 : Int) ^ (18 : Int).toNat) := fun z => hb (decide_eq_true z)
          have : (10 : Int) ^ (18 : Int).toNat = 1000000000000000000 := by decide
          omega
        refine ⟨(3 : Int), rfl, by decide, by decide, for_it (walk_range0 (n := 3)) (fun j σ H' => Ex H H' ∧ (∃ o2 o4 o5, σ = [some (.ref p), some (.ref D), o2, some (.int (2 * ns[i])), o4, o5]) ∧ ∃ ms : List Int, iLst H' D ms ∧ ms.length ≤ 40 * i + j)
          ⟨e, ⟨_, _, _, rfl⟩, ms, hms, hml⟩ (fun _ _ _ _ _ => trivial) ?_ ?_⟩
        · rintro j z σ H4 H5 hj ⟨e4, ⟨o2', o4', o5', rfl⟩, ms', hms', hml'⟩ ⟨rfl, rfl⟩
          refine ⟨_, rfl, _, _, rfl, rfl, .inl ⟨by omega, by omega⟩, _, rfl, _, _, rfl, rfl, .inl ⟨by omega, by omega⟩, _, _, rfl, rfl, _, _, rfl, rfl, .inl ⟨_, rfl, _, _, rfl, rfl, (show (2147483629 : Int) ≠ 0 by decide), ?_⟩⟩
          obtain ⟨g1, g2⟩ := fmod_ok (i := (2 * ns[i]) * 48271 + (j : Int) * 40503 + 11) (m := 2147483629) (by decide)
          refine ⟨_, rfl, .inl ⟨rfl, _, SqL.of' hms'⟩, _, rfl, _, _, rfl, rfl, .inl ⟨by omega, by omega⟩, _, rfl, _, _, rfl, rfl, ⟨by decide, by decide⟩, _, _, rfl, rfl, .inl ⟨_, rfl, _, _, rfl, rfl, (show (2147483629 : Int) ≠ 0 by decide), D, _, _, rfl, rfl, hms', by rw [List.length_map, sizeLine_eq]; omega, ?_⟩⟩
          obtain ⟨p1, p2⟩ := push _ ms' ((((2 * ns[i]) * 48271 + (j : Int) * 40503 + 11).fmod 2147483629 * 69621 + (((2 * ns[i]) * 48271 + (j : Int) * 40503 + 11).fmod 2147483629).fdiv 65536).fmod 2147483629) e4 hms'
          exact ⟨p1, ⟨_, _, _, rfl⟩, _, p2, by simp; omega⟩
        · rintro σ H4 ⟨e4, ⟨o2', o4', o5', rfl⟩, ms', hms', hml'⟩
          exact ⟨e4, ⟨_, _, _, _, rfl⟩, ms', hms', by omega⟩
  · rintro σ H2 ⟨e, ⟨o2, o3, o4, o5, rfl⟩, ms, hms, hml⟩
    rw [List.length_map] at hml
    exact ⟨_, rfl, k D ms _ hD e hms (by omega)⟩
end
end Pn
set_option maxHeartbeats 4000000
/-! printed by gen_law2.py: draw, take, common, pair, number, made, menu, weight -/
namespace Pn
open PySem PySem.Spec PyProof.Rows L2
/-- the law's state: the tape, how many were taken -/
structure IsSt (H : Hp) (st tp : Addr) (a : Nat) : Prop where
  s : H st = some (.lst [.ref tp, .int (a : Nat)])
  t : ∃ ms : List Int, iLst H tp ms ∧ ms.length ≤ 100000
  ne : st ≠ tp
theorem IsSt.fr {K : PySem.W.Frag} {W : List Addr} {H H' : Hp} {st tp : Addr} {a : Nat} (h : IsSt H st tp a) (e : Fr K W H H') (h1 : st ∉ W) (h2 : tp ∉ W) : IsSt H' st tp a := by
  obtain ⟨ms, t1, t2⟩ := h.t
  exact ⟨e.f _ _ h.s h1, ⟨ms, e.f _ _ t1 h2, t2⟩, h.ne⟩
theorem IsSt.ex {H H' : Hp} {st tp : Addr} {a : Nat} (h : IsSt H st tp a) (e : Ex H H') : IsSt H' st tp a := by
  obtain ⟨ms, t1, t2⟩ := h.t
  exact ⟨e _ _ h.s, ⟨ms, e _ _ t1, t2⟩, h.ne⟩
/-- a pair of whole numbers -/
def IsPr (H : Hp) (v : V) (t b : Int) : Prop := ∃ p, v = .ref p ∧ H p = some (.tup [.int t, .int b])
theorem IsPr.kp {K : PySem.W.Frag} {H H' : Hp} {v : V} {t b : Int} (h : IsPr H v t b) (e : Kp K H H') : IsPr H' v t b := by
  obtain ⟨p, h1, h2⟩ := h
  exact ⟨p, h1, e p _ h2 trivial⟩
theorem toN {i : Int} (h : 0 ≤ i) : ∃ n : Nat, i = (n : Int) := ⟨i.toNat, (Int.toNat_of_nonneg h).symm⟩
theorem bits_le {i : Int} {n : Nat} (h : i.natAbs < 2 ^ n) : Builtin.Int.intBits i ≤ n := by
  unfold Builtin.Int.intBits
  by_cases h0 : i.natAbs = 0
  · have : i = 0 := by omega
    subst this
    simp
  · have := (Nat.log2_lt h0).mpr h
    split <;> omega
section
variable {w : World} {K : PySem.W.Frag} {mg : Str → Option Value} {base : Heap}
def spDraw (K : PySem.W.Frag) : Sp := fun vs H Q _ => ∃ (tp : Addr) (ms : List Int) (a m : Nat), vs = [.ref tp, .int (a : Nat), .int (m : Nat)] ∧ iLst H tp ms ∧ ms.length ≤ 100000 ∧ a ≤ 1000000 ∧ 0 < m ∧ ∀ r : Nat, r < m → Q (.int (r : Nat)) H

abbrev n_law_draw : List Str := ["_law_tape_here", "_law_at", "_law_many", "_law_number_here"]
theorem sc__law_draw : FnScope n_law_draw ["_law_tape_here", "_law_at", "_law_many"] (defScope s__law_draw) := ⟨rfl, rfl, rfl, by decide +kernel, rfl, by decide +kernel, by decide +kernel⟩
theorem d__law_draw_ok (T : Txt K mg) : Def PP w K mg base CX0 "_law_draw" (a__law_draw K) 1 ["_law_tape_here", "_law_at", "_law_many"] (spDraw K) := by
  obtain ⟨fd, F⟩ := T.d__law_draw
  refine ⟨⟨fd, ok0 F sc__law_draw (fun vs H Q E h => ?_) (fun cdv A outer s H vs Q E hr h => ?_), F.bindsN fun _ _ _ _ _ _ us hl => match us, hl with | [_, _, _], _ => rfl⟩, T.g__law_draw, F.kp⟩
  · obtain ⟨tp, ms, a, m, rfl, _⟩ := h
    rfl
  obtain ⟨tp, ms, a, m, rfl, ht, hz, ha, hm, k⟩ := h
  have nd := sc__law_draw.nd
  refine ⟨_, pss_cons (ps_if (pt_cmpR op_lt (pv 1) (pe_callB call_len_seq (by rfl) T.f_len boot_len (pa_cons (pv 0) (pa_nil))) (nomark _)) (pss_one (ps_ret (pe_op op_modN (pe_callTy call_int1 (by rfl) T.f_int boot_int' (pa_cons (pe_ix ix_list (pv 0) (pv 1) (fun _ _ => rfl)) (pa_nil))) (pv 2)))) (pss_nil))
      (pss_cons (ps_set (i := 3) nd rfl (Or.inl rfl) (pe_int))
      (pss_cons (ps_if (pt_cmpR op_gt (pe_callB call_len_seq (by rfl) T.f_len boot_len (pa_cons (pv 0) (pa_nil))) (pe_int) (nomark _)) (pss_one (ps_set (i := 3) nd rfl (Or.inl rfl) (pe_ix ix_list (pv 0) (pe_op op_modN (pe_callTy call_int1 (by rfl) T.f_int boot_int' (pa_cons (pv 1) (pa_nil))) (pe_callB call_len_seq (by rfl) T.f_len boot_len (pa_cons (pv 0) (pa_nil)))) (fun _ _ => rfl)))) (pss_nil))
      (pss_one (ps_ret (pe_op op_modN (pe_op op_modN (pe_callTy call_int1 (by rfl) T.f_int boot_int' (pa_cons (pe_op op_add (pe_op op_mul (pe_op op_mul (pe_op op_add (pv 3) (pv 1)) (pe_op op_add (pv 1) (pe_int))) (pe_int)) (pe_op op_mul (pv 1) (pe_int))) (pa_nil))) (pe_int)) (pv 2)))))), ?_⟩
  have fin : ∀ i : Int, Q (.int (i.fmod (m : Nat))) H := fun i => by
    obtain ⟨g1, g2⟩ := fmod_ok (i := i) (m := (m : Int)) (by omega)
    obtain ⟨n, hn⟩ := toN g1
    rw [hn] at g2 ⊢
    exact k n (by omega)
  have hm0 : ((m : Nat) : Int) ≠ 0 := by omega
  have hget : ∀ j, j < ms.length → (ms.map V.int)[j]? = some (.int (ms.getD j 0)) := fun j hj => by
    rw [List.getElem?_map, List.getD_eq_getElem?_getD, List.getElem?_eq_getElem hj]
    rfl
  refine ⟨_, rfl, _, rfl, tp, _, rfl, .inl (SqL.of' ht), _, _, rfl, rfl, _, rfl, ite2 (fun h => ?_) (fun h => ?_)⟩
  · have hlt : a < ms.length := by
      have := of_decide_eq_true h
      rw [List.length_map] at this
      omega
    exact ⟨_, rfl, _, rfl, tp, _, _, _, rfl, rfl, SqL.of' ht, atI_nat (hget a hlt), .inl ⟨_, rfl, _, rfl, _, _, rfl, rfl, hm0, fin _⟩⟩
  refine ⟨_, rfl, tp, _, rfl, .inl (SqL.of' ht), _, _, rfl, rfl, _, rfl, ?_⟩
  have last : ∀ n : Int, ∃ (i : Int), True ∧ True := fun n => ⟨n, trivial, trivial⟩
  refine ite2 (fun h2 => ?_) (fun h2 => ?_)
  · have hpos : 0 < ms.length := by
      have := of_decide_eq_true h2
      rw [List.length_map] at this
      omega
    obtain ⟨g1, g2⟩ := fmod_ok (i := (a : Int)) (m := (((ms.map V.int).length : Nat) : Int)) (by rw [List.length_map]; omega)
    obtain ⟨j, hj⟩ := toN g1
    have hjl : j < ms.length := by rw [hj, List.length_map] at g2; omega
    refine ⟨_, rfl, _, rfl, .inl ⟨_, rfl, _, rfl, tp, _, rfl, .inl (SqL.of' ht), _, _, rfl, rfl, (by rw [List.length_map]; omega), tp, _, _, .int (ms.getD j 0), rfl, rfl, SqL.of' ht, ?_, ?_⟩⟩
    · show atI _ ((a : Int).fmod _) = _
      rw [hj]
      exact atI_nat (hget j hjl)
    refine ⟨_, rfl, _, rfl, _, _, rfl, rfl, _, rfl, _, _, rfl, rfl, _, _, rfl, rfl, .inr ⟨by omega, by omega⟩, _, _, rfl, rfl, .inr ⟨by decide, by decide⟩, _, rfl, _, _, rfl, rfl, .inl ⟨by omega, by omega⟩, _, _, rfl, rfl, .inl ⟨_, rfl, _, _, rfl, rfl, (show (65521 : Int) ≠ 0 by decide), _, rfl, _, _, rfl, rfl, hm0, fin _⟩⟩
  · refine ⟨_, rfl, _, rfl, _, _, rfl, rfl, _, rfl, _, _, rfl, rfl, _, _, rfl, rfl, .inr ⟨by omega, by omega⟩, _, _, rfl, rfl, .inr ⟨by decide, by decide⟩, _, rfl, _, _, rfl, rfl, .inl ⟨by omega, by omega⟩, _, _, rfl, rfl, .inl ⟨_, rfl, _, _, rfl, rfl, (show (65521 : Int) ≠ 0 by decide), _, rfl, _, _, rfl, rfl, hm0, fin _⟩⟩

/-- what a taking def ends with: some n more taken -/
def spTake (K : PySem.W.Frag) : Sp := fun vs H Q _ => ∃ (s tp : Addr) (a m : Nat), vs = [.ref s, .int (m : Nat)] ∧ IsSt H s tp a ∧ a < 1000000 ∧ 0 < m ∧ ∀ (r : Nat) H', r < m → Fr K [s] H H' → IsSt H' s tp (a + 1) → Q (.int (r : Nat)) H'

abbrev n_law_take : List Str := ["_law_state", "_law_many"]
theorem sc__law_take : FnScope n_law_take ["_law_state", "_law_many"] (defScope s__law_take) := ⟨rfl, rfl, rfl, by decide +kernel, rfl, by decide +kernel, by decide +kernel⟩
theorem d__law_take_ok (T : Txt K mg) : Def PP w K mg base CX0 "_law_take" (a__law_take K) 2 ["_law_state", "_law_many"] (spTake K) := by
  obtain ⟨fd, F⟩ := T.d__law_take
  refine ⟨⟨fd, ok0 F sc__law_take (fun vs H Q E h => ?_) (fun cdv A outer s H vs Q E hr h => ?_), F.bindsN fun _ _ _ _ _ _ us hl => match us, hl with | [_, _], _ => rfl⟩, T.g__law_take, F.kp⟩
  · obtain ⟨s, tp, a, m, rfl, _⟩ := h
    rfl
  obtain ⟨st, tp, a, m, rfl, hs, ha, hm, k⟩ := h
  refine ⟨_, pss_cons (ps_asg (pe_op op_add (pe_ix ix_list (pv 0) (pe_int) (fun _ _ => rfl)) (pe_int)) (pg_sub (pv 0) (pe_int) set_list))
      (pss_one (ps_ret (pe_callD (d__law_draw_ok T) hr (pa_cons (pe_ix ix_list (pv 0) (pe_int) (fun _ _ => rfl)) (pa_cons (pe_ix ix_list (pv 0) (pe_int) (fun _ _ => rfl)) (pa_cons (pv 1) (pa_nil))))))), ?_⟩
  obtain ⟨ms, t1, t2⟩ := hs.t
  refine ⟨_, rfl, st, _, _, _, rfl, rfl, SqL.of' hs.s, rfl, _, _, rfl, rfl, ?_⟩
  refine ⟨_, rfl, st, _, _, 1, rfl, rfl, hs.s, rfl, ?_⟩
  have h1 : upd H st (.lst (([.ref tp, .int (a : Nat)] : List V).set 1 (.int ((a : Int) + 1)))) st = some (.lst [.ref tp, .int ((a + 1 : Nat) : Int)]) := upd_same
  have h2 : iLst (upd H st (.lst (([.ref tp, .int (a : Nat)] : List V).set 1 (.int ((a : Int) + 1))))) tp ms := by
    show upd _ _ _ _ = _
    rw [upd_ne (Ne.symm hs.ne)]
    exact t1
  refine ⟨_, rfl, st, _, _, _, rfl, rfl, SqL.of' h1, rfl, _, rfl, st, _, _, _, rfl, rfl, SqL.of' h1, rfl, _, rfl, ?_⟩
  exact ⟨tp, ms, a + 1, m, rfl, h2, t2, by omega, hm, fun r hr => k r _ hr (Fr.refl.upd (.inl (by simp)) hs.s (fun z => z)) ⟨h1, ⟨ms, h2, t2⟩, hs.ne⟩⟩

def spCommon : Sp := fun vs H Q _ => ∃ (i j : Int), vs = [.int i, .int j] ∧ 0 ≤ i ∧ 0 < j ∧ j < 2 ^ 20 ∧ ∀ c : Int, 0 < c → c ≤ j → Q (.int c) H

abbrev n_law_common : List Str := ["_law_one", "_law_other", "_law_k", "_law_rest"]
theorem sc__law_common : FnScope n_law_common ["_law_one", "_law_other"] (defScope s__law_common) := ⟨rfl, rfl, rfl, by decide +kernel, rfl, by decide +kernel, by decide +kernel⟩
theorem d__law_common_ok (T : Txt K mg) : Def PP w K mg base CX0 "_law_common" (a__law_common K) 1 ["_law_one", "_law_other"] spCommon := by
  obtain ⟨fd, F⟩ := T.d__law_common
  refine ⟨⟨fd, ok0 F sc__law_common (fun vs H Q E h => ?_) (fun cdv A outer s H vs Q E hr h => ?_), F.bindsN fun _ _ _ _ _ _ us hl => match us, hl with | [_, _], _ => rfl⟩, T.g__law_common, F.kp⟩
  · obtain ⟨i, j, rfl, _⟩ := h
    rfl
  obtain ⟨i, j, rfl, hi, hj, hj2, k⟩ := h
  have nd := sc__law_common.nd
  refine ⟨_, pss_cons (ps_for (PassesOwn.never) rfl (pi_range1 rfl T.f_range (pa_cons (pe_op op_add (pe_op op_mul (pe_int) (pe_bits (pv 1))) (pe_int)) (pa_nil))) (pg_name (i := 2) nd rfl (Or.inl rfl)) (pss_cons (ps_if (pt_cmpR op_eq (pv 1) (pe_int) (nomark _)) (pss_one (ps_break)) (pss_nil))
      (pss_cons (ps_set (i := 3) nd rfl (Or.inl rfl) (pe_op op_modN (pe_callTy call_int1 (by rfl) T.f_int boot_int' (pa_cons (pv 0) (pa_nil))) (pv 1)))
      (pss_cons (ps_set (i := 0) nd rfl (Or.inl rfl) (pv 1))
      (pss_one (ps_set (i := 1) nd rfl (Or.inl rfl) (pv 3)))))))
      (pss_one (ps_ret (pv 0))), ?_⟩
  have hb : Builtin.Int.intBits j ≤ 20 := bits_le (by omega)
  refine ⟨_, rfl, _, rfl, _, _, rfl, rfl, .inl ⟨by decide, by decide⟩, _, _, rfl, rfl, _, rfl, by omega, by omega, ?_⟩
  have ht : 3 ≤ ((2 : Int) * ((Builtin.Int.intBits j : Nat) : Int) + 3).toNat := by omega
  refine for_it walk_range0 (fun t σ H' => H' = H ∧ ∃ (x y : Int) (o2 o3 : Option V), σ = [some (.int x), some (.int y), o2, o3] ∧ 0 ≤ x ∧ 0 ≤ y ∧ y ≤ j ∧ (t = 0 → y = j) ∧ (0 < t → 0 < x ∧ x ≤ j))
    ⟨rfl, i, j, _, _, rfl, hi, by omega, by omega, fun _ => rfl, fun h => by omega⟩ (fun _ _ _ _ _ => trivial) ?_ ?_
  · rintro t z σ H2 H3 hi2 ⟨rfl, x, y, o2, o3, rfl, hx, hy, hyj, h0, h1⟩ ⟨rfl, rfl⟩
    refine ⟨_, rfl, rfl, _, rfl, ite2 (fun h => ?_) (fun h => ?_)⟩
    · have hy0 : y = 0 := by
        have := of_decide_eq_true h
        injection this
      have htp : 0 < t := by
        rcases Nat.eq_zero_or_pos t with z | z
        · have := h0 z
          omega
        · exact z
      obtain ⟨g1, g2⟩ := h1 htp
      exact ⟨_, rfl, k x g1 g2⟩
    · have hy0 : y ≠ 0 := fun z => h (by rw [z]; exact decide_eq_true rfl)
      obtain ⟨g1, g2⟩ := fmod_ok (i := x) (m := y) (by omega)
      exact ⟨_, rfl, .inl ⟨_, rfl, _, rfl, _, _, rfl, rfl, hy0, _, rfl, _, rfl, rfl, y, _, _, _, rfl, hy, g1, by omega, fun z => by omega, fun _ => ⟨by omega, hyj⟩⟩⟩
  · rintro σ H2 ⟨rfl, x, y, o2, o3, rfl, hx, hy, hyj, h0, h1⟩
    obtain ⟨g1, g2⟩ := h1 (by omega)
    exact ⟨_, rfl, k x g1 g2⟩

def spPair : Sp := fun vs H Q _ => ∃ (t b : Int), vs = [.int t, .int b] ∧ t.natAbs < 2 ^ 30 ∧ 0 < b ∧ b < 2 ^ 20 ∧ ∀ v t' b' H', Ex H H' → IsPr H' v t' b' → t'.natAbs ≤ t.natAbs → 0 < b' → b' ≤ b → Q v H'
theorem fdiv_le {t c : Int} (hc : 0 < c) : (t.fdiv c).natAbs ≤ t.natAbs := by
  rw [Int.fdiv_eq_ediv_of_nonneg _ (by omega)]
  rcases Int.le_total 0 t with h | h
  · have h1 := Int.ediv_nonneg h (by omega : 0 ≤ c)
    have h2 := Int.ediv_le_self c h
    omega
  · have h1 : t / c ≤ 0 := by
      have := Int.ediv_le_ediv hc h
      rwa [Int.zero_ediv] at this
    have h2 : t ≤ t / c := by
      rw [Int.le_ediv_iff_mul_le hc]
      have : t * c ≤ t * 1 := Int.mul_le_mul_of_nonpos_left h (by omega)
      omega
    omega
theorem fdiv_pos' {b c : Int} (hc : 0 < c) (h : c ≤ b) : 0 < b.fdiv c ∧ b.fdiv c ≤ b := by
  rw [Int.fdiv_eq_ediv_of_nonneg _ (by omega)]
  refine ⟨?_, Int.ediv_le_self c (by omega)⟩
  have : 1 ≤ b / c := by
    rw [Int.le_ediv_iff_mul_le hc]
    omega
  omega

abbrev n_law_pair : List Str := ["_law_top", "_law_bottom", "_law_common_here"]
theorem sc__law_pair : FnScope n_law_pair ["_law_top", "_law_bottom"] (defScope s__law_pair) := ⟨rfl, rfl, rfl, by decide +kernel, rfl, by decide +kernel, by decide +kernel⟩
theorem d__law_pair_ok (T : Txt K mg) : Def PP w K mg base CX0 "_law_pair" (a__law_pair K) 2 ["_law_top", "_law_bottom"] spPair := by
  obtain ⟨fd, F⟩ := T.d__law_pair
  refine ⟨⟨fd, ok0 F sc__law_pair (fun vs H Q E h => ?_) (fun cdv A outer s H vs Q E hr h => ?_), F.bindsN fun _ _ _ _ _ _ us hl => match us, hl with | [_, _], _ => rfl⟩, T.g__law_pair, F.kp⟩
  · obtain ⟨t, b, rfl, _⟩ := h
    rfl
  obtain ⟨t, b, rfl, ht, hb, hb2, k⟩ := h
  have nd := sc__law_pair.nd
  refine ⟨_, pss_cons (ps_set (i := 2) nd rfl (Or.inl rfl) (pe_callD (d__law_common_ok T) hr (pa_cons (pe_callB call_abs (by rfl) T.f_abs boot_abs' (pa_cons (pv 0) (pa_nil))) (pa_cons (pv 1) (pa_nil)))))
      (pss_one (ps_ret (pe_tup (pa_cons (pe_op op_fdivN (pv 0) (pv 2)) (pa_cons (pe_op op_fdivN (pv 1) (pv 2)) (pa_nil)))))), ?_⟩
  refine ⟨_, rfl, t, rfl, _, rfl, _, _, rfl, by split <;> omega, hb, hb2, fun c hc hcb => ?_⟩
  have hc2 : c ≠ 0 ∧ c.natAbs < 1073741824 := ⟨by omega, by omega⟩
  refine ⟨_, rfl, _, rfl, _, _, rfl, rfl, hc2, _, rfl, _, rfl, _, _, rfl, rfl, hc2, by show 2 ≤ sizeLine; decide, fun p hp => ?_⟩
  obtain ⟨g1, g2⟩ := fdiv_pos' hc hcb
  exact k _ _ _ _ ((Ex.refl H).new hp) ⟨p, rfl, upd_same⟩ (fdiv_le hc) g1 g2

/-- a pair drawn, at most n taken -/
def spPr (K : PySem.W.Frag) (n : Nat) (ok : Int → Int → Prop) : Sp := fun vs H Q _ => ∃ (s tp : Addr) (a : Nat), vs = [.ref s] ∧ IsSt H s tp a ∧ a < 900000 ∧ ∀ v t b a' H', Fr K [s] H H' → IsSt H' s tp a' → a' ≤ a + n → IsPr H' v t b → ok t b → Q v H'

abbrev n_law_number : List Str := ["_law_state"]
theorem sc__law_number : FnScope n_law_number ["_law_state"] (defScope s__law_number) := ⟨rfl, rfl, rfl, by decide +kernel, rfl, by decide +kernel, by decide +kernel⟩
theorem d__law_number_ok (T : Txt K mg) : Def PP w K mg base CX0 "_law_number" (a__law_number K) 3 ["_law_state"] (spPr K 4 fun t b => t.natAbs < 2 ^ 30 ∧ 0 < b ∧ b < 2 ^ 20) := by
  obtain ⟨fd, F⟩ := T.d__law_number
  refine ⟨⟨fd, ok0 F sc__law_number (fun vs H Q E h => ?_) (fun cdv A outer s H vs Q E hr h => ?_), F.bindsN fun _ _ _ _ _ _ us hl => match us, hl with | [_], _ => rfl⟩, T.g__law_number, F.kp⟩
  · obtain ⟨s, tp, a, rfl, _⟩ := h
    rfl
  obtain ⟨st, tp, a, rfl, hs, ha, k⟩ := h
  refine ⟨_, pss_cons (ps_if (pt_cmpR op_eq (pe_callD (d__law_take_ok T) (hr.mono (by decide)) (pa_cons (pv 0) (pa_cons (pe_int) (pa_nil)))) (pe_int) (nomark _)) (pss_one (ps_ret (pe_callD (d__law_pair_ok T) hr (pa_cons (pe_op op_sub (pe_op op_pow (pe_callD (d__law_take_ok T) hr (pa_cons (pv 0) (pa_cons (pe_int) (pa_nil)))) (pe_int)) (pe_op op_pow (pe_callD (d__law_take_ok T) hr (pa_cons (pv 0) (pa_cons (pe_int) (pa_nil)))) (pe_int))) (pa_cons (pe_op op_add (pe_int) (pe_op op_pow (pe_callD (d__law_take_ok T) hr (pa_cons (pv 0) (pa_cons (pe_int) (pa_nil)))) (pe_int))) (pa_nil)))))) (pss_nil))
      (pss_one (ps_ret (pe_callD (d__law_pair_ok T) hr (pa_cons (pe_op op_sub (pe_callD (d__law_take_ok T) hr (pa_cons (pv 0) (pa_cons (pe_int) (pa_nil)))) (pe_int)) (pa_cons (pe_op op_add (pe_int) (pe_callD (d__law_take_ok T) hr (pa_cons (pv 0) (pa_cons (pe_int) (pa_nil))))) (pa_nil)))))), ?_⟩
  refine ⟨_, rfl, st, tp, a, 9, rfl, hs, by omega, by decide, fun r H1 hr1 f1 s1 => ?_⟩
  refine ⟨rfl, _, rfl, ite2 (fun h => ?_) (fun h => ?_)⟩
  · refine ⟨_, rfl, st, tp, a + 1, 1000, rfl, s1, by omega, by decide, fun r2 H2 hr2 f2 s2 => ?_⟩
    refine ⟨_, _, rfl, rfl, ⟨by decide, by decide, by omega⟩, ?_⟩
    refine ⟨_, rfl, st, tp, a + 1 + 1, 1000, rfl, s2, by omega, by decide, fun r3 H3 hr3 f3 s3 => ?_⟩
    refine ⟨_, _, rfl, rfl, ⟨by decide, by decide, by omega⟩, _, _, rfl, rfl, ?_⟩
    refine ⟨_, rfl, st, tp, a + 1 + 1 + 1, 1000, rfl, s3, by omega, by decide, fun r4 H4 hr4 f4 s4 => ?_⟩
    refine ⟨_, _, rfl, rfl, ⟨by decide, by decide, by omega⟩, _, _, rfl, rfl, ?_⟩
    have hcub : ((r2 : Int) ^ (3 : Int).toNat) = ((r2 ^ 3 : Nat) : Int) := by norm_cast
    have hsq3 : ((r3 : Int) ^ (2 : Int).toNat) = ((r3 ^ 2 : Nat) : Int) := by norm_cast
    have hsq4 : ((r4 : Int) ^ (2 : Int).toNat) = ((r4 ^ 2 : Nat) : Int) := by norm_cast
    have b2 : r2 ^ 3 ≤ 999 ^ 3 := Nat.pow_le_pow_left (by omega) 3
    have b3 : r3 ^ 2 ≤ 999 ^ 2 := Nat.pow_le_pow_left (by omega) 2
    have b4 : r4 ^ 2 ≤ 999 ^ 2 := Nat.pow_le_pow_left (by omega) 2
    refine ⟨_, _, rfl, ?_, ?_, ?_, fun v t b H5 e5 p5 q1 q2 q3 => ?_⟩
    · rw [hcub, hsq3]; omega
    · rw [hsq4]; omega
    · rw [hsq4]; omega
    · rw [hcub, hsq3] at q1
      rw [hsq4] at q3
      exact k v t b _ H5 ((f1.trans (f2.trans (f3.trans f4))).ex e5) (s4.ex e5) (by omega) p5 ⟨by omega, q2, by omega⟩
  · refine ⟨_, rfl, st, tp, a + 1, 13, rfl, s1, by omega, by decide, fun r2 H2 hr2 f2 s2 => ?_⟩
    refine ⟨_, _, rfl, rfl, ?_⟩
    refine ⟨_, rfl, st, tp, a + 1 + 1, 4, rfl, s2, by omega, by decide, fun r3 H3 hr3 f3 s3 => ?_⟩
    refine ⟨_, _, rfl, rfl, _, _, rfl, by omega, by omega, by omega, fun v t b H5 e5 p5 q1 q2 q3 => ?_⟩
    exact k v t b _ H5 ((f1.trans (f2.trans f3)).ex e5) (s3.ex e5) (by omega) p5 ⟨by omega, q2, by omega⟩

abbrev n_law_weight : List Str := ["_law_state"]
theorem sc__law_weight : FnScope n_law_weight ["_law_state"] (defScope s__law_weight) := ⟨rfl, rfl, rfl, by decide +kernel, rfl, by decide +kernel, by decide +kernel⟩
theorem d__law_weight_ok (T : Txt K mg) : Def PP w K mg base CX0 "_law_weight" (a__law_weight K) 3 ["_law_state"] (spPr K 2 fun t b => t.natAbs ≤ 6 ∧ 0 < b ∧ b ≤ 3) := by
  obtain ⟨fd, F⟩ := T.d__law_weight
  refine ⟨⟨fd, ok0 F sc__law_weight (fun vs H Q E h => ?_) (fun cdv A outer s H vs Q E hr h => ?_), F.bindsN fun _ _ _ _ _ _ us hl => match us, hl with | [_], _ => rfl⟩, T.g__law_weight, F.kp⟩
  · obtain ⟨s, tp, a, rfl, _⟩ := h
    rfl
  obtain ⟨st, tp, a, rfl, hs, ha, k⟩ := h
  refine ⟨_, pss_one (ps_ret (pe_callD (d__law_pair_ok T) hr (pa_cons (pe_op op_add (pe_int) (pe_callD (d__law_take_ok T) hr (pa_cons (pv 0) (pa_cons (pe_int) (pa_nil))))) (pa_cons (pe_op op_add (pe_int) (pe_callD (d__law_take_ok T) hr (pa_cons (pv 0) (pa_cons (pe_int) (pa_nil))))) (pa_nil))))), ?_⟩
  refine ⟨_, rfl, st, tp, a, 6, rfl, hs, by omega, by decide, fun r H1 hr1 f1 s1 => ?_⟩
  refine ⟨_, _, rfl, rfl, ?_⟩
  refine ⟨_, rfl, st, tp, a + 1, 3, rfl, s1, by omega, by decide, fun r2 H2 hr2 f2 s2 => ?_⟩
  refine ⟨_, _, rfl, rfl, _, _, rfl, by omega, by omega, by omega, fun v t b H5 e5 p5 q1 q2 q3 => ?_⟩
  exact k v t b _ H5 ((f1.trans f2).ex e5) (s2.ex e5) (by omega) p5 ⟨by omega, q2, by omega⟩

def spMade (K : PySem.W.Frag) : Sp := fun vs H Q _ => ∃ v t b, vs = [v] ∧ IsPr H v t b ∧ 0 < b ∧ ∀ r H', Ex H H' → IsR K H' r (Rat.divInt t b) → Q r H'

abbrev n_law_made : List Str := ["_law_pair_here"]
theorem sc__law_made : FnScope n_law_made ["_law_pair_here"] (defScope s__law_made) := ⟨rfl, rfl, rfl, by decide +kernel, rfl, by decide +kernel, by decide +kernel⟩
theorem d__law_made_ok (T : Txt K mg) (hN : base.NoSeer) : Def PP w K mg base CX0 "_law_made" (a__law_made K) 43 ["_law_pair_here"] (spMade K) := by
  obtain ⟨fd, F⟩ := T.d__law_made
  refine ⟨⟨fd, ok0 F sc__law_made (fun vs H Q E h => ?_) (fun cdv A outer s H vs Q E hr h => ?_), F.bindsN fun _ _ _ _ _ _ us hl => match us, hl with | [_], _ => rfl⟩, T.g__law_made, F.kp⟩
  · obtain ⟨v, t, b, rfl, _⟩ := h
    rfl
  obtain ⟨_, t, b, rfl, ⟨p, rfl, hp⟩, hb, k⟩ := h
  refine ⟨_, pss_one (ps_ret (pe_makeD (k_Ratio2 T hN) (hr.mono (by decide)) (pa_cons (pe_ix ix_tup (pv 0) (pe_int) (fun _ _ => rfl)) (pa_cons (pe_ix ix_tup (pv 0) (pe_int) (fun _ _ => rfl)) (pa_nil))))), ?_⟩
  refine ⟨_, rfl, p, _, _, _, rfl, rfl, SqT.of' hp, rfl, _, rfl, p, _, _, _, rfl, rfl, SqT.of' hp, rfl, ?_⟩
  intro x0 dx0 nx0 nd0 ne0
  exact mkR' (by omega) nx0 nd0 ne0 fun H1 e1 r1 => ⟨rfl, k _ _ e1 r1⟩

def menu1 : List Str := ["A", "B", "B1", "Z", "a", "b_2", "c"]
def menu2 : List Str := ["d", "e", "f", "g", "h", "i"]
def menuL : List Str := menu1 ++ menu2
def spMenu : Sp := fun vs H Q _ => vs = [] ∧ ∀ p H', H p = none → Ex H H' → H' p = some (.lst (sVs menuL)) → Q (.ref p) H'
theorem sc__law_menu : FnScope [] [] (defScope s__law_menu) := ⟨rfl, rfl, rfl, by decide +kernel, rfl, by decide +kernel, by decide +kernel⟩
theorem d__law_menu_ok (T : Txt K mg) : Def PP w K mg base CX0 "_law_menu" (a__law_menu K) 1 [] spMenu := by
  obtain ⟨fd, F⟩ := T.d__law_menu
  refine ⟨⟨fd, ok0 F sc__law_menu (fun vs H Q E h => ?_) (fun cdv A outer s H vs Q E hr h => ?_), F.bindsN fun _ _ _ _ _ _ us hl => match us, hl with | [], _ => rfl⟩, T.g__law_menu, F.kp⟩
  · obtain ⟨rfl, _⟩ := h
    rfl
  obtain ⟨rfl, k⟩ := h
  refine ⟨_, pss_one (ps_ret (pe_lst (pa_cons (pe_str) (pa_cons (pe_str) (pa_cons (pe_str) (pa_cons (pe_str) (pa_cons (pe_str) (pa_cons (pe_str) (pa_cons (pe_str) (pa_cons (pe_str) (pa_cons (pe_str) (pa_cons (pe_str) (pa_cons (pe_str) (pa_cons (pe_str) (pa_cons (pe_str) (pa_nil)))))))))))))))), ?_⟩
  exact ⟨by show 13 ≤ sizeLine; decide, fun p hp => k p _ hp ((Ex.refl H).new hp) upd_same⟩
end
end Pn
set_option maxHeartbeats 4000000
/-! printed by gen_law3.py: terms, spoilt -/
namespace Pn
open PySem PySem.Spec PyProof.Rows L2
theorem ints_at {cs : List Int} {r : Nat} (h : r < cs.length) : atI (cs.map V.int) (r : Int) = some (.int (cs.getD r 0)) := by
  refine atI_nat ?_
  rw [List.getElem?_map, List.getD_eq_getElem?_getD, List.getElem?_eq_getElem h]
  rfl
theorem strs_nat {l : List Str} {r : Nat} (h : r < l.length) : atI (sVs l) (r : Int) = some (.str (l.getD r "")) := by
  refine atI_nat ?_
  unfold sVs
  rw [List.getElem?_map, List.getD_eq_getElem?_getD, List.getElem?_eq_getElem h]
  rfl
theorem cat_any {K : PySem.W.Frag} {H : Hp} {a b : Addr} {xs ys : List V} {Q : VK} (ha : SqT K H a xs) (hb : SqT K H b ys) (ra : H a = some (.tup xs)) (rb : H b = some (.tup ys)) (hz : xs.length + ys.length ≤ sizeLine) (q : ∀ p H', Ex H H' → H' p = some (.tup (xs ++ ys)) → Q (.ref p) H') :
    rCatA K (.ref a) (.ref b) H Q := by
  refine ⟨a, b, xs, ys, rfl, rfl, ha, hb, hz, fun h => ?_, fun _ h => ?_, fun _ _ p hp => q p _ ((Ex.refl H).new hp) upd_same⟩
  · subst h
    exact q b H (Ex.refl H) rb
  · subst h
    refine q a H (Ex.refl H) ?_
    rw [List.append_nil]
    exact ra
section
variable {w : World} {K : PySem.W.Frag} {mg : Str → Option Value} {base : Heap}
def spTerms (K : PySem.W.Frag) : Sp := fun vs H Q _ => ∃ (s tp np : Addr) (a : Nat) (l : List Str), vs = [.ref s, .ref np] ∧ IsSt H s tp a ∧ a < 900000 ∧ H np = some (.lst (sVs l)) ∧ np ≠ s ∧ l.length ≤ 1000 ∧
  ∀ v ts a' H', Fr K [s] H H' → IsSt H' s tp a' → a' ≤ a + 30 → IsTerms H' v ts → ts.length ≤ 5 → Q v H'

abbrev n_law_terms : List Str := ["_law_state", "_law_names", "_law_terms_here", "_law_name"]
theorem sc__law_terms : FnScope n_law_terms ["_law_state", "_law_names"] (defScope s__law_terms) := ⟨rfl, rfl, rfl, by decide +kernel, rfl, by decide +kernel, by decide +kernel⟩
theorem d__law_terms_ok (T : Txt K mg) : Def PP w K mg base CX0 "_law_terms" (a__law_terms K) 3 ["_law_state", "_law_names"] (spTerms K) := by
  obtain ⟨fd, F⟩ := T.d__law_terms
  refine ⟨⟨fd, ok0 F sc__law_terms (fun vs H Q E h => ?_) (fun cdv A outer s H vs Q E hr h => ?_), F.bindsN fun _ _ _ _ _ _ us hl => match us, hl with | [_, _], _ => rfl⟩, T.g__law_terms, F.kp⟩
  · obtain ⟨s, tp, np, a, l, rfl, _⟩ := h
    rfl
  obtain ⟨st, tp, np, a, l, rfl, hs, ha, hnp, hne, hl, k⟩ := h
  have nd := sc__law_terms.nd
  refine ⟨_, pss_cons (ps_set (i := 2) nd rfl (Or.inl rfl) (pe_lst (pa_nil)))
      (pss_cons (ps_for (PassesOwn.never) rfl (pi_list (pe_callD0 (d__law_menu_ok T) (hr.mono (by decide)))) (pg_name (i := 3) nd rfl (Or.inl rfl)) (pss_one (ps_if (PW.pt (pw_and (pt_cmpR op_in_seq (pv 3) (pv 1) (by rfl)) (pw_and (pt_cmpR op_gt (pe_callD (d__law_take_ok T) (hr.mono (by decide)) (pa_cons (pv 0) (pa_cons (pe_int) (pa_nil)))) (pe_int) (nomark _)) (pw_and1 (pt_cmpR op_lt (pe_callB call_len_seq (by rfl) T.f_len boot_len (pa_cons (pv 2) (pa_nil))) (pe_int) (nomark _)))))) (pss_one (ps_expr (pe_bm PySem.F.plainAttrs_list PySem.F.slot_list_append PySem.F.type_list_append mt_append (pv 2) (pa_cons (pe_tup (pa_cons (pv 3) (pa_cons (pe_ix ix_list (pe_lst (pa_cons (pe_int) (pa_cons (pe_un un_neg pe_int) (pa_cons (pe_un un_neg pe_int) (pa_cons (pe_int) (pa_cons (pe_int) (pa_cons (pe_un un_neg pe_int) (pa_cons (pe_int) (pa_cons (pe_un un_neg pe_int) (pa_nil)))))))))) (pe_callD (d__law_take_ok T) (hr.mono (by decide)) (pa_cons (pv 0) (pa_cons (pe_int) (pa_nil)))) (fun _ _ => rfl)) (pa_nil)))) (pa_nil))))) (pss_nil))))
      (pss_cons (ps_if (PW.pt (pw_and (pt_cmpR op_eq (pe_callB call_len_seq (by rfl) T.f_len boot_len (pa_cons (pv 2) (pa_nil))) (pe_int) (nomark _)) (pw_and1 (pt_cmpR op_gt (pe_callB call_len_seq (by rfl) T.f_len boot_len (pa_cons (pv 1) (pa_nil))) (pe_int) (nomark _))))) (pss_one (ps_expr (pe_bm PySem.F.plainAttrs_list PySem.F.slot_list_append PySem.F.type_list_append mt_append (pv 2) (pa_cons (pe_tup (pa_cons (pe_ix ix_list (pv 1) (pe_callD (d__law_take_ok T) (hr.mono (by decide)) (pa_cons (pv 0) (pa_cons (pe_callB call_len_seq (by rfl) T.f_len boot_len (pa_cons (pv 1) (pa_nil))) (pa_nil)))) (fun _ _ => rfl)) (pa_cons (pe_int) (pa_nil)))) (pa_nil))))) (pss_nil))
      (pss_one (ps_ret (pe_callTy call_tuple_of (by rfl) T.f_tuple boot_tuple (pa_cons (pv 2) (pa_nil))))))), ?_⟩
  refine ⟨by show 0 ≤ sizeLine; decide, fun D hD => ?_⟩
  have e1 : Ex H (upd H D (.lst [])) := (Ex.refl H).new hD
  refine ⟨rfl, fun mp H1 hmp e2 hm => ?_⟩
  have e02 := e1.trans e2
  have hmp0 : H mp = none := e1.free hmp
  have hDm : D ≠ mp := ne_of_none (show upd H D (.lst []) D = some (.lst []) from upd_same) hmp
  have st0 : H st ≠ none := by rw [hs.s]; simp
  have tp0 : H tp ≠ none := by obtain ⟨ms, t1, _⟩ := hs.t; rw [t1]; simp
  have hstD : st ≠ D := fun z => st0 (z ▸ hD)
  have htpD : tp ≠ D := fun z => tp0 (z ▸ hD)
  have hstm : st ≠ mp := fun z => st0 (z ▸ hmp0)
  have push : ∀ (H' : Hp) (acc : List V) (ts : List (Str × Int)) (t : Str × Int) (p : Addr) (a' : Nat), Fr K [st] H H' → H' mp = some (.lst (sVs menuL)) → IsSt H' st tp a' → H' D = some (.lst acc) → Al (IsTerm H') acc ts → H' p = some (.tup [.str t.1, .int t.2]) →
      Fr K [st] H (upd H' D (.lst (acc ++ [.ref p]))) ∧ upd H' D (.lst (acc ++ [.ref p])) mp = some (.lst (sVs menuL)) ∧ IsSt (upd H' D (.lst (acc ++ [.ref p]))) st tp a' ∧ IsL IsTerm (upd H' D (.lst (acc ++ [.ref p]))) D (ts ++ [t]) := fun H' acc ts t p a' f hm hs hd al hp => by
    have f1 : Fr K [D] H' (upd H' D (.lst (acc ++ [.ref p]))) := Fr.refl.upd (.inl (by simp)) hd (fun z => z)
    refine ⟨f.upd (.inr hD) hd (fun z => z), by rw [upd_ne (Ne.symm hDm)]; exact hm, hs.fr f1 (by simp; exact hstD) (by simp; exact htpD), _, upd_same, ?_⟩
    exact (al_kp stayTm al f1.k).append (Al.cons ⟨p, rfl, f1.k _ _ hp trivial⟩ Al.nil)
  refine ⟨mp, rfl, ⟨_, SqL.of' hm⟩, for_it (walk_list (xs := sVs menuL)) (fun i σ H' => Fr K [st] H H' ∧ H' mp = some (.lst (sVs menuL)) ∧ (∃ o3, σ = [some (.ref st), some (.ref np), some (.ref D), o3]) ∧ ∃ a' ts, IsSt H' st tp a' ∧ a' ≤ a + 2 * i ∧ IsL IsTerm H' D ts ∧ ts.length ≤ 4)
    ⟨e02.fr, hm, ⟨_, rfl⟩, a, [], hs.ex e02, by omega, ⟨[], e2 _ _ upd_same, Al.nil⟩, by simp⟩ (fun i σ H' _ q => SqL.of' q.2.1) ?_ ?_⟩
  · rintro i z σ H2 H3 hi ⟨f, hm2, ⟨o3, rfl⟩, a', ts, hs', ha', ⟨acc, hacc, al⟩, htl⟩ ⟨rfl, hx⟩
    have hi13 : i < 13 := by
      rw [sVs_len] at hi
      exact hi
    obtain ⟨nm, rfl⟩ : ∃ nm, z = .str nm := by
      unfold sVs at hx
      rw [List.getElem?_map] at hx
      obtain ⟨nm, _, e⟩ := Option.map_eq_some_iff.mp hx
      exact ⟨nm, e.symm⟩
    have hnp3 := f.f _ _ hnp (by simp; exact hne)
    have al_len := al.len
    refine ⟨_, rfl, _, rfl, np, _, rfl, .inl (SqL.of' hnp3), rfl, flat_sVs _, _, rfl, ?_⟩
    show (if (if (false : Bool) = true then !inV (.str nm) (sVs l) else inV (.str nm) (sVs l)) = true then _ else _)
    rw [if_neg (by decide : ¬ (false = true)), in_sVs]
    refine ite2 (fun h1 => ?_) (fun h1 => ?_)
    · refine ⟨_, rfl, st, tp, a', 3, rfl, hs', by omega, by decide, fun r H4 hr4 f4 s4 => ?_⟩
      have f04 := f.trans f4
      have hm4 := f4.f _ _ hm2 (by simp; exact Ne.symm hstm)
      have hacc4 := f4.f _ _ hacc (by simp; exact Ne.symm hstD)
      have al4 := al_kp stayTm al f4.k
      refine ⟨_, _, rfl, rfl, _, rfl, ite2 (fun h2 => ?_) (fun h2 => ?_)⟩
      · refine ⟨_, rfl, D, _, rfl, .inl (SqL.of' hacc4), _, _, rfl, rfl, _, rfl, ite2 (fun h3 => ?_) (fun h3 => ?_)⟩
        · have hlt : acc.length < 4 := by
            have := of_decide_eq_true h3
            omega
          refine ⟨_, rfl, .inl ⟨rfl, _, SqL.of' hacc4⟩, _, rfl, ?_⟩
          refine ⟨1, rfl, 1, rfl, 3, rfl, 9, rfl, by show 8 ≤ sizeLine; decide, fun cp hcp => ?_⟩
          have e5 : Ex H4 (upd H4 cp (.lst ([.int 1, .int (-1), .int (-1), .int 1, .int 2, .int (-3), .int 9, .int (-9)] : List V))) := (Ex.refl _).new hcp
          have cpst : cp ≠ st := fun z => by rw [z, s4.s] at hcp; cases hcp
          refine ⟨_, rfl, st, tp, a' + 1, 8, rfl, s4.ex e5, by omega, by decide, fun r8 H6 hr8 f6 s6 => ?_⟩
          have hc6 := f6.f cp _ upd_same (by simp; exact cpst)
          refine ⟨cp, _, _, .int (([1, -1, -1, 1, 2, -3, 9, -9] : List Int).getD r8 0), rfl, rfl, SqL.of' hc6, ints_at (cs := [1, -1, -1, 1, 2, -3, 9, -9]) (by show r8 < 8; exact hr8), by show 2 ≤ sizeLine; decide, fun q hq => ?_⟩
          have e7 : Ex H6 (upd H6 q (.tup [.str nm, .int (([1, -1, -1, 1, 2, -3, 9, -9] : List Int).getD r8 0)])) := (Ex.refl _).new hq
          have f47 := ((e5.fr (K := K) (W := [st])).trans f6).ex e7
          have hacc7 := f47.f _ _ hacc4 (by simp; exact Ne.symm hstD)
          refine ⟨D, acc, _, rfl, rfl, hacc7, by rw [sizeLine_eq]; omega, ?_⟩
          obtain ⟨p1, p2, p3, p4⟩ := push _ acc ts (nm, ([1, -1, -1, 1, 2, -3, 9, -9] : List Int).getD r8 0) q (a' + 1 + 1) (f04.trans f47) (f47.f _ _ hm4 (by simp; exact Ne.symm hstm)) (s6.ex e7) hacc7 (al_kp stayTm al4 f47.k) upd_same
          exact ⟨p1, p2, ⟨_, rfl⟩, _, _, p3, by omega, p4, by simp; omega⟩
        · exact ⟨f04, hm4, ⟨_, rfl⟩, a' + 1, ts, s4, by omega, ⟨acc, hacc4, al4⟩, htl⟩
      · exact ⟨f04, hm4, ⟨_, rfl⟩, a' + 1, ts, s4, by omega, ⟨acc, hacc4, al4⟩, htl⟩
    · exact ⟨f, hm2, ⟨_, rfl⟩, a', ts, hs', by omega, ⟨acc, hacc, al⟩, htl⟩
  · rintro σ H2 ⟨f, hm2, ⟨o3, rfl⟩, a', ts, hs', ha', ⟨acc, hacc, al⟩, htl⟩
    have ha13 : a' ≤ a + 26 := ha'
    have hnp3 := f.f _ _ hnp (by simp; exact hne)
    have al_len := al.len
    have fin : ∀ (H' : Hp) (acc' : List V) (ts' : List (Str × Int)) (a2 : Nat), Fr K [st] H H' → IsSt H' st tp a2 → a2 ≤ a + 28 → H' D = some (.lst acc') → Al (IsTerm H') acc' ts' → ts'.length ≤ 5 → ∃ p ys, [V.ref D] = [.ref p] ∧ ((SqL K H' p ys ∧ ∀ l, H' l = none → Q (.ref l) (upd H' l (.tup ys))) ∨ (SqT K H' p ys ∧ Q (.ref p) H')) := fun H' acc' ts' a2 f hs2 ha2 hd al2 hz => by
      refine ⟨D, acc', rfl, .inl ⟨SqL.of' hd, fun q hq => ?_⟩⟩
      have e : Ex H' (upd H' q (.tup acc')) := (Ex.refl _).new hq
      exact k _ ts' a2 _ (f.ex e) (hs2.ex e) (by omega) ⟨q, acc', rfl, upd_same, al_kp stayTm al2 (e.kp (K := K))⟩ hz
    refine ⟨_, rfl, D, _, rfl, .inl (SqL.of' hacc), rfl, _, rfl, ite2 (fun h1 => ?_) (fun h1 => ?_)⟩
    · refine ⟨_, rfl, np, _, rfl, .inl (SqL.of' hnp3), _, _, rfl, rfl, _, rfl, ite2 (fun h2 => ?_) (fun h2 => ?_)⟩
      · have hlp : 0 < l.length := by
          have := of_decide_eq_true h2
          rw [sVs_len] at this
          omega
        have hts0 : ts.length = 0 := by
          have : V.int (acc.length : Nat) = V.int 0 := of_decide_eq_true h1
          injection this with this
          omega
        refine ⟨_, rfl, .inl ⟨rfl, _, SqL.of' hacc⟩, ?_⟩
        refine ⟨_, rfl, _, rfl, _, rfl, np, _, rfl, .inl (SqL.of' hnp3), ?_⟩
        rw [sVs_len]
        refine ⟨st, tp, a', l.length, rfl, hs', by omega, hlp, fun r H4 hr4 f4 s4 => ?_⟩
        have hnp4 := f4.f _ _ hnp3 (by simp; exact hne)
        refine ⟨np, _, _, .str (l.getD r ""), rfl, rfl, SqL.of' hnp4, strs_nat hr4, by show 2 ≤ sizeLine; decide, fun q hq => ?_⟩
        have e5 : Ex H4 (upd H4 q (.tup [.str (l.getD r ""), .int 1])) := (Ex.refl _).new hq
        have f45 := f4.ex e5
        have hacc5 := f45.f _ _ hacc (by simp; exact Ne.symm hstD)
        refine ⟨D, acc, _, rfl, rfl, hacc5, by rw [sizeLine_eq]; omega, ?_⟩
        obtain ⟨p1, p2, p3, ⟨acc6, p4, p5⟩⟩ := push _ acc ts (l.getD r "", 1) q (a' + 1) (f.trans f45) (f45.f _ _ hm2 (by simp; exact Ne.symm hstm)) (s4.ex e5) hacc5 (al_kp stayTm al f45.k) upd_same
        exact ⟨_, rfl, fin _ acc6 _ _ p1 p3 (by omega) p4 p5 (by simp; omega)⟩
      · exact ⟨_, rfl, fin _ acc ts a' f hs' (by omega) hacc al (by omega)⟩
    · exact ⟨_, rfl, fin _ acc ts a' f hs' (by omega) hacc al (by omega)⟩
end
end Pn
set_option maxHeartbeats 4000000
/-! printed by gen_law4.py: spoilt -/
namespace Pn
open PySem PySem.Spec PyProof.Rows L2
theorem al_drop' {α β : Type} {R : α → β → Prop} {vs : List α} {xs : List β} (h : Al R vs xs) (n : Nat) : Al R (vs.drop n) (xs.drop n) := by
  refine ⟨by simp [h.len], fun j a b ha hb => ?_⟩
  rw [List.getElem?_drop] at ha hb
  exact h.at_ _ a b ha hb
theorem al_rev {α β : Type} {R : α → β → Prop} {vs : List α} {xs : List β} (h : Al R vs xs) : Al R vs.reverse xs.reverse := by
  refine ⟨by simp [h.len], fun j a b ha hb => ?_⟩
  by_cases hj : j < vs.length
  · rw [List.getElem?_reverse hj] at ha
    rw [List.getElem?_reverse (by rw [← h.len]; exact hj), ← h.len] at hb
    exact h.at_ _ a b ha hb
  · rw [List.getElem?_eq_none (by rw [List.length_reverse]; omega)] at ha
    cases ha
theorem al_cut {β : Type} {R : V → β → Prop} {vs : List V} {xs : List β} (h : Al R vs xs) (lo hi : Option Int) : ∃ ys, Al R (cutV vs lo hi) ys ∧ ys.length ≤ xs.length := by
  unfold cutV
  refine ⟨_, (al_drop' h _).take _, ?_⟩
  rw [List.length_take, List.length_drop]
  omega
theorem sl_any {K : PySem.W.Frag} {H : Hp} {a : Addr} {xs : List V} {lo hi : Option Int} {Q : VK} (ha : H a = some (.tup xs)) (q : ∀ p H', Ex H H' → H' p = some (.tup (cutV xs lo hi)) → Q (.ref p) H') : rSlA K (.ref a) lo hi H Q := by
  refine ⟨a, xs, rfl, SqT.of' ha, fun h => q a H (Ex.refl H) ?_, fun _ p hp => q p _ ((Ex.refl H).new hp) upd_same⟩
  unfold cutV
  rw [h.1, h.2, List.drop_zero, Nat.sub_zero, List.take_length]
  exact ha
section
variable {w : World} {K : PySem.W.Frag} {mg : Str → Option Value} {base : Heap}
def spSpoilt (K : PySem.W.Frag) : Sp := fun vs H Q _ => ∃ (s tp : Addr) (a : Nat) (v : V) (ts : List (Str × Int)), vs = [.ref s, v] ∧ IsSt H s tp a ∧ a < 900000 ∧ IsTerms H v ts ∧ ts.length ≤ 5 ∧
  ∀ v ts' a' H', Fr K [s] H H' → IsSt H' s tp a' → a' ≤ a + 2 → IsTerms H' v ts' → ts'.length ≤ 20 → Q v H'

abbrev n_law_spoilt : List Str := ["_law_state", "_law_terms_here", "_law_way"]
theorem sc__law_spoilt : FnScope n_law_spoilt ["_law_state", "_law_terms_here"] (defScope s__law_spoilt) := ⟨rfl, rfl, rfl, by decide +kernel, rfl, by decide +kernel, by decide +kernel⟩
theorem d__law_spoilt_ok (T : Txt K mg) : Def PP w K mg base CX0 "_law_spoilt" (a__law_spoilt K) 3 ["_law_state", "_law_terms_here"] (spSpoilt K) := by
  obtain ⟨fd, F⟩ := T.d__law_spoilt
  refine ⟨⟨fd, ok0 F sc__law_spoilt (fun vs H Q E h => ?_) (fun cdv A outer s H vs Q E hr h => ?_), F.bindsN fun _ _ _ _ _ _ us hl => match us, hl with | [_, _], _ => rfl⟩, T.g__law_spoilt, F.kp⟩
  · obtain ⟨s, tp, a, v, ts, rfl, _⟩ := h
    rfl
  obtain ⟨st, tp, a, _, ts, rfl, hs, ha, ⟨p, vt, rfl, hp, al⟩, hz, k⟩ := h
  have nd := sc__law_spoilt.nd
  refine ⟨_, pss_cons (ps_set (i := 2) nd rfl (Or.inl rfl) (pe_callD (d__law_take_ok T) (hr.mono (by decide)) (pa_cons (pv 0) (pa_cons (pe_int) (pa_nil)))))
      (pss_cons (ps_if (PW.pt (pw_or (pt_cmpR op_eq (pv 2) (pe_int) (nomark _)) (pw_or1 (pt_cmpR op_eq (pe_callB call_len_seq (by rfl) T.f_len boot_len (pa_cons (pv 1) (pa_nil))) (pe_int) (nomark _))))) (pss_one (ps_ret (pe_tup (pa_nil)))) (pss_nil))
      (pss_cons (ps_if (pt_cmpR op_eq (pv 2) (pe_int) (nomark _)) (pss_one (ps_ret (pe_op op_catA (pv 1) (pe_slice sl_tupA (pv 1) po_none (po_some pe_int))))) (pss_nil))
      (pss_cons (ps_if (pt_cmpR op_eq (pv 2) (pe_int) (nomark _)) (pss_one (ps_ret (pe_op op_catA (pe_revT (pv 1)) (pe_tup (pa_cons (pe_tup (pa_cons (pe_str) (pa_cons (pe_int) (pa_nil)))) (pa_nil)))))) (pss_nil))
      (pss_cons (ps_if (pt_cmpR op_eq (pv 2) (pe_int) (nomark _)) (pss_one (ps_ret (pe_op op_catA (pe_tup (pa_cons (pe_tup (pa_cons (pe_ix ix_tup (pe_ix ix_tup (pv 1) (pe_int) (fun _ _ => rfl)) (pe_int) (fun _ _ => rfl)) (pa_cons (pe_ix ix_list (pe_lst (pa_cons (pe_int) (pa_cons (pe_int) (pa_cons (pe_un un_neg pe_int) (pa_nil))))) (pe_callD (d__law_take_ok T) (hr.mono (by decide)) (pa_cons (pv 0) (pa_cons (pe_int) (pa_nil)))) (fun _ _ => rfl)) (pa_nil)))) (pa_nil))) (pe_slice sl_tupA (pv 1) (po_some pe_int) po_none)))) (pss_nil))
      (pss_cons (ps_if (pt_cmpR op_eq (pv 2) (pe_int) (nomark _)) (pss_one (ps_ret (pe_op op_catA (pv 1) (pe_tup (pa_cons (pe_tup (pa_cons (pe_str) (pa_cons (pe_int) (pa_nil)))) (pa_nil)))))) (pss_nil))
      (pss_one (ps_ret (pe_op op_catA (pe_tup (pa_cons (pe_tup (pa_cons (pe_str) (pa_cons (pe_int) (pa_nil)))) (pa_nil))) (pv 1))))))))), ?_⟩
  refine ⟨_, rfl, st, tp, a, 6, rfl, hs, by omega, by decide, fun r H1 hr1 f1 s1 => ?_⟩
  have hp1 := f1.k _ _ hp trivial
  have al1 := al_kp stayTm al f1.k
  have hl := al.len
  -- how it ends
  have fin : ∀ (q : Addr) (H' : Hp) (xs : List V) (ts' : List (Str × Int)) (a' : Nat), Fr K [st] H H' → IsSt H' st tp a' → a' ≤ a + 2 → H' q = some (.tup xs) → Al (IsTerm H') xs ts' → ts'.length ≤ 20 → Q (.ref q) H' := fun q H' xs ts' a' f s2 ha2 hq al2 hz2 => k _ ts' a' H' f s2 ha2 ⟨q, xs, rfl, hq, al2⟩ hz2
  -- a tuple of one written term, in front or behind
  have front : ∀ (x : Str) (n : Int) (H' : Hp) (c : Addr) (xs : List V) (ts' : List (Str × Int)), Ex H1 H' → H' c = some (.tup xs) → Al (IsTerm H') xs ts' → ts'.length ≤ 10 →
      ∀ t1, H' t1 = none → ∀ t2, upd H' t1 (.tup [.str x, .int n]) t2 = none → rCatA K (.ref t2) (.ref c) (upd (upd H' t1 (.tup [.str x, .int n])) t2 (.tup [.ref t1])) Q := fun x n H' c xs ts' e hc al2 hz2 t1 h1 t2 h2 => by
    have e1 : Ex H' (upd H' t1 (.tup [.str x, .int n])) := (Ex.refl _).new h1
    have e2 : Ex (upd H' t1 (.tup [.str x, .int n])) (upd (upd H' t1 (.tup [.str x, .int n])) t2 (.tup [.ref t1])) := (Ex.refl _).new h2
    have hl2 := al2.len
    have hc2 := e2 _ _ (e1 _ _ hc)
    have ht1 := e2 _ _ (upd_same (H := H') (a := t1) (o := .tup [.str x, .int n]))
    refine cat_any (SqT.of' upd_same) (SqT.of' hc2) upd_same hc2 (by show 1 + xs.length ≤ sizeLine; rw [sizeLine_eq]; omega) fun q H'' e3 hq => ?_
    exact fin q H'' _ ((x, n) :: ts') (a + 1) (f1.ex (e.trans (e1.trans (e2.trans e3)))) (s1.ex (e.trans (e1.trans (e2.trans e3)))) (by omega) hq (Al.cons ⟨t1, rfl, e3 _ _ ht1⟩ (al_kp stayTm al2 ((e1.trans (e2.trans e3)).kp (K := K)))) (by simp; omega)
  have behind : ∀ (x : Str) (n : Int) (H' : Hp) (c : Addr) (xs : List V) (ts' : List (Str × Int)), Ex H1 H' → H' c = some (.tup xs) → Al (IsTerm H') xs ts' → ts'.length ≤ 10 →
      ∀ t1, H' t1 = none → ∀ t2, upd H' t1 (.tup [.str x, .int n]) t2 = none → rCatA K (.ref c) (.ref t2) (upd (upd H' t1 (.tup [.str x, .int n])) t2 (.tup [.ref t1])) Q := fun x n H' c xs ts' e hc al2 hz2 t1 h1 t2 h2 => by
    have e1 : Ex H' (upd H' t1 (.tup [.str x, .int n])) := (Ex.refl _).new h1
    have e2 : Ex (upd H' t1 (.tup [.str x, .int n])) (upd (upd H' t1 (.tup [.str x, .int n])) t2 (.tup [.ref t1])) := (Ex.refl _).new h2
    have hl2 := al2.len
    have hc2 := e2 _ _ (e1 _ _ hc)
    have ht1 := e2 _ _ (upd_same (H := H') (a := t1) (o := .tup [.str x, .int n]))
    refine cat_any (SqT.of' hc2) (SqT.of' upd_same) hc2 upd_same (by show xs.length + 1 ≤ sizeLine; rw [sizeLine_eq]; omega) fun q H'' e3 hq => ?_
    exact fin q H'' _ (ts' ++ [(x, n)]) (a + 1) (f1.ex (e.trans (e1.trans (e2.trans e3)))) (s1.ex (e.trans (e1.trans (e2.trans e3)))) (by omega) hq ((al_kp stayTm al2 ((e1.trans (e2.trans e3)).kp (K := K))).append (Al.cons ⟨t1, rfl, e3 _ _ ht1⟩ Al.nil)) (by simp; omega)
  have ans : ([] : List V).length ≤ sizeLine ∧ ∀ q, H1 q = none → Q (.ref q) (upd H1 q (.tup [])) := ⟨by show 0 ≤ sizeLine; decide, fun q hq => fin q _ [] [] (a + 1) (f1.new hq) (s1.ex ((Ex.refl _).new hq)) (by omega) upd_same Al.nil (by simp)⟩
  refine ⟨_, rfl, rfl, _, rfl, ite2 (fun h1 => ?_) (fun h1 => ?_)⟩
  · exact iteT ans
  refine ⟨_, rfl, p, _, rfl, .inr (SqT.of' hp1), rfl, _, rfl, ite2 (fun h2 => ?_) (fun h2 => ?_)⟩
  · exact ans
  have hpos : 0 < vt.length := by
    rcases Nat.eq_zero_or_pos vt.length with z | z
    · exact absurd (by rw [z]; exact decide_eq_true rfl) h2
    · exact z
  refine ⟨_, rfl, rfl, _, rfl, ite2 (fun h3 => ?_) (fun h3 => ?_)⟩
  · refine ⟨_, rfl, _, rfl, 1, rfl, sl_any hp1 fun q H2 e2 hq => ?_⟩
    obtain ⟨ys, al2, hz2⟩ := al_cut (al_kp stayTm al1 (e2.kp (K := K))) none (some 1)
    have hl2 := al2.len
    have hp2 := e2 _ _ hp1
    refine cat_any (SqT.of' hp2) (SqT.of' hq) hp2 hq (by rw [sizeLine_eq]; omega) fun q3 H3 e3 hq3 => ?_
    exact fin q3 H3 _ (ts ++ ys) (a + 1) (f1.ex (e2.trans e3)) (s1.ex (e2.trans e3)) (by omega) hq3 ((al_kp stayTm al1 ((e2.trans e3).kp (K := K))).append (al_kp stayTm al2 (e3.kp (K := K)))) (by simp; omega)
  refine ⟨_, rfl, rfl, _, rfl, ite2 (fun h4 => ?_) (fun h4 => ?_)⟩
  · refine ⟨_, rfl, p, vt, rfl, SqT.of' hp1, fun q hq => ?_⟩
    have e2 : Ex H1 (upd H1 q (.tup vt.reverse)) := (Ex.refl _).new hq
    refine ⟨by show 2 ≤ sizeLine; decide, fun t1 ht1 => ⟨by show 1 ≤ sizeLine; decide, fun t2 ht2 => ?_⟩⟩
    exact behind "A" 1 _ q _ ts.reverse e2 upd_same (al_rev (al_kp stayTm al1 (e2.kp (K := K)))) (by rw [List.length_reverse]; omega) t1 ht1 t2 ht2
  refine ⟨_, rfl, rfl, _, rfl, ite2 (fun h5 => ?_) (fun h5 => ?_)⟩
  · obtain ⟨t, ht⟩ : ∃ t, ts[0]? = some t := ⟨ts[0]'(by omega), List.getElem?_eq_getElem (by omega)⟩
    obtain ⟨v0, hv0, q0, rfl, hq0⟩ := al1.get' ht
    refine ⟨_, rfl, p, vt, _, .ref q0, rfl, rfl, SqT.of' hp1, atI_nat hv0, q0, _, _, .str t.1, rfl, rfl, SqT.of' hq0, rfl, ?_⟩
    refine ⟨10, rfl, by show 3 ≤ sizeLine; decide, fun cp hcp => ?_⟩
    have e2 : Ex H1 (upd H1 cp (.lst ([.int 0, .int 10, .int (-10)] : List V))) := (Ex.refl _).new hcp
    have cpst : cp ≠ st := fun z => by rw [z, s1.s] at hcp; cases hcp
    refine ⟨_, rfl, st, tp, a + 1, 3, rfl, s1.ex e2, by omega, by decide, fun r3 H3 hr3 f3 s3 => ?_⟩
    have hc3 := f3.f cp _ upd_same (by simp; exact cpst)
    have f13 := (e2.fr (K := K) (W := [st])).trans f3
    refine ⟨cp, _, _, .int (([0, 10, -10] : List Int).getD r3 0), rfl, rfl, SqL.of' hc3, ints_at (cs := [0, 10, -10]) (by show r3 < 3; exact hr3), by show 2 ≤ sizeLine; decide, fun t1 ht1 => ⟨by show 1 ≤ sizeLine; decide, fun t2 ht2 => ?_⟩⟩
    have e4 : Ex H3 (upd H3 t1 (.tup [.str t.1, .int (([0, 10, -10] : List Int).getD r3 0)])) := (Ex.refl _).new ht1
    have e5 : Ex (upd H3 t1 (.tup [.str t.1, .int (([0, 10, -10] : List Int).getD r3 0)])) (upd (upd H3 t1 (.tup [.str t.1, .int (([0, 10, -10] : List Int).getD r3 0)])) t2 (.tup [.ref t1])) := (Ex.refl _).new ht2
    have f15 := (f13.ex e4).ex e5
    have hp5 := f15.k _ _ hp1 trivial
    refine ⟨_, rfl, 1, rfl, ?_⟩
    show tNoPart _ _ _
    unfold tNoPart
    refine sl_any (K := K) (lo := some 1) (hi := none) hp5 fun q H6 e6 hq => ?_
    obtain ⟨ys, al2, hz2⟩ := al_cut (al_kp stayTm al1 (f15.k.trans (e6.kp (K := K)))) (some 1) none
    have hl2 := al2.len
    have ht26 := e6 _ _ (upd_same (H := upd H3 t1 (.tup [.str t.1, .int (([0, 10, -10] : List Int).getD r3 0)])) (a := t2) (o := .tup [.ref t1]))
    have ht16 := e6 _ _ (e5 _ _ (upd_same (H := H3) (a := t1) (o := .tup [.str t.1, .int (([0, 10, -10] : List Int).getD r3 0)])))
    refine cat_any (SqT.of' ht26) (SqT.of' hq) ht26 hq (by rw [sizeLine_eq]; show 1 + _ ≤ _; omega) fun q7 H7 e7 hq7 => ?_
    exact fin q7 H7 _ ((t.1, ([0, 10, -10] : List Int).getD r3 0) :: ys) (a + 1 + 1) ((f1.trans f15).ex (e6.trans e7)) (s3.ex (e4.trans (e5.trans (e6.trans e7)))) (by omega) hq7 (Al.cons ⟨t1, rfl, e7 _ _ ht16⟩ (al_kp stayTm al2 (e7.kp (K := K)))) (by simp; omega)
  refine ⟨_, rfl, rfl, _, rfl, ite2 (fun h6 => ?_) (fun h6 => ?_)⟩
  · refine ⟨_, rfl, by show 2 ≤ sizeLine; decide, fun t1 ht1 => ⟨by show 1 ≤ sizeLine; decide, fun t2 ht2 => ?_⟩⟩
    exact behind "zz" 1 _ p _ ts (Ex.refl _) hp1 al1 (by omega) t1 ht1 t2 ht2
  · refine ⟨by show 2 ≤ sizeLine; decide, fun t1 ht1 => ⟨by show 1 ≤ sizeLine; decide, fun t2 ht2 => ⟨_, rfl, ?_⟩⟩⟩
    exact front "0" 2 _ p _ ts (Ex.refl _) hp1 al1 (by omega) t1 ht1 t2 ht2
end
end Pn
set_option maxHeartbeats 4000000
/-! printed by gen_law5.py: deed, deed_of -/
namespace Pn
open PySem PySem.Spec PyProof.Rows L2
/-- a drawn deed, its numbers pairs yet -/
inductive Rw where
  | reading (m : Str) (ts : List (Str × Int)) (t b t2 b2 : Int)
  | three (wd n : Str) (t b : Int)
  | two (wd n : Str)
def NumOk (t b : Int) : Prop := t.natAbs < 2 ^ 30 ∧ 0 < b ∧ b < 2 ^ 20
def WtOk (t b : Int) : Prop := t.natAbs ≤ 6 ∧ 0 < b ∧ b ≤ 3
def RwOk : Rw → Prop
  | .reading _ ts t b t2 b2 => ts.length ≤ 1000 ∧ NumOk t b ∧ WtOk t2 b2
  | .three wd _ t b => ((wd = "point" ∨ wd = "approximation" ∨ wd = "value") ∧ NumOk t b) ∨ (wd = "weight" ∧ WtOk t b)
  | .two wd _ => wd = "withdraw" ∨ wd = "remove"
def IsRw (H : Hp) (v : V) : Rw → Prop
  | .reading m ts t b t2 b2 => ∃ p vt v1 v2, v = .ref p ∧ H p = some (.tup [.str "reading", .str m, vt, v1, v2]) ∧ IsTerms H vt ts ∧ IsPr H v1 t b ∧ IsPr H v2 t2 b2
  | .three wd n t b => ∃ p v1, v = .ref p ∧ H p = some (.tup [.str wd, .str n, v1]) ∧ IsPr H v1 t b
  | .two wd n => ∃ p, v = .ref p ∧ H p = some (.tup [.str wd, .str n])
def words1 : List Str := ["point", "reading", "reading", "reading", "approximation"]
def words2 : List Str := ["value", "weight", "withdraw", "remove", "point"]
def wordsL : List Str := words1 ++ words2
def marksL : List Str := ["r", "s", "t2", "u", "A", "w", "v7"]
theorem nmS {a b : TS} {D : Ends} {i : Nat} {v : V} {σ : L2.St} {H : Hp} (h : tSeq a b D (σ.set i (some v)) H) : gName i v σ H (tSeq a b D) := h
theorem tseq {a b : TS} {D : Ends} {σ : L2.St} {H : Hp} (P : L2.St → Hp → Prop) (hb : ∀ σ' H', P σ' H' → b D σ' H') (ha : ∀ N : L2.St → Hp → Prop, (∀ σ' H', P σ' H' → N σ' H') → a { D with nx := N } σ H) : tSeq a b D σ H := ha _ hb
section
variable {w : World} {K : PySem.W.Frag} {mg : Str → Option Value} {base : Heap}
def spDeed (K : PySem.W.Frag) : Sp := fun vs H Q _ => ∃ (s tp np qp : Addr) (a : Nat) (l m : List Str), vs = [.ref s, .ref np, .ref qp] ∧ IsSt H s tp a ∧ a < 800000 ∧ H np = some (.lst (sVs l)) ∧ H qp = some (.lst (sVs m)) ∧ np ≠ s ∧ qp ≠ s ∧ l.length ≤ 1000 ∧ m.length ≤ 1000 ∧
  ∀ v d a' H', Fr K [s] H H' → IsSt H' s tp a' → a' ≤ a + 60 → IsRw H' v d → RwOk d → Q v H'

abbrev n_law_deed : List Str := ["_law_state", "_law_names", "_law_marks", "_law_words", "_law_word", "_law_name", "_law_mark", "_law_number_here", "_law_weight_here", "_law_terms_here"]
theorem sc__law_deed : FnScope n_law_deed ["_law_state", "_law_names", "_law_marks"] (defScope s__law_deed) := ⟨rfl, rfl, rfl, by decide +kernel, rfl, by decide +kernel, by decide +kernel⟩
theorem d__law_deed_ok (T : Txt K mg) : Def PP w K mg base CX0 "_law_deed" (a__law_deed K) 4 ["_law_state", "_law_names", "_law_marks"] (spDeed K) := by
  obtain ⟨fd, F⟩ := T.d__law_deed
  refine ⟨⟨fd, ok0 F sc__law_deed (fun vs H Q E h => ?_) (fun cdv A outer s H vs Q E hr h => ?_), F.bindsN fun _ _ _ _ _ _ us hl => match us, hl with | [_, _, _], _ => rfl⟩, T.g__law_deed, F.kp⟩
  · obtain ⟨s, tp, np, qp, a, l, m, rfl, _⟩ := h
    rfl
  obtain ⟨st, tp, np, qp, a, l, m, rfl, hs, ha, hnp, hqp, hne, hne2, hl, hm, k⟩ := h
  have nd := sc__law_deed.nd
  refine ⟨_, pss_cons (ps_set (i := 3) nd rfl (Or.inl rfl) (pe_lst (pa_cons (pe_str) (pa_cons (pe_str) (pa_cons (pe_str) (pa_cons (pe_str) (pa_cons (pe_str) (pa_cons (pe_str) (pa_cons (pe_str) (pa_cons (pe_str) (pa_cons (pe_str) (pa_cons (pe_str) (pa_nil)))))))))))))
      (pss_cons (ps_set (i := 4) nd rfl (Or.inl rfl) (pe_ix ix_list (pv 3) (pe_callD (d__law_take_ok T) (hr.mono (by decide)) (pa_cons (pv 0) (pa_cons (pe_int) (pa_nil)))) (fun _ _ => rfl)))
      (pss_cons (ps_set (i := 5) nd rfl (Or.inl rfl) (pe_ix ix_list (pe_callD0 (d__law_menu_ok T) (hr.mono (by decide))) (pe_callD (d__law_take_ok T) (hr.mono (by decide)) (pa_cons (pv 0) (pa_cons (pe_int) (pa_nil)))) (fun _ _ => rfl)))
      (pss_cons (ps_if (PW.pt (pw_and (pt_cmpR op_gt (pe_callB call_len_seq (by rfl) T.f_len boot_len (pa_cons (pv 1) (pa_nil))) (pe_int) (nomark _)) (pw_and (pt_cmpR op_gt (pe_callD (d__law_take_ok T) (hr.mono (by decide)) (pa_cons (pv 0) (pa_cons (pe_int) (pa_nil)))) (pe_int) (nomark _)) (pw_and1 (pt_cmpR op_ne (pv 4) (pe_str) (nomark _)))))) (pss_one (ps_set (i := 5) nd rfl (Or.inl rfl) (pe_ix ix_list (pv 1) (pe_callD (d__law_take_ok T) (hr.mono (by decide)) (pa_cons (pv 0) (pa_cons (pe_callB call_len_seq (by rfl) T.f_len boot_len (pa_cons (pv 1) (pa_nil))) (pa_nil)))) (fun _ _ => rfl)))) (pss_nil))
      (pss_cons (ps_set (i := 6) nd rfl (Or.inl rfl) (pe_ix ix_list (pe_lst (pa_cons (pe_str) (pa_cons (pe_str) (pa_cons (pe_str) (pa_cons (pe_str) (pa_cons (pe_str) (pa_cons (pe_str) (pa_cons (pe_str) (pa_nil))))))))) (pe_callD (d__law_take_ok T) (hr.mono (by decide)) (pa_cons (pv 0) (pa_cons (pe_int) (pa_nil)))) (fun _ _ => rfl)))
      (pss_cons (ps_if (PW.pt (pw_and (pt_cmpR op_gt (pe_callB call_len_seq (by rfl) T.f_len boot_len (pa_cons (pv 2) (pa_nil))) (pe_int) (nomark _)) (pw_and (pt_cmpR op_gt (pe_callD (d__law_take_ok T) (hr.mono (by decide)) (pa_cons (pv 0) (pa_cons (pe_int) (pa_nil)))) (pe_int) (nomark _)) (pw_and1 (pt_cmpR op_ne (pv 4) (pe_str) (nomark _)))))) (pss_one (ps_set (i := 6) nd rfl (Or.inl rfl) (pe_ix ix_list (pv 2) (pe_callD (d__law_take_ok T) (hr.mono (by decide)) (pa_cons (pv 0) (pa_cons (pe_callB call_len_seq (by rfl) T.f_len boot_len (pa_cons (pv 2) (pa_nil))) (pa_nil)))) (fun _ _ => rfl)))) (pss_nil))
      (pss_cons (ps_set (i := 7) nd rfl (Or.inl rfl) (pe_callD (d__law_number_ok T) hr (pa_cons (pv 0) (pa_nil))))
      (pss_cons (ps_set (i := 8) nd rfl (Or.inl rfl) (pe_callD (d__law_weight_ok T) hr (pa_cons (pv 0) (pa_nil))))
      (pss_cons (ps_if (pt_cmpR op_eq (pe_callD (d__law_take_ok T) (hr.mono (by decide)) (pa_cons (pv 0) (pa_cons (pe_int) (pa_nil)))) (pe_int) (nomark _)) (pss_one (ps_set (i := 8) nd rfl (Or.inl rfl) (pe_tup (pa_cons (pe_op op_sub (pe_int) (pe_callD (d__law_take_ok T) (hr.mono (by decide)) (pa_cons (pv 0) (pa_cons (pe_int) (pa_nil))))) (pa_cons (pe_int) (pa_nil)))))) (pss_nil))
      (pss_cons (ps_if (pt_cmpR op_eq (pv 4) (pe_str) (nomark _)) (pss_cons (ps_set (i := 9) nd rfl (Or.inl rfl) (pe_callD (d__law_terms_ok T) hr (pa_cons (pv 0) (pa_cons (pv 1) (pa_nil)))))
      (pss_cons (ps_if (pt_cmpR op_eq (pe_callD (d__law_take_ok T) (hr.mono (by decide)) (pa_cons (pv 0) (pa_cons (pe_int) (pa_nil)))) (pe_int) (nomark _)) (pss_one (ps_set (i := 9) nd rfl (Or.inl rfl) (pe_callD (d__law_spoilt_ok T) hr (pa_cons (pv 0) (pa_cons (pv 9) (pa_nil)))))) (pss_nil))
      (pss_one (ps_ret (pe_tup (pa_cons (pv 4) (pa_cons (pv 6) (pa_cons (pv 9) (pa_cons (pv 7) (pa_cons (pv 8) (pa_nil))))))))))) (pss_nil))
      (pss_cons (ps_if (PW.pt (pw_or (pt_cmpR op_eq (pv 4) (pe_str) (nomark _)) (pw_or1 (pt_cmpR op_eq (pv 4) (pe_str) (nomark _))))) (pss_one (ps_ret (pe_tup (pa_cons (pv 4) (pa_cons (pv 5) (pa_cons (pv 7) (pa_nil))))))) (pss_nil))
      (pss_cons (ps_if (pt_cmpR op_eq (pv 4) (pe_str) (nomark _)) (pss_one (ps_ret (pe_tup (pa_cons (pv 4) (pa_cons (pv 6) (pa_cons (pv 7) (pa_nil))))))) (pss_nil))
      (pss_cons (ps_if (pt_cmpR op_eq (pv 4) (pe_str) (nomark _)) (pss_one (ps_ret (pe_tup (pa_cons (pv 4) (pa_cons (pv 6) (pa_cons (pv 8) (pa_nil))))))) (pss_nil))
      (pss_cons (ps_if (pt_cmpR op_eq (pv 4) (pe_str) (nomark _)) (pss_one (ps_ret (pe_tup (pa_cons (pv 4) (pa_cons (pv 6) (pa_nil)))))) (pss_nil))
      (pss_one (ps_ret (pe_tup (pa_cons (pv 4) (pa_cons (pv 5) (pa_nil))))))))))))))))))), ?_⟩
  refine ⟨by show 10 ≤ sizeLine; decide, fun cp hcp => ?_⟩
  have e1 : Ex H (upd H cp (.lst (sVs wordsL))) := (Ex.refl H).new hcp
  have cpst : cp ≠ st := fun z => by rw [z, hs.s] at hcp; cases hcp
  refine ⟨_, rfl, _, rfl, st, tp, a, 10, rfl, hs.ex e1, by omega, by decide, fun r1 H2 hr1 f2 s2 => ?_⟩
  have hc2 : H2 cp = some (.lst (sVs wordsL)) := f2.f cp _ upd_same (by simp; exact cpst)
  have f02 := (e1.fr (K := K) (W := [st])).trans f2
  refine ⟨cp, _, _, .str (wordsL.getD r1 ""), rfl, rfl, SqL.of' hc2, strs_nat (by show r1 < 10; exact hr1), ?_⟩
  refine ⟨rfl, fun mp H3 hmp e3 hm3 => ?_⟩
  have f03 := f02.ex e3
  have s3 := s2.ex e3
  have mpst : mp ≠ st := fun z => by rw [z, s2.s] at hmp; cases hmp
  refine ⟨_, rfl, st, tp, a + 1, 13, rfl, s3, by omega, by decide, fun r2 H4 hr2 f4 s4 => ?_⟩
  have hm4 := f4.f _ _ hm3 (by simp; exact mpst)
  have f04 := f03.trans f4
  refine ⟨mp, _, _, .str (menuL.getD r2 ""), rfl, rfl, SqL.of' hm4, strs_nat (by show r2 < 13; exact hr2), ?_⟩
  obtain ⟨wd, ewd, hwd⟩ : ∃ wd, wordsL.getD r1 "" = wd ∧ wd ∈ wordsL := ⟨_, rfl, by
    rw [List.getD_eq_getElem?_getD, List.getElem?_eq_getElem (by show r1 < 10; exact hr1)]
    exact List.getElem_mem _⟩
  rw [ewd]
  have snp : np ∉ [st] := by simp; exact hne
  have sqp : qp ∉ [st] := by simp; exact hne2
  dsimp only [gName]
  refine (tseq (fun σ' H' => ∃ nm a', σ' = [some (.ref st), some (.ref np), some (.ref qp), some (.ref cp), some (.str wd), some (.str nm), none, none, none, none] ∧ Fr K [st] H H' ∧ IsSt H' st tp a' ∧ a' ≤ a + 4) ?_ (fun N hk => ?_))
  rotate_left
  · have hnp4 := f04.f _ _ hnp snp
    refine ⟨_, rfl, np, _, rfl, .inl (SqL.of' hnp4), _, _, rfl, rfl, _, rfl, ite2 (fun h1 => ?_) (fun h1 => hk _ _ ⟨_, _, rfl, f04, s4, by omega⟩)⟩
    have hlp : 0 < l.length := by
      have := of_decide_eq_true h1
      rw [sVs_len] at this
      omega
    refine ⟨_, rfl, st, tp, a + 1 + 1, 3, rfl, s4, by omega, by decide, fun r5 H5 hr5 f5 s5 => ?_⟩
    have f05 := f04.trans f5
    refine ⟨_, _, rfl, rfl, _, rfl, ite2 (fun h2 => ?_) (fun h2 => hk _ _ ⟨_, _, rfl, f05, s5, by omega⟩)⟩
    refine ⟨_, rfl, rfl, _, rfl, ite2 (fun h3 => ?_) (fun h3 => hk _ _ ⟨_, _, rfl, f05, s5, by omega⟩)⟩
    have hnp5 := f05.f _ _ hnp snp
    refine ⟨_, rfl, _, rfl, _, rfl, np, _, rfl, .inl (SqL.of' hnp5), ?_⟩
    rw [sVs_len]
    refine ⟨st, tp, _, l.length, rfl, s5, by omega, hlp, fun r6 H6 hr6 f6 s6 => ?_⟩
    have f06 := f05.trans f6
    exact ⟨np, _, _, .str (l.getD r6 ""), rfl, rfl, SqL.of' (f06.f _ _ hnp snp), strs_nat hr6, hk _ _ ⟨_, _, rfl, f06, s6, by omega⟩⟩
  rintro σ5 H5 ⟨nm, a5, rfl, f5, s5, ha5⟩
  refine ⟨by show 7 ≤ sizeLine; decide, fun kp hkp => ?_⟩
  have e6 : Ex H5 (upd H5 kp (.lst (sVs marksL))) := (Ex.refl _).new hkp
  have kpst : kp ≠ st := fun z => by rw [z, s5.s] at hkp; cases hkp
  refine ⟨_, rfl, st, tp, a5, 7, rfl, s5.ex e6, by omega, by decide, fun r7 H7 hr7 f7 s7 => ?_⟩
  have hk7 : H7 kp = some (.lst (sVs marksL)) := f7.f kp _ upd_same (by simp; exact kpst)
  have f07 := (f5.ex e6).trans f7
  refine ⟨kp, _, _, .str (marksL.getD r7 ""), rfl, rfl, SqL.of' hk7, strs_nat (by show r7 < 7; exact hr7), ?_⟩
  dsimp only [gName]
  refine (tseq (fun σ' H' => ∃ mk a', σ' = [some (.ref st), some (.ref np), some (.ref qp), some (.ref cp), some (.str wd), some (.str nm), some (.str mk), none, none, none] ∧ Fr K [st] H H' ∧ IsSt H' st tp a' ∧ a' ≤ a + 7) ?_ (fun N hk => ?_))
  rotate_left
  · have hqp4 := f07.f _ _ hqp sqp
    refine ⟨_, rfl, qp, _, rfl, .inl (SqL.of' hqp4), _, _, rfl, rfl, _, rfl, ite2 (fun h1 => ?_) (fun h1 => hk _ _ ⟨_, _, rfl, f07, s7, by omega⟩)⟩
    have hlp : 0 < m.length := by
      have := of_decide_eq_true h1
      rw [sVs_len] at this
      omega
    refine ⟨_, rfl, st, tp, a5 + 1, 3, rfl, s7, by omega, by decide, fun r8 H8 hr8 f8 s8 => ?_⟩
    have f08 := f07.trans f8
    refine ⟨_, _, rfl, rfl, _, rfl, ite2 (fun h2 => ?_) (fun h2 => hk _ _ ⟨_, _, rfl, f08, s8, by omega⟩)⟩
    refine ⟨_, rfl, rfl, _, rfl, ite2 (fun h3 => ?_) (fun h3 => hk _ _ ⟨_, _, rfl, f08, s8, by omega⟩)⟩
    have hqp5 := f08.f _ _ hqp sqp
    refine ⟨_, rfl, _, rfl, _, rfl, qp, _, rfl, .inl (SqL.of' hqp5), ?_⟩
    rw [sVs_len]
    refine ⟨st, tp, _, m.length, rfl, s8, by omega, hlp, fun r6 H6 hr6 f6 s6 => ?_⟩
    have f06 := f08.trans f6
    exact ⟨qp, _, _, .str (m.getD r6 ""), rfl, rfl, SqL.of' (f06.f _ _ hqp sqp), strs_nat hr6, hk _ _ ⟨_, _, rfl, f06, s6, by omega⟩⟩
  rintro σ8 H8 ⟨mk, a8, rfl, f8, s8, ha8⟩
  refine ⟨_, rfl, st, tp, a8, rfl, s8, by omega, fun vn t b a9 H9 f9 s9 ha9 pn okn => ?_⟩
  refine ⟨_, rfl, st, tp, a9, rfl, s9, by omega, fun vw t2 b2 a10 H10 f10 s10 ha10 pw okw => ?_⟩
  have f010 := f8.trans (f9.trans f10)
  dsimp only [gName]
  refine (tseq (fun σ' H' => ∃ vw t2 b2 a', σ' = [some (.ref st), some (.ref np), some (.ref qp), some (.ref cp), some (.str wd), some (.str nm), some (.str mk), some vn, some vw, none] ∧ Fr K [st] H H' ∧ IsSt H' st tp a' ∧ a' ≤ a + 17 ∧ IsPr H' vn t b ∧ IsPr H' vw t2 b2 ∧ WtOk t2 b2) ?_ (fun N hk => ?_))
  rotate_left
  · refine ⟨_, rfl, st, tp, a10, 9, rfl, s10, by omega, by decide, fun r11 H11 hr11 f11 s11 => ?_⟩
    have p11 := pn.kp (f10.k.trans f11.k)
    refine ⟨rfl, _, rfl, ite2 (fun h1 => ?_) (fun h1 => hk _ _ ⟨_, t2, b2, _, rfl, f010.trans f11, s11, by omega, p11, pw.kp f11.k, okw⟩)⟩
    refine ⟨_, rfl, st, tp, a10 + 1, 3, rfl, s11, by omega, by decide, fun r12 H12 hr12 f12 s12 => ?_⟩
    refine ⟨_, _, rfl, rfl, by show 2 ≤ sizeLine; decide, fun q hq => ?_⟩
    have e13 : Ex H12 (upd H12 q (.tup [.int (0 - (r12 : Int)), .int 1])) := (Ex.refl _).new hq
    exact hk _ _ ⟨_, 0 - (r12 : Int), 1, _, rfl, ((f010.trans f11).trans f12).ex e13, s12.ex e13, by omega, p11.kp (f12.k.trans (e13.kp (K := K))), ⟨q, rfl, upd_same⟩, ⟨by omega, by omega, by omega⟩⟩
  rintro σ13 H13 ⟨vw, t2, b2, a13, rfl, f13, s13, ha13, p13, q13, w13⟩
  have w1 : ¬ ("point" : Str) = "reading" := by decide +kernel
  have w2 : ¬ ("approximation" : Str) = "reading" := by decide +kernel
  have w3 : ¬ ("approximation" : Str) = "point" := by decide +kernel
  have w4 : ¬ ("value" : Str) = "reading" := by decide +kernel
  have w5 : ¬ ("value" : Str) = "point" := by decide +kernel
  have w6 : ¬ ("value" : Str) = "approximation" := by decide +kernel
  have w7 : ¬ ("weight" : Str) = "reading" := by decide +kernel
  have w8 : ¬ ("weight" : Str) = "point" := by decide +kernel
  have w9 : ¬ ("weight" : Str) = "approximation" := by decide +kernel
  have w10 : ¬ ("weight" : Str) = "value" := by decide +kernel
  have w11 : ¬ ("withdraw" : Str) = "reading" := by decide +kernel
  have w12 : ¬ ("withdraw" : Str) = "point" := by decide +kernel
  have w13' : ¬ ("withdraw" : Str) = "approximation" := by decide +kernel
  have w14 : ¬ ("withdraw" : Str) = "value" := by decide +kernel
  have w15 : ¬ ("withdraw" : Str) = "weight" := by decide +kernel
  have w16 : ¬ ("remove" : Str) = "reading" := by decide +kernel
  have w17 : ¬ ("remove" : Str) = "point" := by decide +kernel
  have w18 : ¬ ("remove" : Str) = "approximation" := by decide +kernel
  have w19 : ¬ ("remove" : Str) = "value" := by decide +kernel
  have w20 : ¬ ("remove" : Str) = "weight" := by decide +kernel
  have w21 : ¬ ("remove" : Str) = "withdraw" := by decide +kernel
  have three : ∀ (wd n : Str) (v : V) (t b : Int), IsPr H13 v t b → RwOk (.three wd n t b) → 3 ≤ sizeLine ∧ ∀ q, H13 q = none → Q (.ref q) (upd H13 q (.tup [.str wd, .str n, v])) := fun wd n v t b hp hr => ⟨by decide, fun q hq => by
    have e : Ex H13 (upd H13 q (.tup [.str wd, .str n, v])) := (Ex.refl _).new hq
    exact k _ (.three wd n t b) a13 _ (f13.ex e) (s13.ex e) (by omega) ⟨q, v, rfl, upd_same, hp.kp (e.kp (K := K))⟩ hr⟩
  have two : ∀ (wd n : Str), RwOk (.two wd n) → 2 ≤ sizeLine ∧ ∀ q, H13 q = none → Q (.ref q) (upd H13 q (.tup [.str wd, .str n])) := fun wd n hr => ⟨by decide, fun q hq => by
    have e : Ex H13 (upd H13 q (.tup [.str wd, .str n])) := (Ex.refl _).new hq
    exact k _ (.two wd n) a13 _ (f13.ex e) (s13.ex e) (by omega) ⟨q, rfl, upd_same⟩ hr⟩
  have hcases : wd = "reading" ∨ wd = "point" ∨ wd = "approximation" ∨ wd = "value" ∨ wd = "weight" ∨ wd = "withdraw" ∨ wd = "remove" := by
    have h : wd ∈ (["point", "reading", "reading", "reading", "approximation"] : List Str) ++ (["value", "weight", "withdraw", "remove", "point"] : List Str) := hwd
    simp only [List.mem_append, List.mem_cons, List.not_mem_nil, or_false] at h
    rcases h with (h | h | h | h | h) | (h | h | h | h | h) <;> simp [h]
  rcases hcases with rfl | rfl | rfl | rfl | rfl | rfl | rfl
  · refine ⟨_, rfl, rfl, _, rfl, ?_⟩
    rw [weq]
    refine iteT ?_
    refine ⟨_, rfl, _, rfl, st, tp, np, a13, l, rfl, s13, by omega, f13.f _ _ hnp snp, hne, hl, fun vt ts a14 H14 f14 s14 ha14 ht htl => ?_⟩
    have f014 := f13.trans f14
    dsimp only [gName]
    refine (tseq (fun σ' H' => ∃ vt ts a', σ' = [some (.ref st), some (.ref np), some (.ref qp), some (.ref cp), some (.str "reading"), some (.str nm), some (.str mk), some vn, some vw, some vt] ∧ Fr K [st] H H' ∧ IsSt H' st tp a' ∧ a' ≤ a + 60 ∧ IsPr H' vn t b ∧ IsPr H' vw t2 b2 ∧ IsTerms H' vt ts ∧ ts.length ≤ 20) ?_ (fun N hk => ?_))
    rotate_left
    · refine ⟨_, rfl, st, tp, a14, 6, rfl, s14, by omega, by decide, fun r15 H15 hr15 f15 s15 => ?_⟩
      have f015 := f014.trans f15
      have ht15 := stayTms _ _ _ _ f15.k ht
      refine ⟨rfl, _, rfl, ite2 (fun h1 => ?_) (fun h1 => hk _ _ ⟨_, ts, _, rfl, f015, s15, by omega, p13.kp (f14.k.trans f15.k), q13.kp (f14.k.trans f15.k), ht15, by omega⟩)⟩
      refine ⟨_, rfl, _, rfl, st, tp, a14 + 1, vt, ts, rfl, s15, by omega, ht15, htl, fun v2 ts2 a16 H16 f16 s16 ha16 ht16 hz16 => ?_⟩
      exact hk _ _ ⟨_, ts2, _, rfl, f015.trans f16, s16, by omega, p13.kp (f14.k.trans (f15.k.trans f16.k)), q13.kp (f14.k.trans (f15.k.trans f16.k)), ht16, hz16⟩
    rintro σ17 H17 ⟨vt', ts', a17, rfl, f17, s17, ha17, p17, q17, ht17, hz17⟩
    refine ⟨_, rfl, _, rfl, _, rfl, _, rfl, _, rfl, by show 5 ≤ sizeLine; decide, fun q hq => ?_⟩
    have e : Ex H17 (upd H17 q (.tup [.str "reading", .str mk, vt', vn, vw])) := (Ex.refl _).new hq
    exact k _ (.reading mk ts' t b t2 b2) a17 _ (f17.ex e) (s17.ex e) (by omega) ⟨q, vt', vn, vw, rfl, upd_same, stayTms _ _ _ _ (e.kp (K := K)) ht17, p17.kp (e.kp (K := K)), q17.kp (e.kp (K := K))⟩ ⟨by omega, okn, w13⟩
  · refine ⟨_, rfl, rfl, _, rfl, ?_⟩
    rw [wne w1]
    refine iteF ⟨_, rfl, rfl, _, rfl, ?_⟩
    rw [weq]
    have := three "point" nm vn t b p13 (.inl ⟨.inl rfl, okn⟩)
    exact iteT (iteT ⟨_, rfl, _, rfl, _, rfl, this⟩)
  · refine ⟨_, rfl, rfl, _, rfl, ?_⟩
    rw [wne w2]
    refine iteF ⟨_, rfl, rfl, _, rfl, ?_⟩
    rw [wne w3]
    refine iteF ⟨_, rfl, rfl, _, rfl, ?_⟩
    rw [weq]
    have := three "approximation" nm vn t b p13 (.inl ⟨.inr (.inl rfl), okn⟩)
    exact iteT ⟨_, rfl, _, rfl, _, rfl, this⟩
  · refine ⟨_, rfl, rfl, _, rfl, ?_⟩
    rw [wne w4]
    refine iteF ⟨_, rfl, rfl, _, rfl, ?_⟩
    rw [wne w5]
    refine iteF ⟨_, rfl, rfl, _, rfl, ?_⟩
    rw [wne w6]
    refine iteF ⟨_, rfl, rfl, _, rfl, ?_⟩
    rw [weq]
    have := three "value" mk vn t b p13 (.inl ⟨.inr (.inr rfl), okn⟩)
    exact iteT ⟨_, rfl, _, rfl, _, rfl, this⟩
  · refine ⟨_, rfl, rfl, _, rfl, ?_⟩
    rw [wne w7]
    refine iteF ⟨_, rfl, rfl, _, rfl, ?_⟩
    rw [wne w8]
    refine iteF ⟨_, rfl, rfl, _, rfl, ?_⟩
    rw [wne w9]
    refine iteF ⟨_, rfl, rfl, _, rfl, ?_⟩
    rw [wne w10]
    refine iteF ⟨_, rfl, rfl, _, rfl, ?_⟩
    rw [weq]
    have := three "weight" mk vw t2 b2 q13 (.inr ⟨rfl, w13⟩)
    exact iteT ⟨_, rfl, _, rfl, _, rfl, this⟩
  · refine ⟨_, rfl, rfl, _, rfl, ?_⟩
    rw [wne w11]
    refine iteF ⟨_, rfl, rfl, _, rfl, ?_⟩
    rw [wne w12]
    refine iteF ⟨_, rfl, rfl, _, rfl, ?_⟩
    rw [wne w13']
    refine iteF ⟨_, rfl, rfl, _, rfl, ?_⟩
    rw [wne w14]
    refine iteF ⟨_, rfl, rfl, _, rfl, ?_⟩
    rw [wne w15]
    refine iteF ⟨_, rfl, rfl, _, rfl, ?_⟩
    rw [weq]
    have := two "withdraw" mk (.inl rfl)
    exact iteT ⟨_, rfl, _, rfl, this⟩
  · refine ⟨_, rfl, rfl, _, rfl, ?_⟩
    rw [wne w16]
    refine iteF ⟨_, rfl, rfl, _, rfl, ?_⟩
    rw [wne w17]
    refine iteF ⟨_, rfl, rfl, _, rfl, ?_⟩
    rw [wne w18]
    refine iteF ⟨_, rfl, rfl, _, rfl, ?_⟩
    rw [wne w19]
    refine iteF ⟨_, rfl, rfl, _, rfl, ?_⟩
    rw [wne w20]
    refine iteF ⟨_, rfl, rfl, _, rfl, ?_⟩
    rw [wne w21]
    have := two "remove" nm (.inr rfl)
    exact iteF ⟨_, rfl, _, rfl, this⟩
end
end Pn
set_option maxHeartbeats 4000000
/-! printed by gen_law6.py: deed_of -/
namespace Pn
open PySem PySem.Spec PyProof.Rows L2
theorem made_num {t b : Int} (hb : 0 < b) : (Rat.divInt t b).num.natAbs ≤ t.natAbs ∧ (Rat.divInt t b).den ≤ b.toNat := by
  have h : Cn b.toNat t.natAbs (Rat.divInt t b) := by
    refine ⟨t, ?_, Nat.le_refl _⟩
    have e : ((b.toNat : Nat) : Int) = b := by omega
    rw [e, Rat.divInt_eq_div]
    have h2 : (b : Rat) ≠ 0 := by
      have : b ≠ 0 := by omega
      simpa using this
    grind
  exact h.parts (by omega)
theorem vok_made {t b : Int} (h : NumOk t b) : VOk (Rat.divInt t b) := by
  obtain ⟨h1, h2, h3⟩ := h
  obtain ⟨a, c⟩ := made_num (t := t) h2
  exact ⟨Nat.lt_of_le_of_lt a h1, by omega⟩
theorem wok_made {t b : Int} (h : WtOk t b) : 0 < (Rat.divInt t b).num → WOk (Rat.divInt t b) := by
  obtain ⟨h1, h2, h3⟩ := h
  obtain ⟨a, c⟩ := made_num (t := t) h2
  exact fun p => ⟨p, by omega, by omega⟩
section
variable {w : World} {K : PySem.W.Frag} {mg : Str → Option Value} {base : Heap}
def spDO (K : PySem.W.Frag) : Sp := fun vs H Q _ => ∃ v d, vs = [v] ∧ IsRw H v d ∧ RwOk d ∧ ∀ v' d' H', Ex H H' → IsDd K H' v' d' → DdOk d' → Q v' H'

abbrev n_law_deed_of : List Str := ["_law_deed_here", "_law_pair_here"]
theorem sc__law_deed_of : FnScope n_law_deed_of ["_law_deed_here"] (defScope s__law_deed_of) := ⟨rfl, rfl, rfl, by decide +kernel, rfl, by decide +kernel, by decide +kernel⟩
theorem d__law_deed_of_ok (T : Txt K mg) (hN : base.NoSeer) : Def PP w K mg base CX0 "_law_deed_of" (a__law_deed_of K) 44 ["_law_deed_here"] (spDO K) := by
  obtain ⟨fd, F⟩ := T.d__law_deed_of
  refine ⟨⟨fd, ok0 F sc__law_deed_of (fun vs H Q E h => ?_) (fun cdv A outer s H vs Q E hr h => ?_), F.bindsN fun _ _ _ _ _ _ us hl => match us, hl with | [_], _ => rfl⟩, T.g__law_deed_of, F.kp⟩
  · obtain ⟨v, d, rfl, _⟩ := h
    rfl
  obtain ⟨v, d, rfl, hd, hok, k⟩ := h
  have nd := sc__law_deed_of.nd
  refine ⟨_, pss_cons (ps_if (pt_cmpR op_eq (pe_ix ix_tup (pv 0) (pe_int) (fun _ _ => rfl)) (pe_str) (nomark _)) (pss_one (ps_ret (pe_tup (pa_cons (pe_ix ix_tup (pv 0) (pe_int) (fun _ _ => rfl)) (pa_cons (pe_ix ix_tup (pv 0) (pe_int) (fun _ _ => rfl)) (pa_cons (pe_ix ix_tup (pv 0) (pe_int) (fun _ _ => rfl)) (pa_cons (pe_callD (d__law_made_ok T hN) hr (pa_cons (pe_ix ix_tup (pv 0) (pe_int) (fun _ _ => rfl)) (pa_nil))) (pa_cons (pe_callD (d__law_made_ok T hN) hr (pa_cons (pe_ix ix_tup (pv 0) (pe_int) (fun _ _ => rfl)) (pa_nil))) (pa_nil))))))))) (pss_nil))
      (pss_one (ps_ret (pe_op op_catA (pe_slice sl_tupA (pv 0) po_none (po_some pe_int)) (pe_callTy call_tuple_of (by rfl) T.f_tuple boot_tuple (pa_cons (pe_lc (own := [("_law_pair_here", 1)]) (g := gName 1) (tt := tYes) (te := tCall (spMade K) [] E0 (tCons (tVar 1) tNil)) rfl nd (pi_tup (pe_slice sl_tupA (pv 0) (po_some pe_int) po_none)) (blkOk_by (N := ["_law_deed_here", "_law_pair_here"]) (sc := defScope s__law_deed_of) (by decide +kernel))
    (fun _ _ _ _ _ => pg_name (i := 1) nd rfl (Or.inl rfl)) (fun _ _ _ _ _ => pts_nil) (fun _ _ _ _ _ => pe_callD (d__law_made_ok T hN) hr (pa_cons (pv 1) pa_nil))) pa_nil))))), ?_⟩
  cases d with
  | reading m ts t b t2 b2 =>
    obtain ⟨p, vt, v1, v2, rfl, hp, h1, h2, h3⟩ := hd
    obtain ⟨o1, o2, o3⟩ := hok
    refine ⟨_, rfl, p, _, _, _, rfl, rfl, SqT.of' hp, rfl, rfl, _, rfl, ?_⟩
    rw [weq]
    refine iteT ?_
    refine ⟨_, rfl, p, _, _, _, rfl, rfl, SqT.of' hp, rfl, _, rfl, p, _, _, _, rfl, rfl, SqT.of' hp, rfl, _, rfl, p, _, _, _, rfl, rfl, SqT.of' hp, rfl, ?_⟩
    refine ⟨_, rfl, p, _, _, _, rfl, rfl, SqT.of' hp, rfl, _, t, b, rfl, h2, o2.2.1, fun r1 H1 e1 q1 => ?_⟩
    refine ⟨_, rfl, p, _, _, _, rfl, rfl, SqT.of' (e1 _ _ hp), rfl, _, t2, b2, rfl, h3.kp (e1.kp (K := K)), o3.2.1, fun r2 H2 e2 q2 => ?_⟩
    refine ⟨by show 5 ≤ sizeLine; decide, fun q hq => ?_⟩
    have e3 : Ex H2 (upd H2 q (.tup [.str "reading", .str m, vt, r1, r2])) := (Ex.refl _).new hq
    exact k _ (.reading m ts (Rat.divInt t b) (Rat.divInt t2 b2)) _ (e1.trans (e2.trans e3)) ⟨q, vt, r1, r2, rfl, upd_same, stayTms _ _ _ _ ((e1.trans (e2.trans e3)).kp (K := K)) h1, q1.ex (e2.trans e3), q2.ex e3⟩ ⟨o1, vok_made o2, wok_made o3⟩
  | three wd n t b =>
    obtain ⟨p, v1, rfl, hp, h1⟩ := hd
    have hw : ¬ wd = "reading" := by
      rcases hok with ⟨h | h | h, _⟩ | ⟨h, _⟩ <;> rw [h] <;> decide +kernel
    have hb : 0 < b := by
      rcases hok with ⟨_, h⟩ | ⟨_, h⟩
      · exact h.2.1
      · exact h.2.1
    refine ⟨_, rfl, p, _, _, _, rfl, rfl, SqT.of' hp, rfl, rfl, _, rfl, ?_⟩
    rw [wne hw]
    refine iteF ?_
    refine ⟨_, rfl, 2, rfl, sl_any hp fun q1 H1 e1 hq1 => ?_⟩
    have c1 : cutV [V.str wd, V.str n, v1] none (some 2) = [V.str wd, V.str n] := rfl
    have c2 : cutV [V.str wd, V.str n, v1] (some 2) none = [v1] := rfl
    rw [c1] at hq1
    refine ⟨_, rfl, 2, rfl, ?_⟩
    show tNoPart _ _ _
    unfold tNoPart
    refine sl_any (K := K) (lo := some 2) (hi := none) (e1 _ _ hp) fun q2 H2 e2 hq2 => ?_
    rw [c2] at hq2
    refine ⟨q2, rfl, ⟨_, SqT.of' hq2⟩, fun D hD => ?_⟩
    refine lc_al (K := K) (walk_tup (xs := [v1])) stayR [Rat.divInt t b] rfl (by show 1 ≤ 100000; decide) hD (fun H e => SqT.of' (e _ _ hq2)) yat_ex ?_ ?_
    · rintro i z y H3 H4 hi hy e3 ⟨rfl, hz⟩ Rk kk
      have i0 : i = 0 := by simp at hi; exact hi
      subst i0
      have ez : z = v1 := by simpa using hz.symm
      have ey : y = Rat.divInt t b := by simpa using hy.symm
      subst ez
      subst ey
      exact ⟨rfl, _, rfl, z, t, b, rfl, h1.kp ((e1.trans (e2.trans e3)).kp (K := K)), hb, fun r H5 e5 q5 => kk r H5 e5 q5⟩
    · intro H3 acc e3 h3 hal
      refine tup_of (K := K) (Q := fun y H2 => rCatA K (.ref q1) y H2 Q) h3 fun l hl => ?_
      have e4 : Ex H3 (upd H3 l (.tup acc)) := (Ex.refl _).new hl
      have hq1' := e4 _ _ (e3 _ _ (e2 _ _ hq1))
      have hla := hal.len
      refine cat_any (SqT.of' hq1') (SqT.of' upd_same) hq1' upd_same (by rw [sizeLine_eq, hla]; show 2 + 1 ≤ _; omega) fun q7 H7 e7 hq7 => ?_
      obtain ⟨r, rfl⟩ : ∃ r, acc = [r] := List.length_eq_one_iff.mp hla
      have hr' := hal.at_ 0 r (Rat.divInt t b) rfl rfl
      have hr7 := hr'.ex (e4.trans e7)
      have ee := e1.trans (e2.trans (e3.trans (e4.trans e7)))
      rcases hok with ⟨h | h | h, ok⟩ | ⟨h, ok⟩ <;> subst h
      · exact k _ (.point n (Rat.divInt t b)) _ ee ⟨q7, r, rfl, hq7, hr7⟩ (vok_made ok)
      · exact k _ (.approx n (Rat.divInt t b)) _ ee ⟨q7, r, rfl, hq7, hr7⟩ (vok_made ok)
      · exact k _ (.value n (Rat.divInt t b)) _ ee ⟨q7, r, rfl, hq7, hr7⟩ (vok_made ok)
      · exact k _ (.weight n (Rat.divInt t b)) _ ee ⟨q7, r, rfl, hq7, hr7⟩ (wok_made ok)
  | two wd n =>
    obtain ⟨p, rfl, hp⟩ := hd
    have hw : ¬ wd = "reading" := by
      rcases hok with h | h <;> rw [h] <;> decide +kernel
    refine ⟨_, rfl, p, _, _, _, rfl, rfl, SqT.of' hp, rfl, rfl, _, rfl, ?_⟩
    rw [wne hw]
    refine iteF ?_
    refine ⟨_, rfl, 2, rfl, sl_any hp fun q1 H1 e1 hq1 => ?_⟩
    refine ⟨_, rfl, 2, rfl, ?_⟩
    show tNoPart _ _ _
    unfold tNoPart
    refine sl_any (K := K) (lo := some 2) (hi := none) (e1 _ _ hp) fun q2 H2 e2 hq2 => ?_
    have c1 : cutV [V.str wd, V.str n] none (some 2) = [V.str wd, V.str n] := rfl
    have c2 : cutV [V.str wd, V.str n] (some 2) none = [] := rfl
    rw [c1] at hq1
    rw [c2] at hq2
    refine ⟨q2, rfl, ⟨_, SqT.of' hq2⟩, fun D hD => ?_⟩
    refine lc_al (K := K) (walk_tup (xs := [])) stayR [] rfl (by decide) hD (fun H e => SqT.of' (e _ _ hq2)) yat_ex ?_ ?_
    · rintro i z y H3 H4 hi
      simp at hi
    · intro H3 acc e3 h3 hal
      refine tup_of (K := K) (Q := fun y H2 => rCatA K (.ref q1) y H2 Q) h3 fun l hl => ?_
      have e4 : Ex H3 (upd H3 l (.tup acc)) := (Ex.refl _).new hl
      have hq1' := e4 _ _ (e3 _ _ (e2 _ _ hq1))
      have hla := hal.len
      refine cat_any (SqT.of' hq1') (SqT.of' upd_same) hq1' upd_same (by rw [sizeLine_eq, hla]; show 2 + 0 ≤ _; omega) fun q7 H7 e7 hq7 => ?_
      have ha0 : acc = [] := List.length_eq_zero_iff.mp hla
      subst ha0
      have ee := e1.trans (e2.trans (e3.trans (e4.trans e7)))
      rcases hok with h | h <;> subst h
      · exact k _ (.withdraw n) _ ee ⟨q7, rfl, hq7⟩ trivial
      · exact k _ (.remove n) _ ee ⟨q7, rfl, hq7⟩ trivial
end
end Pn
set_option maxHeartbeats 4000000
/-! printed by gen_law7.py: turn -/
namespace Pn
open PySem PySem.Spec PyProof.Rows L2
/-! ### a method's call within a try (the shape of the guide's skeleton by_hand) -/
def tMethW (C : Addr) (m : Str) (sp : Sp) (E : L2.St → XK) (ta : TE) (t : TA) : TE := fun σ H Q => ta σ H fun x H1 => ∃ a dx fs, x = .ref a ∧ H1 a = some (.ins C dx fs) ∧ fs.lookup m = none ∧ t σ H1 fun vs H2 => sp (x :: vs) H2 Q (E σ)
section
variable {X : Cx} {k : Nat} {f C : Addr} {ps : List Str} {sp : Sp} {E : L2.St → XK} {m : Str} {pos apos : Pos} {e o : Expr} {es : List Expr} {ta : TE} {t : TA} {pl : Sem Bool}
theorem pe_methW (D : MDef X.prog X.w X.K X.mg X.base (L2.CX X.prog X.w) C m f k ps sp) (hr : Room k X.A) (hx : ∀ σ, PassesAt (L2.CX X.prog X.w) X σ (E σ)) (he : PE X o ta) (ha : PA X (e :: es) t)
    (hst : starEach (e :: es) X.env = (false, eval e X.env) :: starEach es X.env := by rfl) (hpl : (backTo pos (starEach es X.env)).any (·.1) = false := by rfl)
    (ht : eval (.Call (.Attribute o m apos) (e :: es) [] pos) X.env = (do
      let ov ← eval o X.env
      standAt apos.atName
      let (f, first) ← holding [ov] (getMethod ov m pl)
      callWith pos f first (backTo pos (starEach (e :: es) X.env)) (backToKw pos (keywordEach [] X.env))) := by rfl) :
    PE X (.Call (.Attribute o m apos) (e :: es) [] pos) (tMethW C m sp E ta t) := by
  obtain ⟨fd, F, hb⟩ := D.ok
  refine ⟨fun pins s σ H Q I h => ?_⟩
  refine PySem.W.methodCall_KW (pl := pl) (thn (he.run pins s σ H _ I h) fun u s1 ⟨x, H1, I1, rx, a, dx, fs, ex, ea, l, q⟩ => ?_) ht
  subst ex
  obtain rfl : u = Value.ref a := rx
  refine getmeth_ok I1 ea D.c D.m l ?_
  refine PySem.W.callWith_K (first := [.ref a]) (h₀ := X.base) I.ok.mod.kin D.m.kp (thn (ha.run pos pins s1 σ H1 _ I1 q) fun us s2 ⟨vs, H2, I2, r, q2⟩ => ⟨I2.kIn, ?_⟩) hst hpl
  exact run_fnS (us := .ref a :: us) (vs := .ref a :: vs) F hr hb (hx σ) I2 (.cons rfl r) q2
theorem pe_methW0 (D : MDef X.prog X.w X.K X.mg X.base (L2.CX X.prog X.w) C m f k ps sp) (hr : Room k X.A) (hx : ∀ σ, PassesAt (L2.CX X.prog X.w) X σ (E σ)) (he : PE X o ta)
    (ht : eval (.Call (.Attribute o m apos) [] [] pos) X.env = (do
      let ov ← eval o X.env
      standAt apos.atName
      let (f, first) ← holding [ov] (getMethod ov m pl)
      callWith pos f first (backTo pos (starEach [] X.env)) (backToKw pos (keywordEach [] X.env))) := by rfl) :
    PE X (.Call (.Attribute o m apos) [] [] pos) (tMethW C m sp E ta tNil) := by
  obtain ⟨fd, F, hb⟩ := D.ok
  refine ⟨fun pins s σ H Q I h => ?_⟩
  refine PySem.W.methodCall_KW (pl := pl) (thn (he.run pins s σ H _ I h) fun u s1 ⟨x, H1, I1, rx, a, dx, fs, ex, ea, l, q⟩ => ?_) ht
  subst ex
  obtain rfl : u = Value.ref a := rx
  refine getmeth_ok I1 ea D.c D.m l ?_
  exact PySem.W.callWith_K0 (first := [.ref a]) I1.kIn D.m.kp (run_fnS (us := [.ref a]) (vs := [.ref a]) F hr hb (hx σ) I1 (.cons rfl .nil) q)
end
/-! ### the state lies apart from the log -/
theorem pair_no {α : Type} {R : Hp → V → α → Prop} {H : Hp} {tp : Addr} {a : Nat} {xs : List α} (hR : ∀ v x, R H v x → ∃ p, v = .ref p) (h : Al (R H) [.ref tp, .int (a : Nat)] xs) : False := by
  obtain ⟨x, _, hx⟩ := h.get (i := 1) rfl
  obtain ⟨p, hp⟩ := hR _ _ hx
  cases hp
theorem dd_ref {K : PySem.W.Frag} {H : Hp} {v : V} {d : Dd Str} (h : IsDd K H v d) : ∃ p, v = .ref p := by
  obtain ⟨p, _, _, h, _⟩ := dd_tup h
  exact ⟨p, h⟩
theorem rd_ref {K : PySem.W.Frag} {H : Hp} {v : V} {r : Rg} (h : IsRd K H v r) : ∃ p, v = .ref p := by
  obtain ⟨p, _, _, _, _, h, _⟩ := h
  exact ⟨p, h⟩
theorem isl_no {α : Type} {R : Hp → V → α → Prop} {H : Hp} {st tp p : Addr} {a : Nat} {xs : List α} (hR : ∀ v x, R H v x → ∃ p, v = .ref p) (h : IsL R H p xs) (s : H st = some (.lst [.ref tp, .int (a : Nat)])) : p ≠ st := fun z => by
  obtain ⟨vs, h1, h2⟩ := h
  rw [z, s] at h1
  cases h1
  exact pair_no hR h2
theorem svs_no {H : Hp} {st tp p : Addr} {a : Nat} {l : List Str} (h : H p = some (.lst (sVs l))) (s : H st = some (.lst [.ref tp, .int (a : Nat)])) : p ≠ st := fun z => by
  rw [z, s] at h
  cases l with
  | nil => cases h
  | cons x l => cases h
theorem ins_no {H : Hp} {st tp p C dx : Addr} {a : Nat} {fs : List (Str × V)} (h : H p = some (.ins C dx fs)) (s : H st = some (.lst [.ref tp, .int (a : Nat)])) : p ≠ st := fun z => by
  rw [z, s] at h
  cases h
theorem bk_no {K : PySem.W.Frag} {H : Hp} {st tp : Addr} {a : Nat} {B : BkA} {b : Bk Str} (h : IsBk K H B b) (s : H st = some (.lst [.ref tp, .int (a : Nat)])) : ∀ x ∈ B.all, x ≠ st := by
  obtain ⟨dx, h1⟩ := h.ins
  obtain ⟨kvs, h2, _⟩ := h.d
  intro x hx
  simp only [BkA.all, List.mem_cons, List.not_mem_nil, or_false] at hx
  rcases hx with rfl | rfl | rfl | rfl
  · exact ins_no h1 s
  · exact svs_no h.l s
  · intro z
    rw [z, s] at h2
    cases h2
  · exact isl_no (fun _ _ => rd_ref) h.r s
theorem lg_no {K : PySem.W.Frag} {H : Hp} {st tp dx : Addr} {a : Nat} {L : LgA} {l : Lg Str} (h : LgF K H L l dx) (s : H st = some (.lst [.ref tp, .int (a : Nat)])) : (∀ x ∈ L.W, x ≠ st) ∧ ∀ B ∈ L.bks, ∀ x ∈ B.all, x ≠ st := by
  obtain ⟨dN, va, vm, vi, vr, vt, hn⟩ := h.n
  refine ⟨fun x hx => ?_, fun B hB => ?_⟩
  · simp only [LgA.W, List.mem_cons, List.not_mem_nil, or_false] at hx
    rcases hx with rfl | rfl | rfl | rfl | rfl | rfl | rfl
    · exact ins_no h.ins s
    · exact isl_no (fun _ _ => dd_ref) h.d s
    · intro z
      have hb := h.b
      rw [z, s] at hb
      injection hb with hb
      injection hb with hb
      have := congrArg (fun l => l[1]?) hb
      simp only [List.getElem?_map] at this
      cases hq : L.bks[1]? with
      | none => rw [hq] at this; cases this
      | some B => rw [hq] at this; cases this
    · exact isl_no (fun _ _ => dd_ref) h.t s
    · exact ins_no hn.ins s
    · exact svs_no hn.l s
    · exact isl_no (fun _ _ => rd_ref) hn.r s
  · obtain ⟨i, hi⟩ := List.getElem?_of_mem hB
    obtain ⟨b, _, hb⟩ := h.bs.get hi
    exact bk_no hb s
def IsStr (_ : Hp) (v : V) (s : Str) : Prop := v = .str s
theorem stayStr {K : PySem.W.Frag} : Stay K IsStr := fun _ _ _ _ _ h => h
theorem al_strs {H : Hp} {vs : List V} {l : List Str} (h : Al (IsStr H) vs l) : vs = sVs l := by
  apply List.ext_getElem (by rw [sVs_len]; exact h.len)
  intro i h1 h2
  have hl : i < l.length := by rw [← h.len]; exact h1
  have := h.at_ i vs[i] l[i] (List.getElem?_eq_getElem h1) (List.getElem?_eq_getElem hl)
  rw [this]
  simp [sVs]
section
variable {w : World} {K : PySem.W.Frag} {mg : Str → Option Value} {base : Heap}
/-- the log and the state behind a turn -/
def spLT (K : PySem.W.Frag) (M : Mth Str) : Sp := fun vs H Q _ => ∃ L l m st tp a, vs = [.ref (LgA.p L), .ref st] ∧ IsLg K H L l ∧ LgOk M ltS eS m l ∧ m ≤ 100 ∧ IsSt H st tp a ∧ a < 700000 ∧ tp ∉ L.W ∧
  ∀ r L' l' a' H', LgOk M ltS eS (m + 1) l' → IsLg K H' L' l' → L'.p = L.p → IsSt H' st tp a' → a' ≤ a + 100 → tp ∉ L'.W → Q (.bl r) H'
abbrev n_law_turn : List Str := ["_law_log", "_law_state", "_law_way", "_law_book", "_law_deed_here", "_law_reading"]
theorem sc__law_turn : FnScope n_law_turn ["_law_log", "_law_state"] (defScope s__law_turn) := ⟨rfl, rfl, rfl, by decide +kernel, rfl, by decide +kernel, by decide +kernel⟩
theorem d__law_turn_ok (T : Txt K mg) (hN : base.NoSeer) (M : Mth Str) : Def PP w K mg base CX0 "_law_turn" (a__law_turn K) 54 ["_law_log", "_law_state"] (spLT K M) := by
  obtain ⟨fd, F⟩ := T.d__law_turn
  refine ⟨⟨fd, ok0 F sc__law_turn (fun vs H Q E h => ?_) (fun cdv A outer s H vs Q E hr h => ?_), F.bindsN fun _ _ _ _ _ _ us hl => match us, hl with | [_, _], _ => rfl⟩, T.g__law_turn, F.kp⟩
  · obtain ⟨L, l, m, st, tp, a, rfl, _⟩ := h
    rfl
  obtain ⟨L, l, m, st, tp, a, rfl, ⟨dx, hL⟩, ok, hm, hs, ha, htp, k⟩ := h
  have nd := sc__law_turn.nd
  refine ⟨_, pss_cons (ps_set (i := 2) nd rfl (Or.inl rfl) (pe_callD (d__law_take_ok T) (hr.mono (by decide)) (pa_cons (pv 1) (pa_cons (pe_int) (pa_nil)))))
      (pss_cons (ps_set (i := 3) nd rfl (Or.inl rfl) (pe_methD0 (m_Log_book T M) (hr.mono (by decide)) (pv 0)))
      (pss_cons (ps_set (i := 4) nd rfl (Or.inl rfl) (pe_callD (d__law_deed_ok T) (hr.mono (by decide)) (pa_cons (pv 1) (pa_cons (pe_fld (pv 3) rfl) (pa_cons (pe_lc (own := [("_law_reading", 5)]) (g := gName 5) (tt := tYes) (te := tFld K (tVar 5) "name") rfl nd (pi_list (pe_fld (pv 3) rfl)) (blkOk_by (N := n_law_turn) (sc := defScope s__law_turn) (by decide +kernel))
    (fun _ _ _ _ _ => pg_name (i := 5) nd rfl (Or.inl rfl)) (fun _ _ _ _ _ => pts_nil) (fun _ _ _ _ _ => pe_fld (pv 5) rfl)) (pa_nil))))))
      (pss_cons (ps_try_only (tb := fun W => tIfS (tTest (tOp rEq (tVar 2) (tC (.int 0)))) (tDrop (tMethW (CLg K) "undo" (spTurn K M) (WE W) (tVar 0) tNil)) (tIfS (tTest (tOp rEq (tVar 2) (tC (.int 1)))) (tDrop (tMethW (CLg K) "redo" (spTurn K M) (WE W) (tVar 0) tNil)) (tDrop (tMethW (CLg K) "do" (spDo K M) (WE W) (tVar 0) (tCons (tCall (spDO K) [] E0 (tCons (tVar 4) tNil)) tNil))))) (ts := fun _ _ _ => tRet (tC (.bl false))) (Wout := fun _ _ _ _ => False) rfl rfl ⟨rfl, by decide, Or.inl T.g_SurveyError⟩ takes0
        (fun W pn xe tk _ => pss_one (ps_if (pt_cmpR op_eq (pv 2) (pe_int) (nomark _)) (pss_one (ps_expr (pe_methW0 (m_Log_undo T hN M) (hr.mono (by decide)) (fun σ => passAt tk σ) (pv 0)))) (pss_one (ps_if (pt_cmpR op_eq (pv 2) (pe_int) (nomark _)) (pss_one (ps_expr (pe_methW0 (m_Log_redo T hN M) (hr.mono (by decide)) (fun σ => passAt tk σ) (pv 0)))) (pss_one (ps_expr (pe_methW (m_Log_do T hN M) (hr.mono (by decide)) (fun σ => passAt tk σ) (pv 0) (pa_cons (pe_callD (d__law_deed_of_ok T hN) (hr.mono (by decide)) (pa_cons (pv 4) pa_nil)) pa_nil))))))))
        (fun _ _ _ _ _ _ _ => pss_one (ps_ret pe_bl)))
      (pss_one (ps_ret pe_bl))))), ?_⟩
  obtain ⟨fW, fB⟩ := lg_no hL hs.s
  refine ⟨_, rfl, st, tp, a, 5, rfl, hs, by omega, by decide, fun r1 H1 hr1 f1 s1 => ?_⟩
  have keep : ∀ H', Fr K [st] H H' → LgF K H' L l dx := fun H' f => hL.fr f (fun x hx z => fW x hx (by simpa using z)) (fun B hB x hx z => fB B hB x hx (by simpa using z))
  have hL1 := keep H1 f1
  refine ⟨_, rfl, L.p, dx, _, rfl, hL1.ins, nLg_book, L, l, m, rfl, ⟨dx, hL1⟩, ok, fun b B H2 hb bok hM e2 hBp hBW hbk => ?_⟩
  obtain ⟨dB, hBi⟩ := hbk.ins
  obtain ⟨vrd, hvr, alr⟩ := hbk.r
  have hrz := bok.rz
  have hpz := bok.pz
  refine ⟨_, rfl, _, rfl, B.p, CBk K, dB, _, _, rfl, hBi, T.c_Book, T.n_Book_points, lBk_points, ?_⟩
  refine ⟨_, rfl, B.p, CBk K, dB, _, _, rfl, hBi, T.c_Book, T.n_Book_readings, lBk_readings, B.pr, rfl, ⟨_, SqL.of' hvr⟩, fun D hD => ?_⟩
  refine lc_al (K := K) (walk_list (xs := vrd)) stayStr (b.rds.map (·.name)) (by rw [List.length_map]; exact alr.len) (by rw [alr.len]; omega) hD (fun H1 e => SqL.of' (e _ _ hvr)) yat_ex ?_ ?_
  · rintro i z y H3 H4 hi hy e3 ⟨rfl, hz⟩ Rk kk
    obtain ⟨x, hx, p, dx, tv, vv, wv, rfl, hp, _⟩ := alr.get hz
    have ey : y = x.name := by
      rw [List.getElem?_map, hx] at hy
      exact (Option.some.inj hy).symm
    subst ey
    exact ⟨rfl, _, rfl, p, CRd K, dx, _, _, rfl, e3 _ _ hp, T.c_Reading, T.n_Reading_name, lRd_name, kk _ _ (Ex.refl _) rfl⟩
  intro H3 acc e3 h3 hal
  have eacc := al_strs hal
  subst eacc
  have s3 := s1.ex (e2.trans e3)
  have f3 := f1.ex (e2.trans e3)
  have hpl := e3 _ _ hbk.l
  have hDst : D ≠ st := fun z => by
    rw [z, (s1.ex e2).s] at hD
    cases hD
  have hlst : B.pl ≠ st := fun z => by
    have := hBW B.pl (by simp [BkA.W])
    rw [z, s1.s] at this
    cases this
  refine ⟨st, tp, B.pl, D, a + 1, b.names, b.rds.map (·.name), rfl, s3, by omega, hpl, h3, hlst, hDst, by simp [Bk.names]; omega, by simp; omega, fun dv d a4 H4 f4 s4 ha4 hd hdo => ?_⟩
  have f04 := f3.trans f4
  have hL4 := keep H4 f04
  have ins4 := hL4.ins
  have fW4 := (lg_no hL4 s4.s).1
  have stW : st ∉ L.W := fun z => fW4 st z rfl
  obtain ⟨ms4, t41, t42⟩ := s4.t
  have fin : ∀ (r : Bool) (H5 : Hp) (l' : Lg Str) (L' : LgA) (H' : Hp), Ex H4 H5 → LgOk M ltS eS (m + 1) l' → LgR K H5 L H' L' l' → Q (.bl r) H' := fun r H5 l' L' H' e5 ok' hR => by
    have s5 := (s4.ex e5).fr hR.fr stW htp
    refine k r L' l' a4 H' ok' hR.g hR.p s5 (by omega) fun z => ?_
    rcases hR.w tp z with q | q
    · exact htp q
    · rw [e5 _ _ t41] at q
      cases q
  refine ⟨_, rfl, rfl, _, rfl, ite2 (fun h1 => ?_) (fun h1 => ?_)⟩
  · refine ⟨_, rfl, L.p, dx, _, rfl, ins4, nLg_undo, L, l, m, rfl, ⟨dx, hL4⟩, ok, hm, fun l' L' H' ok' hR => ?_, fun c x l' L' H' sv ok' hR => ?_⟩
    · exact fin true H4 l' L' H' (Ex.refl _) ok' hR
    · exact ⟨true, sv.x, fun _ _ _ => fin false H4 l' L' H' (Ex.refl _) ok' hR, fun q => nomatch q⟩
  refine ⟨_, rfl, rfl, _, rfl, ite2 (fun h2 => ?_) (fun h2 => ?_)⟩
  · refine ⟨_, rfl, L.p, dx, _, rfl, ins4, nLg_redo, L, l, m, rfl, ⟨dx, hL4⟩, ok, hm, fun l' L' H' ok' hR => ?_, fun c x l' L' H' sv ok' hR => ?_⟩
    · exact fin true H4 l' L' H' (Ex.refl _) ok' hR
    · exact ⟨true, sv.x, fun _ _ _ => fin false H4 l' L' H' (Ex.refl _) ok' hR, fun q => nomatch q⟩
  · refine ⟨_, rfl, L.p, dx, _, rfl, ins4, nLg_do, _, rfl, dv, d, rfl, hd, hdo, fun v' d' H5 e5 hd' hdo' => ?_⟩
    have hL5 := hL4.ex e5
    refine ⟨L, l, v', d', m, rfl, ⟨dx, hL5⟩, hd', ok, hm, hdo', fun l' L' H' ok' hR => ?_, fun c x H' sv e6 => ?_⟩
    · exact fin true H5 l' L' H' e5 ok' hR
    · exact ⟨true, sv.x, fun _ _ _ => fin false H5 l L H' e5 (ok.mono (by omega)) ⟨rfl, e6.fr, fun a ha => .inl ha, ⟨dx, hL5.ex e6⟩⟩, fun q => nomatch q⟩
end
end Pn
set_option maxHeartbeats 4000000
/-! printed by gen_law8.py: law -/
namespace Pn
open PySem PySem.Spec PyProof.Rows L2
abbrev DRt (K : PySem.W.Frag) : Eqv := DIns (CRt K) (REq K)
theorem mon_R {K : PySem.W.Frag} : Mon (DRt K) := mon_ins fun a b H H' e ⟨q, h1, h2⟩ => ⟨q, h1.ex e, h2.ex e⟩
theorem oNeT {X : Cx} (T : Txt X.K X.mg) (hP : X.prog = PP) (hr : Room 2 X.A) : OpR X (compareOp .NotEq) (rNeT X.K (DRt X.K)) := by
  have D := m_Ratio_eq (w := X.w) (base := X.base) T
  rw [← hP] at D
  obtain ⟨fd, F, b⟩ := D.ok
  exact op_neT mon_R (eqG_ins F D.m.at_ D.m.fn b pass0) hr
/-- two equal vectors, != -/
theorem neV {K : PySem.W.Frag} {H : Hp} {v u : V} {x : Vec} {Q : VK} (hv : IsV K H v x) (hu : IsV K H u x) (k : ∀ H', Ex H H' → Q (.bl false) H') : rNeT K (DRt K) v u H Q := by
  obtain ⟨a, va, rfl, ha, la⟩ := hv
  obtain ⟨b, vb, rfl, hb, lb⟩ := hu
  refine ⟨⟨a, b, va, vb, rfl, rfl, SqT.of' ha, SqT.of' hb, by rw [la.len, lb.len], fun i y z hy hz => ?_⟩, k⟩
  obtain ⟨q, hq, ry⟩ := la.get hy
  have rz := lb.at_ i z q hz hq
  obtain ⟨c, dx, rfl, hc⟩ := ry
  obtain ⟨d, dy, rfl, hd⟩ := rz
  exact ⟨c, d, dx, dy, _, _, rfl, rfl, hc, hd, q, ⟨c, dx, rfl, hc⟩, ⟨d, dy, rfl, hd⟩⟩
section
variable {w : World} {K : PySem.W.Frag} {mg : Str → Option Value} {base : Heap}
def spLaw (K : PySem.W.Frag) : Sp := fun vs H Q _ => ∃ (p : Addr) (ns : List Int), vs = [.ref p] ∧ SqL K H p (ns.map V.int) ∧ ns.length ≤ 63 ∧ ∀ H', Q (.bl true) H'
abbrev n_lawL : List Str := ["_law_script", "_law_state", "_law_log", "_law_turn_here", "_law_book", "_law_net", "_law_paper"]
theorem sc_law : FnScope n_lawL ["_law_script"] (defScope s_law) := ⟨rfl, rfl, rfl, by decide +kernel, rfl, by decide +kernel, by decide +kernel⟩
theorem d_law_ok (T : Txt K mg) (hN : base.NoSeer) (M : Mth Str) : Def PP w K mg base CX0 "law" (a_law K) 55 ["_law_script"] (spLaw K) := by
  obtain ⟨fd, F⟩ := T.d_law
  refine ⟨⟨fd, ok0 F sc_law (fun vs H Q E h => ?_) (fun cdv A outer s H vs Q E hr h => ?_), F.bindsN fun _ _ _ _ _ _ us hl => match us, hl with | [_], _ => rfl⟩, T.g_law, F.kp⟩
  · obtain ⟨p, ns, rfl, _⟩ := h
    rfl
  obtain ⟨p, ns, rfl, hp, hl, k⟩ := h
  have nd := sc_law.nd
  refine ⟨_, pss_cons (ps_set (i := 1) nd rfl (Or.inl rfl) (pe_lst (pa_cons (pe_callD (d__law_tape_ok T) (hr.mono (by decide)) (pa_cons (pv 0) (pa_nil))) (pa_cons (pe_int) (pa_nil)))))
      (pss_cons (ps_set (i := 2) nd rfl (Or.inl rfl) (pe_makeD0 (k_Log T hN) (hr.mono (by decide))))
      (pss_cons (ps_for (PassesOwn.never) rfl (pi_range1 rfl T.f_range (pa_cons (pe_callD (d__law_take_ok T) (hr.mono (by decide)) (pa_cons (pv 1) (pa_cons (pe_int) (pa_nil)))) (pa_nil))) (pg_name (i := 3) nd rfl (Or.inl rfl)) (pss_cons (ps_expr (pe_callD (d__law_turn_ok T hN M) hr (pa_cons (pv 2) (pa_cons (pv 1) (pa_nil)))))
      (pss_cons (ps_set (i := 4) nd rfl (Or.inl rfl) (pe_methD0 (m_Log_book T M) (hr.mono (by decide)) (pv 2)))
      (pss_cons (ps_set (i := 5) nd rfl (Or.inl rfl) (pe_callD (d_net_of_ok T hN) (hr.mono (by decide)) (pa_cons (pv 4) (pa_nil))))
      (pss_cons (ps_if (PW.pt (pw_or (pt_cmpR (oNeT T rfl (hr.mono (by decide))) (pe_methD0 (m_Log_heights T hN M) (hr.mono (by decide)) (pv 2)) (pe_methD0 (m_Net_heights T hN) (hr.mono (by decide)) (pv 5)) (nomark _)) (pw_or (pt_cmpR (oNeT T rfl (hr.mono (by decide))) (pe_methD0 (m_Log_misfits T hN M) (hr.mono (by decide)) (pv 2)) (pe_methD0 (m_Net_misfits T hN) (hr.mono (by decide)) (pv 5)) (nomark _)) (pw_or1 (pt_cmpR (oNe T rfl (hr.mono (by decide))) (pe_methD0 (m_Log_squares T hN M) (hr.mono (by decide)) (pv 2)) (pe_methD0 (m_Net_squares T hN) (hr.mono (by decide)) (pv 5)) (nomark _)))))) (pss_one (ps_ret pe_bl)) (pss_nil))
      (pss_cons (ps_if (PW.pt (pw_or (pt_cmpR op_ne (pe_methD0 (m_Log_rank T hN M) (hr.mono (by decide)) (pv 2)) (pe_methD0 (m_Net_rank T hN) (hr.mono (by decide)) (pv 5)) (nomark _)) (pw_or1 (pt_cmpR (oNe T rfl (hr.mono (by decide))) (pe_methD0 (m_Log_squares T hN M) (hr.mono (by decide)) (pv 2)) (pe_callD (d_squares_at_ok T hN) (hr.mono (by decide)) (pa_cons (pv 4) (pa_cons (pe_methD0 (m_Log_heights T hN M) (hr.mono (by decide)) (pv 2)) (pa_nil)))) (nomark _))))) (pss_one (ps_ret pe_bl)) (pss_nil))
      (pss_cons (ps_set (i := 6) nd rfl (Or.inl rfl) (pe_methD0 (m_Net_paper T hN) (hr.mono (by decide)) (pv 5)))
      (pss_one (ps_if (pt_cmpR op_notN (pe_callD (d_fault_of_ok T hN) (hr.mono (by decide)) (pa_cons (pv 4) (pa_cons (pe_tup (pa_cons (pe_methD0 (m_Log_heights T hN M) (hr.mono (by decide)) (pv 2)) (pa_cons (pe_methD0 (m_Log_misfits T hN M) (hr.mono (by decide)) (pv 2)) (pa_cons (pe_ix ix_tup (pv 6) (pe_int) (fun _ _ => rfl)) (pa_nil))))) (pa_nil)))) (pe_non) (nomark _)) (pss_one (ps_ret pe_bl)) (pss_nil))))))))))
      (pss_one (ps_ret pe_bl)))), ?_⟩
  refine ⟨_, rfl, p, ns, rfl, hp, hl, fun tp ms H1 htp e1 hms hml => ?_⟩
  refine ⟨by show 2 ≤ sizeLine; decide, fun st hst => ?_⟩
  have e2 : Ex H1 (upd H1 st (.lst [.ref tp, .int 0])) := (Ex.refl _).new hst
  have sttp : st ≠ tp := fun z => by
    rw [z, hms] at hst
    cases hst
  have s2 : IsSt (upd H1 st (.lst [.ref tp, .int 0])) st tp 0 := ⟨upd_same, ⟨ms, e2 _ _ hms, hml⟩, sttp⟩
  have hst2 := s2.s
  have htp2 := e2 _ _ hms
  generalize upd H1 st (.lst [.ref tp, .int 0]) = H2 at *
  intro x dx hx hdx hne
  refine ⟨x, dx, rfl, upd_same, fun L H3 hLp hLW hks hL => ⟨rfl, ?_⟩⟩
  have stx : st ≠ x := fun z => by rw [z, hx] at hst2; cases hst2
  have stdx : st ≠ dx := fun z => by rw [z, hdx] at hst2; cases hst2
  have tpx : tp ≠ x := fun z => by rw [z, hx] at htp2; cases htp2
  have tpdx : tp ≠ dx := fun z => by rw [z, hdx] at htp2; cases htp2
  have up : ∀ a o, H2 a = some o → a ≠ x → a ≠ dx → upd (upd H2 dx (.own x)) x (.ins (CLg K) dx []) a = some o := fun a o ha h1 h2 => by
    rw [upd_ne h1, upd_ne h2]
    exact ha
  have s3 : IsSt H3 st tp 0 := ⟨hks _ _ (up _ _ hst2 stx stdx) stx, ⟨ms, hks _ _ (up _ _ htp2 tpx tpdx) tpx, hml⟩, sttp⟩
  have tpW : tp ∉ L.W := fun z => by
    rcases hLW tp z with q | q
    · exact tpx q
    · have := up _ _ htp2 tpx tpdx
      have q' : upd (upd H2 dx (.own x)) x (.ins (CLg K) dx []) tp = none := q
      rw [q'] at this
      cases this
  have stW : st ∉ L.W := fun z => by
    obtain ⟨dL, hLf⟩ := hL
    exact (lg_no hLf s3.s).1 st z rfl
  refine ⟨_, rfl, st, tp, 0, 15, rfl, s3, by omega, by decide, fun r H4 hr4 f4 s4 => ?_⟩
  have hL4 : IsLg K H4 L Lg.start := by
    obtain ⟨dL, hLf⟩ := hL
    exact ⟨dL, hLf.fr f4 (fun a ha z => stW (by simp at z; exact z ▸ ha)) fun B hB a ha z => (lg_no hLf s3.s).2 B hB a ha (by simpa using z)⟩
  have ok0 : LgOk M ltS eS 0 Lg.start := ⟨rfl, Nat.le_refl _, fun b hb => by
    have : b = Bk.empty := by simpa [Lg.start] using hb
    rw [this]
    exact empty_ok, fun i d b b' h => by simp [Lg.start] at h, fun d h => by simp [Lg.start] at h, ⟨Bk.empty, rfl, M.empty⟩⟩
  refine ⟨(r : Int), rfl, by omega, by omega, ?_⟩
  refine for_it (walk_range0 (n := r)) (fun i σ H' => ∃ L l a, (∃ o3 o4 o5 o6, σ = [some (.ref p), some (.ref st), some (.ref x), o3, o4, o5, o6]) ∧ L.p = x ∧ IsLg K H' L l ∧ LgOk M ltS eS i l ∧ IsSt H' st tp a ∧ a ≤ 1 + 100 * i ∧ tp ∉ L.W)
    ⟨L, Lg.start, 1, ⟨_, _, _, _, rfl⟩, hLp, hL4, ok0, s4, by omega, tpW⟩ (fun _ _ _ _ _ => trivial) ?_ ?_
  · clear hL4 s4 ok0 f4 tpW stW hL hks hLW hLp
    rintro i z σ H5 H5' hi ⟨L, l, a, ⟨o3, o4, o5, o6, rfl⟩, hLp, hL5, ok5, s5, ha5, tpW⟩ ⟨rfl, rfl⟩
    subst hLp
    refine ⟨_, rfl, _, rfl, L, l, i, st, tp, a, rfl, hL5, ok5, by omega, s5, by omega, tpW, fun rt L' l' a' H6 ok6 hL6 hp6 s6 ha6 tpW6 => ?_⟩
    have hv : ([.ref L.p] : List V) = [.ref L'.p] := by rw [hp6]
    obtain ⟨dx6, hF6⟩ := hL6
    have ins : ∀ H', Ex H6 H' → H' L.p = some (.ins (CLg K) dx6 (fLg (.ref L'.pd) (.ref L'.pb) (.ref L'.pl) (.ref L'.net.p))) := fun H' e => e _ _ (by rw [← hp6]; exact hF6.ins)
    have lg : ∀ H', Ex H6 H' → IsLg K H' L' l' := fun H' e => ⟨dx6, hF6.ex e⟩
    refine ⟨_, rfl, L.p, dx6, _, rfl, ins _ (Ex.refl _), nLg_book, L', l', i + 1, hv, lg _ (Ex.refl _), ok6, fun b B H7 hb bok hM e7 hBp hBW hbk => ?_⟩
    refine ⟨_, rfl, B, b, rfl, hbk, bok, (M.netOf bok).1, fun N H8 e8 hNW hN8 => ?_⟩
    have hok := (M.netOf bok).2
    have hnet : l'.net = netOf b := M.one hM hok
    have sz := M.nsz bok hok
    have lk := M.look bok hok
    obtain ⟨dN, va, vm, vi, vr, vt, hnf⟩ := id hN8
    have f8 := e7.trans e8
    refine ⟨_, rfl, L.p, dx6, _, rfl, ins _ f8, nLg_heights, L', l', i + 1, hv, lg _ f8, ok6, fun v1 H9 e9 q1 => ?_⟩
    rw [hnet] at q1
    refine ⟨_, rfl, N.p, dN, _, rfl, (hnf.ex e9).ins, nNt_heights, N, netOf b, rfl, hN8.ex e9, sz, lk, fun v2 H10 e10 q2 => ?_⟩
    refine neV (q1.ex e10) q2 fun H11 e11 => ?_
    refine ⟨_, rfl, iteF ?_⟩
    have f11 := f8.trans (e9.trans (e10.trans e11))
    have g11 := e9.trans (e10.trans e11)
    refine ⟨_, rfl, L.p, dx6, _, rfl, ins _ f11, nLg_misfits, L', l', i + 1, hv, lg _ f11, ok6, fun v3 H12 e12 q3 => ?_⟩
    rw [hnet] at q3
    refine ⟨_, rfl, N.p, dN, _, rfl, (hnf.ex (g11.trans e12)).ins, nNt_misfits, N, netOf b, rfl, hN8.ex (g11.trans e12), sz, lk, fun v4 H13 e13 q4 => ?_⟩
    refine neV (q3.ex e13) q4 fun H14 e14 => ?_
    refine ⟨_, rfl, iteF ?_⟩
    have f14 := f11.trans (e12.trans (e13.trans e14))
    have g14 := g11.trans (e12.trans (e13.trans e14))
    refine ⟨_, rfl, L.p, dx6, _, rfl, ins _ f14, nLg_squares, L', l', i + 1, hv, lg _ f14, ok6, fun v5 H15 e15 q5 => ?_⟩
    rw [hnet] at q5
    refine ⟨_, rfl, N.p, dN, _, rfl, (hnf.ex (g14.trans e15)).ins, nNt_squares, N, netOf b, rfl, hN8.ex (g14.trans e15), sz, lk, fun v6 H16 e16 q6 => ?_⟩
    refine neR (q5.ex e16) q6 fun H17 e17 => ?_
    refine ⟨_, rfl, iteF ?_⟩
    have f17 := f14.trans (e15.trans (e16.trans e17))
    have g17 := g14.trans (e15.trans (e16.trans e17))
    refine ⟨_, rfl, L.p, dx6, _, rfl, ins _ f17, nLg_rank, L', l', i + 1, hv, lg _ f17, ok6, fun v7 H18 e18 q7 => ?_⟩
    rw [hnet] at q7
    subst q7
    refine ⟨_, rfl, N.p, dN, _, rfl, (hnf.ex (g17.trans e18)).ins, nNt_rank, N, netOf b, rfl, hN8.ex (g17.trans e18), sz, lk, fun v8 H19 e19 q8 => ?_⟩
    subst q8
    have f19 := f17.trans (e18.trans e19)
    have g19 := g17.trans (e18.trans e19)
    refine ⟨rfl, _, rfl, ite2 (fun h => absurd h (by simp)) (fun _ => ?_)⟩
    obtain ⟨ff, hff, jo, fj⟩ := M.paper bok hok
    refine ⟨_, rfl, L.p, dx6, _, rfl, ins _ f19, nLg_squares, L', l', i + 1, hv, lg _ f19, ok6, fun v9 H20 e20 q9 => ?_⟩
    rw [hnet, M.squares bok hok] at q9
    have f20 := f19.trans e20
    refine ⟨_, rfl, _, rfl, L.p, dx6, _, rfl, ins _ f20, nLg_heights, L', l', i + 1, hv, lg _ f20, ok6, fun v10 H21 e21 q10 => ?_⟩
    rw [hnet] at q10
    have b21 := e8.trans (g19.trans (e20.trans e21))
    refine ⟨B, b, v10, ntHeights (netOf b), rfl, hbk.ex b21, q10, fun r hr t ht => (bok.r r hr).mem t ht, jo.lh, fj.s, fun v11 H22 e22 q11 => ?_⟩
    refine neR (q9.ex (e21.trans e22)) q11 fun H23 e23 => ?_
    refine ⟨_, rfl, iteF ?_⟩
    have f23 := f20.trans (e21.trans (e22.trans e23))
    have g23 := g19.trans (e20.trans (e21.trans (e22.trans e23)))
    refine ⟨_, rfl, N.p, dN, _, rfl, (hnf.ex g23).ins, nNt_paper, N, netOf b, rfl, hN8.ex g23, sz, ⟨lk, lk.h, ff, hff⟩, fun v12 H24 e24 ⟨x, hx, pap⟩ => ?_⟩
    obtain rfl : x = ff := by
      rw [hff] at hx
      exact (Option.some.inj hx).symm
    obtain ⟨pp, vh, vm', vf, rfl, hpp, _, _, hvf⟩ := pap
    have f24 := f23.trans e24
    refine ⟨_, rfl, _, rfl, L.p, dx6, _, rfl, ins _ f24, nLg_heights, L', l', i + 1, hv, lg _ f24, ok6, fun v13 H25 e25 q13 => ?_⟩
    have f25 := f24.trans e25
    refine ⟨_, rfl, L.p, dx6, _, rfl, ins _ f25, nLg_misfits, L', l', i + 1, hv, lg _ f25, ok6, fun v14 H26 e26 q14 => ?_⟩
    rw [hnet] at q13 q14
    refine ⟨_, rfl, pp, _, _, _, rfl, rfl, SqT.of' (e26 _ _ (e25 _ _ hpp)), rfl, by show 3 ≤ sizeLine; decide, fun q hq => ?_⟩
    have e27 : Ex H26 (upd H26 q (.tup [v13, v14, vf])) := (Ex.refl _).new hq
    have b27 := e8.trans (g23.trans (e24.trans (e25.trans (e26.trans e27))))
    refine ⟨B, b, .ref q, _, _, _, rfl, hbk.ex b27, ⟨q, v13, v14, vf, rfl, upd_same, q13.ex (e26.trans e27), q14.ex e27, hvf.ex (e25.trans (e26.trans e27))⟩, bok, jo, fj, fun H28 e28 => ?_⟩
    have f28 := f25.trans (e26.trans (e27.trans e28))
    exact ⟨rfl, _, rfl, ite2 (fun h => absurd h (by simp)) (fun _ => ⟨L', l', a', ⟨_, _, _, _, rfl⟩, hp6, lg _ f28, ok6, s6.ex f28, by omega, tpW6⟩)⟩
  · rintro σ H5 ⟨L, l, a, ⟨o3, o4, o5, o6, rfl⟩, hLp, hL5, ok5, s5, ha5, tpW⟩
    exact k _
end
end Pn
set_option maxHeartbeats 0
namespace Pn
open PySem PySem.W PySem.Calls PyProof.Rows
abbrev R : OpenRow := OpenLaw.row PySem.Challenge.rw_plumbnet_k70_whole_a_kept_net_is_a_new_o
abbrev qv : Program := view R.prog [78]
def ob (s : PySem.W.SharedT) : AlP := obsP (HandSHeadRun.getT s)
theorem ob_eq (s : PySem.W.SharedT) : ob s = hookP.obs s.abs := obsP_eq (HandSHeadRun.getT_eq s)
theorem run (w : World) : HandSHeadRun.RunEqI R qv hookP ob 8000 names w := by
  unfold HandSHeadRun.RunEqI
  kernel_rfl
end Pn
set_option maxHeartbeats 4000000
/-! the end: the law's promise at the heap behind the top, that heap known to bear no audit hooks -/
namespace Pn
open PySem PySem.Spec PyProof.Rows L2
section
variable {P : Program} {w : World} {K : PySem.W.Frag} {mg mb : Str → Option Value} {h : Heap} {H : Hp} {a : Addr} {ou : Obj}
/-- nothing but the list at a is tracked -/
structure Lone (h : Heap) (H : Hp) (a : Addr) (ou : Obj) : Prop where
  g : h.get? a = some ou
  l : ou.cls = .type "list"
  s : ∃ xs, ou.data = .seq xs
  o : ∀ b, b ≠ a → H b = none
theorem Lone.dict (L : Lone h H a ou) {b : Addr} {o : Obj} {es : Array DictEntry} {ep : Nat} (e : h.get? b = some o) (d : o.data = .dict es ep) : H b = none := by
  by_cases z : b = a
  · subst z
    obtain ⟨xs, q⟩ := L.s
    have hg := L.g
    rw [e] at hg
    cases hg
    rw [q] at d
    cases d
  · exact L.o b z
theorem Lone.modu (L : Lone h H a ou) {b : Addr} {o : Obj} (e : h.get? b = some o) (d : o.cls = .type "module") : H b = none := by
  by_cases z : b = a
  · subst z
    have hg := L.g
    rw [e] at hg
    cases hg
    have q := L.l
    rw [d] at q
    exact absurd q (by decide)
  · exact L.o b z
theorem Lone.ns (L : Lone h H a ou) {b : Addr} {m : Str → Option Value} (x : h.Ns b m) : (hidT h H).Ns b m := by
  obtain ⟨o, es, ep, e, d, r⟩ := x
  exact ⟨o, es, ep, hidT_get e (L.dict e d), d, r⟩
theorem Lone.seer (L : Lone h H a ou) (x : h.NoSeer) : (hidT h H).NoSeer := by
  obtain ⟨⟨m1, s1, s2, s3⟩, ⟨m2, t1, t2⟩, ⟨m3, u1, u2⟩, ⟨m4, bm, ob, v1, v2, v3, v4, v5⟩⟩ := x
  exact ⟨⟨m1, L.ns s1, s2, s3⟩, ⟨m2, L.ns t1, t2⟩, ⟨m3, L.ns u1, u2⟩, ⟨m4, bm, ob, L.ns v1, v2, hidT_get v3 (L.modu v3 v4), v4, v5⟩⟩
theorem Lone.kin (L : Lone h H a ou) (X : K.In h) (q : H a ≠ none → K.lookup a = none) : K.In (hidT h H) := fun b o e => by
  refine hidT_get (X b o e) ?_
  by_cases z : b = a
  · subst z
    cases hb : H b with
    | none => rfl
    | some u =>
      rw [q (by rw [hb]; exact fun z => nomatch z)] at e
      cases e
  · exact L.o b z
theorem Lone.mod (L : Lone h H a ou) (X : K.In h) (q : H a ≠ none → K.lookup a = none) (g : h.Ns mainGlobals mg) (b1 : h.Ns builtinsNs mb) (b2 : ∀ x : Str, x ≠ "__name__" → mb x = bootBuiltins x) (nl : h.NoLimit) : Mod K mg (hidT h H) where
  kin := L.kin X q
  glob := L.ns g
  blt := ⟨mb, L.ns b1, b2⟩
  nolimit := by
    obtain ⟨mc, n1, n2⟩ := nl
    exact ⟨mc, L.ns n1, n2⟩
end
/-- what a law's call has to end with -/
abbrev LawEnd (P : Program) (w : World) (fa a : Addr) (s : Shared) : Prop :=
  codeAny (model P w) callerA (.call (.ref fa) ⟨[.ref a], []⟩) (fun r s' => r = .ok (.ret (.bool true)) ∧ OldK s.heap s'.heap ∧ s'.os = s.os ∧ AllBare s'.gens) s
section
variable {P : Program} {w : World} {K : PySem.W.Frag} {mg mb : Str → Option Value} {k : Nat} {fa a : Addr} {x : Str} {sp : Sp} {s : Shared} {xs : List V} {H : Hp} {ou : Obj}
theorem end_of (L : Lone s.heap H a ou) (X : K.In s.heap) (q : H a ≠ none → K.lookup a = none) (g : s.heap.Ns mainGlobals mg) (b1 : s.heap.Ns builtinsNs mb) (b2 : ∀ x : Str, x ≠ "__name__" → mb x = bootBuiltins x) (nl : s.heap.NoLimit) (ns : s.heap.NoSeer)
    (hg : s.gens = #[]) (ho : Only H) (hS : SqL K H a xs) (hok : HOk P w H s.heap) (hr : Room k callerA)
    (F : ∀ base : Heap, K.In base → base.Ns mainGlobals mg → base.NoSeer → ∃ fd, FnOk P w K mg base CX0 k fa fd [x] sp ∧ L2.Binds K fd [x] [])
    (hsp : sp [.ref a] H (fun v _ => v = .bl true) fun _ _ _ => False) : LawEnd P w fa a s := by
  have md := L.mod X q g b1 b2 nl
  have en : Env0 P w K mg (hidT s.heap H) callerA [] s H := by
    refine ⟨rfl, md, fun b o e => of_hidT e, ?_, trivial, fun b hb => ?_, hok, .of_eq hg⟩
    · rw [hidT_size]
      exact Nat.le_refl _
    · cases hb
  obtain ⟨fd, fo, bi⟩ := F _ md.kin md.glob (L.seer ns)
  have rn := fo.run callerA [] s H ⟨[.ref a], []⟩ [.ref a] [.ref a] (fun v _ => v = .bl true) (fun _ _ _ => False) hr en (bi s [.ref a] X rfl) (.cons rfl .nil) hsp
  refine codeAny_mono rn ?_
  rintro (e | fl) s' z
  · exact False.elim z
  · cases fl with
    | next => exact z.elim
    | brk => exact z.elim
    | cont => exact z.elim
    | ret u =>
      obtain ⟨v, H', os, bare, un, hok', rv, rfl⟩ := z
      cases rv
      refine ⟨rfl, OldK.of_keep fun b o e => ?_, os, bare⟩
      by_cases hb : H b = none
      · exact un.keep b o e hb (fun z => nomatch z) (List.not_mem_nil)
      · obtain ⟨ob, ys, z⟩ := (ho b).resolve_left hb
        have old := (hok b _ z).1
        have new := (hok' b _ (un.frzs b ob _ z)).1
        rw [old] at e
        cases e
        exact new
/-- the head's goal, the heap's silence handed on -/
theorem end_call {vs : List Value} {ns : List Int} (X : K.In s.heap) (g : s.heap.Ns mainGlobals mg) (b1 : s.heap.Ns builtinsNs mb) (b2 : ∀ x : Str, x ≠ "__name__" → mb x = bootBuiltins x) (nl : s.heap.NoLimit) (se : s.heap.NoSeer)
    (hg : s.gens = #[]) (ha : s.heap.get? a = some { cls := .type "list", data := .seq vs.toArray }) (hi : IntsAre vs ns) (hl : ns.length ≤ sizeLine) (hr : Room k callerA)
    (F : ∀ base : Heap, K.In base → base.Ns mainGlobals mg → base.NoSeer → ∃ fd, FnOk P w K mg base CX0 k fa fd [x] sp ∧ L2.Binds K fd [x] [])
    (hsp : ∀ H : Hp, Only H → SqL K H a (ns.map V.int) → sp [.ref a] H (fun v _ => v = .bl true) fun _ _ _ => False) : LawEnd P w fa a s := by
  have rv := vals_ints hi
  have ln := hi.length
  by_cases hk : K.lookup a = none
  · -- the script is tracked, as it stands
    generalize hH : (fun b => if b = a then some (HO.frz { cls := .type "list", data := .seq vs.toArray } (.lst (ns.map V.int))) else none : Hp) = H
    have at_a : H a = some (.frz { cls := .type "list", data := .seq vs.toArray } (.lst (ns.map V.int))) := by
      rw [← hH]
      exact if_pos rfl
    have at_b : ∀ b, b ≠ a → H b = none := fun b z => by
      rw [← hH]
      exact if_neg z
    have only : Only H := fun b => by
      by_cases z : b = a
      · rw [z, at_a]
        exact .inr ⟨_, _, rfl⟩
      · exact .inl (at_b b z)
    have sq : SqL K H a (ns.map V.int) := .inl (.inr ⟨_, at_a⟩)
    refine end_of (xs := ns.map V.int) ⟨ha, rfl, ⟨_, rfl⟩, at_b⟩ X (fun _ => hk) g b1 b2 nl se hg only sq (fun b u z => ?_) hr F (hsp H only sq)
    by_cases hz : b = a
    · subst hz
      rw [at_a] at z
      cases z
      exact ⟨ha, by rw [List.length_map]; exact hl, vs, _, rv, ha⟩
    · rw [at_b b hz] at z
      cases z
  · -- the script is one of the top's own
    obtain ⟨o, ho⟩ : ∃ o, K.lookup a = some o := Option.ne_none_iff_exists'.mp hk
    have eo := X a o ho
    rw [ha] at eo
    cases eo
    have sq : SqL K (fun _ => none) a (ns.map V.int) := .inr ⟨_, vs.toArray, _, ho, rfl, rfl, rfl, by rw [List.size_toArray, ln]; exact hl, by simpa using rv⟩
    have only : Only (fun _ => none) := fun _ => .inl rfl
    exact end_of (xs := ns.map V.int) (H := fun _ => none) ⟨ha, rfl, ⟨_, rfl⟩, fun _ _ => rfl⟩ X (fun z => absurd rfl z) g b1 b2 nl se hg only sq (fun b u z => nomatch z) hr F (hsp _ only sq)
end
end Pn
/-! plain: sums, matrices as functions -/
namespace Pn
def sm : Nat → (Nat → Rat) → Rat
  | 0, _ => 0
  | n + 1, f => sm n f + f n
theorem sm_zero (n : Nat) : sm n (fun _ => 0) = 0 := by
  induction n with
  | zero => rfl
  | succ n h => simp only [sm, h]; grind
theorem sm_add (n : Nat) (f g : Nat → Rat) : sm n (fun i => f i + g i) = sm n f + sm n g := by
  induction n with
  | zero => simp only [sm]; grind
  | succ n h => simp only [sm, h]; grind
theorem sm_sub (n : Nat) (f g : Nat → Rat) : sm n (fun i => f i - g i) = sm n f - sm n g := by
  induction n with
  | zero => simp only [sm]; grind
  | succ n h => simp only [sm, h]; grind
theorem sm_mul (n : Nat) (c : Rat) (f : Nat → Rat) : sm n (fun i => c * f i) = c * sm n f := by
  induction n with
  | zero => simp only [sm]; grind
  | succ n h => simp only [sm, h]; grind
theorem sm_mulr (n : Nat) (c : Rat) (f : Nat → Rat) : sm n (fun i => f i * c) = sm n f * c := by
  induction n with
  | zero => simp only [sm]; grind
  | succ n h => simp only [sm, h]; grind
theorem sm_congr {n : Nat} {f g : Nat → Rat} (h : ∀ i, i < n → f i = g i) : sm n f = sm n g := by
  induction n with
  | zero => rfl
  | succ n ih => simp only [sm]; rw [ih fun i hi => h i (by omega), h n (by omega)]
theorem sm_comm (n m : Nat) (f : Nat → Nat → Rat) : sm n (fun i => sm m fun j => f i j) = sm m fun j => sm n fun i => f i j := by
  induction n with
  | zero => simp only [sm]; rw [sm_zero]
  | succ n h => simp only [sm, h]; rw [sm_add]
theorem sm_more {n m : Nat} {f : Nat → Rat} (h : n ≤ m) (z : ∀ i, n ≤ i → f i = 0) : sm m f = sm n f := by
  induction m with
  | zero => rw [show n = 0 by omega]
  | succ m ih =>
    by_cases e : n = m + 1
    · rw [e]
    · simp only [sm]
      rw [ih (by omega), z m (by omega)]
      grind
theorem sm_nonneg {n : Nat} {f : Nat → Rat} (h : ∀ i, i < n → 0 ≤ f i) : 0 ≤ sm n f := by
  induction n with
  | zero => simp only [sm]; grind
  | succ n ih =>
    simp only [sm]
    have h1 := ih fun i hi => h i (by omega)
    have h2 := h n (by omega)
    grind
theorem sm_zero_all {n : Nat} {f : Nat → Rat} (h : ∀ i, i < n → 0 ≤ f i) (z : sm n f = 0) : ∀ i, i < n → f i = 0 := by
  induction n with
  | zero => intro i hi; omega
  | succ n ih =>
    simp only [sm] at z
    have h1 := sm_nonneg (n := n) (f := f) fun i hi => h i (by omega)
    have h2 := h n (by omega)
    have z1 : sm n f = 0 := by grind
    have z2 : f n = 0 := by grind
    intro i hi
    by_cases e : i = n
    · rw [e]; exact z2
    · exact ih (fun i hi => h i (by omega)) z1 i (by omega)
theorem sm_one {n : Nat} {k : Nat} (hk : k < n) (f : Nat → Rat) (z : ∀ i, i ≠ k → f i = 0) : sm n f = f k := by
  induction n with
  | zero => omega
  | succ n ih =>
    simp only [sm]
    by_cases e : k = n
    · rw [e, sm_congr (g := fun _ => 0) fun i hi => z i (by omega), sm_zero]
      grind
    · rw [ih (by omega), z n (by omega)]
      grind
theorem sq_nn (x : Rat) : 0 ≤ x * x := by
  rcases Rat.le_total (a := 0) (b := x) with h | h
  · exact Rat.mul_nonneg h h
  · have h2 : 0 ≤ -x := by grind
    have := Rat.mul_nonneg h2 h2
    grind
theorem sq_zero {x : Rat} (h : x * x = 0) : x = 0 := by
  grind

/-! ### products -/
abbrev VF := Nat → Rat
abbrev MF := Nat → Nat → Rat
def dt (n : Nat) (a b : VF) : Rat := sm n fun k => a k * b k
def mv (n : Nat) (M : MF) (x : VF) : VF := fun i => sm n fun k => M i k * x k
def mm (n : Nat) (A B : MF) : MF := fun i j => sm n fun k => A i k * B k j
theorem dt_comm (n : Nat) (a b : VF) : dt n a b = dt n b a := sm_congr fun _ _ => Rat.mul_comm _ _
theorem dt_addr (n : Nat) (a b c : VF) : dt n a (fun k => b k + c k) = dt n a b + dt n a c := by
  unfold dt; rw [← sm_add]; exact sm_congr fun i _ => by grind
theorem dt_subr (n : Nat) (a b c : VF) : dt n a (fun k => b k - c k) = dt n a b - dt n a c := by
  unfold dt; rw [← sm_sub]; exact sm_congr fun i _ => by grind
theorem dt_mulr (n : Nat) (a b : VF) (c : Rat) : dt n a (fun k => c * b k) = c * dt n a b := by
  unfold dt; rw [← sm_mul]; exact sm_congr fun i _ => by grind
theorem dt_addl (n : Nat) (a b c : VF) : dt n (fun k => b k + c k) a = dt n b a + dt n c a := by
  unfold dt; rw [← sm_add]; exact sm_congr fun i _ => by grind
theorem dt_subl (n : Nat) (a b c : VF) : dt n (fun k => b k - c k) a = dt n b a - dt n c a := by
  unfold dt; rw [← sm_sub]; exact sm_congr fun i _ => by grind
theorem dt_mull (n : Nat) (a b : VF) (c : Rat) : dt n (fun k => c * b k) a = c * dt n b a := by
  unfold dt; rw [← sm_mul]; exact sm_congr fun i _ => by grind
theorem mv_dt (n : Nat) (M : MF) (x : VF) (i : Nat) : mv n M x i = dt n (M i) x := rfl
theorem mm_mv (n : Nat) (A B : MF) (x : VF) : mv n (mm n A B) x = mv n A (mv n B x) := by
  funext i
  unfold mv mm
  rw [sm_congr (g := fun k => sm n fun l => A i l * B l k * x k) fun k _ => by rw [← sm_mulr], sm_comm]
  exact sm_congr fun k _ => by
    rw [← sm_mul]
    exact sm_congr fun l _ => by grind
theorem mm_assoc (n : Nat) (A B C : MF) : mm n (mm n A B) C = mm n A (mm n B C) := by
  funext i j
  exact congrFun (mm_mv n A B fun k => C k j) i
/-- the transposed one -/
theorem dt_mv (n : Nat) (M : MF) (hs : ∀ i j, M i j = M j i) (x y : VF) : dt n (mv n M x) y = dt n x (mv n M y) := by
  unfold dt mv
  rw [sm_congr (g := fun k => sm n fun l => M k l * x l * y k) fun k _ => by rw [← sm_mulr], sm_comm]
  exact sm_congr fun k _ => by
    rw [← sm_mul]
    exact sm_congr fun l _ => by rw [hs l k]; grind
theorem mv_add (n : Nat) (M : MF) (x y : VF) (i : Nat) : mv n M (fun k => x k + y k) i = mv n M x i + mv n M y i := dt_addr n (M i) x y
theorem mv_sub (n : Nat) (M : MF) (x y : VF) (i : Nat) : mv n M (fun k => x k - y k) i = mv n M x i - mv n M y i := dt_subr n (M i) x y
theorem mv_mul (n : Nat) (M : MF) (x : VF) (c : Rat) (i : Nat) : mv n M (fun k => c * x k) i = c * mv n M x i := dt_mulr n (M i) x c
theorem mv_zero (n : Nat) (M : MF) (i : Nat) : mv n M (fun _ => 0) i = 0 := by
  exact (sm_congr (g := fun _ => 0) fun k _ => by grind).trans (sm_zero n)
/-- M, P are each other's group inverse, both symmetric -/
structure GI (n : Nat) (M P : MF) : Prop where
  ms : ∀ i j, M i j = M j i
  ps : ∀ i j, P i j = P j i
  mpm : mm n M (mm n P M) = M
  pmp : mm n P (mm n M P) = P
  com : mm n M P = mm n P M
theorem GI.uniq {n : Nat} {M P Q : MF} (h : GI n M P) (k : GI n M Q) : P = Q := by
  have e1 : mm n P (mm n M Q) = P := by
    have a : mm n P (mm n (mm n M (mm n Q M)) P) = P := by rw [k.mpm]; exact h.pmp
    -- P M Q M P = P (M Q) (M P) ; M P = P M
    have b : mm n (mm n M (mm n Q M)) P = mm n (mm n Q M) (mm n M P) := by
      rw [show mm n M (mm n Q M) = mm n (mm n M Q) M from (mm_assoc ..).symm, k.com, mm_assoc]
    have c : mm n P (mm n M Q) = mm n P (mm n (mm n M P) (mm n M Q)) := by
      rw [h.com, mm_assoc n P M, ← mm_assoc n P P, ← mm_assoc n M M]
      have : mm n M (mm n M Q) = mm n M (mm n M Q) := rfl
      rw [← mm_assoc n P M Q]
      conv => lhs; rw [show P = mm n P (mm n M P) from h.pmp.symm]
      rw [h.com]
      simp only [mm_assoc]
    have d : mm n (mm n M P) (mm n M Q) = mm n M P := by
      have : mm n (mm n M P) (mm n M Q) = mm n (mm n P M) (mm n Q M) := by rw [h.com, k.com]
      rw [this, mm_assoc, ← mm_assoc n M Q M, mm_assoc n M Q M, k.mpm, h.com]
    rw [c, d, h.pmp]
  have e2 : mm n P (mm n M Q) = Q := by
    have d : mm n (mm n P M) (mm n Q M) = mm n Q M := by
      have : mm n (mm n P M) (mm n Q M) = mm n (mm n M P) (mm n M Q) := by rw [h.com, k.com]
      rw [this, mm_assoc, ← mm_assoc n P M Q, ← mm_assoc n M (mm n P M) Q, h.mpm, k.com]
    have : mm n P (mm n M Q) = mm n (mm n (mm n P M) (mm n Q M)) Q := by
      rw [mm_assoc n (mm n P M), mm_assoc n Q M Q, k.pmp, mm_assoc]
    rw [this, d, mm_assoc, k.pmp]
  rw [← e1, e2]
end Pn
/-! plain: the group inverse behind a term more or less -/
namespace Pn
/-- a term of rank one more -/
def r1 (A : MF) (c : Rat) (x y : VF) : MF := fun i j => A i j + c * (x i * y j)
def vm (n : Nat) (y : VF) (B : MF) : VF := fun j => dt n y fun k => B k j
theorem vm_sym {n : Nat} {B : MF} (h : ∀ i j, B i j = B j i) (y : VF) : vm n y B = mv n B y := by
  funext j
  exact sm_congr fun k _ => by show y k * B k j = B j k * y k; rw [h k j]; grind
theorem mm_r1l (n : Nat) (A B : MF) (c : Rat) (x y : VF) (i j : Nat) : mm n (r1 A c x y) B i j = mm n A B i j + c * (x i * vm n y B j) := by
  unfold mm vm dt r1
  rw [← sm_mul, ← sm_mul, ← sm_add]
  exact sm_congr fun k _ => by grind
theorem mm_r1r (n : Nat) (A B : MF) (c : Rat) (x y : VF) (i j : Nat) : mm n A (r1 B c x y) i j = mm n A B i j + c * (mv n A x i * y j) := by
  unfold mm mv r1
  rw [← sm_mulr, ← sm_mul, ← sm_add]
  exact sm_congr fun k _ => by grind
theorem mv_r1 (n : Nat) (A : MF) (c : Rat) (x y z : VF) (i : Nat) : mv n (r1 A c x y) z i = mv n A z i + c * (x i * dt n y z) := by
  unfold mv dt r1
  rw [← sm_mul, ← sm_mul, ← sm_add]
  exact sm_congr fun k _ => by grind
theorem vm_r1 (n : Nat) (A : MF) (c : Rat) (x y z : VF) (i : Nat) : vm n z (r1 A c x y) i = vm n z A i + c * (dt n z x * y i) := by
  unfold vm dt r1
  rw [← sm_mulr, ← sm_mul, ← sm_add]
  exact sm_congr fun k _ => by grind
theorem r1_sym {A : MF} (h : ∀ i j, A i j = A j i) (c : Rat) (x : VF) (i j : Nat) : r1 A c x x i j = r1 A c x x j i := by
  unfold r1
  rw [h i j]
  grind
theorem mf_ext {A B : MF} (h : ∀ i j, A i j = B i j) : A = B := funext fun i => funext fun j => h i j
theorem mm_sym {n : Nat} {A B : MF} (ha : ∀ i j, A i j = A j i) (hb : ∀ i j, B i j = B j i) (i j : Nat) : mm n A B i j = mm n B A j i := sm_congr fun k _ => by rw [ha i k, hb k j]; grind
/-- M P known and symmetric: the other facts -/
theorem GI.of {n : Nat} {M P E : MF} (ms : ∀ i j, M i j = M j i) (ps : ∀ i j, P i j = P j i) (e : mm n M P = E) (es : ∀ i j, E i j = E j i) (em : mm n E M = M) (ep : mm n E P = P) : GI n M P := by
  have c : mm n M P = mm n P M := by
    apply mf_ext
    intro i j
    rw [← mm_sym ms ps, e, es]
  exact ⟨ms, ps, by rw [← mm_assoc, e, em], by rw [← mm_assoc, ← c, e, ep], c⟩
section
variable {n : Nat} {M P : MF}
theorem GI.pmv (h : GI n M P) (x : VF) : mv n P (mv n M (mv n P x)) = mv n P x := by
  rw [← mm_mv n M P, ← mm_mv, h.pmp]
theorem GI.mmv (h : GI n M P) (x : VF) : mv n M (mv n P (mv n M x)) = mv n M x := by
  rw [← mm_mv n P M, ← mm_mv, h.mpm]
theorem GI.cmv (h : GI n M P) (x : VF) : mv n M (mv n P x) = mv n P (mv n M x) := by
  rw [← mm_mv, ← mm_mv, h.com]
/-- a in the range of M; more or less of it -/
theorem GI.up (h : GI n M P) {a : VF} (ha : mv n M (mv n P a) = a) {w : Rat} (hw : 1 + w * dt n a (mv n P a) ≠ 0) :
    GI n (r1 M w a a) (r1 P (-(w / (1 + w * dt n a (mv n P a)))) (mv n P a) (mv n P a)) := by
  have hg : mv n P (mv n M (mv n P a)) = mv n P a := h.pmv a
  have hpa : mv n P (mv n M a) = a := by rw [← h.cmv]; exact ha
  generalize hgg : mv n P a = g at *
  generalize hs : dt n a g = s at *
  have hf : w / (1 + w * s) * (1 + w * s) = w := by grind
  generalize w / (1 + w * s) = f at *
  refine GI.of (E := mm n M P) (r1_sym h.ms _ _) (r1_sym h.ps _ _) ?_ ?_ ?_ ?_
  · apply mf_ext
    intro i j
    rw [mm_r1l, mm_r1r, vm_r1, vm_sym h.ps, hgg, ha, hs]
    grind
  · intro i j
    rw [mm_sym h.ms h.ps, h.com]
  · apply mf_ext
    intro i j
    rw [mm_r1r, mm_assoc, h.mpm, mm_mv, hgg, ha]
    rfl
  · apply mf_ext
    intro i j
    rw [mm_r1r, h.com, mm_assoc, h.pmp, mm_mv, hg]
    rfl
/-- a not in the range -/
theorem GI.out (h : GI n M P) {a u c : VF} {w : Rat} (hw : w ≠ 0) (hu : ∀ i, u i = a i - mv n M (mv n P a) i) (hn : dt n u u ≠ 0) (hc : ∀ i, c i = 1 / dt n u u * u i) :
    GI n (r1 M w a a) (r1 (r1 (r1 P (-1) c (mv n P a)) (-1) (mv n P a) c) (1 / w + dt n a (mv n P a)) c c) := by
  have hg : mv n P (mv n M (mv n P a)) = mv n P a := h.pmv a
  have u0 : u = fun i => a i - mv n M (mv n P a) i := funext hu
  have mu : ∀ i, mv n M u i = 0 := by
    intro i
    rw [u0, mv_sub, h.cmv a, h.mmv]
    grind
  have pu : ∀ i, mv n P u i = 0 := by
    intro i
    rw [u0, mv_sub, hg]
    grind
  have c0 : c = fun i => 1 / dt n u u * u i := funext hc
  have mc : mv n M c = fun _ => 0 := by
    funext i
    rw [c0, mv_mul, mu]
    grind
  have pc : mv n P c = fun _ => 0 := by
    funext i
    rw [c0, mv_mul, pu]
    grind
  have d0 : ∀ x : VF, dt n (fun _ => 0) x = 0 := fun x => (sm_congr (g := fun _ => 0) fun k _ => by grind).trans (sm_zero n)
  have ua : dt n u a = dt n u u := by
    conv => rhs; rw [show dt n u u = dt n u (fun i => a i - mv n M (mv n P a) i) by rw [← u0]]
    rw [dt_subr, ← dt_mv n M h.ms, show mv n M u = fun _ => 0 from funext mu, d0]
    grind
  have ca : dt n c a = 1 := by
    rw [c0, dt_mull, ua]
    grind
  have ac : dt n a c = 1 := by rw [dt_comm]; exact ca
  have cg : dt n c (mv n P a) = 0 := by
    rw [← dt_mv n P h.ps, pc, d0]
  have cc : ∀ i, dt n c c * u i = c i := by
    intro i
    have : dt n c c = 1 / dt n u u * (1 / dt n u u * dt n u u) := by
      rw [c0, dt_mull, dt_mulr]
    rw [this, hc i]
    grind
  have uM : ∀ i, a i = mv n M (mv n P a) i + u i := fun i => by rw [hu i]; grind
  have au : ∀ i, u i = dt n u u * c i := fun i => by rw [hc i]; grind
  have pg : mv n P (mv n M (mv n P a)) = mv n P a := hg
  generalize hgg : mv n P a = g at *
  generalize hs : dt n a g = s at *
  generalize hq : dt n u u = q at *
  refine GI.of (E := r1 (mm n M P) 1 u c) (r1_sym h.ms _ _) ?_ ?_ ?_ ?_ ?_
  · intro i j
    unfold r1
    rw [h.ps i j]
    grind
  · apply mf_ext
    intro i j
    rw [mm_r1l, mm_r1r, mm_r1r, mm_r1r, vm_r1, vm_r1, vm_r1, vm_sym h.ps, hgg, mc, hs, ac]
    unfold r1
    have := uM i
    grind
  · intro i j
    unfold r1
    rw [mm_sym h.ms h.ps, ← h.com, au i, au j]
    grind
  · apply mf_ext
    intro i j
    rw [mm_r1l, mm_r1r, mm_assoc, h.mpm, mm_mv, hgg, vm_r1, vm_sym h.ms, mc, ca]
    unfold r1
    have := uM i
    grind
  · apply mf_ext
    intro i j
    rw [mm_r1l, mm_r1r, mm_r1r, mm_r1r, h.com, mm_assoc, h.pmp, mm_mv, mm_mv, mc, pg, mv_zero, vm_r1, vm_r1, vm_r1, vm_sym h.ps, pc, cg]
    unfold r1
    have := cc i
    grind
/-- the last reading that holds a direction is taken away -/
theorem GI.drop (h : GI n M P) {a : VF} (ha : mv n M (mv n P a) = a) {w : Rat} (hw : 1 - w * dt n a (mv n P a) = 0) (hq : dt n (mv n P a) (mv n P a) ≠ 0) :
    GI n (r1 M (-w) a a) (r1 (r1 (r1 P (-1 / dt n (mv n P a) (mv n P a)) (mv n P (mv n P a)) (mv n P a)) (-1 / dt n (mv n P a) (mv n P a)) (mv n P a) (mv n P (mv n P a)))
      (dt n (mv n P a) (mv n P (mv n P a)) / (dt n (mv n P a) (mv n P a) * dt n (mv n P a) (mv n P a))) (mv n P a) (mv n P a)) := by
  have hmg : mv n M (mv n P a) = a := ha
  have hmh : mv n M (mv n P (mv n P a)) = mv n P a := by
    rw [h.cmv, h.pmv]
  have hpg : mv n P (mv n M (mv n P a)) = mv n P a := h.pmv a
  have hah : dt n a (mv n P (mv n P a)) = dt n (mv n P a) (mv n P a) := by rw [← dt_mv n P h.ps]
  have hph : mv n P (mv n M (mv n P (mv n P a))) = mv n P (mv n P a) := h.pmv _
  generalize hgg : mv n P a = g at *
  generalize hhh : mv n P g = k at *
  generalize hs : dt n a g = s at *
  generalize hqq : dt n g g = q at *
  generalize htt : dt n g k = t at *
  have hkg : dt n k g = t := by rw [dt_comm]; exact htt
  have c1 : -1 / q * q = -1 := by grind
  have c2 : t / (q * q) * q = t / q := by grind
  have c3 : t / q * q = t := by grind
  have c4 : -1 / q * t = - (t / q) := by grind
  refine GI.of (E := r1 (mm n M P) (-1 / q) g g) (r1_sym h.ms _ _) ?_ ?_ ?_ ?_ ?_
  · intro i j
    unfold r1
    rw [h.ps i j]
    grind
  · apply mf_ext
    intro i j
    rw [mm_r1l, mm_r1r, mm_r1r, mm_r1r, vm_r1, vm_r1, vm_r1, vm_sym h.ps, hgg, hmh, hmg, hs, hah]
    unfold r1
    grind
  · exact r1_sym (fun i j => by rw [mm_sym h.ms h.ps, h.com]) _ _
  · apply mf_ext
    intro i j
    rw [mm_r1l, mm_r1r, mm_assoc, h.mpm, mm_mv, hgg, vm_r1, vm_sym h.ms, hmg, show dt n g a = s by rw [dt_comm]; exact hs]
    unfold r1
    grind
  · apply mf_ext
    intro i j
    rw [mm_r1l, mm_r1r, mm_r1r, mm_r1r, h.com, mm_assoc, h.pmp, mm_mv, mm_mv, hpg, hph, vm_r1, vm_r1, vm_r1, vm_sym h.ps, hhh, hqq, htt]
    unfold r1
    grind
end
end Pn
/-! plain: lists of fractions as functions -/
namespace Pn
def vf (v : Vec) : VF := fun i => v.getD i 0
def mf (m : Mat) : MF := fun i j => (m.getD i []).getD j 0
theorem vf_nil (i : Nat) : vf [] i = 0 := by simp [vf]
theorem vf_cons0 (x : Rat) (v : Vec) : vf (x :: v) 0 = x := rfl
theorem vf_out {v : Vec} {i : Nat} (h : v.length ≤ i) : vf v i = 0 := by
  unfold vf
  rw [List.getD_eq_getElem?_getD, List.getElem?_eq_none h]
  rfl
theorem vf_in {v : Vec} {i : Nat} (h : i < v.length) : vf v i = v[i] := by
  unfold vf
  rw [List.getD_eq_getElem?_getD, List.getElem?_eq_getElem h]
  rfl
theorem vf_some {v : Vec} {i : Nat} {x : Rat} (h : v[i]? = some x) : vf v i = x := by
  unfold vf
  rw [List.getD_eq_getElem?_getD, h]
  rfl
theorem vf_mem {v : Vec} {x : Rat} (h : x ∈ v) : ∃ i, i < v.length ∧ vf v i = x := by
  obtain ⟨i, hi, e⟩ := List.getElem_of_mem h
  exact ⟨i, hi, by rw [vf_in hi, e]⟩
theorem vf_ext {a b : Vec} (hl : a.length = b.length) (h : ∀ i, vf a i = vf b i) : a = b := by
  apply List.ext_getElem hl
  intro i h1 h2
  rw [← vf_in h1, ← vf_in h2, h]
theorem mf_row (m : Mat) (i : Nat) : vf (m.getD i []) = mf m i := rfl
theorem row_in {m : Mat} {i : Nat} (h : i < m.length) : m.getD i [] = m[i] := by
  rw [List.getD_eq_getElem?_getD, List.getElem?_eq_getElem h]
  rfl
theorem row_out {m : Mat} {i : Nat} (h : m.length ≤ i) : m.getD i [] = [] := by
  rw [List.getD_eq_getElem?_getD, List.getElem?_eq_none h]
  rfl
theorem mf_out {m : Mat} {i j : Nat} (h : m.length ≤ i) : mf m i j = 0 := by
  unfold mf
  rw [row_out h]
  simp
structure Sq (n : Nat) (m : Mat) : Prop where
  l : m.length = n
  r : ∀ r ∈ m, r.length = n
theorem Sq.row {n : Nat} {m : Mat} (h : Sq n m) {i : Nat} (hi : i < n) : (m.getD i []).length = n := by
  have := h.l
  rw [row_in (by omega)]
  exact h.r _ (List.getElem_mem _)
theorem Sq.out {n : Nat} {m : Mat} (h : Sq n m) {i j : Nat} (hj : n ≤ j) : mf m i j = 0 := by
  by_cases hi : i < n
  · exact vf_out (by rw [h.row hi]; exact hj)
  · exact mf_out (by rw [h.l]; omega)
theorem Sq.out' {n : Nat} {m : Mat} (h : Sq n m) {i j : Nat} (hj : n ≤ i) : mf m i j = 0 := mf_out (by rw [h.l]; omega)
theorem Sq.ext {n : Nat} {a b : Mat} (ha : Sq n a) (hb : Sq n b) (h : mf a = mf b) : a = b := by
  apply List.ext_getElem (by rw [ha.l, hb.l])
  intro i h1 h2
  have e : vf (a.getD i []) = vf (b.getD i []) := congrFun h i
  rw [row_in h1, row_in h2] at e
  exact vf_ext (by rw [ha.r _ (List.getElem_mem _), hb.r _ (List.getElem_mem _)]) fun j => congrFun e j
theorem foldl_add (l : Vec) (c : Rat) : l.foldl (· + ·) c = c + l.foldl (· + ·) 0 := by
  induction l generalizing c with
  | nil => simp only [List.foldl_nil]; grind
  | cons x l ih =>
    simp only [List.foldl_cons]
    rw [ih (c + x), ih (0 + x)]
    grind
theorem sm_head (n : Nat) (f : VF) : sm (n + 1) f = f 0 + sm n fun i => f (i + 1) := by
  induction n with
  | zero => simp only [sm]; grind
  | succ n ih =>
    rw [sm, ih]
    simp only [sm]
    grind
theorem dotM_cons (x y : Rat) (a b : Vec) : dotM (x :: a) (y :: b) = x * y + dotM a b := by
  unfold dotM
  rw [List.zipWith_cons_cons, List.foldl_cons, foldl_add]
  grind
theorem dt_zl (n : Nat) (b : VF) : dt n (fun _ => 0) b = 0 := (sm_congr (g := fun _ => 0) fun k _ => by grind).trans (sm_zero n)
theorem dt_zr (n : Nat) (b : VF) : dt n b (fun _ => 0) = 0 := (sm_congr (g := fun _ => 0) fun k _ => by grind).trans (sm_zero n)
theorem dotM_dt {n : Nat} : ∀ {a b : Vec}, a.length ≤ n → dotM a b = dt n (vf a) (vf b) := by
  induction n with
  | zero =>
    intro a b h
    have : a = [] := List.length_eq_zero_iff.mp (by omega)
    subst this
    rfl
  | succ n ih =>
    intro a b h
    cases a with
    | nil => exact (show dotM [] b = 0 by simp [dotM]).trans ((dt_zl (n + 1) (vf b)).symm.trans (by congr 1))
    | cons x a => cases b with
      | nil => exact (show dotM (x :: a) [] = 0 by simp [dotM]).trans ((dt_zr (n + 1) (vf (x :: a))).symm.trans (by congr 1))
      | cons y b =>
        rw [dotM_cons, ih (by simpa using h)]
        unfold dt
        rw [sm_head]
        rfl
theorem vf_plus {a b : Vec} (h : a.length = b.length) (i : Nat) : vf (plusM a b) i = vf a i + vf b i := by
  by_cases hi : i < a.length
  · rw [vf_in (by rw [len_plus]; omega), vf_in hi, vf_in (by omega)]
    simp [plusM]
  · rw [vf_out (by rw [len_plus]; omega), vf_out (by omega), vf_out (by omega)]
    grind
theorem vf_minus {a b : Vec} (h : a.length = b.length) (i : Nat) : vf (minusM a b) i = vf a i - vf b i := by
  by_cases hi : i < a.length
  · rw [vf_in (by rw [len_minus]; omega), vf_in hi, vf_in (by omega)]
    simp [minusM]
  · rw [vf_out (by rw [len_minus]; omega), vf_out (by omega), vf_out (by omega)]
    grind
theorem vf_scale (f : Rat) (a : Vec) (i : Nat) : vf (scaleM f a) i = f * vf a i := by
  by_cases hi : i < a.length
  · rw [vf_in (by rw [len_scale]; exact hi), vf_in hi]
    simp [scaleM]
  · rw [vf_out (by rw [len_scale]; omega), vf_out (by omega)]
    grind
theorem vf_apply {n : Nat} {m : Mat} {v : Vec} (h : ∀ r ∈ m, r.length ≤ n) (i : Nat) : vf (applyM m v) i = mv n (mf m) (vf v) i := by
  by_cases hi : i < m.length
  · rw [vf_in (by rw [len_apply]; exact hi)]
    simp only [applyM, List.getElem_map]
    rw [dotM_dt (h _ (List.getElem_mem _)), mv_dt, ← mf_row, row_in hi]
  · rw [vf_out (by rw [len_apply]; omega), mv_dt]
    exact (dt_zl n (vf v)).symm.trans (by congr 1; funext k; exact (mf_out (by omega)).symm)
theorem mf_map {g : Vec → Vec} {m : Mat} {i : Nat} (hi : i < m.length) : (m.map g).getD i [] = g (m.getD i []) := by
  rw [row_in (by simpa using hi), row_in hi, List.getElem_map]
theorem mf_outer (a b : Vec) (i j : Nat) : mf (outerM a b) i j = vf a i * vf b j := by
  by_cases hi : i < a.length
  · rw [← mf_row, row_in (by simpa [outerM] using hi)]
    simp only [outerM, List.getElem_map]
    rw [vf_scale, vf_in hi]
  · rw [mf_out (by simp [outerM]; omega), vf_out (by omega)]
    grind
theorem mf_scaled (f : Rat) (m : Mat) (i j : Nat) : mf (scaledM f m) i j = f * mf m i j := by
  by_cases hi : i < m.length
  · rw [← mf_row, scaledM, mf_map hi, vf_scale, mf_row]
  · rw [mf_out (by simp [scaledM]; omega), mf_out (by omega)]
    grind
theorem mf_sum {n : Nat} {a b : Mat} (ha : Sq n a) (hb : Sq n b) (i j : Nat) : mf (sumM a b) i j = mf a i j + mf b i j := by
  by_cases hi : i < n
  · have h1 := ha.l
    have h2 := hb.l
    rw [← mf_row, row_in (by simp [sumM]; omega)]
    simp only [sumM, List.getElem_zipWith]
    rw [vf_plus (by rw [ha.r _ (List.getElem_mem _), hb.r _ (List.getElem_mem _)]), ← row_in, ← row_in]
    rfl
  · rw [mf_out (by simp [sumM, ha.l, hb.l]; omega), ha.out' (by omega), hb.out' (by omega)]
    grind
theorem sq_sum {n : Nat} {a b : Mat} (ha : Sq n a) (hb : Sq n b) : Sq n (sumM a b) := by
  refine ⟨by simp [sumM, ha.l, hb.l], fun r hr => ?_⟩
  obtain ⟨i, hi, rfl⟩ := List.getElem_of_mem hr
  simp only [sumM, List.getElem_zipWith]
  rw [len_plus, ha.r _ (List.getElem_mem _), hb.r _ (List.getElem_mem _)]
  omega
theorem sq_scaled {n : Nat} {a : Mat} {f : Rat} (ha : Sq n a) : Sq n (scaledM f a) := by
  refine ⟨by simp [scaledM, ha.l], fun r hr => ?_⟩
  obtain ⟨x, hx, rfl⟩ := List.mem_map.mp hr
  rw [len_scale]
  exact ha.r x hx
theorem sq_outer {n : Nat} {a b : Vec} (ha : a.length = n) (hb : b.length = n) : Sq n (outerM a b) := by
  refine ⟨by simp [outerM, ha], fun r hr => ?_⟩
  obtain ⟨x, hx, rfl⟩ := List.mem_map.mp hr
  rw [len_scale, hb]
theorem sq_r1 {n : Nat} {m : Mat} {c : Rat} {a b : Vec} (hm : Sq n m) (ha : a.length = n) (hb : b.length = n) : Sq n (sumM m (scaledM c (outerM a b))) := sq_sum hm (sq_scaled (sq_outer ha hb))
theorem mf_r1 {n : Nat} {m : Mat} {c : Rat} {a b : Vec} (hm : Sq n m) (ha : a.length = n) (hb : b.length = n) : mf (sumM m (scaledM c (outerM a b))) = r1 (mf m) c (vf a) (vf b) := by
  apply mf_ext
  intro i j
  rw [mf_sum hm (sq_scaled (sq_outer ha hb)), mf_scaled, mf_outer]
  rfl
theorem vf_app0 (v : Vec) : vf (v ++ [0]) = vf v := by
  funext i
  by_cases h : i < v.length
  · rw [vf_in (by simp; omega), vf_in h, List.getElem_append_left h]
  · by_cases e : i = v.length
    · subst e
      rw [vf_in (by simp), vf_out (Nat.le_refl _)]
      simp
    · rw [vf_out (by simp; omega), vf_out (by omega)]
theorem mf_widen (m : Mat) : mf (widenM m) = mf m := by
  apply mf_ext
  intro i j
  by_cases h : i < m.length
  · rw [← mf_row, row_in (by simp [widenM]; omega)]
    simp only [widenM]
    rw [List.getElem_append_left (by simpa using h), List.getElem_map, vf_app0, ← row_in]
    rfl
  · rw [mf_out (show m.length ≤ i by omega)]
    by_cases e : i = m.length
    · subst e
      rw [← mf_row, row_in (by simp [widenM])]
      simp only [widenM]
      rw [List.getElem_append_right (by simp)]
      simp only [List.length_map, Nat.sub_self, List.getElem_singleton]
      unfold vf
      rw [List.getD_eq_getElem?_getD, List.getElem?_replicate]
      split <;> rfl
    · exact mf_out (by simp [widenM]; omega)
theorem sq_widen {n : Nat} {m : Mat} (h : Sq n m) : Sq (n + 1) (widenM m) := by
  refine ⟨by simp [widenM, h.l], fun r hr => ?_⟩
  rcases List.mem_append.mp hr with k | k
  · obtain ⟨x, hx, rfl⟩ := List.mem_map.mp k
    simp [h.r x hx]
  · rw [List.mem_singleton.mp k]
    simp [h.l]
theorem zero_iff (v : Vec) : isZeroM v = true ↔ ∀ i, vf v i = 0 := by
  unfold isZeroM
  rw [List.all_eq_true]
  constructor
  · intro h i
    by_cases hi : i < v.length
    · rw [vf_in hi]
      exact Rat.num_eq_zero.mp (by simpa using h _ (List.getElem_mem hi))
    · exact vf_out (by omega)
  · intro h x hx
    obtain ⟨i, hi, e⟩ := vf_mem hx
    rw [h i] at e
    subst e
    rfl
theorem gi_grow {n : Nat} {M P : Mat} (hm : Sq n M) (hp : Sq n P) (h : GI n (mf M) (mf P)) : GI (n + 1) (mf M) (mf P) := by
  have k : ∀ (A : MF) (B : MF), (∀ i, B n i = 0) → mm (n + 1) A B = mm n A B := by
    intro A B hb
    apply mf_ext
    intro i j
    show sm n _ + A i n * B n j = _
    rw [hb j]
    unfold mm
    grind
  have z : ∀ A B : MF, (∀ i, A n i = 0) → ∀ j, mm n A B n j = 0 := by
    intro A B ha j
    unfold mm
    exact (sm_congr (g := fun _ => 0) fun k _ => by rw [ha]; grind).trans (sm_zero n)
  have m0 : ∀ i, mf M n i = 0 := fun i => hm.out' (Nat.le_refl _)
  have p0 : ∀ i, mf P n i = 0 := fun i => hp.out' (Nat.le_refl _)
  refine ⟨h.ms, h.ps, ?_, ?_, ?_⟩
  · rw [k _ _ m0, k _ _ (z _ _ p0), h.mpm]
  · rw [k _ _ p0, k _ _ (z _ _ m0), h.pmp]
  · rw [k _ _ m0, k _ _ p0, h.com]
end Pn
/-! plain: the net of a list of readings -/
namespace Pn
section
variable {α : Type}
def ls : List α → (α → Rat) → Rat
  | [], _ => 0
  | x :: l, f => f x + ls l f
theorem ls_app (l k : List α) (f : α → Rat) : ls (l ++ k) f = ls l f + ls k f := by
  induction l with
  | nil => simp only [List.nil_append, ls]; grind
  | cons x l ih => simp only [List.cons_append, ls, ih]; grind
theorem ls_congr {l : List α} {f g : α → Rat} (h : ∀ x ∈ l, f x = g x) : ls l f = ls l g := by
  induction l with
  | nil => rfl
  | cons x l ih => simp only [ls]; rw [h x (by simp), ih fun y hy => h y (by simp [hy])]
theorem ls_add (l : List α) (f g : α → Rat) : ls l (fun x => f x + g x) = ls l f + ls l g := by
  induction l with
  | nil => simp only [ls]; grind
  | cons x l ih => simp only [ls, ih]; grind
theorem ls_sub (l : List α) (f g : α → Rat) : ls l (fun x => f x - g x) = ls l f - ls l g := by
  induction l with
  | nil => simp only [ls]; grind
  | cons x l ih => simp only [ls, ih]; grind
theorem ls_mul (l : List α) (c : Rat) (f : α → Rat) : ls l (fun x => c * f x) = c * ls l f := by
  induction l with
  | nil => simp only [ls]; grind
  | cons x l ih => simp only [ls, ih]; grind
theorem ls_mulr (l : List α) (c : Rat) (f : α → Rat) : ls l (fun x => f x * c) = ls l f * c := by
  induction l with
  | nil => simp only [ls]; grind
  | cons x l ih => simp only [ls, ih]; grind
theorem ls_zero (l : List α) : ls l (fun _ => 0) = 0 := by
  induction l with
  | nil => rfl
  | cons x l ih => simp only [ls, ih]; grind
theorem ls_nonneg {l : List α} {f : α → Rat} (h : ∀ x ∈ l, 0 ≤ f x) : 0 ≤ ls l f := by
  induction l with
  | nil => simp only [ls]; grind
  | cons x l ih =>
    simp only [ls]
    have h1 := h x (by simp)
    have h2 := ih fun y hy => h y (by simp [hy])
    grind
theorem ls_zero_all {l : List α} {f : α → Rat} (h : ∀ x ∈ l, 0 ≤ f x) (z : ls l f = 0) : ∀ x ∈ l, f x = 0 := by
  induction l with
  | nil => intro x hx; simp at hx
  | cons x l ih =>
    simp only [ls] at z
    have h1 := h x (by simp)
    have h2 := ls_nonneg fun y hy => h y (List.mem_cons_of_mem _ hy)
    have z1 : f x = 0 := by grind
    have z2 : ls l f = 0 := by grind
    intro y hy
    rcases List.mem_cons.mp hy with e | e
    · rw [e]; exact z1
    · exact ih (fun y hy => h y (List.mem_cons_of_mem _ hy)) z2 y e
theorem ls_sm (l : List α) (n : Nat) (f : α → Nat → Rat) : sm n (fun k => ls l fun x => f x k) = ls l fun x => sm n (f x) := by
  induction l with
  | nil => simp only [ls]; exact sm_zero n
  | cons x l ih => simp only [ls]; rw [sm_add, ih]
theorem ls_erase {l : List α} {i : Nat} {x : α} (h : l[i]? = some x) (f : α → Rat) : ls l f = f x + ls (l.eraseIdx i) f := by
  induction l generalizing i with
  | nil => simp at h
  | cons y l ih =>
    cases i with
    | zero =>
      have : y = x := by simpa using h
      subst this
      rfl
    | succ i =>
      simp only [List.eraseIdx_cons_succ, ls]
      rw [ih (by simpa using h)]
      grind
theorem ls_set {l : List α} {i : Nat} {x y : α} (h : l[i]? = some x) (f : α → Rat) : ls (l.set i y) f = f y + ls (l.eraseIdx i) f := by
  induction l generalizing i with
  | nil => simp at h
  | cons z l ih =>
    cases i with
    | zero => rfl
    | succ i =>
      simp only [List.eraseIdx_cons_succ, List.set_cons_succ, ls]
      rw [ih (by simpa using h)]
      grind
end
section
variable {S : Type} [DecidableEq S]
theorem len_rowTo (pts : List S) : ∀ (ts : List (S × Int)), (rowTo pts ts).length = pts.length := by
  have : ∀ (ts : List (S × Int)) (acc : Vec), (ts.foldl (fun acc t => acc.set (pts.idxOf t.1) (t.2 : Rat)) acc).length = acc.length := by
    intro ts
    induction ts with
    | nil => intro acc; rfl
    | cons t ts ih => intro acc; rw [List.foldl_cons, ih, List.length_set]
  intro ts
  unfold rowTo
  rw [this, List.length_replicate]
/-- a reading's row, as a function -/
def rwf (pts : List S) (r : Rdg S) : VF := vf (rowTo pts r.terms)
def shf (pts : List S) (x0 : Vec) (r : Rdg S) : Rat := r.value - dotM (rowTo pts r.terms) x0
def MA (pts : List S) (rs : List (Rdg S)) : MF := fun i j => ls rs fun r => r.weight * (rwf pts r i * rwf pts r j)
def RA (pts : List S) (x0 : Vec) (rs : List (Rdg S)) : VF := fun i => ls rs fun r => r.weight * shf pts x0 r * rwf pts r i
def TA (pts : List S) (x0 : Vec) (rs : List (Rdg S)) : Rat := ls rs fun r => r.weight * shf pts x0 r * shf pts x0 r
structure Tal (pts : List S) (x0 : Vec) (A : MF) (R : VF) (T : Rat) (n : Nt S) : Prop where
  p : n.pts = pts
  x : n.x0 = x0
  xl : x0.length = pts.length
  ms : Sq pts.length n.normal
  rl : n.right.length = pts.length
  m : mf n.normal = A
  r : vf n.right = R
  t : n.total = T
structure AlN (pts : List S) (x0 : Vec) (rs : List (Rdg S)) (n : Nt S) : Prop where
  t : Tal pts x0 (MA pts rs) (RA pts x0 rs) (TA pts x0 rs) n
  s : Sq pts.length n.inverse
  g : GI pts.length (MA pts rs) (mf n.inverse)
section
variable {pts : List S} {x0 : Vec} {A : MF} {R : VF} {T : Rat} {n : Nt S} {rs : List (Rdg S)}
theorem Tal.tally (h : Tal pts x0 A R T n) (r : Rdg S) (w : Rat) :
    Tal pts x0 (r1 A w (rwf pts r) (rwf pts r)) (fun i => R i + w * shf pts x0 r * rwf pts r i) (T + w * shf pts x0 r * shf pts x0 r) (ntTally n r w) := by
  have l : (rowTo pts r.terms).length = pts.length := len_rowTo ..
  have e : ntRow n r = rowTo pts r.terms := by unfold ntRow; rw [h.p]
  have es : ntShift n r = shf pts x0 r := by unfold ntShift shf; rw [e, h.x]
  refine ⟨h.p, h.x, h.xl, ?_, ?_, ?_, ?_, ?_⟩
  · show Sq _ (addTermM n.normal (ntRow n r) w)
    rw [e]
    exact sq_r1 h.ms l l
  · show (plusM n.right (scaleM (w * ntShift n r) (ntRow n r))).length = _
    rw [len_plus, len_scale, h.rl, e, l]
    omega
  · show mf (addTermM n.normal (ntRow n r) w) = _
    rw [e]
    exact (mf_r1 h.ms l l).trans (by rw [h.m]; rfl)
  · funext i
    show vf (plusM n.right (scaleM (w * ntShift n r) (ntRow n r))) i = _
    rw [vf_plus (by rw [len_scale, h.rl, e, l]), vf_scale, h.r, e, es]
    rfl
  · show n.total + w * ntShift n r * ntShift n r = _
    rw [h.t, es]
theorem MA_add (r : Rdg S) : MA pts (rs ++ [r]) = r1 (MA pts rs) r.weight (rwf pts r) (rwf pts r) := by
  apply mf_ext
  intro i j
  unfold MA r1
  rw [ls_app]
  simp only [ls]
  grind
theorem RA_add (r : Rdg S) : RA pts x0 (rs ++ [r]) = fun i => RA pts x0 rs i + r.weight * shf pts x0 r * rwf pts r i := by
  funext i
  unfold RA
  rw [ls_app]
  simp only [ls]
  grind
theorem TA_add (r : Rdg S) : TA pts x0 (rs ++ [r]) = TA pts x0 rs + r.weight * shf pts x0 r * shf pts x0 r := by
  unfold TA
  rw [ls_app]
  simp only [ls]
  grind
theorem MA_del {i : Nat} {r : Rdg S} (h : rs[i]? = some r) : MA pts (rs.eraseIdx i) = r1 (MA pts rs) (-r.weight) (rwf pts r) (rwf pts r) := by
  apply mf_ext
  intro j k
  unfold MA r1
  show _ = (ls rs fun q => q.weight * (rwf pts q j * rwf pts q k)) + _
  rw [ls_erase h]
  grind
theorem RA_del {i : Nat} {r : Rdg S} (h : rs[i]? = some r) : RA pts x0 (rs.eraseIdx i) = fun j => RA pts x0 rs j + -r.weight * shf pts x0 r * rwf pts r j := by
  funext j
  unfold RA
  rw [ls_erase h]
  grind
theorem TA_del {i : Nat} {r : Rdg S} (h : rs[i]? = some r) : TA pts x0 (rs.eraseIdx i) = TA pts x0 rs + -r.weight * shf pts x0 r * shf pts x0 r := by
  unfold TA
  rw [ls_erase h]
  grind
theorem mv_MA (k : Nat) (x : VF) (i : Nat) : mv k (MA pts rs) x i = ls rs fun r => r.weight * dt k (rwf pts r) x * rwf pts r i := by
  unfold mv MA
  rw [show (fun j => (ls rs fun r => r.weight * (rwf pts r i * rwf pts r j)) * x j) = fun j => ls rs fun r => r.weight * rwf pts r i * (rwf pts r j * x j) from funext fun j => by
    rw [← ls_mulr]
    exact ls_congr fun r _ => by grind]
  rw [ls_sm]
  exact ls_congr fun r _ => by
    rw [sm_mul]
    unfold dt
    grind
theorem dt_MA (k : Nat) (x y : VF) : dt k x (mv k (MA pts rs) y) = ls rs fun r => r.weight * dt k (rwf pts r) y * dt k (rwf pts r) x := by
  unfold dt
  rw [show (fun j => x j * mv k (MA pts rs) y j) = fun j => ls rs fun r => r.weight * dt k (rwf pts r) y * (rwf pts r j * x j) from funext fun j => by
    rw [mv_MA, ← ls_mul]
    exact ls_congr fun r _ => by grind]
  rw [ls_sm]
  exact ls_congr fun r _ => by
    rw [sm_mul]
    rfl
theorem MA_range {k : Nat} {P : MF} (h : GI k (MA pts rs) P) (hw : ∀ r ∈ rs, 0 < r.weight) (hk : ∀ r i, k ≤ i → rwf pts r i = 0) {r : Rdg S} (hr : r ∈ rs) :
    mv k (MA pts rs) (mv k P (rwf pts r)) = rwf pts r := by
  have u0 : ∃ u : VF, u = fun i => rwf pts r i - mv k (MA pts rs) (mv k P (rwf pts r)) i := ⟨_, rfl⟩
  obtain ⟨u, hu⟩ := u0
  have mu : mv k (MA pts rs) u = fun _ => 0 := by
    funext i
    rw [hu, mv_sub, h.cmv (rwf pts r), h.mmv]
    grind
  have z : (ls rs fun r => r.weight * dt k (rwf pts r) u * dt k (rwf pts r) u) = 0 := by
    rw [← dt_MA, mu, dt_zr]
  have z2 := ls_zero_all (fun r hr => by
    have h1 := sq_nn (dt k (rwf pts r) u)
    have h2 := Rat.mul_nonneg (Rat.le_of_lt (hw r hr)) h1
    grind) z r hr
  have h0 := hw r hr
  have au : dt k (rwf pts r) u = 0 := by
    have h1 : r.weight ≠ 0 := by grind
    have h2 : dt k (rwf pts r) u * dt k (rwf pts r) u = 0 := by grind
    exact sq_zero h2
  have uu : dt k u u = 0 := by
    have e : dt k u u = dt k u (rwf pts r) - dt k u (mv k (MA pts rs) (mv k P (rwf pts r))) := by
      rw [← dt_subr, ← hu]
    rw [e, ← dt_mv k _ h.ms, mu, dt_zl, dt_comm, au]
    grind
  have uz := sm_zero_all (fun i _ => sq_nn (u i)) uu
  funext i
  by_cases hi : i < k
  · have h1 := sq_zero (uz i hi)
    rw [hu] at h1
    have h2 : rwf pts r i - mv k (MA pts rs) (mv k P (rwf pts r)) i = 0 := h1
    grind
  · rw [hk r i (by omega)]
    rw [mv_MA, ← ls_zero rs]
    exact ls_congr fun q _ => by rw [hk q i (by omega)]; grind
theorem dt_P_nonneg {k : Nat} {P : MF} (h : GI k (MA pts rs) P) (hw : ∀ r ∈ rs, 0 < r.weight) (a : VF) : 0 ≤ dt k a (mv k P a) := by
  have e : dt k a (mv k P a) = dt k (mv k P a) (mv k (MA pts rs) (mv k P a)) := by
    rw [dt_mv k P h.ps, h.pmv]
  rw [e, dt_MA]
  exact ls_nonneg fun r hr => by
    have h1 := sq_nn (dt k (rwf pts r) (mv k P a))
    have h2 := Rat.mul_nonneg (Rat.le_of_lt (hw r hr)) h1
    grind
theorem rwf_out (pts : List S) (r : Rdg S) (i : Nat) (h : pts.length ≤ i) : rwf pts r i = 0 := vf_out (by rw [len_rowTo]; exact h)
theorem vf_funext_apply {k : Nat} {m : Mat} {v : Vec} (h : Sq k m) : vf (applyM m v) = mv k (mf m) (vf v) := funext fun i => vf_apply (fun r hr => Nat.le_of_eq (h.r r hr)) i
theorem AlN.put (h : AlN pts x0 rs n) (hw : ∀ r ∈ rs, 0 < r.weight) {r : Rdg S} (hr : 0 < r.weight) : AlN pts x0 (rs ++ [r]) (ntPut n r) := by
  have l : (rowTo pts r.terms).length = pts.length := len_rowTo ..
  have e : ntRow n r = rowTo pts r.terms := by unfold ntRow; rw [h.t.p]
  have t0 : Tal pts x0 (MA pts rs) (RA pts x0 rs) (TA pts x0 rs) { n with inverse := withAddedM n.normal n.inverse (ntRow n r) r.weight } := ⟨h.t.p, h.t.x, h.t.xl, h.t.ms, h.t.rl, h.t.m, h.t.r, h.t.t⟩
  have t1 := t0.tally r r.weight
  have g1 : Sq pts.length (withAddedM n.normal n.inverse (ntRow n r) r.weight) ∧ GI pts.length (r1 (MA pts rs) r.weight (rwf pts r) (rwf pts r)) (mf (withAddedM n.normal n.inverse (ntRow n r) r.weight)) := by
    rw [e]
    unfold withAddedM
    have vg : vf (applyM n.inverse (rowTo pts r.terms)) = mv pts.length (mf n.inverse) (rwf pts r) := vf_funext_apply h.s
    have lg : (applyM n.inverse (rowTo pts r.terms)).length = pts.length := by rw [len_apply, h.s.l]
    have vmg : vf (applyM n.normal (applyM n.inverse (rowTo pts r.terms))) = mv pts.length (MA pts rs) (mv pts.length (mf n.inverse) (rwf pts r)) := by rw [vf_funext_apply h.t.ms, vg, h.t.m]
    have lmg : (applyM n.normal (applyM n.inverse (rowTo pts r.terms))).length = pts.length := by rw [len_apply, h.t.ms.l]
    have vu : ∀ i, vf (minusM (rowTo pts r.terms) (applyM n.normal (applyM n.inverse (rowTo pts r.terms)))) i = rwf pts r i - mv pts.length (MA pts rs) (mv pts.length (mf n.inverse) (rwf pts r)) i := fun i => by
      rw [vf_minus (by rw [l, lmg]), vmg]
      rfl
    have lu : (minusM (rowTo pts r.terms) (applyM n.normal (applyM n.inverse (rowTo pts r.terms)))).length = pts.length := by rw [len_minus, l, lmg]; omega
    have ds : dotM (rowTo pts r.terms) (applyM n.inverse (rowTo pts r.terms)) = dt pts.length (rwf pts r) (mv pts.length (mf n.inverse) (rwf pts r)) := by
      rw [dotM_dt (Nat.le_of_eq l), vg]
      rfl
    generalize applyM n.normal (applyM n.inverse (rowTo pts r.terms)) = MG at *
    generalize applyM n.inverse (rowTo pts r.terms) = G at *
    generalize minusM (rowTo pts r.terms) MG = U at *
    rw [ds]
    split
    · rename_i hz
      have hz' := (zero_iff _).mp hz
      refine ⟨sq_r1 h.s lg lg, ?_⟩
      rw [mf_r1 h.s lg lg, vg]
      refine h.g.up (funext fun i => ?_) ?_
      · have := hz' i
        rw [vu i] at this
        grind
      · have := dt_P_nonneg h.g hw (rwf pts r)
        have := Rat.mul_nonneg (Rat.le_of_lt hr) this
        grind
    · rename_i hz
      have hne : dotM U U ≠ 0 := by
        intro z
        apply hz
        rw [zero_iff]
        intro i
        rw [dotM_dt (Nat.le_of_eq lu)] at z
        by_cases hi : i < pts.length
        · exact sq_zero (sm_zero_all (fun i _ => sq_nn _) z i hi)
        · exact vf_out (by omega)
      have hdu : dotM U U = dt pts.length (vf U) (vf U) := dotM_dt (Nat.le_of_eq lu)
      have lc : (scaleM (1 / dotM U U) U).length = pts.length := by rw [len_scale, lu]
      have q1 := sq_r1 (c := -1) h.s lc lg
      have q2 := sq_r1 (c := -1) q1 lg lc
      refine ⟨sq_r1 q2 lc lc, ?_⟩
      rw [mf_r1 q2 lc lc, mf_r1 q1 lg lc, mf_r1 h.s lc lg, vg]
      exact h.g.out (u := vf U) (by grind) vu (by rw [← hdu]; exact hne) fun i => by rw [vf_scale, hdu]
  refine ⟨?_, g1.1, ?_⟩
  · rw [MA_add, RA_add, TA_add]
    exact t1
  · rw [MA_add]
    exact g1.2
theorem AlN.take (h : AlN pts x0 rs n) (hw : ∀ r ∈ rs, 0 < r.weight) {i : Nat} {r : Rdg S} (hr : rs[i]? = some r) : AlN pts x0 (rs.eraseIdx i) (ntTake n r) := by
  have l : (rowTo pts r.terms).length = pts.length := len_rowTo ..
  have e : ntRow n r = rowTo pts r.terms := by unfold ntRow; rw [h.t.p]
  have t0 : Tal pts x0 (MA pts rs) (RA pts x0 rs) (TA pts x0 rs) { n with inverse := withRemovedM n.inverse (ntRow n r) r.weight } := ⟨h.t.p, h.t.x, h.t.xl, h.t.ms, h.t.rl, h.t.m, h.t.r, h.t.t⟩
  have t1 := t0.tally r (-r.weight)
  have hm : r ∈ rs := List.mem_of_getElem? hr
  have ra := MA_range h.g hw (fun q j hj => rwf_out pts q j hj) hm
  have g1 : Sq pts.length (withRemovedM n.inverse (ntRow n r) r.weight) ∧ GI pts.length (r1 (MA pts rs) (-r.weight) (rwf pts r) (rwf pts r)) (mf (withRemovedM n.inverse (ntRow n r) r.weight)) := by
    rw [e]
    unfold withRemovedM
    have vg : vf (applyM n.inverse (rowTo pts r.terms)) = mv pts.length (mf n.inverse) (rwf pts r) := vf_funext_apply h.s
    have lg : (applyM n.inverse (rowTo pts r.terms)).length = pts.length := by rw [len_apply, h.s.l]
    have vh : vf (applyM n.inverse (applyM n.inverse (rowTo pts r.terms))) = mv pts.length (mf n.inverse) (mv pts.length (mf n.inverse) (rwf pts r)) := by rw [vf_funext_apply h.s, vg]
    have lh : (applyM n.inverse (applyM n.inverse (rowTo pts r.terms))).length = pts.length := by rw [len_apply, h.s.l]
    have ds : dotM (rowTo pts r.terms) (applyM n.inverse (rowTo pts r.terms)) = dt pts.length (rwf pts r) (mv pts.length (mf n.inverse) (rwf pts r)) := by
      rw [dotM_dt (Nat.le_of_eq l), vg]
      rfl
    generalize applyM n.inverse (applyM n.inverse (rowTo pts r.terms)) = H at *
    generalize applyM n.inverse (rowTo pts r.terms) = G at *
    have dg : dotM G G = dt pts.length (mv pts.length (mf n.inverse) (rwf pts r)) (mv pts.length (mf n.inverse) (rwf pts r)) := by
      rw [dotM_dt (Nat.le_of_eq lg), vg]
    have dh : dotM G H = dt pts.length (mv pts.length (mf n.inverse) (rwf pts r)) (mv pts.length (mf n.inverse) (mv pts.length (mf n.inverse) (rwf pts r))) := by
      rw [dotM_dt (Nat.le_of_eq lg), vg, vh]
    rw [ds]
    split
    · rename_i hz
      have hz' : 1 - r.weight * dt pts.length (rwf pts r) (mv pts.length (mf n.inverse) (rwf pts r)) ≠ 0 := fun z => hz (by rw [z]; rfl)
      refine ⟨sq_r1 h.s lg lg, ?_⟩
      rw [mf_r1 h.s lg lg, vg]
      have := h.g.up ra (w := -r.weight) (by grind)
      rw [show -(-r.weight / (1 + -r.weight * dt pts.length (rwf pts r) (mv pts.length (mf n.inverse) (rwf pts r)))) = r.weight / (1 - r.weight * dt pts.length (rwf pts r) (mv pts.length (mf n.inverse) (rwf pts r))) by grind] at this
      exact this
    · rename_i hz
      have hz' : 1 - r.weight * dt pts.length (rwf pts r) (mv pts.length (mf n.inverse) (rwf pts r)) = 0 := Rat.num_eq_zero.mp (by simpa using hz)
      have q1 := sq_r1 (c := -1 / dotM G G) h.s lh lg
      have q2 := sq_r1 (c := -1 / dotM G G) q1 lg lh
      refine ⟨sq_r1 q2 lg lg, ?_⟩
      rw [mf_r1 q2 lg lg, mf_r1 q1 lg lh, mf_r1 h.s lh lg, vg, vh, dg, dh]
      refine h.g.drop ra hz' fun z => ?_
      have g0 : dt pts.length (rwf pts r) (mv pts.length (mf n.inverse) (rwf pts r)) = 0 := by
        refine (sm_congr (g := fun _ => 0) fun j hj => ?_).trans (sm_zero _)
        rw [sq_zero (sm_zero_all (fun i _ => sq_nn _) z j hj)]
        grind
      rw [g0] at hz'
      grind
  refine ⟨?_, g1.1, ?_⟩
  · rw [MA_del hr, RA_del hr, TA_del hr]
    exact t1
  · rw [MA_del hr]
    exact g1.2
end
end
end Pn
/-! plain: an integral matrix has an integral inverse of bounded size, up to a factor -/
namespace Pn
theorem cn_add {D k : Nat} {p q : Rat} (h : Cn D (2 ^ k) p) (g : Cn D (2 ^ k) q) : Cn D (2 ^ (k + 1)) (p + q) := (h.add g).mono (by rw [Nat.pow_succ]; omega)
theorem cn_sub {D k : Nat} {p q : Rat} (h : Cn D (2 ^ k) p) (g : Cn D (2 ^ k) q) : Cn D (2 ^ (k + 1)) (p - q) := (h.sub g).mono (by rw [Nat.pow_succ]; omega)
theorem cn_mul {D E k l : Nat} {p q : Rat} (h : Cn D (2 ^ k) p) (g : Cn E (2 ^ l) q) : Cn (D * E) (2 ^ (k + l)) (p * q) := by
  rw [Nat.pow_add]
  exact h.mul g
theorem cn_mono {D k l : Nat} {p : Rat} (h : Cn D (2 ^ k) p) (e : k ≤ l) : Cn D (2 ^ l) p := h.mono (Nat.pow_le_pow_right (by decide) e)
theorem cn_sm0 {D N n : Nat} {f : Nat → Rat} (h : ∀ i, i < n → Cn D N (f i)) : Cn D (n * N) (sm n f) := by
  induction n with
  | zero => exact Cn.zero
  | succ n ih =>
    rw [Nat.succ_mul]
    exact (ih fun i hi => h i (by omega)).add (h n (by omega))
theorem cn_sm {D k n : Nat} {f : Nat → Rat} (hn : n ≤ 16) (h : ∀ i, i < n → Cn D (2 ^ k) (f i)) : Cn D (2 ^ (k + 4)) (sm n f) := (cn_sm0 h).mono (by
  rw [Nat.pow_add, Nat.mul_comm]
  exact Nat.mul_le_mul_left _ (by omega))
theorem cn_ls0 {α : Type} {D N : Nat} {l : List α} {f : α → Rat} (h : ∀ x ∈ l, Cn D N (f x)) : Cn D (l.length * N) (ls l f) := by
  induction l with
  | nil => exact Cn.zero
  | cons x l ih =>
    rw [List.length_cons, Nat.succ_mul, Nat.add_comm]
    exact (h x (by simp)).add (ih fun y hy => h y (by simp [hy]))
theorem cn_ls {α : Type} {D k : Nat} {l : List α} {f : α → Rat} (hn : l.length ≤ 32) (h : ∀ x ∈ l, Cn D (2 ^ k) (f x)) : Cn D (2 ^ (k + 5)) (ls l f) := (cn_ls0 h).mono (by
  rw [Nat.pow_add, Nat.mul_comm]
  exact Nat.mul_le_mul_left _ (by omega))
theorem cn_mm {D E k l n : Nat} {A B : MF} (hn : n ≤ 16) (ha : ∀ i j, Cn D (2 ^ k) (A i j)) (hb : ∀ i j, Cn E (2 ^ l) (B i j)) (i j : Nat) : Cn (D * E) (2 ^ (k + l + 4)) (mm n A B i j) :=
  cn_sm hn fun m _ => cn_mul (ha i m) (hb m j)
theorem cn_mv {D E k l n : Nat} {A : MF} {x : VF} (hn : n ≤ 16) (ha : ∀ i j, Cn D (2 ^ k) (A i j)) (hb : ∀ i, Cn E (2 ^ l) (x i)) (i : Nat) : Cn (D * E) (2 ^ (k + l + 4)) (mv n A x i) :=
  cn_sm hn fun m _ => cn_mul (ha i m) (hb m)
theorem cn_dt {D E k l n : Nat} {y x : VF} (hn : n ≤ 16) (ha : ∀ i, Cn D (2 ^ k) (y i)) (hb : ∀ i, Cn E (2 ^ l) (x i)) : Cn (D * E) (2 ^ (k + l + 4)) (dt n y x) :=
  cn_sm hn fun m _ => cn_mul (ha m) (hb m)
/-- integers -/
theorem i_mul {k l : Nat} {p q : Rat} (h : Cn 1 (2 ^ k) p) (g : Cn 1 (2 ^ l) q) : Cn 1 (2 ^ (k + l)) (p * q) := cn_mul h g
def un (k : Nat) : VF := fun i => if i = k then 1 else 0
theorem cn_un (k i : Nat) : Cn 1 (2 ^ 0) (un k i) := by
  unfold un
  split
  · exact Cn.int (n := 1) (by decide)
  · exact Cn.zero
theorem mv_un {n k : Nat} (hk : k < n) (A : MF) (i : Nat) : mv n A (un k) i = A i k := by
  unfold mv
  rw [sm_one hk _ fun j hj => by unfold un; rw [if_neg hj]; grind]
  unfold un
  rw [if_pos rfl]
  grind
theorem vm_un {n k : Nat} (hk : k < n) (A : MF) (j : Nat) : vm n (un k) A j = A k j := by
  unfold vm dt
  rw [sm_one hk _ fun j hj => by unfold un; rw [if_neg hj]; grind]
  unfold un
  rw [if_pos rfl]
  grind
def sc (c : Rat) (A : MF) : MF := fun i j => c * A i j
theorem mm_scl (n : Nat) (c : Rat) (A B : MF) (i j : Nat) : mm n (sc c A) B i j = c * mm n A B i j := by
  unfold mm sc
  rw [← sm_mul]
  exact sm_congr fun k _ => by grind
theorem mm_scr (n : Nat) (c : Rat) (A B : MF) (i j : Nat) : mm n A (sc c B) i j = c * mm n A B i j := by
  unfold mm sc
  rw [← sm_mul]
  exact sm_congr fun k _ => by grind
theorem vm_mm (n : Nat) (y : VF) (A B : MF) (j : Nat) : vm n (vm n y A) B j = vm n y (mm n A B) j := by
  have := congrFun (congrFun (mm_assoc n (fun _ => y) A B) 0) j
  exact this
theorem wed_exp (k b : Nat) : b + (2 ^ k - 1) * (2 * b + 2) ≤ (2 ^ (k + 1) - 1) * (b + 1) := by
  have h : 1 ≤ 2 ^ k := Nat.one_le_two_pow
  obtain ⟨m, hm⟩ : ∃ m, 2 ^ k = m + 1 := ⟨2 ^ k - 1, by omega⟩
  rw [Nat.pow_succ, hm]
  have e1 : m + 1 - 1 = m := by omega
  have e2 : (m + 1) * 2 - 1 = 2 * m + 1 := by omega
  rw [e1, e2, Nat.add_mul, show m * (2 * b + 2) = 2 * m * (b + 1) by grind]
  omega
theorem wed (n : Nat) (hn : n ≤ 12) : ∀ (k b : Nat) (A : MF), k ≤ n → (∀ i j, Cn 1 (2 ^ b) (A i j)) → (∀ i j, n ≤ j → A i j = 0) → (∀ i j, n ≤ i → A i j = 0) → (∀ i j, j + k < n → A i j = 0) →
    ∃ (Y : MF) (D : Rat), D ≠ 0 ∧ Cn 1 (2 ^ ((2 ^ k - 1) * (b + 1))) D ∧ (∀ i j, Cn 1 (2 ^ (2 * ((2 ^ k - 1) * (b + 1)) + 11 * k)) (Y i j)) ∧ ∀ i j, mm n A (mm n Y A) i j = D * A i j
  | 0, b, A, hk, hA, z1, z0, z2 => by
    refine ⟨fun _ _ => 0, 1, by decide, ?_, fun i j => Cn.zero, fun i j => ?_⟩
    · exact Cn.int (n := 1) (by simp)
    · have az : ∀ i j, A i j = 0 := fun i j => by
        by_cases h : j < n
        · exact z2 i j (by omega)
        · exact z1 i j (by omega)
      rw [az i j]
      unfold mm
      rw [sm_congr (g := fun _ => 0) fun k _ => by rw [az i k]; grind, sm_zero]
      grind
  | k + 1, b, A, hk, hA, z1, z0, z2 => by
    have j0 : n - (k + 1) < n := by omega
    by_cases hz : ∀ i, A i (n - (k + 1)) = 0
    · obtain ⟨Y, D, d1, d2, d3, d4⟩ := wed n hn k b A (by omega) hA z1 z0 (fun i j hj => by
        by_cases e : j = n - (k + 1)
        · rw [e]; exact hz i
        · exact z2 i j (by omega))
      have h1 : 2 ^ k ≤ 2 ^ (k + 1) := Nat.pow_le_pow_right (by decide) (by omega)
      have h2 : (2 ^ k - 1) * (b + 1) ≤ (2 ^ (k + 1) - 1) * (b + 1) := Nat.mul_le_mul_right _ (by omega)
      exact ⟨Y, D, d1, cn_mono d2 h2, fun i j => cn_mono (d3 i j) (by omega), d4⟩
    · obtain ⟨p, hp⟩ := Classical.not_forall.mp hz
      have hpn : p < n := by
        rcases Nat.lt_or_ge p n with h | h
        · exact h
        · exact absurd (z0 p _ h) hp
      generalize hc : n - (k + 1) = c at *
      have hA1 : ∃ A1 : MF, A1 = r1 (sc (A p c) A) (-1) (fun i => A i c) (A p) := ⟨_, rfl⟩
      obtain ⟨A1, e1⟩ := hA1
      have a1 : ∀ i j, A1 i j = A p c * A i j - A i c * A p j := fun i j => by rw [e1]; unfold r1 sc; grind
      obtain ⟨Y1, D1, d1, d2, d3, d4⟩ := wed n hn k (2 * b + 1) A1 (by omega) (fun i j => by
          rw [a1, show 2 * b + 1 = b + b + 1 by omega]
          exact cn_sub (i_mul (hA _ _) (hA _ _)) (i_mul (hA _ _) (hA _ _)))
        (fun i j h => by rw [a1, z1 i j h, z1 p j h]; grind) (fun i j h => by rw [a1, z0 i j h, z0 i c h]; grind) (fun i j h => by
          rw [a1]
          by_cases e : j = c
          · rw [e]; grind
          · rw [z2 i j (by omega), z2 p j (by omega)]; grind)
      have ex := wed_exp k b
      have y1 : ∃ T1 : MF, T1 = r1 (sc (A p c) Y1) (-1) (un c) (vm n (A p) Y1) := ⟨_, rfl⟩
      obtain ⟨T1, t1⟩ := y1
      have y2 : ∃ T2 : MF, T2 = r1 (sc (A p c) T1) (-1) (mv n T1 fun i => A i c) (un p) := ⟨_, rfl⟩
      obtain ⟨T2, t2⟩ := y2
      have b0 : 2 * b + 1 + 1 = 2 * b + 2 := rfl
      rw [b0] at d2 d3
      generalize hX : (2 ^ k - 1) * (2 * b + 2) = X at *
      generalize hX' : (2 ^ (k + 1) - 1) * (b + 1) = X' at *
      have bT1 : ∀ i j, Cn 1 (2 ^ (b + (2 * X + 11 * k) + 4 + 0 + 1)) (T1 i j) := fun i j => by
        rw [t1]
        show Cn 1 _ (A p c * Y1 i j + -1 * (un c i * vm n (A p) Y1 j))
        refine cn_add (cn_mono (i_mul (hA p c) (d3 i j)) (by omega)) ?_
        rw [show -1 * (un c i * vm n (A p) Y1 j) = -(vm n (A p) Y1 j * un c i) by grind]
        exact (i_mul (cn_dt (D := 1) (E := 1) (by omega) (fun m => hA p m) fun m => d3 m j) (cn_un c i)).neg
      have bT2 : ∀ i j, Cn 1 (2 ^ (b + (b + (2 * X + 11 * k) + 4 + 0 + 1) + 4 + 0 + 1)) (T2 i j) := fun i j => by
        rw [t2]
        show Cn 1 _ (A p c * T1 i j + -1 * (mv n T1 (fun i => A i c) i * un p j))
        refine cn_add (cn_mono (i_mul (hA p c) (bT1 i j)) (by omega)) ?_
        rw [show -1 * (mv n T1 (fun i => A i c) i * un p j) = -(mv n T1 (fun i => A i c) i * un p j) by grind]
        exact (i_mul (cn_mono (cn_mv (D := 1) (E := 1) (by omega) bT1 (fun m => hA m c) i) (by omega)) (cn_un p j)).neg
      refine ⟨r1 T2 D1 (un c) (un p), D1 * A p c, ?_, ?_, ?_, ?_⟩
      · intro e
        rcases Rat.mul_eq_zero.mp e with e | e
        · exact d1 e
        · exact hp e
      · exact cn_mono (i_mul d2 (hA p c)) (by omega)
      · intro i j
        show Cn 1 _ (T2 i j + D1 * (un c i * un p j))
        refine cn_mono (cn_add (k := b + (b + (2 * X + 11 * k) + 4 + 0 + 1) + 4 + 0 + 1) (bT2 i j) ?_) (by omega)
        rw [show D1 * (un c i * un p j) = D1 * un c i * un p j by grind]
        exact cn_mono (i_mul (i_mul d2 (cn_un c i)) (cn_un p j)) (by omega)
      · intro i j
        have Z : ∃ Z : MF, Z = mm n A (mm n Y1 A) := ⟨_, rfl⟩
        obtain ⟨Z, eZ⟩ := Z
        have V : ∀ i j, mm n A (mm n T1 A) i j = A p c * Z i j - A i c * Z p j := fun i j => by
          have : mm n T1 A = r1 (sc (A p c) (mm n Y1 A)) (-1) (un c) (vm n (A p) (mm n Y1 A)) := by
            apply mf_ext
            intro i j
            rw [t1, mm_r1l, mm_scl, vm_mm]
            rfl
          rw [this, mm_r1r, mm_scr, mv_un (by omega), eZ]
          have : vm n (A p) (mm n Y1 A) j = mm n A (mm n Y1 A) p j := rfl
          rw [this]
          grind
        have V2 : mm n A (mm n (r1 T2 D1 (un c) (un p)) A) i j = A p c * mm n A (mm n T1 A) i j - mm n A (mm n T1 A) i c * A p j + D1 * (A i c * A p j) := by
          have : mm n (r1 T2 D1 (un c) (un p)) A = r1 (r1 (sc (A p c) (mm n T1 A)) (-1) (fun i => mm n T1 A i c) (A p)) D1 (un c) (A p) := by
            apply mf_ext
            intro i j
            rw [mm_r1l, t2, mm_r1l, mm_scl, vm_un hpn]
            rfl
          rw [this, mm_r1r, mm_r1r, mm_scr, mv_un (by omega)]
          have : mv n A (fun i => mm n T1 A i c) i = mm n A (mm n T1 A) i c := rfl
          rw [this]
          grind
        have W : ∀ i j, mm n A1 (mm n Y1 A1) i j = A p c * (A p c * Z i j - Z i c * A p j) - A i c * (A p c * Z p j - Z p c * A p j) := fun i j => by
          have e2 : mm n Y1 A1 = r1 (sc (A p c) (mm n Y1 A)) (-1) (fun i => mm n Y1 A i c) (A p) := by
            apply mf_ext
            intro i j
            rw [e1, mm_r1r, mm_scr]
            rfl
          have e3 : ∀ i j, mm n A (mm n Y1 A1) i j = A p c * Z i j - Z i c * A p j := fun i j => by
            rw [e2, mm_r1r, mm_scr, eZ]
            have : mv n A (fun i => mm n Y1 A i c) i = mm n A (mm n Y1 A) i c := rfl
            rw [this]
            grind
          have e5 : mm n A1 (mm n Y1 A1) i j = mm n (r1 (sc (A p c) A) (-1) (fun i => A i c) (A p)) (mm n Y1 A1) i j := by rw [← e1]
          rw [e5, mm_r1l, mm_scl, e3]
          have : vm n (A p) (mm n Y1 A1) j = mm n A (mm n Y1 A1) p j := rfl
          rw [this, e3]
          grind
        have e4 := d4 i j
        rw [W, a1] at e4
        rw [V2, V, V]
        grind
/-- common denominator and size of a group inverse -/
theorem gi_size {n : Nat} (hn : n ≤ 12) {M P : MF} (h : GI n M P) (hM : ∀ i j, Cn 6 (2 ^ 17) (M i j)) (z1 : ∀ i j, n ≤ j → M i j = 0) (zp : ∀ i j, n ≤ j → P i j = 0) :
    ∃ D, 0 < D ∧ D ≤ 2 ^ 245700 ∧ ∀ i j, Cn D (2 ^ 491600) (P i j) := by
  have hG : ∀ i j, Cn 1 (2 ^ 17) (sc 6 M i j) := fun i j => by
    obtain ⟨z, e, b⟩ := hM i j
    refine ⟨z, ?_, b⟩
    unfold sc
    rw [← e]
    have : ((((6 : Nat) : Int)) : Rat) = 6 := rfl
    rw [this]
    have : ((((1 : Nat) : Int)) : Rat) = 1 := rfl
    rw [this]
    grind
  have hA0 : ∃ A : MF, A = mm n (sc 6 M) (mm n (sc 6 M) (sc 6 M)) := ⟨_, rfl⟩
  obtain ⟨A, eA⟩ := hA0
  have hA : ∀ i j, Cn 1 (2 ^ 59) (A i j) := fun i j => by
    rw [eA]
    exact cn_mm (D := 1) (E := 1) (k := 17) (l := 38) (by omega) hG (cn_mm (D := 1) (E := 1) (k := 17) (l := 17) (by omega) hG hG) i j
  have m0 : ∀ (B : MF), (∀ i j, n ≤ j → B i j = 0) → ∀ (C : MF) i j, n ≤ j → mm n C B i j = 0 := fun B hB C i j hj => by
    unfold mm
    exact (sm_congr (g := fun _ => 0) fun k _ => by rw [hB k j hj]; grind).trans (sm_zero n)
  have g1 : ∀ i j, n ≤ j → sc 6 M i j = 0 := fun i j hj => by unfold sc; rw [z1 i j hj]; grind
  have a1 : ∀ i j, n ≤ j → A i j = 0 := fun i j hj => by rw [eA]; exact m0 _ (m0 _ g1 _) _ i j hj
  have mA : A = sc 216 (mm n M (mm n M M)) := by
    apply mf_ext
    intro i j
    have : mm n (sc 6 M) (sc 6 M) = sc 6 (sc 6 (mm n M M)) := by
      apply mf_ext
      intro i j
      rw [mm_scl, mm_scr]
      rfl
    rw [eA, this, mm_scl, mm_scr, mm_scr]
    unfold sc
    grind
  have sA : ∀ i j, A i j = A j i := fun i j => by
    rw [mA]
    unfold sc
    rw [mm_sym h.ms (fun a b => mm_sym h.ms h.ms a b), mm_assoc]
  obtain ⟨Y, D, d1, d2, d3, d4⟩ := wed n hn n 59 A (Nat.le_refl _) hA a1 (fun i j hi => by rw [sA]; exact a1 j i hi) fun i j hj => by omega
  have em : mm n (mm n M P) M = M := by rw [mm_assoc, h.mpm]
  have me : mm n M (mm n M P) = M := by rw [h.com, h.mpm]
  have ep : mm n (mm n M P) P = P := by rw [h.com, mm_assoc, h.pmp]
  have pmm : ∀ W, mm n P (mm n M (mm n M W)) = mm n M W := fun W => by rw [← mm_assoc, ← h.com, ← mm_assoc, em]
  have c1 : mm n P (mm n P (mm n M (mm n M M))) = M := by rw [pmm, ← mm_assoc, ← h.com, em]
  have mmp : ∀ W, mm n M (mm n M (mm n P W)) = mm n M W := fun W => by rw [← mm_assoc n M P W, ← mm_assoc n M, me]
  have c2 : mm n (mm n (mm n M (mm n M M)) P) P = M := by
    rw [mm_assoc, mm_assoc, mm_assoc, mmp, me]
  have scl : ∀ c A B, mm n (sc c A) B = sc c (mm n A B) := fun c A B => mf_ext fun i j => mm_scl n c A B i j
  have scr : ∀ c A B, mm n A (sc c B) = sc c (mm n A B) := fun c A B => mf_ext fun i j => mm_scr n c A B i j
  have d5 : sc D A = mm n A (mm n Y A) := (mf_ext d4).symm
  have d6 := congrArg (fun X => mm n (mm n (mm n P (mm n P X)) P) P) d5
  simp only [mA, scl, scr] at d6
  rw [c1, ep] at d6
  rw [show mm n P (mm n P (mm n (mm n M (mm n M M)) (mm n Y (mm n M (mm n M M))))) = mm n M (mm n Y (mm n M (mm n M M))) by
    rw [← mm_assoc n P (mm n M (mm n M M)), ← mm_assoc n P, c1]] at d6
  rw [mm_assoc n M, mm_assoc n M, mm_assoc n Y, mm_assoc n Y, c2] at d6
  have d7 : ∀ i j, D * P i j = 6 * mm n (sc 6 M) (mm n Y (sc 6 M)) i j := fun i j => by
    have := congrFun (congrFun d6 i) j
    rw [scr, scr, scl]
    unfold sc at this ⊢
    grind
  have k1 : (2 ^ n - 1) * (59 + 1) ≤ 245700 := by
    have : 2 ^ n ≤ 2 ^ 12 := Nat.pow_le_pow_right (by decide) hn
    omega
  obtain ⟨z, e, b⟩ := d2
  have e' : D = (z : Rat) := by
    rw [← e]
    have : ((((1 : Nat) : Int)) : Rat) = 1 := rfl
    rw [this]
    grind
  have hz : z ≠ 0 := fun h0 => d1 (by rw [e', h0]; rfl)
  refine ⟨z.natAbs, by omega, Nat.le_trans b (Nat.pow_le_pow_right (by decide) k1), fun i j => ?_⟩
  have hX : Cn 1 (2 ^ (3 + (17 + ((2 * ((2 ^ n - 1) * (59 + 1)) + 11 * n) + 17 + 4) + 4))) (6 * mm n (sc 6 M) (mm n Y (sc 6 M)) i j) :=
    i_mul (Cn.int (n := 6) (by decide)) (cn_mm (D := 1) (E := 1) (by omega) hG (cn_mm (D := 1) (E := 1) (by omega) d3 hG) i j)
  obtain ⟨y, f, g⟩ := cn_mono (l := 491600) hX (by omega)
  rw [← d7, e'] at f
  have h1 : ((((1 : Nat) : Int)) : Rat) = 1 := rfl
  rw [h1] at f
  rcases Int.natAbs_eq z with h2 | h2
  · refine ⟨y, ?_, g⟩
    rw [← h2, ← f]
    grind
  · refine ⟨-y, ?_, by omega⟩
    have h3 : ((z.natAbs : Nat) : Int) = -z := by omega
    rw [h3, Rat.intCast_neg, Rat.intCast_neg, ← f]
    grind
end Pn
/-! plain: rows of readings, sums over terms -/
namespace Pn
section
variable {S : Type} [DecidableEq S]
theorem vf_set (v : Vec) (i : Nat) (x : Rat) (h : i < v.length) (j : Nat) : vf (v.set i x) j = if i = j then x else vf v j := by
  unfold vf
  rw [List.getD_eq_getElem?_getD, List.getD_eq_getElem?_getD, List.getElem?_set]
  by_cases e : i = j
  · subst e
    simp [h]
  · simp [e]
theorem idx_inj {pts : List S} {a b : S} (ha : a ∈ pts) (h : pts.idxOf a = pts.idxOf b) : a = b := by
  have h1 : pts.idxOf a < pts.length := List.idxOf_lt_length_of_mem ha
  have h2 : pts[pts.idxOf a]'h1 = a := List.getElem_idxOf h1
  have h3 : pts[pts.idxOf b]'(h ▸ h1) = b := List.getElem_idxOf (h ▸ h1)
  rw [← h2, ← h3]
  simp only [h]
/-- a term's part of place j -/
def tp (pts : List S) (j : Nat) (t : S × Int) : Rat := if pts.idxOf t.1 = j then (t.2 : Rat) else 0
theorem fold_at (pts : List S) (j : Nat) : ∀ (ts : List (S × Int)) (acc : Vec), (ts.map (·.1)).Nodup → (∀ t ∈ ts, t.1 ∈ pts) → acc.length = pts.length →
    vf (ts.foldl (fun acc t => acc.set (pts.idxOf t.1) (t.2 : Rat)) acc) j = if ∃ t ∈ ts, pts.idxOf t.1 = j then ls ts (tp pts j) else vf acc j
  | [], acc, _, _, _ => by simp
  | t :: ts, acc, nd, hm, hl => by
    have nd' : (ts.map (·.1)).Nodup := (List.nodup_cons.mp nd).2
    have nt : t.1 ∉ ts.map (·.1) := (List.nodup_cons.mp nd).1
    have hi : pts.idxOf t.1 < acc.length := by rw [hl]; exact List.idxOf_lt_length_of_mem (hm t (by simp))
    rw [List.foldl_cons, fold_at pts j ts _ nd' (fun q hq => hm q (by simp [hq])) (by rw [List.length_set]; exact hl), vf_set _ _ _ hi]
    by_cases e : pts.idxOf t.1 = j
    · have no : ∀ q ∈ ts, ¬ pts.idxOf q.1 = j := fun q hq eq => nt (by
        rw [← idx_inj (hm q (by simp [hq])) (eq.trans e.symm)]
        exact List.mem_map_of_mem hq)
      rw [if_neg (fun ⟨q, hq, eq⟩ => no q hq eq), if_pos e, if_pos ⟨t, by simp, e⟩]
      simp only [ls]
      rw [ls_congr (g := fun _ => 0) fun q hq => by unfold tp; rw [if_neg (no q hq)], ls_zero]
      unfold tp
      rw [if_pos e]
      grind
    · by_cases ex : ∃ q ∈ ts, pts.idxOf q.1 = j
      · obtain ⟨q, hq, eq⟩ := ex
        rw [if_pos ⟨q, hq, eq⟩, if_pos ⟨q, by simp [hq], eq⟩]
        simp only [ls]
        unfold tp
        rw [if_neg e]
        grind
      · rw [if_neg ex, if_neg e, if_neg]
        rintro ⟨q, hq, eq⟩
        rcases List.mem_cons.mp hq with z | z
        · exact e (z ▸ eq)
        · exact ex ⟨q, z, eq⟩
theorem row_at {pts : List S} {ts : List (S × Int)} (nd : (ts.map (·.1)).Nodup) (hm : ∀ t ∈ ts, t.1 ∈ pts) (j : Nat) : vf (rowTo pts ts) j = ls ts (tp pts j) := by
  unfold rowTo
  rw [fold_at pts j ts _ nd hm (by simp)]
  split
  · rfl
  · rename_i h
    have : vf (List.replicate pts.length 0) j = 0 := by
      unfold vf
      rw [List.getD_eq_getElem?_getD, List.getElem?_replicate]
      split <;> rfl
    rw [this, ls_congr (g := fun _ => 0) fun q hq => by unfold tp; rw [if_neg fun e => h ⟨q, hq, e⟩], ls_zero]
theorem fold_ls {α : Type} (f : α → Rat) : ∀ (l : List α) (c : Rat), l.foldl (fun acc x => acc + f x) c = c + ls l f
  | [], c => by simp only [List.foldl_nil, ls]; grind
  | x :: l, c => by
    rw [List.foldl_cons, fold_ls f l]
    simp only [ls]
    grind
theorem sumAt_dt {pts : List S} {ts : List (S × Int)} (nd : (ts.map (·.1)).Nodup) (hm : ∀ t ∈ ts, t.1 ∈ pts) (h : Vec) : sumAtM pts ts h = dt pts.length (vf (rowTo pts ts)) (vf h) := by
  unfold sumAtM dt
  rw [fold_ls, show (fun k => vf (rowTo pts ts) k * vf h k) = fun k => ls ts fun t => tp pts k t * vf h k from funext fun k => by rw [row_at nd hm, ls_mulr]]
  rw [ls_sm, Rat.zero_add]
  exact ls_congr fun t ht => by
    rw [sm_one (k := pts.idxOf t.1) (List.idxOf_lt_length_of_mem (hm t ht)) _ fun i hi => by unfold tp; rw [if_neg fun e => hi e.symm]; grind]
    unfold tp
    rw [if_pos rfl]
    rfl
theorem sumAt_dot {pts : List S} {ts : List (S × Int)} (nd : (ts.map (·.1)).Nodup) (hm : ∀ t ∈ ts, t.1 ∈ pts) (h : Vec) : sumAtM pts ts h = dotM (rowTo pts ts) h := by
  rw [sumAt_dt nd hm, dotM_dt (Nat.le_of_eq (len_rowTo pts ts))]
theorem fold_if {pts : List S} {nm : S} (hn : nm ∈ pts) (x : Rat) : ∀ (ts : List (S × Int)) (acc : Rat), (∀ t ∈ ts, t.1 ∈ pts) →
    ts.foldl (fun acc t => if t.1 = nm then acc + (t.2 : Rat) * x else acc) acc = acc + ls ts (tp pts (pts.idxOf nm)) * x
  | [], acc, _ => by simp only [List.foldl_nil, ls]; grind
  | t :: ts, acc, hm => by
    rw [List.foldl_cons, fold_if hn x ts _ fun q hq => hm q (by simp [hq])]
    simp only [ls]
    unfold tp
    by_cases e : t.1 = nm
    · rw [if_pos e, if_pos (by rw [e])]
      grind
    · rw [if_neg e, if_neg fun z => e (idx_inj (hm t (by simp)) z)]
      grind
theorem fold_row {pts : List S} {nm : S} (hn : nm ∈ pts) (x : Rat) {ts : List (S × Int)} (nd : (ts.map (·.1)).Nodup) (hm : ∀ t ∈ ts, t.1 ∈ pts) (acc : Rat) :
    ts.foldl (fun acc t => if t.1 = nm then acc + (t.2 : Rat) * x else acc) acc = acc + vf (rowTo pts ts) (pts.idxOf nm) * x := by
  rw [fold_if hn x ts acc hm, row_at nd hm]
theorem wsum_ls {pts : List S} {nm : S} (hn : nm ∈ pts) : ∀ (rds : List (Rdg S)) (xs : Vec), (∀ r ∈ rds, ROk pts r) → wsumM rds nm xs = ls (rds.zip xs) fun rx => rwf pts rx.1 (pts.idxOf nm) * rx.2 := by
  intro rds xs hr
  unfold wsumM
  have : ∀ (l : List (Rdg S × Rat)) (acc : Rat), (∀ rx ∈ l, ROk pts rx.1) → l.foldl (fun acc rx => rx.1.terms.foldl (fun acc t => if t.1 = nm then acc + (t.2 : Rat) * rx.2 else acc) acc) acc = acc + ls l fun rx => rwf pts rx.1 (pts.idxOf nm) * rx.2 := by
    intro l
    induction l with
    | nil => intro acc _; simp only [List.foldl_nil, ls]; grind
    | cons rx l ih =>
      intro acc h
      have hx := h rx (by simp)
      rw [List.foldl_cons, ih _ fun q hq => h q (by simp [hq]), fold_row hn rx.2 hx.nd hx.mem]
      simp only [ls]
      unfold rwf
      grind
  rw [this _ 0 (fun rx h => hr _ (List.of_mem_zip h).1)]
  grind
theorem row_val {pts : List S} {ts : List (S × Int)} (hm : ∀ t ∈ ts, t.1 ∈ pts) (hc : ∀ t ∈ ts, t.2 ≠ 0 ∧ -9 ≤ t.2 ∧ t.2 ≤ 9) (j : Nat) : Cn 1 9 (vf (rowTo pts ts) j) := by
  have : ∀ (ts : List (S × Int)) (acc : Vec), (∀ t ∈ ts, t.1 ∈ pts) → (∀ t ∈ ts, t.2 ≠ 0 ∧ -9 ≤ t.2 ∧ t.2 ≤ 9) → acc.length = pts.length → (∀ j, Cn 1 9 (vf acc j)) →
      ∀ j, Cn 1 9 (vf (ts.foldl (fun acc t => acc.set (pts.idxOf t.1) (t.2 : Rat)) acc) j) := by
    intro ts
    induction ts with
    | nil => intro acc _ _ _ h j; exact h j
    | cons t ts ih =>
      intro acc hm hc hl h j
      rw [List.foldl_cons]
      refine ih _ (fun q hq => hm q (by simp [hq])) (fun q hq => hc q (by simp [hq])) (by rw [List.length_set]; exact hl) (fun i => ?_) j
      rw [vf_set _ _ _ (by rw [hl]; exact List.idxOf_lt_length_of_mem (hm t (by simp)))]
      split
      · have := hc t (by simp)
        exact Cn.int (by omega)
      · exact h i
  refine this ts _ hm hc (by simp) (fun j => ?_) j
  have : vf (List.replicate pts.length 0) j = 0 := by
    unfold vf
    rw [List.getD_eq_getElem?_getD, List.getElem?_replicate]
    split <;> rfl
  rw [this]
  exact Cn.zero
end
end Pn
/-! plain: what fits -/
namespace Pn
structure Qb (D d : Nat) : Prop where
  p : 0 < D
  l : D ≤ 2 ^ d
theorem Qb.mul {D E d e : Nat} (h : Qb D d) (g : Qb E e) : Qb (D * E) (d + e) := ⟨Nat.mul_pos h.p g.p, by rw [Nat.pow_add]; exact Nat.mul_le_mul h.l g.l⟩
theorem Qb.mono {D d e : Nat} (h : Qb D d) (l : d ≤ e) : Qb D e := ⟨h.p, Nat.le_trans h.l (Nat.pow_le_pow_right (by decide) l)⟩
theorem qb1 : Qb 1 0 := ⟨by decide, by decide⟩
theorem qb6 : Qb 6 3 := ⟨by decide, by decide⟩
theorem lt_lim {k : Nat} (h : k < 33554432) {N : Nat} (l : N ≤ 2 ^ k) : N < 2 ^ LIM := Nat.lt_of_le_of_lt l (Nat.pow_lt_pow_right (by decide) (by unfold LIM; exact h))
/-- as Cn, the size by its bits -/
structure Cq (D k : Nat) (q : Rat) : Prop where
  c : Cn D (2 ^ k) q
theorem Cq.zero {D k : Nat} : Cq D k 0 := ⟨Cn.zero⟩
theorem cq_add {D k : Nat} {p q : Rat} (h : Cq D k p) (g : Cq D k q) : Cq D (k + 1) (p + q) := ⟨cn_add h.c g.c⟩
theorem cq_sub {D k : Nat} {p q : Rat} (h : Cq D k p) (g : Cq D k q) : Cq D (k + 1) (p - q) := ⟨cn_sub h.c g.c⟩
theorem cq_neg {D k : Nat} {p : Rat} (h : Cq D k p) : Cq D k (-p) := ⟨h.c.neg⟩
theorem cq_mul {D E k l : Nat} {p q : Rat} (h : Cq D k p) (g : Cq E l q) : Cq (D * E) (k + l) (p * q) := ⟨cn_mul h.c g.c⟩
theorem cq_mono {D k l : Nat} {p : Rat} (h : Cq D k p) (e : k ≤ l) : Cq D l p := ⟨cn_mono h.c e⟩
theorem cq_ls {α : Type} {D k : Nat} {l : List α} {f : α → Rat} (hn : l.length ≤ 32) (h : ∀ x ∈ l, Cq D k (f x)) : Cq D (k + 5) (ls l f) := ⟨cn_ls hn fun x hx => (h x hx).c⟩
theorem cq_mv {D E k l n : Nat} {A : MF} {x : VF} (hn : n ≤ 16) (ha : ∀ i j, Cq D k (A i j)) (hb : ∀ i, Cq E l (x i)) (i : Nat) : Cq (D * E) (k + l + 4) (mv n A x i) := ⟨cn_mv hn (fun i j => (ha i j).c) (fun i => (hb i).c) i⟩
theorem cq_dt {D E k l n : Nat} {y x : VF} (hn : n ≤ 16) (ha : ∀ i, Cq D k (y i)) (hb : ∀ i, Cq E l (x i)) : Cq (D * E) (k + l + 4) (dt n y x) := ⟨cn_dt hn (fun i => (ha i).c) fun i => (hb i).c⟩
theorem fit_of {D d k : Nat} {q : Rat} (h : Cq D k q) (b : Qb D d) (hd : d < 33554432) (hk : k < 33554432) : Fit q :=
  h.c.fit b.p (lt_lim hd b.l) (lt_lim hk (Nat.le_refl _))
theorem cq_up {D E k e : Nat} {q : Rat} (h : Cq D k q) (b : Qb E e) : Cq (D * E) (k + e) q := ⟨by
  rw [Nat.pow_add]
  exact h.c.up.mono (Nat.mul_le_mul_left _ b.l)⟩
theorem cq_up' {D E k e : Nat} {q : Rat} (h : Cq D k q) (b : Qb E e) : Cq (E * D) (k + e) q := by
  rw [Nat.mul_comm]
  exact cq_up h b
/-- numerator and denominator below 2 ^ k -/
def Fz (k : Nat) (q : Rat) : Prop := ∃ D, Qb D k ∧ Cq D k q
theorem fz_of {D d k m : Nat} {q : Rat} (h : Cq D k q) (b : Qb D d) (hd : d ≤ m) (hk : k ≤ m) : Fz m q := ⟨D, b.mono hd, cq_mono h hk⟩
theorem Fz.mono {k l : Nat} {q : Rat} (h : Fz k q) (e : k ≤ l) : Fz l q := by
  obtain ⟨D, b, c⟩ := h
  exact fz_of c b e e
theorem Fz.fit {k : Nat} {q : Rat} (h : Fz k q) (e : k < 33554432) : Fit q := by
  obtain ⟨D, b, c⟩ := h
  exact fit_of c b e e
theorem Fz.add {k l : Nat} {p q : Rat} (h : Fz k p) (g : Fz l q) : Fz (k + l + 1) (p + q) := by
  obtain ⟨D, b, c⟩ := h
  obtain ⟨E, b', c'⟩ := g
  exact ⟨D * E, (b.mul b').mono (by omega), cq_add (cq_up c b') (cq_mono (cq_up' c' b) (by omega))⟩
theorem Fz.mul {k l : Nat} {p q : Rat} (h : Fz k p) (g : Fz l q) : Fz (k + l) (p * q) := by
  obtain ⟨D, b, c⟩ := h
  obtain ⟨E, b', c'⟩ := g
  exact ⟨D * E, b.mul b', cq_mul c c'⟩
theorem Fz.neg {k : Nat} {p : Rat} (h : Fz k p) : Fz k (-p) := by
  obtain ⟨D, b, c⟩ := h
  exact ⟨D, b, cq_neg c⟩
theorem Fz.inv {k : Nat} {p : Rat} (h : Fz k p) (hp : p ≠ 0) : Fz k (1 / p) := by
  obtain ⟨D, b, c⟩ := h
  obtain ⟨E, e1, e2, e3⟩ := c.c.inv hp b.p
  exact ⟨E, ⟨e1, e2⟩, ⟨e3.mono b.l⟩⟩
theorem Fz.div {k l : Nat} {p q : Rat} (h : Fz k p) (g : Fz l q) (hq : q ≠ 0) : Fz (k + l) (p / q) := by
  rw [show p / q = p * (1 / q) by grind]
  exact h.mul (g.inv hq)
theorem fz1 : Fz 0 1 := ⟨1, qb1, ⟨Cn.int (n := 1) (by decide)⟩⟩
theorem fzm1 : Fz 0 (-1) := ⟨1, qb1, ⟨Cn.int (n := -1) (by decide)⟩⟩
/-! ### lists -/
theorem fall_of {v : Vec} (h : ∀ i, Fit (vf v i)) : FAll v := fun x hx => by
  obtain ⟨i, _, e⟩ := vf_mem hx
  rw [← e]
  exact h i
theorem fallm_of {m : Mat} (h : ∀ i j, Fit (mf m i j)) : FAllM m := fun r hr => fall_of fun j => by
  obtain ⟨i, hi, e⟩ := List.getElem_of_mem hr
  have := h i j
  rw [← mf_row, row_in hi, e] at this
  exact this
theorem vf_take (v : Vec) (k i : Nat) : vf (v.take k) i = vf v i ∨ vf (v.take k) i = 0 := by
  by_cases h : i < k
  · left
    unfold vf
    rw [List.getD_eq_getElem?_getD, List.getD_eq_getElem?_getD, List.getElem?_take, if_pos h]
  · right
    exact vf_out (by rw [List.length_take]; omega)
theorem fdot_of {D E d k l : Nat} {a b : Vec} (ha : ∀ i, Cq D k (vf a i)) (hb : ∀ i, Cq E l (vf b i)) (hl : a.length ≤ 16) (bD : Qb D d) {e : Nat} (bE : Qb E e)
    (h1 : d + e < 33554432) (h2 : k + l + 4 < 33554432) : FDot a b := fun i p q hp hq => by
  have p1 := ha i
  have q1 := hb i
  rw [vf_some hp] at p1
  rw [vf_some hq] at q1
  refine ⟨fit_of p1 bD (by omega) (by omega), fit_of q1 bE (by omega) (by omega), fit_of (cq_mul p1 q1) (bD.mul bE) h1 (by omega), ?_⟩
  rw [dotM_dt (n := 16) (by rw [List.length_take]; omega)]
  refine fit_of (cq_dt (by decide) (fun j => ?_) fun j => ?_) (bD.mul bE) h1 h2
  · rcases vf_take a i j with e | e
    · rw [e]; exact ha j
    · rw [e]; exact Cq.zero
  · rcases vf_take b i j with e | e
    · rw [e]; exact hb j
    · rw [e]; exact Cq.zero
theorem fapply_of {D E d k l e n : Nat} {m : Mat} {v : Vec} (hm : ∀ i j, Cq D k (mf m i j)) (hv : ∀ i, Cq E l (vf v i)) (hs : Sq n m) (hn : n ≤ 16) (bD : Qb D d) (bE : Qb E e)
    (h1 : d + e < 33554432) (h2 : k + l + 4 < 33554432) : FApply m v := fun r hr => by
  obtain ⟨i, hi, rfl⟩ := List.getElem_of_mem hr
  refine fdot_of (fun j => ?_) hv (by rw [hs.r _ hr]; exact hn) bD bE h1 h2
  have := hm i j
  rw [← mf_row, row_in hi] at this
  exact this
theorem fstep_of {n kp kf ka kb : Nat} {p : Mat} {f : Rat} {a b : Vec} (hp : ∀ i j, Fz kp (mf p i j)) (hf : Fz kf f) (ha : ∀ i, Fz ka (vf a i)) (hb : ∀ i, Fz kb (vf b i)) (h1 : kp < 33554432) (h2 : kf + ka + kb < 33554432) : FStep p f a b where
  hp := fallm_of fun i j => (hp i j).fit h1
  hf := hf.fit (by omega)
  ha := fall_of fun i => (ha i).fit (by omega)
  hb := fall_of fun i => (hb i).fit (by omega)
  ho := fallm_of fun i j => by rw [mf_outer]; exact ((ha i).mul (hb j)).fit (by omega)
  hs := fallm_of fun i j => by rw [mf_scaled, mf_outer]; exact (hf.mul ((ha i).mul (hb j))).fit (by omega)
theorem fz_step {n kp kf ka kb : Nat} {p : Mat} {f : Rat} {a b : Vec} (sp : Sq n p) (la : a.length = n) (lb : b.length = n) (hp : ∀ i j, Fz kp (mf p i j)) (hf : Fz kf f) (ha : ∀ i, Fz ka (vf a i)) (hb : ∀ i, Fz kb (vf b i)) :
    ∀ i j, Fz (kp + (kf + (ka + kb)) + 1) (mf (sumM p (scaledM f (outerM a b))) i j) := fun i j => by
  rw [mf_r1 sp la lb]
  exact (hp i j).add (hf.mul ((ha i).mul (hb j)))
/-! ### common denominators -/
theorem cden {e k : Nat} : ∀ (v : Vec), (∀ x ∈ v, x.den ≤ 2 ^ e ∧ x.num.natAbs ≤ 2 ^ k) → ∃ D, Qb D (e * v.length) ∧ ∀ x ∈ v, Cq D (k + e * v.length) x
  | [], _ => ⟨1, qb1, fun x hx => by simp at hx⟩
  | x :: v, h => by
    obtain ⟨D, b, c⟩ := cden v fun y hy => h y (by simp [hy])
    have hx := h x (by simp)
    have bx : Qb x.den e := ⟨x.den_pos, hx.1⟩
    have cx : Cq x.den k x := by
      refine ⟨x.num, ?_, hx.2⟩
      have h1 := Rat.num_divInt_den x
      rw [Rat.divInt_eq_div] at h1
      have h2 : ((x.den : Int) : Rat) ≠ 0 := by
        have := den_ne x
        simpa using this
      conv => lhs; rw [← h1]
      grind
    refine ⟨x.den * D, (bx.mul b).mono (by rw [List.length_cons, Nat.mul_succ]; omega), fun y hy => ?_⟩
    have el : e * (x :: v).length = e * v.length + e := by rw [List.length_cons, Nat.mul_succ]
    rw [el]
    rcases List.mem_cons.mp hy with z | z
    · rw [z]
      exact cq_mono (cq_up cx b) (by omega)
    · exact cq_mono (cq_up' (c y z) bx) (by omega)
theorem wt_cn {q : Rat} (h : WOk q) : Cn 6 36 q := by
  have h1 := Rat.num_divInt_den q
  rw [Rat.divInt_eq_div] at h1
  have h2 : ((q.den : Int) : Rat) ≠ 0 := by
    have := den_ne q
    simpa using this
  have hd : q.den = 1 ∨ q.den = 2 ∨ q.den = 3 := by
    have := q.den_pos
    have := h.d
    omega
  have hp := h.p
  have hn := h.n
  obtain ⟨c, hc, cb⟩ : ∃ c : Nat, 6 = q.den * c ∧ c ≤ 6 := by
    rcases hd with z | z | z
    · exact ⟨6, by rw [z], by decide⟩
    · exact ⟨3, by rw [z], by decide⟩
    · exact ⟨2, by rw [z], by decide⟩
  refine ⟨q.num * c, ?_, ?_⟩
  · rw [hc, Int.natCast_mul, Rat.intCast_mul, Rat.intCast_mul]
    have : q * ((q.den : Int) : Rat) = (q.num : Rat) := by
      conv => lhs; rw [← h1]
      grind
    rw [← this]
    grind
  · rw [Int.natAbs_mul, Int.natAbs_natCast]
    have : q.num.natAbs ≤ 6 := by omega
    calc q.num.natAbs * c ≤ 6 * 6 := Nat.mul_le_mul this cb
      _ = 36 := rfl
end Pn
/-! plain: what fits of a net -/
namespace Pn
section
variable {S : Type} [DecidableEq S] {pts : List S} {x0 : Vec} {rs : List (Rdg S)} {n : Nt S}
theorem rwf_cn {r : Rdg S} (h : ROk pts r) (i : Nat) : Cq 1 4 (rwf pts r i) := ⟨(row_val h.mem h.c i).mono (by decide)⟩
theorem rwt_cn {r : Rdg S} (h : ROk pts r) : Cq 6 6 r.weight := ⟨(wt_cn h.w).mono (by decide)⟩
theorem MA_cn (hr : ∀ r ∈ rs, ROk pts r) (hl : rs.length ≤ 32) (i j : Nat) : Cq 6 17 (MA pts rs i j) := by
  have : Cn 6 (rs.length * 2916) (MA pts rs i j) := cn_ls0 fun r h => by
    have h1 := row_val (hr r h).mem (hr r h).c i
    have h2 := row_val (hr r h).mem (hr r h).c j
    exact (wt_cn (hr r h).w).mul (h1.mul h2)
  exact ⟨this.mono (by omega)⟩
/-- the numbers of a net -/
structure Nums (pts : List S) (x0 : Vec) (all : List (Rdg S)) : Prop where
  ok : ∀ r ∈ all, ROk pts r
  l : all.length ≤ 31
  x : ∀ q ∈ x0, VOk q
  xl : x0.length = pts.length
  pl : pts.length ≤ 12
theorem Nums.sub {all : List (Rdg S)} (h : Nums pts x0 all) {l : List (Rdg S)} (hs : ∀ r ∈ l, r ∈ all) (hl : l.length ≤ 31) : Nums pts x0 l := ⟨fun r hr => h.ok r (hs r hr), hl, h.x, h.xl, h.pl⟩
theorem eden {all : List (Rdg S)} (h : Nums pts x0 all) : ∃ E, Qb E 860 ∧ (∀ i, Cq E 900 (vf x0 i)) ∧ ∀ r ∈ all, Cq E 900 r.value ∧ Cq E 910 (shf pts x0 r) := by
  obtain ⟨V, v1, v2⟩ := cden (e := 20) (k := 30) (all.map (·.value)) fun x hx => by
    obtain ⟨r, hr, rfl⟩ := List.mem_map.mp hx
    have := (h.ok r hr).v
    exact ⟨Nat.le_of_lt this.d, Nat.le_of_lt this.n⟩
  obtain ⟨X, x1, x2⟩ := cden (e := 20) (k := 30) x0 fun x hx => ⟨Nat.le_of_lt (h.x x hx).d, Nat.le_of_lt (h.x x hx).n⟩
  rw [List.length_map] at v1 v2
  have h1 := h.l
  have h2 := h.xl
  have h3 := h.pl
  have hx : ∀ i, Cq (V * X) 900 (vf x0 i) := fun i => by
    by_cases hi : i < x0.length
    · rw [vf_in hi]
      exact cq_mono (cq_up' (x2 _ (List.getElem_mem hi)) v1) (by omega)
    · rw [vf_out (by omega)]
      exact Cq.zero
  have hv : ∀ r ∈ all, Cq (V * X) 900 r.value := fun r hr => cq_mono (cq_up (v2 _ (List.mem_map_of_mem hr)) x1) (by omega)
  refine ⟨V * X, (v1.mul x1).mono (by omega), hx, fun r hr => ⟨hv r hr, ?_⟩⟩
  unfold shf
  rw [dotM_dt (n := 12) (by rw [len_rowTo]; exact h3)]
  have := cq_dt (n := 12) (by decide) (rwf_cn (h.ok r hr)) hx
  rw [Nat.one_mul] at this
  exact cq_mono (cq_sub (cq_mono (hv r hr) (by omega)) this) (by omega)
theorem RA_cn {E : Nat} (hr : ∀ r ∈ rs, ROk pts r ∧ Cq E 910 (shf pts x0 r)) (hl : rs.length ≤ 32) (i : Nat) : Cq (6 * E * 1) 925 (RA pts x0 rs i) :=
  cq_ls (k := 920) hl fun r h => cq_mul (cq_mul (rwt_cn (hr r h).1) (hr r h).2) (rwf_cn (hr r h).1 i)
theorem TA_cn {E : Nat} (hr : ∀ r ∈ rs, ROk pts r ∧ Cq E 910 (shf pts x0 r)) (hl : rs.length ≤ 32) : Cq (6 * E * E) 1831 (TA pts x0 rs) :=
  cq_ls (k := 1826) hl fun r h => cq_mul (cq_mul (rwt_cn (hr r h).1) (hr r h).2) (hr r h).2
theorem ftally {r : Rdg S} {w : Rat} (hw : w = r.weight ∨ w = -r.weight) (N : Nums pts x0 (r :: rs)) (h : Tal pts x0 (MA pts rs) (RA pts x0 rs) (TA pts x0 rs) n) : FTally n r w := by
  obtain ⟨E, e1, e2, e3⟩ := eden N
  have e : ntRow n r = rowTo pts r.terms := by unfold ntRow; rw [h.p]
  have es : ntShift n r = shf pts x0 r := by unfold ntShift shf; rw [e, h.x]
  have rk := N.ok r (by simp)
  have hl : rs.length ≤ 32 := by have := N.l; simp at this; omega
  have hr : ∀ q ∈ rs, ROk pts q ∧ Cq E 910 (shf pts x0 q) := fun q hq => ⟨N.ok q (by simp [hq]), (e3 q (by simp [hq])).2⟩
  have cw : Cq 6 6 w := by
    rcases hw with z | z
    · rw [z]; exact rwt_cn rk
    · rw [z]; exact cq_neg (rwt_cn rk)
  have sh := (e3 r (by simp)).2
  have pl := N.pl
  have ll : (rowTo pts r.terms).length ≤ 16 := by rw [len_rowTo]; omega
  have cws := cq_mul cw sh
  have q6 := qb6.mul e1
  refine ⟨?_, ?_, ?_, ?_, ?_, ?_, ?_, ?_, ?_, ?_, ?_⟩
  · rw [e, h.x]
    exact fdot_of (rwf_cn rk) e2 ll qb1 e1 (by decide) (by decide)
  · rw [e, h.x, dotM_dt (n := 16) ll]
    exact fit_of (cq_dt (by decide) (rwf_cn rk) e2) (qb1.mul e1) (by decide) (by decide)
  · exact fit_of (e3 r (by simp)).1 e1 (by decide) (by decide)
  · rw [es]
    exact fit_of sh e1 (by decide) (by decide)
  · rw [e]
    refine ⟨fall_of fun i => fit_of (rwf_cn rk i) qb1 (by decide) (by decide), fit_of cw qb6 (by decide) (by decide), fallm_of fun i j => ?_, fallm_of fun i j => ?_, fallm_of fun i j => ?_⟩
    · rw [h.m]
      exact fit_of (MA_cn (fun q hq => (hr q hq).1) hl i j) qb6 (by decide) (by decide)
    · rw [mf_outer]
      exact fit_of (cq_mul (rwf_cn rk i) (rwf_cn rk j)) (qb1.mul qb1) (by decide) (by decide)
    · rw [mf_scaled, mf_outer]
      exact fit_of (cq_mul cw (cq_mul (rwf_cn rk i) (rwf_cn rk j))) (qb6.mul (qb1.mul qb1)) (by decide) (by decide)
  · rw [es]
    exact fit_of cws q6 (by decide) (by decide)
  · refine fall_of fun i => ?_
    rw [h.r]
    exact fit_of (RA_cn hr hl i) (q6.mul qb1) (by decide) (by decide)
  · rw [e]
    exact fall_of fun i => fit_of (rwf_cn rk i) qb1 (by decide) (by decide)
  · rw [e, es]
    refine fall_of fun i => ?_
    rw [vf_scale]
    exact fit_of (cq_mul cws (rwf_cn rk i)) (q6.mul qb1) (by decide) (by decide)
  · rw [h.t]
    exact fit_of (TA_cn hr hl) (q6.mul e1) (by decide) (by decide)
  · rw [es]
    exact fit_of (cq_mul cws sh) (q6.mul e1) (by decide) (by decide)
/-- the inverse's size -/
theorem AlN.size (h : AlN pts x0 rs n) (hp : pts.length ≤ 12) (hr : ∀ r ∈ rs, ROk pts r) (hl : rs.length ≤ 32) : ∃ D, Qb D 245700 ∧ ∀ i j, Cq D 491600 (mf n.inverse i j) := by
  obtain ⟨D, d1, d2, d3⟩ := gi_size hp h.g (fun i j => (MA_cn hr hl i j).c) (fun i j hj => by
    have := h.t.ms.out (i := i) hj
    rw [h.t.m] at this
    exact this) fun i j hj => h.s.out hj
  exact ⟨D, ⟨d1, d2⟩, fun i j => ⟨d3 i j⟩⟩
theorem wok_pos {q : Rat} (h : WOk q) : 0 < q := by
  have := h.p
  have h1 : 0 ≤ q := Rat.num_nonneg.mp (by omega)
  have h2 : q ≠ 0 := fun z => by
    rw [z] at this
    exact absurd this (by decide)
  grind
theorem fput {r : Rdg S} (N : Nums pts x0 (r :: rs)) (h : AlN pts x0 rs n) : FPut n r := by
  refine ⟨?_, ftally (.inl rfl) N h.t⟩
  have rk := N.ok r (by simp)
  have hl : rs.length ≤ 32 := by have := N.l; simp at this; omega
  have hr : ∀ q ∈ rs, ROk pts q := fun q hq => N.ok q (by simp [hq])
  have pl := N.pl
  have pl' : pts.length ≤ 16 := by omega
  obtain ⟨D, bD, cP⟩ := h.size pl hr hl
  have e : ntRow n r = rowTo pts r.terms := by unfold ntRow; rw [h.t.p]
  have l : (rowTo pts r.terms).length = pts.length := len_rowTo ..
  have hw : ∀ q ∈ rs, 0 < q.weight := fun q hq => wok_pos (hr q hq).w
  have w0 : 0 < r.weight := wok_pos rk.w
  have wn : r.weight ≠ 0 := by grind
  rw [e]
  have cM : ∀ i j, Cq 6 17 (mf n.normal i j) := fun i j => by rw [h.t.m]; exact MA_cn hr hl i j
  have ca : ∀ i, Cq 1 4 (vf (rowTo pts r.terms) i) := rwf_cn rk
  have vg : vf (applyM n.inverse (rowTo pts r.terms)) = mv pts.length (mf n.inverse) (rwf pts r) := vf_funext_apply h.s
  have lg : (applyM n.inverse (rowTo pts r.terms)).length = pts.length := by rw [len_apply, h.s.l]
  have cg : ∀ i, Cq D 491608 (vf (applyM n.inverse (rowTo pts r.terms)) i) := fun i => by
    rw [vg]
    have := cq_mv pl' cP ca i
    rw [Nat.mul_one] at this
    exact this
  have fP : FApply n.inverse (rowTo pts r.terms) := fapply_of cP ca h.s pl' bD qb1 (by decide) (by decide)
  have fM : FApply n.normal (applyM n.inverse (rowTo pts r.terms)) := fapply_of cM cg h.t.ms pl' qb6 bD (by decide) (by decide)
  have cmg : ∀ i, Cq (6 * D) 491629 (vf (applyM n.normal (applyM n.inverse (rowTo pts r.terms))) i) := fun i => by
    rw [vf_funext_apply h.t.ms]
    exact cq_mv pl' cM cg i
  have lmg : (applyM n.normal (applyM n.inverse (rowTo pts r.terms))).length = pts.length := by rw [len_apply, h.t.ms.l]
  have ds : dotM (rowTo pts r.terms) (applyM n.inverse (rowTo pts r.terms)) = dt pts.length (rwf pts r) (mv pts.length (mf n.inverse) (rwf pts r)) := by
    rw [dotM_dt (Nat.le_of_eq l), vg]
    rfl
  have cs : Cq (1 * D) 491616 (dotM (rowTo pts r.terms) (applyM n.inverse (rowTo pts r.terms))) := by
    rw [dotM_dt (n := 16) (by omega)]
    exact cq_dt (by decide) ca cg
  have cu : ∀ i, Cq (6 * D) 491630 (vf (minusM (rowTo pts r.terms) (applyM n.normal (applyM n.inverse (rowTo pts r.terms)))) i) := fun i => by
    rw [vf_minus (by rw [l, lmg])]
    have := cq_up (ca i) (qb6.mul bD)
    rw [Nat.one_mul] at this
    exact cq_sub (cq_mono this (by decide)) (cmg i)
  have lu : (minusM (rowTo pts r.terms) (applyM n.normal (applyM n.inverse (rowTo pts r.terms)))).length = pts.length := by rw [len_minus, l, lmg]; omega
  have hd : FDot (rowTo pts r.terms) (applyM n.inverse (rowTo pts r.terms)) := fdot_of ca cg (by omega) qb1 bD (by decide) (by decide)
  have nn := Rat.mul_nonneg (Rat.le_of_lt w0) (dt_P_nonneg h.g hw (rwf pts r))
  rw [← ds] at nn
  have fmg : FAll (applyM n.normal (applyM n.inverse (rowTo pts r.terms))) := fall_of fun i => fit_of (cmg i) (qb6.mul bD) (by decide) (by decide)
  have cw := rwt_cn rk
  have zP : ∀ i j, Fz 491600 (mf n.inverse i j) := fun i j => fz_of (cP i j) bD (by decide) (by decide)
  have zg : ∀ i, Fz 491608 (vf (applyM n.inverse (rowTo pts r.terms)) i) := fun i => fz_of (cg i) bD (by decide) (by decide)
  have zs : Fz 491616 (dotM (rowTo pts r.terms) (applyM n.inverse (rowTo pts r.terms))) := fz_of cs (qb1.mul bD) (by decide) (by decide)
  have zw : Fz 6 r.weight := fz_of cw qb6 (by decide) (by decide)
  refine ⟨fall_of fun i => fit_of (ca i) qb1 (by decide) (by decide), fP, fM, fmg, hd, zs.fit (by decide), zw.fit (by decide), fz1.fit (by decide), fun _ => ?_, fun hz u c hu hc => ?_⟩
  · have z1 : Fz 491622 (r.weight * (dotM (rowTo pts r.terms) (applyM n.inverse (rowTo pts r.terms)))) := (zw.mul zs).mono (by decide)
    have z2 : Fz 491623 (1 + r.weight * (dotM (rowTo pts r.terms) (applyM n.inverse (rowTo pts r.terms)))) := (fz1.add z1).mono (by decide)
    have ne : 1 + r.weight * (dotM (rowTo pts r.terms) (applyM n.inverse (rowTo pts r.terms))) ≠ 0 := by grind
    exact ⟨z1.fit (by decide), z2.fit (by decide), ne, fstep_of (n := 0) zP (zw.div z2 ne).neg zg zg (by decide) (by decide)⟩
  · rw [hu] at hc ⊢
    clear hu
    have zu : ∀ i, Fz 491630 (vf (minusM (rowTo pts r.terms) (applyM n.normal (applyM n.inverse (rowTo pts r.terms)))) i) := fun i => fz_of (cu i) (qb6.mul bD) (by decide) (by decide)
    have cq : Cq (6 * D * (6 * D)) 983264 (dotM (minusM (rowTo pts r.terms) (applyM n.normal (applyM n.inverse (rowTo pts r.terms)))) (minusM (rowTo pts r.terms) (applyM n.normal (applyM n.inverse (rowTo pts r.terms))))) := by
      rw [dotM_dt (n := 16) (by omega)]
      exact cq_dt (by decide) cu cu
    have zq : Fz 983264 (dotM (minusM (rowTo pts r.terms) (applyM n.normal (applyM n.inverse (rowTo pts r.terms)))) (minusM (rowTo pts r.terms) (applyM n.normal (applyM n.inverse (rowTo pts r.terms))))) := fz_of cq ((qb6.mul bD).mul (qb6.mul bD)) (by decide) (by decide)
    have hne : dotM (minusM (rowTo pts r.terms) (applyM n.normal (applyM n.inverse (rowTo pts r.terms)))) (minusM (rowTo pts r.terms) (applyM n.normal (applyM n.inverse (rowTo pts r.terms)))) ≠ 0 := by
      intro z
      have : isZeroM (minusM (rowTo pts r.terms) (applyM n.normal (applyM n.inverse (rowTo pts r.terms)))) = true := by
        rw [zero_iff]
        intro i
        rw [dotM_dt (Nat.le_of_eq lu)] at z
        by_cases hi : i < pts.length
        · exact sq_zero (sm_zero_all (fun i _ => sq_nn _) z i hi)
        · exact vf_out (by omega)
      rw [this] at hz
      cases hz
    have zc : ∀ i, Fz 1474894 (vf c i) := fun i => by
      rw [hc, vf_scale]
      exact ((zq.inv hne).mul (zu i)).mono (by decide)
    have lc : c.length = pts.length := by rw [hc, len_scale, lu]
    have q1 := sq_r1 (c := -1) h.s lc lg
    have q2 := sq_r1 (c := -1) q1 lg lc
    have y1 : ∀ i j, Fz 2458200 (mf (sumM n.inverse (scaledM (-1) (outerM c (applyM n.inverse (rowTo pts r.terms))))) i j) := fun i j => (fz_step h.s lc lg zP fzm1 zc zg i j).mono (by decide)
    have y2 : ∀ i j, Fz 4424800 (mf (sumM (sumM n.inverse (scaledM (-1) (outerM c (applyM n.inverse (rowTo pts r.terms))))) (scaledM (-1) (outerM (applyM n.inverse (rowTo pts r.terms)) c))) i j) := fun i j => (fz_step q1 lg lc y1 fzm1 zg zc i j).mono (by decide)
    have zf : Fz 491623 (1 / r.weight + (dotM (rowTo pts r.terms) (applyM n.inverse (rowTo pts r.terms)))) := ((zw.inv wn).add zs).mono (by decide)
    exact ⟨fdot_of cu cu (by omega) (qb6.mul bD) (qb6.mul bD) (by decide) (by decide), fall_of fun i => (zu i).fit (by decide), zq.fit (by decide), hne, (zq.inv hne).fit (by decide), wn, (zw.inv wn).fit (by decide),
      fstep_of (n := 0) zP fzm1 zc zg (by decide) (by decide), fstep_of (n := 0) y1 fzm1 zg zc (by decide) (by decide), fstep_of (n := 0) y2 zf zc zc (by decide) (by decide)⟩
theorem ftake {r : Rdg S} (N : Nums pts x0 (r :: rs)) (h : AlN pts x0 rs n) (hm : r ∈ rs) : FTake n r := by
  refine ⟨?_, ftally (.inr rfl) N h.t⟩
  have rk := N.ok r (by simp)
  have hl : rs.length ≤ 32 := by have := N.l; simp at this; omega
  have hr : ∀ q ∈ rs, ROk pts q := fun q hq => N.ok q (by simp [hq])
  have pl := N.pl
  have pl' : pts.length ≤ 16 := by omega
  obtain ⟨D, bD, cP⟩ := h.size pl hr hl
  have e : ntRow n r = rowTo pts r.terms := by unfold ntRow; rw [h.t.p]
  have l : (rowTo pts r.terms).length = pts.length := len_rowTo ..
  rw [e]
  have ca : ∀ i, Cq 1 4 (vf (rowTo pts r.terms) i) := rwf_cn rk
  have vg : vf (applyM n.inverse (rowTo pts r.terms)) = mv pts.length (mf n.inverse) (rwf pts r) := vf_funext_apply h.s
  have lg : (applyM n.inverse (rowTo pts r.terms)).length = pts.length := by rw [len_apply, h.s.l]
  have cg : ∀ i, Cq D 491608 (vf (applyM n.inverse (rowTo pts r.terms)) i) := fun i => by
    rw [vg]
    have := cq_mv pl' cP ca i
    rw [Nat.mul_one] at this
    exact this
  have fP : FApply n.inverse (rowTo pts r.terms) := fapply_of cP ca h.s pl' bD qb1 (by decide) (by decide)
  have fPg : FApply n.inverse (applyM n.inverse (rowTo pts r.terms)) := fapply_of cP cg h.s pl' bD bD (by decide) (by decide)
  have ch : ∀ i, Cq (D * D) 983212 (vf (applyM n.inverse (applyM n.inverse (rowTo pts r.terms))) i) := fun i => by
    rw [vf_funext_apply h.s]
    exact cq_mv pl' cP cg i
  have lh : (applyM n.inverse (applyM n.inverse (rowTo pts r.terms))).length = pts.length := by rw [len_apply, h.s.l]
  have ds : dotM (rowTo pts r.terms) (applyM n.inverse (rowTo pts r.terms)) = dt pts.length (rwf pts r) (vf (applyM n.inverse (rowTo pts r.terms))) := by
    rw [dotM_dt (Nat.le_of_eq l)]
    rfl
  have cs : Cq (1 * D) 491616 (dotM (rowTo pts r.terms) (applyM n.inverse (rowTo pts r.terms))) := by
    rw [dotM_dt (n := 16) (by omega)]
    exact cq_dt (by decide) ca cg
  have hd : FDot (rowTo pts r.terms) (applyM n.inverse (rowTo pts r.terms)) := fdot_of ca cg (by omega) qb1 bD (by decide) (by decide)
  have cw := rwt_cn rk
  have zP : ∀ i j, Fz 491600 (mf n.inverse i j) := fun i j => fz_of (cP i j) bD (by decide) (by decide)
  have zg : ∀ i, Fz 491608 (vf (applyM n.inverse (rowTo pts r.terms)) i) := fun i => fz_of (cg i) bD (by decide) (by decide)
  have zs : Fz 491616 (dotM (rowTo pts r.terms) (applyM n.inverse (rowTo pts r.terms))) := fz_of cs (qb1.mul bD) (by decide) (by decide)
  have zw : Fz 6 r.weight := fz_of cw qb6 (by decide) (by decide)
  have z1 : Fz 491622 (r.weight * dotM (rowTo pts r.terms) (applyM n.inverse (rowTo pts r.terms))) := (zw.mul zs).mono (by decide)
  have z2 : Fz 491623 (1 - r.weight * dotM (rowTo pts r.terms) (applyM n.inverse (rowTo pts r.terms))) := by
    rw [Rat.sub_eq_add_neg]
    exact (fz1.add z1.neg).mono (by decide)
  refine ⟨fP, hd, zs.fit (by decide), zw.fit (by decide), fz1.fit (by decide), z1.fit (by decide), z2.fit (by decide), fun hz => ?_, fun hz g k q hg hk hq => ?_⟩
  · have ne : 1 - r.weight * dotM (rowTo pts r.terms) (applyM n.inverse (rowTo pts r.terms)) ≠ 0 := fun z => hz (by rw [z]; rfl)
    exact fstep_of (n := 0) zP (zw.div z2 ne) zg zg (by decide) (by decide)
  · subst hg
    subst hk
    have hz' := Rat.num_eq_zero.mp hz
    have cq : Cq (D * D) 983220 q := by
      rw [hq, dotM_dt (n := 16) (by omega)]
      exact cq_dt (by decide) cg cg
    have zq : Fz 983220 q := fz_of cq (bD.mul bD) (by decide) (by decide)
    have ne : q ≠ 0 := by
      intro z
      rw [hq, dotM_dt (Nat.le_of_eq lg)] at z
      have g0 : dotM (rowTo pts r.terms) (applyM n.inverse (rowTo pts r.terms)) = 0 := by
        rw [ds]
        refine (sm_congr (g := fun _ => 0) fun j hj => ?_).trans (sm_zero _)
        rw [sq_zero (sm_zero_all (fun i _ => sq_nn _) z j hj)]
        grind
      rw [g0] at hz'
      grind
    have zk : ∀ i, Fz 983212 (vf (applyM n.inverse (applyM n.inverse (rowTo pts r.terms))) i) := fun i => fz_of (ch i) (bD.mul bD) (by decide) (by decide)
    have cgk : Cq (D * (D * D)) 1474824 (dotM (applyM n.inverse (rowTo pts r.terms)) (applyM n.inverse (applyM n.inverse (rowTo pts r.terms)))) := by
      rw [dotM_dt (n := 16) (by omega)]
      exact cq_dt (by decide) cg ch
    have zgk : Fz 1474824 (dotM (applyM n.inverse (rowTo pts r.terms)) (applyM n.inverse (applyM n.inverse (rowTo pts r.terms)))) := fz_of cgk (bD.mul (bD.mul bD)) (by decide) (by decide)
    have zqq : Fz 1966440 (q * q) := (zq.mul zq).mono (by decide)
    have neq : q * q ≠ 0 := fun z => ne (sq_zero z)
    have zf : Fz 983220 (-1 / q) := (fzm1.div zq ne).mono (by decide)
    have q1 := sq_r1 (c := -1 / q) h.s lh lg
    have y1 : ∀ i j, Fz 2949641 (mf (sumM n.inverse (scaledM (-1 / q) (outerM (applyM n.inverse (applyM n.inverse (rowTo pts r.terms))) (applyM n.inverse (rowTo pts r.terms))))) i j) := fun i j => (fz_step h.s lh lg zP zf zk zg i j).mono (by decide)
    have y2 : ∀ i j, Fz 5407682 (mf (sumM (sumM n.inverse (scaledM (-1 / q) (outerM (applyM n.inverse (applyM n.inverse (rowTo pts r.terms))) (applyM n.inverse (rowTo pts r.terms))))) (scaledM (-1 / q) (outerM (applyM n.inverse (rowTo pts r.terms)) (applyM n.inverse (applyM n.inverse (rowTo pts r.terms)))))) i j) := fun i j => (fz_step q1 lg lh y1 zf zg zk i j).mono (by decide)
    exact ⟨fPg, fdot_of cg cg (by omega) bD bD (by decide) (by decide), zq.fit (by decide), ne, fzm1.fit (by decide), fstep_of (n := 0) zP zf zk zg (by decide) (by decide), fstep_of (n := 0) zP zf zg zk (by decide) (by decide),
      fstep_of (n := 0) zP (zgk.div zqq neq) zg zg (by decide) (by decide), fdot_of cg ch (by omega) bD (bD.mul bD) (by decide) (by decide), zgk.fit (by decide), zqq.fit (by decide),
      fallm_of fun i j => (y1 i j).fit (by decide), fallm_of fun i j => (y2 i j).fit (by decide)⟩
end
end Pn
/-! plain: elimination: the same solutions, steps in their form; what fits -/
namespace Pn
theorem mf_set (m : Mat) (i : Nat) (r : Vec) (h : i < m.length) (a c : Nat) : mf (m.set i r) a c = if i = a then vf r c else mf m a c := by
  have : (m.set i r).getD a [] = if i = a then r else m.getD a [] := by
    rw [List.getD_eq_getElem?_getD, List.getD_eq_getElem?_getD, List.getElem?_set]
    by_cases e : i = a
    · subst e
      simp [h]
    · simp [e]
  unfold mf vf
  rw [this]
  split <;> rfl
theorem mf_swap {m : Mat} {i j : Nat} (hi : i < m.length) (hj : j < m.length) (a c : Nat) : mf (swapM m i j) a c = if j = a then mf m i c else if i = a then mf m j c else mf m a c := by
  unfold swapM
  rw [mf_set _ _ _ (by rw [List.length_set]; exact hj), mf_set _ _ _ hi]
  rfl
theorem mf_clear {m : Mat} {w p c : Nat} (h : Rect m w) (hp : p < m.length) (i d : Nat) :
    mf (clearM m p c) i d = if i = p then 1 / mf m p c * mf m p d else if m.length ≤ i then 0 else mf m i d - mf m i c * (1 / mf m p c * mf m p d) := by
  by_cases hi : i < m.length
  · rw [← mf_row, row_in (by rw [len_clear]; exact hi)]
    unfold clearM
    rw [List.getElem_mapIdx]
    unfold rowM
    by_cases e : i = p
    · rw [if_pos e, if_pos e]
      unfold unitM
      rw [vf_scale]
      rfl
    · rw [if_neg e, if_neg e, if_neg (show ¬ m.length ≤ i by omega)]
      have er : m[i] = m.getD i [] := (row_in hi).symm
      rw [er]
      split
      · rename_i z
        have z' : mf m i c = 0 := Rat.num_eq_zero.mp z
        rw [z', mf_row]
        grind
      · have l1 := rect_getD h hi
        have l2 := rect_getD h hp
        rw [vf_minus (by rw [len_scale, len_unit, l1, l2]), vf_scale]
        unfold unitM
        rw [vf_scale]
        rfl
  · rw [mf_out (by rw [len_clear]; omega), if_neg (by omega), if_pos (by omega)]
/-- x solves: the columns below L with x give column L -/
def sol (m : Mat) (L : Nat) (x : VF) : Prop := ∀ i, i < m.length → dt L (mf m i) x = mf m i L
theorem sol_swap {m : Mat} {i j L : Nat} {x : VF} (hi : i < m.length) (hj : j < m.length) : sol (swapM m i j) L x ↔ sol m L x := by
  have e : ∀ a, mf (swapM m i j) a = mf m (if j = a then i else if i = a then j else a) := fun a => by
    funext c
    rw [mf_swap hi hj]
    split
    · rfl
    · split <;> rfl
  unfold sol
  rw [len_swap]
  constructor
  · intro h a ha
    have := h (if j = a then i else if i = a then j else a) (by split; exact hi; split; exact hj; exact ha)
    rw [e] at this
    have z : (if j = (if j = a then i else if i = a then j else a) then i else if i = (if j = a then i else if i = a then j else a) then j else (if j = a then i else if i = a then j else a)) = a := by
      by_cases h1 : j = a
      · subst h1
        simp only [if_true]
        split
        · rename_i k; exact k.symm
        · rfl
      · simp only [if_neg h1]
        by_cases h2 : i = a
        · subst h2
          simp only [if_true]
        · simp only [if_neg h2, if_neg h1]
    rw [z] at this
    exact this
  · intro h a ha
    rw [e]
    exact h _ (by split; exact hi; split; exact hj; exact ha)
theorem sol_clear {m : Mat} {w p c L : Nat} {x : VF} (h : Rect m w) (hp : p < m.length) (hc : mf m p c ≠ 0) : sol (clearM m p c) L x ↔ sol m L x := by
  have e1 : dt L (mf (clearM m p c) p) x = 1 / mf m p c * dt L (mf m p) x := by
    rw [← dt_mull]
    unfold dt
    exact sm_congr fun k _ => by rw [mf_clear h hp, if_pos rfl]
  have e2 : ∀ i, i ≠ p → i < m.length → dt L (mf (clearM m p c) i) x = dt L (mf m i) x - mf m i c * (1 / mf m p c * dt L (mf m p) x) := fun i hi hl => by
    rw [← dt_mull, ← dt_mull, ← dt_subl]
    unfold dt
    exact sm_congr fun k _ => by rw [mf_clear h hp, if_neg hi, if_neg (by omega)]
  unfold sol
  rw [len_clear]
  constructor
  · intro s
    have sp := s p hp
    rw [e1, mf_clear h hp, if_pos rfl] at sp
    have sp' : dt L (mf m p) x = mf m p L := by grind
    intro i hi
    by_cases z : i = p
    · rw [z]; exact sp'
    · have := s i hi
      rw [e2 i z hi, mf_clear h hp, if_neg z, if_neg (by omega), sp'] at this
      grind
  · intro s i hi
    by_cases z : i = p
    · rw [z, e1, mf_clear h hp, if_pos rfl, s p hp]
    · rw [e2 i z hi, mf_clear h hp, if_neg z, if_neg (by omega), s i hi, s p hp]
/-- the form behind j columns -/
structure Ech (m : Mat) (ps : List Nat) (j : Nat) : Prop where
  one : ∀ (k c : Nat), ps[k]? = some c → ∀ i, mf m i c = if i = k then 1 else 0
  zero : ∀ i c, ps.length ≤ i → c < j → mf m i c = 0
  lt : ∀ c ∈ ps, c < j
theorem piv_no {m : Mat} {start col : Nat} (h : pivM m start col = none) : ∀ i, start ≤ i → mf m i col = 0 := fun i hi => by
  by_cases hl : i < m.length
  · unfold pivM at h
    rw [List.find?_eq_none] at h
    have := h i (List.mem_range'_1.mpr ⟨hi, by omega⟩)
    simp only [bne_iff_ne, ne_eq, Decidable.not_not] at this
    exact Rat.num_eq_zero.mp this
  · exact mf_out (by omega)
theorem ech_step {m : Mat} {w j : Nat} {ps : List Nat} (h : Rect m w) (hp : ps.length ≤ m.length) (e : Ech m ps j) :
    Ech (redStep (m, ps) j).1 (redStep (m, ps) j).2 (j + 1) := by
  unfold redStep
  simp only
  cases hv : pivM m ps.length j with
  | none =>
    refine ⟨e.one, fun i c hi hc => ?_, fun c hc => Nat.lt_succ_of_lt (e.lt c hc)⟩
    show mf m i c = 0
    by_cases z : c = j
    · rw [z]; exact piv_no hv i hi
    · exact e.zero i c hi (by omega)
  | some f =>
    obtain ⟨p1, p2, p3⟩ := piv_spec hv
    have hs : ps.length < m.length := by omega
    have hsw : ∀ a c, mf (swapM m ps.length f) a c = if f = a then mf m ps.length c else if ps.length = a then mf m f c else mf m a c := fun a c => mf_swap hs p2 a c
    have rs : Rect (swapM m ps.length f) w := rect_swap h hs p2
    have hc := fun i d => mf_clear (c := j) rs (by rw [len_swap]; exact hs) i d
    have hl : ∀ c, mf (swapM m ps.length f) ps.length c = mf m f c := fun c => by
      rw [hsw]
      by_cases z : f = ps.length
      · rw [if_pos z, z]
      · rw [if_neg z, if_pos rfl]
    have nz : mf m f j ≠ 0 := fun z => p3 (by
      show (mf m f j).num = 0
      rw [z]; rfl)
    refine ⟨fun k c hk i => ?_, fun i c hi hcj => ?_, fun c hc => ?_⟩
    · show mf (clearM (swapM m ps.length f) ps.length j) i c = _
      have hk' : (ps ++ [j])[k]? = some c := hk
      rw [hc, hl, hl, len_swap]
      by_cases kl : k < ps.length
      · rw [List.getElem?_append_left kl] at hk'
        have e1 := e.one k c hk'
        have fz : mf m f c = 0 := by rw [e1, if_neg (by omega)]
        rw [fz]
        by_cases z : i = ps.length
        · rw [if_pos z, if_neg (by omega)]
          grind
        · rw [if_neg z]
          by_cases g : m.length ≤ i
          · rw [if_pos g, if_neg (by omega)]
          · rw [if_neg g]
            have : mf (swapM m ps.length f) i c = if i = k then 1 else 0 := by
              rw [hsw]
              by_cases a : f = i
              · rw [if_pos a, e1, if_neg (by omega), if_neg (by omega)]
              · rw [if_neg a, if_neg (by omega), e1]
            rw [this]
            grind
      · rw [List.getElem?_append_right (by omega)] at hk'
        have k0 : k = ps.length := by
          rcases Nat.lt_or_ge (k - ps.length) 1 with a | a
          · omega
          · rw [List.getElem?_eq_none (by simpa using a)] at hk'
            cases hk'
        subst k0
        have cj : c = j := by simpa using hk'.symm
        subst cj
        by_cases z : i = ps.length
        · rw [if_pos z, if_pos z]
          grind
        · rw [if_neg z, if_neg z]
          split
          · rfl
          · grind
    · show mf (clearM (swapM m ps.length f) ps.length j) i c = 0
      have hi' : ps.length + 1 ≤ i := by simpa using hi
      rw [hc, hl, hl, len_swap, if_neg (by omega)]
      split
      · rfl
      · by_cases cj : c = j
        · subst cj
          grind
        · have f0 : mf m f c = 0 := e.zero f c p1 (by omega)
          have i0 : mf (swapM m ps.length f) i c = 0 := by
            rw [hsw]
            split
            · exact e.zero _ c (Nat.le_refl _) (by omega)
            · rw [if_neg (by omega)]
              exact e.zero _ c (by omega) (by omega)
          rw [f0, i0]
          grind
    · have : c ∈ ps ++ [j] := hc
      rcases List.mem_append.mp this with z | z
      · exact Nat.lt_succ_of_lt (e.lt c z)
      · have : c = j := by simpa using z
        omega
theorem sol_step {m : Mat} {w j L : Nat} {ps : List Nat} {x : VF} (h : Rect m w) (hp : ps.length ≤ m.length) : sol (redStep (m, ps) j).1 L x ↔ sol m L x := by
  unfold redStep
  simp only
  cases hv : pivM m ps.length j with
  | none => rfl
  | some f =>
    obtain ⟨p1, p2, p3⟩ := piv_spec hv
    have hs : ps.length < m.length := by omega
    have nz : mf (swapM m ps.length f) ps.length j ≠ 0 := fun z => p3 (by
      rw [mf_swap hs p2] at z
      show (mf m f j).num = 0
      split at z
      · rename_i a
        rw [a, z]; rfl
      · rw [if_pos rfl] at z
        rw [z]; rfl)
    show sol (clearM _ _ _) L x ↔ _
    rw [sol_clear (rect_swap h hs p2) (by rw [len_swap]; exact hs) nz, sol_swap hs p2]
theorem red_all {m : Mat} {w L : Nat} {x : VF} (h : Rect m w) : ∀ j, Ech (redTo m j).1 (redTo m j).2 j ∧ (sol (redTo m j).1 L x ↔ sol m L x)
  | 0 => ⟨⟨fun k c hk => by simp [redTo] at hk, fun i c _ hc => by omega, fun c hc => by simp [redTo] at hc⟩, Iff.rfl⟩
  | j + 1 => by
    obtain ⟨a, b⟩ := red_all h j
    obtain ⟨h1, h2, h3, _, _⟩ := redTo_ok h j
    have hp : (redTo m j).2.length ≤ (redTo m j).1.length := by rw [h2]; exact h3
    rw [redTo_succ]
    refine ⟨ech_step h1 hp a, ?_⟩
    rw [← b]
    exact sol_step h1 hp
/-- the filled one -/
theorem fill_at {rows : Mat} {ps : List Nat} {w : Nat} (hn : ps.Nodup) (hl : ∀ c ∈ ps, c < w) :
    (fillM rows ps w).length = w ∧ (∀ (k c : Nat), ps[k]? = some c → vf (fillM rows ps w) c = mf rows k w) ∧ ∀ c, c ∉ ps → vf (fillM rows ps w) c = 0 := by
  have : ∀ q, q ≤ ps.length → ∀ acc, acc = (List.range q).foldl (fun acc i => acc.set (ps.getD i 0) ((rows.getD i []).getD w 0)) (List.replicate w 0) →
      acc.length = w ∧ (∀ (k c : Nat), k < q → ps[k]? = some c → vf acc c = mf rows k w) ∧ ∀ c, (∀ k, k < q → ps[k]? ≠ some c) → vf acc c = 0 := by
    intro q
    induction q with
    | zero =>
      intro _ acc ha
      subst ha
      refine ⟨by simp, fun k c hk => by omega, fun c _ => ?_⟩
      unfold vf
      rw [List.getD_eq_getElem?_getD]
      show ((List.replicate w (0 : Rat))[c]?).getD 0 = 0
      rw [List.getElem?_replicate]
      split <;> rfl
    | succ q ih =>
      intro hq acc ha
      obtain ⟨i1, i2, i3⟩ := ih (by omega) _ rfl
      rw [List.range_succ, List.foldl_append, List.foldl_cons, List.foldl_nil] at ha
      generalize (List.range q).foldl (fun acc i => acc.set (ps.getD i 0) ((rows.getD i []).getD w 0)) (List.replicate w 0) = old at *
      have hg : ps[q]? = some ps[q] := List.getElem?_eq_getElem (by omega)
      have hd : ps.getD q 0 = ps[q] := by rw [List.getD_eq_getElem?_getD, hg]; rfl
      rw [hd] at ha
      have hlt : ps[q] < old.length := by rw [i1]; exact hl _ (List.getElem_mem _)
      have hv : ∀ c, vf acc c = if ps[q] = c then mf rows q w else vf old c := fun c => by rw [ha, vf_set _ _ _ hlt]; rfl
      refine ⟨by rw [ha, List.length_set, i1], fun k c hk hc => ?_, fun c hc => ?_⟩
      · rw [hv]
        by_cases z : k = q
        · subst z
          rw [hg] at hc
          rw [if_pos (by injection hc)]
        · rw [if_neg, i2 k c (by omega) hc]
          intro e
          have hk' : k < ps.length := by omega
          rw [List.getElem?_eq_getElem hk'] at hc
          injection hc with hc
          exact List.pairwise_iff_getElem.mp hn k q hk' (by omega) (by omega) (by rw [hc, e])
      · rw [hv, if_neg, i3 c fun k hk => hc k (by omega)]
        intro e
        exact hc q (by omega) (by rw [hg, e])
  obtain ⟨a, b, c⟩ := this ps.length (Nat.le_refl _) (fillM rows ps w) rfl
  refine ⟨a, fun k d hk => b k d ?_ hk, fun d hd => c d fun k _ hk => hd (List.mem_of_getElem? hk)⟩
  rcases Nat.lt_or_ge k ps.length with z | z
  · exact z
  · rw [List.getElem?_eq_none z] at hk
    cases hk
end Pn
/-! plain: elimination finds the solution; what fits of it -/
namespace Pn
theorem ech_nodup {m : Mat} {ps : List Nat} {j : Nat} (e : Ech m ps j) : ps.Nodup := by
  refine List.pairwise_iff_getElem.mpr fun a b ha hb hab h => ?_
  have h1 := e.one a _ (List.getElem?_eq_getElem ha) a
  have h2 := e.one b _ (List.getElem?_eq_getElem hb) a
  rw [if_pos rfl] at h1
  rw [if_neg (by omega), ← h, h1] at h2
  exact absurd h2 (by decide)
theorem mf_take {m : Mat} {p i : Nat} (h : i < p) (c : Nat) : mf (m.take p) i c = mf m i c := by
  have : (m.take p).getD i [] = m.getD i [] := by
    rw [List.getD_eq_getElem?_getD, List.getD_eq_getElem?_getD, List.getElem?_take, if_pos h]
  unfold mf
  rw [this]
theorem len_join {m : Mat} {v : Vec} : (joinM m v).length = min m.length v.length := by simp [joinM]
theorem mf_join {m : Mat} {v : Vec} {w : Nat} (hr : ∀ r ∈ m, r.length = w) (hl : m.length = v.length) (i c : Nat) : mf (joinM m v) i c = if c = w then vf v i else mf m i c := by
  by_cases hi : i < m.length
  · rw [← mf_row, row_in (by rw [len_join]; omega)]
    unfold joinM
    rw [List.getElem_zipWith]
    have hw : (m[i]).length = w := hr _ (List.getElem_mem _)
    rw [← mf_row m, row_in hi]
    by_cases z : c = w
    · rw [if_pos z, z, vf_in (by simp [hw]), List.getElem_append_right (by omega), vf_in (by omega)]
      simp [hw]
    · rw [if_neg z]
      by_cases g : c < w
      · rw [vf_in (by simp [hw]; omega), vf_in (by omega), List.getElem_append_left]
      · rw [vf_out (by simp [hw]; omega), vf_out (by omega)]
  · rw [mf_out (by rw [len_join]; omega), mf_out (by omega), vf_out (by omega)]
    split <;> rfl
theorem rect_joinV {m : Mat} {v : Vec} {w : Nat} (hr : ∀ r ∈ m, r.length = w) (hn : m.length ≤ 1000) : Rect (joinM m v) (w + 1) := by
  refine ⟨by rw [len_join]; omega, fun r h => ?_⟩
  obtain ⟨i, hi, rfl⟩ := List.getElem_of_mem h
  simp only [joinM, List.getElem_zipWith]
  rw [List.length_append, hr _ (List.getElem_mem _)]
  rfl
theorem solve_ok {m : Mat} {v : Vec} {w : Nat} {x : VF} (hr : ∀ r ∈ m, r.length = w) (hl : m.length = v.length) (hn : m.length ≤ 1000) (hs : sol (joinM m v) w x) :
    ∃ f, solveM m w v = some f ∧ f.length = w ∧ sol (joinM m v) w (vf f) ∧ ∀ c, vf f c = 0 ∨ ∃ i, vf f c = mf (redTo (joinM m v) w).1 i w := by
  have R := rect_joinV (v := v) hr hn
  obtain ⟨e, sx⟩ := red_all (L := w) (x := x) R w
  obtain ⟨r1, r2, r3, r4, _⟩ := redTo_ok R w
  have sx' := sx.mpr hs
  have low : ∀ i, (redTo (joinM m v) w).2.length ≤ i → mf (redTo (joinM m v) w).1 i w = 0 := fun i hi => by
    by_cases g : i < (redTo (joinM m v) w).1.length
    · rw [← sx' i g]
      exact (sm_congr (g := fun _ => 0) fun k hk => by rw [e.zero i k hi hk]; grind).trans (sm_zero w)
    · exact mf_out (by omega)
  have hst : redTo (joinM m v) (w + 1) = redTo (joinM m v) w := by
    rw [redTo_succ]
    unfold redStep
    rw [show pivM (redTo (joinM m v) w).1 (redTo (joinM m v) w).2.length w = none from ?_]
    cases hp : pivM (redTo (joinM m v) w).1 (redTo (joinM m v) w).2.length w with
    | none => rfl
    | some f =>
      obtain ⟨p1, p2, p3⟩ := piv_spec hp
      exact absurd (show (mf (redTo (joinM m v) w).1 f w).num = 0 by rw [low f p1]; rfl) p3
  have nd := ech_nodup e
  have hlt : ∀ c ∈ (redTo (joinM m v) w).2, c < w := e.lt
  obtain ⟨f1, f2, f3⟩ := fill_at (rows := (redTo (joinM m v) w).1.take (redTo (joinM m v) w).2.length) nd hlt
  refine ⟨fillM ((redTo (joinM m v) w).1.take (redTo (joinM m v) w).2.length) (redTo (joinM m v) w).2 w, ?_, f1, ?_, ?_⟩
  · unfold solveM redM
    rw [hst, if_neg fun h => Nat.lt_irrefl _ (hlt w h)]
  · refine (red_all (L := w) R w).2.mp ?_
    intro i hi
    by_cases g : i < (redTo (joinM m v) w).2.length
    · have hg : (redTo (joinM m v) w).2[i]? = some (redTo (joinM m v) w).2[i] := List.getElem?_eq_getElem g
      have hc := hlt _ (List.getElem_mem g)
      unfold dt
      rw [sm_one hc]
      · rw [e.one i _ hg, if_pos rfl, f2 i _ hg, mf_take g]
        grind
      · intro c hcn
        by_cases hm : c ∈ (redTo (joinM m v) w).2
        · obtain ⟨k, hk, rfl⟩ := List.getElem_of_mem hm
          rw [e.one k _ (List.getElem?_eq_getElem hk), if_neg]
          · grind
          · intro z
            subst z
            exact hcn rfl
        · rw [f3 c hm]
          grind
    · rw [low i (by omega)]
      exact (sm_congr (g := fun _ => 0) fun k hk => by rw [e.zero i k (by omega) hk]; grind).trans (sm_zero w)
  · intro c
    by_cases hm : c ∈ (redTo (joinM m v) w).2
    · obtain ⟨k, hk, rfl⟩ := List.getElem_of_mem hm
      right
      exact ⟨k, by rw [f2 k _ (List.getElem?_eq_getElem hk), mf_take hk]⟩
    · exact .inl (f3 c hm)
/-! ### sizes -/
theorem piv_den {D b : Nat} {p : Rat} (hp : Cq D b p) (hz : p ≠ 0) (bD : Qb D b) : ∃ F, 0 < F ∧ F ≤ D * 2 ^ b ∧ ∀ (E t : Nat) (x r l : Rat), Cq (D * E) t x → Cq D b r → Cq (D * E) t l →
    Cq (F * E) (b + t + 1) (x - r * (1 / p * l)) ∧ Cq (F * E) (b + t + 1) (1 / p * l) ∧ Cq (F * E) (b + t + 1) x := by
  obtain ⟨⟨z, e, bz⟩⟩ := hp
  have hD := bD.p
  have hD' : ((D : Int) : Rat) ≠ 0 := by
    have : (D : Int) ≠ 0 := by omega
    simpa using this
  have z0 : z ≠ 0 := by
    intro h
    rw [h] at e
    have : p * ((D : Int) : Rat) = 0 := by rw [e]; rfl
    rcases Rat.mul_eq_zero.mp this with k | k
    · exact hz k
    · exact hD' k
  have zr : (z : Rat) ≠ 0 := by simpa using z0
  refine ⟨D * z.natAbs, Nat.mul_pos hD (by omega), Nat.mul_le_mul_left _ bz, fun E t x r l hx hr hl => ?_⟩
  obtain ⟨⟨X, ex, bx⟩⟩ := hx
  obtain ⟨⟨R, er, br⟩⟩ := hr
  obtain ⟨⟨L, el, bl⟩⟩ := hl
  rw [Int.natCast_mul, Rat.intCast_mul] at ex el
  have sg : ∃ s : Int, (s = 1 ∨ s = -1) ∧ ((z.natAbs : Nat) : Int) = s * z := by
    rcases Int.natAbs_eq z with h | h
    · exact ⟨1, .inl rfl, by omega⟩
    · exact ⟨-1, .inr rfl, by omega⟩
  obtain ⟨s, s1, s2⟩ := sg
  have hs : s.natAbs = 1 := by rcases s1 with h | h <;> rw [h] <;> rfl
  have key : (((D * z.natAbs * E : Nat) : Int) : Rat) = (s : Rat) * ((D : Int) : Rat) * (z : Rat) * ((E : Int) : Rat) := by
    rw [Int.natCast_mul, Int.natCast_mul, s2, Rat.intCast_mul, Rat.intCast_mul, Rat.intCast_mul]
    grind
  have iv : 1 / p * (z : Rat) = ((D : Int) : Rat) := by
    rw [← e]
    grind
  have h2 : 2 ^ (b + t + 1) = 2 ^ b * 2 ^ t + 2 ^ b * 2 ^ t := by rw [Nat.pow_succ, Nat.pow_add]; omega
  have gx : Cn (D * z.natAbs * E) (2 ^ (b + t)) x := by
    refine ⟨s * (z * X), ?_, ?_⟩
    · rw [key, Rat.intCast_mul, Rat.intCast_mul, ← ex]
      grind
    · rw [Int.natAbs_mul, Int.natAbs_mul, hs, Nat.one_mul, Nat.pow_add]
      exact Nat.mul_le_mul bz bx
  have gl : Cn (D * z.natAbs * E) (2 ^ (b + t)) (1 / p * l) := by
    refine ⟨s * (D * L), ?_, ?_⟩
    · rw [key, Rat.intCast_mul, Rat.intCast_mul, ← el]
      generalize 1 / p = q at *
      grind
    · rw [Int.natAbs_mul, Int.natAbs_mul, hs, Nat.one_mul, Nat.pow_add, Int.natAbs_natCast]
      exact Nat.mul_le_mul bD.l bl
  have gr : Cn (D * z.natAbs * E) (2 ^ (b + t)) (r * (1 / p * l)) := by
    refine ⟨s * (R * L), ?_, ?_⟩
    · rw [key, Rat.intCast_mul, Rat.intCast_mul, ← el, ← er]
      generalize 1 / p = q at *
      grind
    · rw [Int.natAbs_mul, Int.natAbs_mul, hs, Nat.one_mul, Nat.pow_add]
      exact Nat.mul_le_mul br bl
  exact ⟨⟨cn_sub gx gr⟩, ⟨cn_mono gl (by omega)⟩, ⟨cn_mono gx (by omega)⟩⟩
/-- the sizes behind each column -/
theorem red_cq {m : Mat} {w L E t0 : Nat} (h : Rect m w) (h0 : ∀ i c, c ≠ L → Cq 1 4 (mf m i c)) (hL : ∀ i, Cq E t0 (mf m i L)) : ∀ j, j ≤ L →
    ∃ D, Qb D (5 * 2 ^ (redTo m j).2.length - 1) ∧ (∀ i c, c ≠ L → Cq D (5 * 2 ^ (redTo m j).2.length - 1) (mf (redTo m j).1 i c)) ∧ ∀ i, Cq (D * E) (t0 + 5 * 2 ^ (redTo m j).2.length) (mf (redTo m j).1 i L)
  | 0, _ => by
    refine ⟨1, ⟨by decide, by show 1 ≤ 2 ^ 4; decide⟩, fun i c hc => h0 i c hc, fun i => ?_⟩
    rw [Nat.one_mul]
    exact cq_mono (hL i) (by omega)
  | j + 1, hj => by
    obtain ⟨D, d1, d2, d3⟩ := red_cq h h0 hL j (by omega)
    obtain ⟨r1, r2, r3, _, _⟩ := redTo_ok h j
    have hp : (redTo m j).2.length ≤ (redTo m j).1.length := by rw [r2]; exact r3
    rw [redTo_succ]
    revert d1 d2 d3 r1 hp
    clear r2 r3
    generalize redTo m j = st
    obtain ⟨m', ps⟩ := st
    intro d1 d2 d3 r1 hp
    simp only at d1 d2 d3 r1 hp
    unfold redStep
    simp only
    cases hv : pivM m' ps.length j with
    | none => exact ⟨D, d1, d2, d3⟩
    | some f =>
      obtain ⟨p1, p2, p3⟩ := piv_spec hv
      have hs : ps.length < m'.length := by omega
      have hsw : ∀ a, ∃ b, ∀ c, mf (swapM m' ps.length f) a c = mf m' b c := fun a => by
        by_cases z : f = a
        · exact ⟨ps.length, fun c => by rw [mf_swap hs p2, if_pos z]⟩
        · by_cases z2 : ps.length = a
          · exact ⟨f, fun c => by rw [mf_swap hs p2, if_neg z, if_pos z2]⟩
          · exact ⟨a, fun c => by rw [mf_swap hs p2, if_neg z, if_neg z2]⟩
      have s2 : ∀ i c, c ≠ L → Cq D (5 * 2 ^ ps.length - 1) (mf (swapM m' ps.length f) i c) := fun i c hc => by
        obtain ⟨b, hb⟩ := hsw i
        rw [hb]
        exact d2 b c hc
      have s3 : ∀ i, Cq (D * E) (t0 + 5 * 2 ^ ps.length) (mf (swapM m' ps.length f) i L) := fun i => by
        obtain ⟨b, hb⟩ := hsw i
        rw [hb]
        exact d3 b
      have nz : mf (swapM m' ps.length f) ps.length j ≠ 0 := fun z => p3 (by
        rw [mf_swap hs p2] at z
        show (mf m' f j).num = 0
        split at z
        · rename_i a
          rw [a, z]; rfl
        · rw [if_pos rfl] at z
          rw [z]; rfl)
      have rs : Rect (swapM m' ps.length f) w := rect_swap r1 hs p2
      have hc := fun i d => mf_clear (c := j) rs (by rw [len_swap]; exact hs) i d
      have jL : j ≠ L := by omega
      obtain ⟨F, f1, f2, f3⟩ := piv_den (s2 ps.length j jL) nz d1
      have el : (ps ++ [j]).length = ps.length + 1 := by simp
      have ep : 2 ^ (ps.length + 1) = 2 * 2 ^ ps.length := by rw [Nat.pow_succ]; omega
      have e1 : 1 ≤ 2 ^ ps.length := Nat.one_le_two_pow
      show ∃ D, Qb D (5 * 2 ^ (ps ++ [j]).length - 1) ∧ (∀ i c, c ≠ L → Cq D (5 * 2 ^ (ps ++ [j]).length - 1) (mf (clearM (swapM m' ps.length f) ps.length j) i c)) ∧ ∀ i, Cq (D * E) (t0 + 5 * 2 ^ (ps ++ [j]).length) (mf (clearM (swapM m' ps.length f) ps.length j) i L)
      rw [el, ep]
      generalize 2 ^ ps.length = q at *
      refine ⟨F, ⟨f1, Nat.le_trans f2 ?_⟩, fun i c hcL => ?_, fun i => ?_⟩
      · calc D * 2 ^ (5 * q - 1) ≤ 2 ^ (5 * q - 1) * 2 ^ (5 * q - 1) := Nat.mul_le_mul_right _ d1.l
          _ = 2 ^ (5 * q - 1 + (5 * q - 1)) := (Nat.pow_add ..).symm
          _ ≤ 2 ^ (5 * (2 * q) - 1) := Nat.pow_le_pow_right (by decide) (by omega)
      · have g : ∀ x, Cq D (5 * q - 1) x → Cq (D * 1) (5 * q - 1) x := fun x hx => by rw [Nat.mul_one]; exact hx
        obtain ⟨a1, a2, a3⟩ := f3 1 (5 * q - 1) _ _ _ (g _ (s2 i c hcL)) (s2 i j jL) (g _ (s2 ps.length c hcL))
        rw [Nat.mul_one] at a1 a2 a3
        rw [hc]
        split
        · exact cq_mono a2 (by omega)
        · split
          · exact Cq.zero
          · exact cq_mono a1 (by omega)
      · obtain ⟨a1, a2, a3⟩ := f3 E (t0 + 5 * q) _ _ _ (s3 i) (s2 i j jL) (s3 ps.length)
        rw [hc]
        split
        · exact cq_mono a2 (by omega)
        · split
          · exact Cq.zero
          · exact cq_mono a1 (by omega)
theorem fred_of {m : Mat} {w L E t0 e : Nat} (h : Rect m w) (hw : w ≤ L + 1) (h0 : ∀ i c, c ≠ L → Cq 1 4 (mf m i c)) (hL : ∀ i, Cq E t0 (mf m i L)) (bE : Qb E e) (hs : m.length ≤ 12 ∨ w ≤ 12) (h1 : t0 + e ≤ 10000000) : FRed m w := by
  intro j f hj hv
  obtain ⟨D, d1, d2, d3⟩ := red_cq h h0 hL j (by omega)
  obtain ⟨r1, r2, r3, r4, _⟩ := redTo_ok h j
  revert d1 d2 d3 r1 r2 r3 r4 hv
  generalize redTo m j = st
  obtain ⟨m', ps⟩ := st
  intro hv d1 d2 d3 r1 r2 r3 r4
  simp only at d1 d2 d3 r1 r2 r3 r4 hv ⊢
  have hl : ps.length ≤ 12 := by omega
  have hq : 2 ^ ps.length ≤ 2 ^ 12 := Nat.pow_le_pow_right (by decide) hl
  have hq' : 2 ^ ps.length ≤ 4096 := hq
  clear hq
  generalize 2 ^ ps.length = q at *
  have z0 : ∀ i c, Fz (10000000 + 40960) (mf m' i c) := fun i c => by
    by_cases hc : c = L
    · rw [hc]
      exact fz_of (d3 i) (d1.mul bE) (by omega) (by omega)
    · exact fz_of (d2 i c hc) d1 (by omega) (by omega)
  obtain ⟨p1, p2, p3⟩ := piv_spec hv
  have hps : ps.length < m'.length := by omega
  have z1 : ∀ i c, Fz 10040960 (mf (swapM m' ps.length f) i c) := fun i c => by
    rw [mf_swap hps p2]
    split
    · exact z0 _ _
    · split <;> exact z0 _ _
  have nz : mf (swapM m' ps.length f) ps.length j ≠ 0 := fun z => p3 (by
    rw [mf_swap hps p2] at z
    show (mf m' f j).num = 0
    split at z
    · rename_i a
      rw [a, z]; rfl
    · rw [if_pos rfl] at z
      rw [z]; rfl)
  have zi : Fz 10040960 (1 / mf (swapM m' ps.length f) ps.length j) := (z1 _ _).inv nz
  have zu : ∀ c, Fz 20081920 (vf (unitM ((swapM m' ps.length f).getD ps.length []) j) c) := fun c => by
    unfold unitM
    rw [vf_scale]
    exact zi.mul (z1 ps.length c)
  refine ⟨fz1.fit (by decide), nz, (z1 _ _).fit (by decide), zi.fit (by decide), fall_of fun c => (z1 ps.length c).fit (by decide), fall_of fun c => (zu c).fit (by decide), fun r hr => ?_⟩
  obtain ⟨i, hi, rfl⟩ := List.getElem_of_mem hr
  have er : (swapM m' ps.length f)[i] = (swapM m' ps.length f).getD i [] := (row_in hi).symm
  rw [er]
  refine ⟨fall_of fun c => (z1 i c).fit (by decide), (z1 i j).fit (by decide), fall_of fun c => ?_⟩
  rw [vf_scale]
  exact ((z1 i j).mul (zu c)).fit (by decide)
end Pn
/-! plain: the net of a book: deeds -/
namespace Pn
section
variable {S : Type} [DecidableEq S] {pts : List S} {x0 : Vec} {rs rs' : List (Rdg S)} {n n' : Nt S}
def Bk.xs (b : Bk S) : Vec := b.pts.map (·.2)
/-- n is the net of the book b -/
def OkM (b : Bk S) (n : Nt S) : Prop := AlN b.names b.xs b.rds n ∧ n.rds = b.rds
theorem AlN.setRds (h : AlN pts x0 rs n) (l : List (Rdg S)) : AlN pts x0 rs { n with rds := l } := ⟨⟨h.t.p, h.t.x, h.t.xl, h.t.ms, h.t.rl, h.t.m, h.t.r, h.t.t⟩, h.s, h.g⟩
theorem AlN.cast (h : AlN pts x0 rs n) (e1 : MA pts rs = MA pts rs') (e2 : RA pts x0 rs = RA pts x0 rs') (e3 : TA pts x0 rs = TA pts x0 rs') : AlN pts x0 rs' n :=
  ⟨⟨h.t.p, h.t.x, h.t.xl, h.t.ms, h.t.rl, h.t.m.trans e1, h.t.r.trans e2, h.t.t.trans e3⟩, h.s, by rw [← e1]; exact h.g⟩
theorem AlN.one (h : AlN pts x0 rs n) (k : AlN pts x0 rs n') (e : n.rds = n'.rds) : n = n' := by
  have e1 : n.pts = n'.pts := h.t.p.trans k.t.p.symm
  have e2 : n.x0 = n'.x0 := h.t.x.trans k.t.x.symm
  have e3 : n.normal = n'.normal := h.t.ms.ext k.t.ms (h.t.m.trans k.t.m.symm)
  have e4 : n.inverse = n'.inverse := h.s.ext k.s (h.g.uniq k.g)
  have e5 : n.right = n'.right := vf_ext (h.t.rl.trans k.t.rl.symm) fun i => by rw [h.t.r, k.t.r]
  have e6 : n.total = n'.total := h.t.t.trans k.t.t.symm
  cases n
  cases n'
  simp_all
theorem ls_nil_MA : MA pts ([] : List (Rdg S)) = fun _ _ => 0 := rfl
theorem al_empty : AlN ([] : List S) [] [] Nt.empty := by
  have m0 : mf ([] : Mat) = fun _ _ => 0 := mf_ext fun i j => mf_out (Nat.zero_le _)
  have s0 : Sq 0 ([] : Mat) := ⟨rfl, fun r hr => by simp at hr⟩
  refine ⟨⟨rfl, rfl, rfl, s0, rfl, m0, funext fun i => vf_out (Nat.zero_le _), rfl⟩, s0, ?_⟩
  show GI 0 (fun _ _ => 0) (mf [])
  rw [m0]
  exact ⟨fun _ _ => rfl, fun _ _ => rfl, rfl, rfl, rfl⟩
theorem idx_app {a : S} {l : List S} (h : a ∈ l) (k : List S) : (l ++ k).idxOf a = l.idxOf a := by
  rw [List.idxOf_append, if_pos h]
theorem rwf_app {r : Rdg S} (h : ROk pts r) (nm : S) : rwf (pts ++ [nm]) r = rwf pts r := by
  funext j
  unfold rwf
  rw [row_at h.nd h.mem, row_at h.nd fun t ht => List.mem_append_left _ (h.mem t ht)]
  exact ls_congr fun t ht => by
    unfold tp
    rw [idx_app (h.mem t ht)]
theorem shf_app {r : Rdg S} (h : ROk pts r) (hx : x0.length = pts.length) (nm : S) (q : Rat) : shf (pts ++ [nm]) (x0 ++ [q]) r = shf pts x0 r := by
  unfold shf
  rw [dotM_dt (n := pts.length + 1) (by rw [len_rowTo]; simp), dotM_dt (n := pts.length) (by rw [len_rowTo]; exact Nat.le_refl _)]
  congr 1
  have e := rwf_app h nm
  unfold rwf at e
  rw [e]
  show sm pts.length _ + vf (rowTo pts r.terms) pts.length * _ = _
  rw [vf_out (v := rowTo pts r.terms) (by rw [len_rowTo]; exact Nat.le_refl _)]
  unfold dt
  rw [sm_congr (g := fun k => vf (rowTo pts r.terms) k * vf x0 k) fun k hk => by
    congr 1
    rw [vf_in (by simp; omega), vf_in (by omega), List.getElem_append_left]]
  grind
theorem AlN.point (h : AlN pts x0 rs n) (hr : ∀ r ∈ rs, ROk pts r) (nm : S) (q : Rat) : AlN (pts ++ [nm]) (x0 ++ [q]) rs (ntAddPoint n nm q) := by
  have eM : MA (pts ++ [nm]) rs = MA pts rs := mf_ext fun i j => ls_congr fun r hm => by rw [rwf_app (hr r hm)]
  have eR : RA (pts ++ [nm]) (x0 ++ [q]) rs = RA pts x0 rs := funext fun i => ls_congr fun r hm => by rw [rwf_app (hr r hm), shf_app (hr r hm) h.t.xl]
  have eT : TA (pts ++ [nm]) (x0 ++ [q]) rs = TA pts x0 rs := ls_congr fun r hm => by rw [shf_app (hr r hm) h.t.xl]
  have el : (pts ++ [nm]).length = pts.length + 1 := by simp
  refine ⟨⟨?_, ?_, ?_, ?_, ?_, ?_, ?_, ?_⟩, ?_, ?_⟩
  · show n.pts ++ [nm] = _
    rw [h.t.p]
  · show n.x0 ++ [q] = _
    rw [h.t.x]
  · simp [h.t.xl]
  · rw [el]
    exact sq_widen h.t.ms
  · show (n.right ++ [0]).length = _
    simp [h.t.rl]
  · rw [eM]
    exact (mf_widen _).trans h.t.m
  · rw [eR]
    exact (vf_app0 _).trans h.t.r
  · rw [eT]
    exact h.t.t
  · rw [el]
    exact sq_widen h.s
  · rw [el, eM, show mf (ntAddPoint n nm q).inverse = mf n.inverse from mf_widen _, ← h.t.m]
    exact gi_grow h.t.ms h.s (by rw [h.t.m]; exact h.g)
theorem al_points : ∀ (l : List (S × Rat)) (p : List S) (x : Vec) (n : Nt S), AlN p x [] n → AlN (p ++ l.map (·.1)) (x ++ l.map (·.2)) [] (l.foldl (fun n p => ntAddPoint n p.1 p.2) n) ∧ (l.foldl (fun n p => ntAddPoint n p.1 p.2) n).rds = n.rds
  | [], p, x, n, h => by simpa using h
  | a :: l, p, x, n, h => by
    have := al_points l (p ++ [a.1]) (x ++ [a.2]) (ntAddPoint n a.1 a.2) (h.point (fun r hr => by simp at hr) a.1 a.2)
    rw [List.append_assoc, List.append_assoc] at this
    exact this
theorem bk_pos {b : Bk S} (ok : BkOk b) : ∀ r ∈ b.rds, 0 < r.weight := fun r hr => wok_pos (ok.r r hr).w
theorem bk_nums {b : Bk S} (ok : BkOk b) {l : List (Rdg S)} (h : ∀ r ∈ l, ROk b.names r) (hl : l.length ≤ 31) : Nums b.names b.xs l := by
  refine ⟨h, hl, fun q hq => ?_, by simp [Bk.xs, Bk.names], by simpa [Bk.names] using ok.pz⟩
  obtain ⟨p, hp, rfl⟩ := List.mem_map.mp hq
  exact ok.v p hp
theorem al_rds {b : Bk S} (ok : BkOk b) : ∀ i, i ≤ b.rds.length → AlN b.names b.xs (b.rds.take i) (netTo b i) ∧ (netTo b i).rds = b.rds.take i
  | 0, _ => by
    have := al_points b.pts [] [] Nt.empty al_empty
    rw [List.take_zero]
    exact ⟨this.1, this.2⟩
  | i + 1, hi => by
    obtain ⟨a, c⟩ := al_rds ok i (by omega)
    have hg : b.rds[i]? = some b.rds[i] := List.getElem?_eq_getElem (by omega)
    have hm : b.rds[i] ∈ b.rds := List.getElem_mem _
    have e : netTo b (i + 1) = ntAdd (netTo b i) b.rds[i] := by
      unfold netTo
      rw [List.take_add_one, hg, List.foldl_append]
      rfl
    have e2 : b.rds.take (i + 1) = b.rds.take i ++ [b.rds[i]] := by
      rw [List.take_add_one, hg]
      rfl
    rw [e, e2]
    refine ⟨(a.put (fun r hr => bk_pos ok r (List.mem_of_mem_take hr)) (bk_pos ok _ hm)).setRds _, ?_⟩
    show (netTo b i).rds ++ [_] = _
    rw [c]
theorem m_netOf {b : Bk S} (ok : BkOk b) : FNetOf b ∧ OkM b (netOf b) := by
  have h := al_rds ok b.rds.length (Nat.le_refl _)
  rw [List.take_length] at h
  have e : netTo b b.rds.length = netOf b := by
    unfold netTo netOf
    rw [List.take_length]
  rw [e] at h
  refine ⟨fun i r hr => ?_, h⟩
  obtain ⟨hi, rfl⟩ := List.getElem?_eq_some_iff.mp hr
  have a := (al_rds ok i (by omega)).1
  refine fput (bk_nums ok (fun q hq => ?_) ?_) a
  · rcases List.mem_cons.mp hq with z | z
    · rw [z]; exact ok.r _ (List.getElem_mem _)
    · exact ok.r q (List.mem_of_mem_take z)
  · have := ok.rz
    simp
    omega
theorem m_point {b : Bk S} {nm : S} {q : Rat} (ok : BkOk b) (h : OkM b n) : OkM { b with pts := b.pts ++ [(nm, q)] } (ntAddPoint n nm q) := by
  refine ⟨?_, h.2⟩
  have := h.1.point ok.r nm q
  have e1 : ({ b with pts := b.pts ++ [(nm, q)] } : Bk S).names = b.names ++ [nm] := by simp [Bk.names]
  have e2 : ({ b with pts := b.pts ++ [(nm, q)] } : Bk S).xs = b.xs ++ [q] := by simp [Bk.xs]
  rw [e1, e2]
  exact this
theorem m_add {b : Bk S} {r : Rdg S} (ok : BkOk b) (h : OkM b n) (hr : ROk b.names r) : FPut n r ∧ OkM { b with rds := b.rds ++ [r] } (ntAdd n r) := by
  refine ⟨fput (bk_nums ok (fun q hq => ?_) ?_) h.1, (h.1.put (bk_pos ok) (wok_pos hr.w)).setRds _, ?_⟩
  · rcases List.mem_cons.mp hq with z | z
    · rw [z]; exact hr
    · exact ok.r q z
  · have := ok.rz
    simp
    omega
  · show n.rds ++ [r] = b.rds ++ [r]
    rw [h.2]
theorem erase_ok {b : Bk S} (ok : BkOk b) (i : Nat) : ∀ r ∈ b.rds.eraseIdx i, ROk b.names r := fun r hr => ok.r r (List.mem_of_mem_eraseIdx hr)
theorem cons_nums {b : Bk S} (ok : BkOk b) {r : Rdg S} (hr : ROk b.names r) {l : List (Rdg S)} (hl : ∀ q ∈ l, ROk b.names q) (hz : l.length ≤ 24) : Nums b.names b.xs (r :: l) := bk_nums ok (fun q hq => by
    rcases List.mem_cons.mp hq with z | z
    · rw [z]; exact hr
    · exact hl q z) (by simp; omega)
theorem len_erase {b : Bk S} (ok : BkOk b) (i : Nat) : (b.rds.eraseIdx i).length ≤ 24 := Nat.le_trans (List.length_eraseIdx_le _ _) ok.rz
theorem MA_set {i : Nat} {r r' : Rdg S} (h : rs[i]? = some r) : MA pts (rs.set i r') = MA pts (rs.eraseIdx i ++ [r']) := mf_ext fun a c => by
  unfold MA
  rw [ls_set h, ls_app]
  simp only [ls]
  grind
theorem RA_set {i : Nat} {r r' : Rdg S} (h : rs[i]? = some r) : RA pts x0 (rs.set i r') = RA pts x0 (rs.eraseIdx i ++ [r']) := funext fun a => by
  unfold RA
  rw [ls_set h, ls_app]
  simp only [ls]
  grind
theorem TA_set {i : Nat} {r r' : Rdg S} (h : rs[i]? = some r) : TA pts x0 (rs.set i r') = TA pts x0 (rs.eraseIdx i ++ [r']) := by
  unfold TA
  rw [ls_set h, ls_app]
  simp only [ls]
  grind
theorem m_withdraw {b : Bk S} {i : Nat} {r : Rdg S} (ok : BkOk b) (h : OkM b n) (hr : b.rds[i]? = some r) : FTake n r ∧ OkM { b with rds := b.rds.eraseIdx i } (ntWithdrawAt n i r) := by
  have hm : r ∈ b.rds := List.mem_of_getElem? hr
  refine ⟨ftake (cons_nums ok (ok.r r hm) ok.r ok.rz) h.1 hm, (h.1.take (bk_pos ok) hr).setRds _, ?_⟩
  show n.rds.eraseIdx i = b.rds.eraseIdx i
  rw [h.2]
theorem m_weight {b : Bk S} {i : Nat} {r : Rdg S} {q : Rat} (ok : BkOk b) (h : OkM b n) (hr : b.rds[i]? = some r) (hq : WOk q) : FWeight n r q ∧ OkM { b with rds := b.rds.set i { r with weight := q } } (ntWeightAt n i r q) := by
  have hm : r ∈ b.rds := List.mem_of_getElem? hr
  have rk := ok.r r hm
  have rk' : ROk b.names { r with weight := q } := ⟨rk.v, hq, rk.nd, rk.mem, rk.c⟩
  have a1 := h.1.take (bk_pos ok) hr
  have pe : ∀ x ∈ b.rds.eraseIdx i, 0 < x.weight := fun x hx => wok_pos (erase_ok ok i x hx).w
  have a2 := a1.put pe (r := { r with weight := q }) (wok_pos hq)
  refine ⟨⟨ftake (cons_nums ok rk ok.r ok.rz) h.1 hm, fput (cons_nums ok rk' (erase_ok ok i) (len_erase ok i)) a1⟩, ?_, ?_⟩
  · exact (a2.cast (MA_set hr).symm (RA_set hr).symm (TA_set hr).symm).setRds _
  · show n.rds.set i _ = b.rds.set i _
    rw [h.2]
theorem m_value {b : Bk S} {i : Nat} {r : Rdg S} {q : Rat} (ok : BkOk b) (h : OkM b n) (hr : b.rds[i]? = some r) (hq : VOk q) : FValue n r q ∧ OkM { b with rds := b.rds.set i { r with value := q } } (ntValueAt n i r q) := by
  have hm : r ∈ b.rds := List.mem_of_getElem? hr
  have rk := ok.r r hm
  have rk' : ROk b.names { r with value := q } := ⟨hq, rk.w, rk.nd, rk.mem, rk.c⟩
  have t1 := h.1.t.tally r (-r.weight)
  rw [← MA_del hr, ← RA_del hr, ← TA_del hr] at t1
  have t2 := t1.tally { r with value := q } r.weight
  have e1 := MA_add (pts := b.names) (rs := b.rds.eraseIdx i) { r with value := q }
  have e2 := RA_add (pts := b.names) (x0 := b.xs) (rs := b.rds.eraseIdx i) { r with value := q }
  have e3 := TA_add (pts := b.names) (x0 := b.xs) (rs := b.rds.eraseIdx i) { r with value := q }
  have e4 : MA b.names (b.rds.set i { r with value := q }) = MA b.names b.rds := mf_ext fun a c => by
    unfold MA
    rw [ls_set hr, ls_erase hr]
    rfl
  refine ⟨⟨ftally (.inr rfl) (cons_nums ok rk ok.r ok.rz) h.1.t, ftally (r := { r with value := q }) (.inl rfl) (cons_nums ok rk' (erase_ok ok i) (len_erase ok i)) t1⟩, ⟨?_, ?_, ?_⟩, ?_⟩
  · show Tal b.names b.xs (MA b.names (b.rds.set i _)) (RA b.names b.xs (b.rds.set i _)) (TA b.names b.xs (b.rds.set i _)) _
    rw [MA_set hr, RA_set hr, TA_set hr, e1, e2, e3]
    exact ⟨t2.p, t2.x, t2.xl, t2.ms, t2.rl, t2.m, t2.r, t2.t⟩
  · exact h.1.s
  · show GI b.names.length (MA b.names (b.rds.set i _)) (mf n.inverse)
    rw [e4]
    exact h.1.g
  · show n.rds.set i _ = b.rds.set i _
    rw [h.2]
theorem m_nsz {b : Bk S} (ok : BkOk b) (h : OkM b n) : NSz n := by
  have l : n.pts.length = b.names.length := by rw [h.1.t.p]
  have l12 : b.names.length ≤ 12 := by simpa [Bk.names] using ok.pz
  refine ⟨by omega, by rw [h.1.t.x, h.1.t.xl, l], ⟨?_, ?_⟩, ?_, ⟨?_, ?_⟩, ?_, ?_, ?_, ?_, ?_⟩
  · rw [h.1.t.ms.l]; omega
  · rw [l]; exact h.1.t.ms.r
  · rw [h.1.t.ms.l, l]
  · rw [h.1.s.l]; omega
  · rw [l]; exact h.1.s.r
  · rw [h.1.s.l, l]
  · rw [h.1.t.rl, l]
  · rw [h.2]; exact ok.rz
  · rw [h.2, h.1.t.p]
    exact fun r hr t ht => (ok.r r hr).mem t ht
  · rw [h.1.t.p]
    exact ok.nd
end
end Pn
/-! plain: the net of a book: what is looked at -/
namespace Pn
section
variable {S : Type} [DecidableEq S] {pts : List S} {x0 : Vec} {rs : List (Rdg S)} {n : Nt S} {b : Bk S}
theorem mv_ls {α : Type} (k : Nat) (A : MF) (l : List α) (c : α → Rat) (f : α → VF) (i : Nat) : mv k A (fun j => ls l fun r => c r * f r j) i = ls l fun r => c r * mv k A (f r) i := by
  unfold mv
  rw [show (fun j => A i j * ls l fun r => c r * f r j) = fun j => ls l fun r => c r * (A i j * f r j) from funext fun j => by
    rw [← ls_mul]
    exact ls_congr fun r _ => by grind]
  rw [ls_sm]
  exact ls_congr fun r _ => by rw [sm_mul]
theorem mv_ext {k : Nat} {A : MF} {x y : VF} (h : x = y) : mv k A x = mv k A y := by rw [h]
theorem dt_ls {α : Type} (k : Nat) (l : List α) (c : α → Rat) (f : α → VF) (y : VF) : dt k (fun j => ls l fun r => c r * f r j) y = ls l fun r => c r * dt k (f r) y := by
  unfold dt
  rw [show (fun j => (ls l fun r => c r * f r j) * y j) = fun j => ls l fun r => c r * (f r j * y j) from funext fun j => by
    rw [← ls_mulr]
    exact ls_congr fun r _ => by grind]
  rw [ls_sm]
  exact ls_congr fun r _ => by rw [sm_mul]
/-- the movement -/
def yf (n : Nt S) : VF := mv n.pts.length (mf n.inverse) (vf n.right)
theorem RA_range {P : MF} (h : GI pts.length (MA pts rs) P) (hw : ∀ r ∈ rs, 0 < r.weight) : mv pts.length (MA pts rs) (mv pts.length P (RA pts x0 rs)) = RA pts x0 rs := by
  have e : mv pts.length P (RA pts x0 rs) = fun j => ls rs fun r => (r.weight * shf pts x0 r) * mv pts.length P (rwf pts r) j := funext fun j => mv_ls _ _ _ (fun r => r.weight * shf pts x0 r) (rwf pts) j
  rw [e]
  funext i
  rw [mv_ls _ _ _ (fun r => r.weight * shf pts x0 r) (fun r => mv pts.length P (rwf pts r))]
  exact ls_congr fun r hr => by rw [MA_range h hw (fun q j hj => rwf_out pts q j hj) hr]
theorem al_y (h : AlN pts x0 rs n) (i : Nat) : vf (applyM n.inverse n.right) i = mv pts.length (mf n.inverse) (RA pts x0 rs) i := by
  rw [vf_funext_apply h.s, h.t.r]
theorem al_ly (h : AlN pts x0 rs n) : (applyM n.inverse n.right).length = pts.length := by rw [len_apply, h.s.l]
theorem al_h (h : AlN pts x0 rs n) (i : Nat) : vf (ntHeights n) i = vf x0 i + mv pts.length (mf n.inverse) (RA pts x0 rs) i := by
  unfold ntHeights
  rw [vf_plus (by rw [h.t.x, h.t.xl, al_ly h]), al_y h, h.t.x]
theorem al_lh (h : AlN pts x0 rs n) : (ntHeights n).length = pts.length := by
  unfold ntHeights
  rw [len_plus, h.t.x, h.t.xl, al_ly h]
  omega
theorem al_moved (h : AlN pts x0 rs n) : ntMoved n = applyM n.inverse n.right := by
  have lm : (ntMoved n).length = pts.length := by
    unfold ntMoved
    rw [len_minus, al_lh h, h.t.x, h.t.xl]
    omega
  refine vf_ext (by rw [lm, al_ly h]) fun i => ?_
  unfold ntMoved
  rw [vf_minus (by rw [al_lh h, h.t.x, h.t.xl]), al_h h, al_y h, h.t.x]
  grind
theorem row_eq (h : AlN pts x0 rs n) (r : Rdg S) : ntRow n r = rowTo pts r.terms := by unfold ntRow; rw [h.t.p]
/-- a misfit -/
theorem al_mis (h : AlN pts x0 rs n) (r : Rdg S) : dotM (ntRow n r) (ntHeights n) - r.value = dt pts.length (rwf pts r) (mv pts.length (mf n.inverse) (RA pts x0 rs)) - shf pts x0 r := by
  rw [row_eq h, dotM_dt (n := pts.length) (by rw [len_rowTo]; exact Nat.le_refl _)]
  unfold shf
  rw [dotM_dt (n := pts.length) (by rw [len_rowTo]; exact Nat.le_refl _), show vf (ntHeights n) = fun i => vf x0 i + mv pts.length (mf n.inverse) (RA pts x0 rs) i from funext (al_h h), dt_addr]
  unfold rwf
  grind
theorem m_squares (ok : BkOk b) (h : OkM b n) : ntSquares n = sqAtM b (ntHeights n) := by
  have a := h.1
  have hw := bk_pos ok
  unfold ntSquares sqAtM
  rw [fold_ls (fun r : Rdg S => r.weight * (sumAtM b.names r.terms (ntHeights n) - r.value) * (sumAtM b.names r.terms (ntHeights n) - r.value)), a.t.t, dotM_dt (n := b.names.length) (Nat.le_of_eq a.t.rl),
    show vf (applyM n.inverse n.right) = mv b.names.length (mf n.inverse) (RA b.names b.xs b.rds) from funext (al_y a), a.t.r]
  have ry := RA_range (x0 := b.xs) a.g hw
  have ms := fun r => al_mis a r
  generalize mv b.names.length (mf n.inverse) (RA b.names b.xs b.rds) = y at *
  have e1 : dt b.names.length (RA b.names b.xs b.rds) y = ls b.rds fun r => r.weight * shf b.names b.xs r * dt b.names.length (rwf b.names r) y := dt_ls _ _ (fun r => r.weight * shf b.names b.xs r) (rwf b.names) y
  have e2 : dt b.names.length (RA b.names b.xs b.rds) y = ls b.rds fun r => r.weight * dt b.names.length (rwf b.names r) y * dt b.names.length (rwf b.names r) y := by
    rw [dt_comm]
    conv => lhs; rw [← ry]
    rw [dt_MA]
  have e3 : (ls b.rds fun r => r.weight * (sumAtM b.names r.terms (ntHeights n) - r.value) * (sumAtM b.names r.terms (ntHeights n) - r.value)) =
      ls b.rds fun r => (r.weight * dt b.names.length (rwf b.names r) y * dt b.names.length (rwf b.names r) y - (r.weight * shf b.names b.xs r * dt b.names.length (rwf b.names r) y + r.weight * shf b.names b.xs r * dt b.names.length (rwf b.names r) y)) + r.weight * shf b.names b.xs r * shf b.names b.xs r := ls_congr fun r hr => by
    have rk := ok.r r hr
    have := ms r
    rw [row_eq a, ← sumAt_dot rk.nd rk.mem] at this
    rw [this]
    grind
  rw [e3, ls_add, ls_sub, ls_add, ← e1, ← e2]
  unfold TA
  grind
/-- the numbers of a look -/
structure Look (pts : List S) (x0 : Vec) (rs : List (Rdg S)) (n : Nt S) (E Y H : Nat) : Prop where
  bE : Qb E 860
  bY : Qb Y 246563
  bH : Qb H 247423
  x : ∀ i, Cq E 900 (vf x0 i)
  v : ∀ r ∈ rs, Cq E 900 r.value
  y : ∀ i, Cq Y 492529 (vf (applyM n.inverse n.right) i)
  h : ∀ i, Cq H 493390 (vf (ntHeights n) i)
  m : ∀ r ∈ rs, Cq H 493399 (dotM (ntRow n r) (ntHeights n) - r.value)
theorem al_look (N : Nums pts x0 rs) (h : AlN pts x0 rs n) : ∃ E Y H, Look pts x0 rs n E Y H := by
  obtain ⟨E, e1, e2, e3⟩ := eden N
  obtain ⟨D, d1, d2⟩ := h.size N.pl N.ok (by have := N.l; omega)
  have pl := N.pl
  have cr : ∀ i, Cq (6 * E * 1) 925 (vf n.right i) := fun i => by
    rw [h.t.r]
    exact RA_cn (fun q hq => ⟨N.ok q hq, (e3 q hq).2⟩) (by have := N.l; omega) i
  have cy : ∀ i, Cq (D * (6 * E * 1)) 492529 (vf (applyM n.inverse n.right) i) := fun i => by
    rw [vf_funext_apply h.s]
    exact cq_mv (by omega) d2 cr i
  have bY : Qb (D * (6 * E * 1)) 246563 := d1.mul ((qb6.mul e1).mul qb1)
  have ch : ∀ i, Cq (E * (D * (6 * E * 1))) 493390 (vf (ntHeights n) i) := fun i => by
    unfold ntHeights
    rw [vf_plus (by rw [h.t.x, h.t.xl, al_ly h]), h.t.x]
    exact cq_add (k := 493389) (cq_mono (cq_up (e2 i) bY) (by decide)) (cq_up' (cy i) e1)
  refine ⟨E, _, _, e1, bY, e1.mul bY, e2, fun r hr => (e3 r hr).1, cy, ch, fun r hr => ?_⟩
  rw [row_eq h, dotM_dt (n := 16) (by rw [len_rowTo]; omega)]
  have := cq_dt (n := 16) (by decide) (rwf_cn (N.ok r hr)) ch
  rw [Nat.one_mul] at this
  exact cq_sub (k := 493398) this (cq_mono (cq_up (e3 r hr).1 bY) (by decide))
theorem rows_rect (h : OkM b n) (ok : BkOk b) : Rect (ntRows n) b.names.length := by
  refine ⟨by unfold ntRows; rw [List.length_map, h.2]; have := ok.rz; omega, fun r hr => ?_⟩
  obtain ⟨q, hq, rfl⟩ := List.mem_map.mp hr
  rw [row_eq h.1, len_rowTo]
theorem mf_rows (h : OkM b n) {c : Nat} {r : Rdg S} (hr : b.rds[c]? = some r) : mf (ntRows n) c = rwf b.names r := by
  obtain ⟨hi, rfl⟩ := List.getElem?_eq_some_iff.mp hr
  rw [← mf_row, row_in (by unfold ntRows; rw [List.length_map, h.2]; exact hi)]
  simp only [ntRows, List.getElem_map, h.2]
  rw [row_eq h.1]
  rfl
theorem mf_trans {m : Mat} {w : Nat} (h : Rect m w) (i c : Nat) : mf (transM m w) i c = mf m c i := by
  by_cases hi : i < w
  · rw [← mf_row, row_in (by simp [transM]; exact hi)]
    simp only [transM, List.getElem_map, List.getElem_range]
    by_cases hc : c < m.length
    · rw [vf_in (by simpa using hc)]
      rw [List.getElem_map]
      unfold mf
      rw [row_in hc]
    · rw [vf_out (by simp; omega), mf_out (by omega)]
  · rw [mf_out (by simp [transM]; omega)]
    by_cases hc : c < m.length
    · exact (vf_out (by rw [rect_getD h hc]; omega)).symm
    · exact (mf_out (by omega)).symm
theorem rows_cq (h : OkM b n) (ok : BkOk b) (c i : Nat) : Cq 1 4 (mf (ntRows n) c i) := by
  by_cases hc : c < b.rds.length
  · rw [mf_rows h (List.getElem?_eq_getElem hc)]
    exact rwf_cn (ok.r _ (List.getElem_mem _)) i
  · rw [mf_out (by unfold ntRows; rw [List.length_map, h.2]; omega)]
    exact Cq.zero
theorem m_nums (ok : BkOk b) : Nums b.names b.xs b.rds := bk_nums ok ok.r (by have := ok.rz; omega)
theorem tr_len {m : Mat} {w : Nat} : (transM m w).length = w := by simp [transM]
theorem tr_row {m : Mat} {w : Nat} : ∀ r ∈ transM m w, r.length = m.length := fun r hr => by
  obtain ⟨c, _, rfl⟩ := List.mem_map.mp hr
  simp
theorem m_look (ok : BkOk b) (h : OkM b n) : FLook n := by
  have N := m_nums ok
  have a := h.1
  obtain ⟨E, Y, H, k⟩ := al_look N a
  obtain ⟨D, d1, d2⟩ := a.size N.pl N.ok (by have := N.l; omega)
  obtain ⟨E', e1, e2, e3⟩ := eden N
  have pl := N.pl
  have hlen : n.pts.length = b.names.length := by rw [a.t.p]
  have cr : ∀ i, Cq (6 * E' * 1) 925 (vf n.right i) := fun i => by
    rw [a.t.r]
    exact RA_cn (fun q hq => ⟨N.ok q hq, (e3 q hq).2⟩) (by have := N.l; omega) i
  have br : Qb (6 * E' * 1) 863 := (qb6.mul e1).mul qb1
  have R := rows_rect h ok
  have lr : (ntRows n).length = b.rds.length := by unfold ntRows; rw [List.length_map, h.2]
  refine ⟨fapply_of d2 cr a.s (by omega) d1 br (by decide) (by decide), fall_of fun i => fit_of (k.y i) k.bY (by decide) (by decide), ?_, fall_of fun i => fit_of (k.h i) k.bH (by decide) (by decide), fun r hr => ?_,
    fdot_of cr k.y (by rw [a.t.rl]; omega) br k.bY (by decide) (by decide), ?_, ?_, ?_, ?_⟩
  · rw [a.t.x]
    exact fall_of fun i => fit_of (k.x i) k.bE (by decide) (by decide)
  · rw [h.2] at hr
    rw [row_eq a]
    refine ⟨fdot_of (rwf_cn (ok.r r hr)) k.h (by rw [len_rowTo]; omega) qb1 k.bH (by decide) (by decide), ?_, fit_of (k.v r hr) k.bE (by decide) (by decide)⟩
    rw [dotM_dt (n := 16) (by rw [len_rowTo]; omega)]
    exact fit_of (cq_dt (by decide) (rwf_cn (ok.r r hr)) k.h) (qb1.mul k.bH) (by decide) (by decide)
  · rw [dotM_dt (n := 16) (by rw [a.t.rl]; omega)]
    exact fit_of (cq_dt (by decide) cr k.y) (br.mul k.bY) (by decide) (by decide)
  · rw [a.t.t]
    exact fit_of (TA_cn (fun q hq => ⟨N.ok q hq, (e3 q hq).2⟩) (by have := N.l; omega)) ((qb6.mul e1).mul e1) (by decide) (by decide)
  · rw [hlen]
    exact fred_of (L := b.names.length) (E := 1) (t0 := 0) (e := 0) R (by omega) (fun i c _ => rows_cq h ok i c) (fun i => by
      have : mf (ntRows n) i b.names.length = 0 := by
        by_cases hi : i < (ntRows n).length
        · exact vf_out (by rw [rect_getD R hi]; exact Nat.le_refl _)
        · exact mf_out (by omega)
      rw [this]
      exact Cq.zero) qb1 (.inr pl) (by decide)
  · rw [hlen, al_moved a]
    have J := mf_join (m := transM (ntRows n) b.names.length) (v := applyM n.inverse n.right) (w := b.rds.length) (fun r hr => by rw [tr_row r hr, lr]) (by rw [tr_len, al_ly a])
    have RJ := rect_joinV (m := transM (ntRows n) b.names.length) (v := applyM n.inverse n.right) (w := b.rds.length) (fun r hr => by rw [tr_row r hr, lr]) (by rw [tr_len]; omega)
    rw [h.2]
    refine fred_of (L := b.rds.length) (E := Y) (t0 := 492529) (e := 246563) RJ (by omega) (fun i c hc => ?_) (fun i => ?_) k.bY (.inl (by rw [len_join, tr_len]; omega)) (by decide)
    · rw [J, if_neg hc, mf_trans R]
      exact rows_cq h ok c i
    · rw [J, if_pos rfl]
      exact k.y i
end
end Pn
/-! plain: the paper of a net has no fault; the instance -/
namespace Pn
section
variable {S : Type} [DecidableEq S] {n : Nt S} {b : Bk S}
def at0 {α : Type} (l : List α) (f : α → Rat) (c : Nat) : Rat := match l[c]? with
  | none => 0
  | some x => f x
theorem ls_at {α : Type} (l : List α) (f : α → Rat) : ls l f = sm l.length (at0 l f) := by
  induction l with
  | nil => rfl
  | cons x l ih =>
    rw [List.length_cons, sm_head, ls, ih]
    rfl
theorem ls_zip {α β : Type} (l : List α) (k : List β) (hk : k.length = l.length) (f : α × β → Rat) (g : Nat → Rat) (h : ∀ c x y, l[c]? = some x → k[c]? = some y → f (x, y) = g c) : ls (l.zip k) f = sm l.length g := by
  rw [ls_at, List.length_zip, hk, Nat.min_self]
  exact sm_congr fun c hc => by
    unfold at0
    have h1 : l[c]? = some l[c] := List.getElem?_eq_getElem hc
    have h2 : k[c]? = some (k[c]'(by omega)) := List.getElem?_eq_getElem (by omega)
    have : (l.zip k)[c]? = some (l[c], k[c]'(by omega)) := by
      rw [List.getElem?_zip_eq_some]
      exact ⟨h1, h2⟩
    rw [this]
    exact h c _ _ h1 h2
/-- the mirrors' judged lists -/
theorem mis_at (h : OkM b n) {i : Nat} {r : Rdg S} (hr : b.rds[i]? = some r) : (ntMisfits n)[i]? = some (dotM (ntRow n r) (ntHeights n) - r.value) := by
  unfold ntMisfits
  rw [List.getElem?_map, h.2, hr]
  rfl
theorem len_mis (h : OkM b n) : (ntMisfits n).length = b.rds.length := by
  unfold ntMisfits
  rw [List.length_map, h.2]
theorem len_zw {α β γ : Type} (f : α → β → γ) (l : List α) (k : List β) (h : k.length = l.length) : (List.zipWith f l k).length = l.length := by
  rw [List.length_zipWith]
  omega
theorem bits12 {q : Nat} (h : q ≤ 12) : 5 * 2 ^ q ≤ 20480 := by
  have : 2 ^ q ≤ 2 ^ 12 := Nat.pow_le_pow_right (by decide) h
  have e : (2 : Nat) ^ 12 = 4096 := by decide
  omega
theorem fws_of {F d t : Nat} {xs : Vec} {nm : S} (ok : BkOk b) (hn : nm ∈ b.names) (hx : ∀ x ∈ xs, Cq F t x) (bF : Qb F d) (h1 : d < 30000000) (h2 : t < 30000000) : FWs b.rds nm xs := by
  refine ⟨fun x h => fit_of (hx x h) bF (by omega) (by omega), fun i r x hr hxx q hq => ?_, fun i r x hr hxx j hj => ?_⟩
  · have rk := ok.r r (List.mem_of_getElem? hr)
    have cc := rk.c q hq
    have c1 : Cq 1 4 (q.2 : Rat) := ⟨Cn.int (by omega)⟩
    exact ⟨fit_of c1 qb1 (by decide) (by decide), fit_of (cq_mul c1 (hx x (List.mem_of_getElem? hxx))) (qb1.mul bF) (by omega) (by omega)⟩
  · have rk := ok.r r (List.mem_of_getElem? hr)
    have nd' : ((r.terms.take j).map (·.1)).Nodup := by
      rw [List.map_take]
      exact rk.nd.sublist (List.take_sublist _ _)
    rw [fold_row hn x nd' fun q hq => rk.mem q (List.mem_of_mem_take hq), wsum_ls hn _ _ fun q hq => ok.r q (List.mem_of_mem_take hq)]
    have cx := hx x (List.mem_of_getElem? hxx)
    have c1 : Cq (1 * F) (4 + t + 5) (ls ((b.rds.take i).zip (xs.take i)) fun rx => rwf b.names rx.1 (b.names.idxOf nm) * rx.2) := cq_ls (by
        rw [List.length_zip, List.length_take]
        have := ok.rz
        omega) fun rx hrx => cq_mul (rwf_cn (ok.r _ (List.mem_of_mem_take (List.of_mem_zip hrx).1)) _) (hx _ (List.mem_of_mem_take (List.of_mem_zip hrx).2))
    have c2 : Cq (1 * F) (4 + t) (vf (rowTo b.names (r.terms.take j)) (b.names.idxOf nm) * x) := cq_mul ⟨(row_val (fun q hq => rk.mem q (List.mem_of_mem_take hq)) (fun q hq => rk.c q (List.mem_of_mem_take hq)) _).mono (by decide)⟩ cx
    exact fit_of (cq_add c1 (cq_mono c2 (by omega))) (qb1.mul bF) (by omega) (by omega)
theorem m_paper (ok : BkOk b) (h : OkM b n) : ∃ f, ntFactors n = some f ∧ JOk b (ntHeights n) (ntMisfits n) f ∧ FJudge b (ntHeights n) (ntMisfits n) f := by
  have N := m_nums ok
  have a := h.1
  have hw := bk_pos ok
  obtain ⟨E, Y, H, k⟩ := al_look N a
  have pl := N.pl
  have hlen : n.pts.length = b.names.length := by rw [a.t.p]
  have R := rows_rect h ok
  have lr : (ntRows n).length = b.rds.length := by unfold ntRows; rw [List.length_map, h.2]
  have tr : ∀ r ∈ transM (ntRows n) b.names.length, r.length = b.rds.length := fun r hr => by rw [tr_row r hr, lr]
  have J := mf_join (m := transM (ntRows n) b.names.length) (v := applyM n.inverse n.right) (w := b.rds.length) tr (by rw [tr_len, al_ly a])
  have RJ := rect_joinV (m := transM (ntRows n) b.names.length) (v := applyM n.inverse n.right) (w := b.rds.length) tr (by rw [tr_len]; omega)
  have J0 : ∀ i c, c ≠ b.rds.length → mf (joinM (transM (ntRows n) b.names.length) (applyM n.inverse n.right)) i c = mf (ntRows n) c i := fun i c hc => by rw [J, if_neg hc, mf_trans R]
  have J1 : ∀ i, mf (joinM (transM (ntRows n) b.names.length) (applyM n.inverse n.right)) i b.rds.length = vf (applyM n.inverse n.right) i := fun i => by rw [J, if_pos rfl]
  have yy := fun i => al_y a i
  have ry := RA_range (x0 := b.xs) a.g hw
  have hz : ∃ z : VF, mv b.names.length (MA b.names b.rds) z = mv b.names.length (mf n.inverse) (RA b.names b.xs b.rds) := ⟨mv b.names.length (mf n.inverse) (mv b.names.length (mf n.inverse) (RA b.names b.xs b.rds)), by rw [a.g.cmv, a.g.pmv]⟩
  obtain ⟨z, ez⟩ := hz
  have hs : sol (joinM (transM (ntRows n) b.names.length) (applyM n.inverse n.right)) b.rds.length (at0 b.rds fun r => r.weight * dt b.names.length (rwf b.names r) z) := by
    intro i _
    rw [J1, yy, ← ez, mv_MA, ls_at]
    unfold dt
    exact sm_congr fun c hc => by
      have hr : b.rds[c]? = some b.rds[c] := List.getElem?_eq_getElem hc
      rw [J0 i c (by omega), mf_rows h hr]
      unfold at0
      rw [hr]
      dsimp only
      grind
  obtain ⟨f, f1, f2, f3, f4⟩ := solve_ok tr (by rw [tr_len, al_ly a]) (by rw [tr_len]; omega) hs
  -- the factors' size
  obtain ⟨D, d1, d2, d3⟩ := red_cq (L := b.rds.length) (E := Y) (t0 := 492529) RJ (fun i c hc => by rw [J0 i c hc]; exact rows_cq h ok c i) (fun i => by rw [J1]; exact k.y i) b.rds.length (Nat.le_refl _)
  have hst : (redTo (joinM (transM (ntRows n) b.names.length) (applyM n.inverse n.right)) b.rds.length).2.length ≤ 12 := by
    have := (redTo_ok RJ b.rds.length).2.2.1
    rw [len_join, tr_len] at this
    omega
  have hq := bits12 hst
  have cf : ∀ c, Cq (D * Y) 513009 (vf f c) := fun c => by
    rcases f4 c with e | ⟨i, e⟩
    · rw [e]; exact Cq.zero
    · rw [e]; exact cq_mono (d3 i) (by omega)
  have bf : Qb (D * Y) 267043 := (d1.mul k.bY).mono (by omega)
  have cf' : ∀ x ∈ f, Cq (D * Y) 513009 x := fun x hx => by
    obtain ⟨i, _, e⟩ := vf_mem hx
    rw [← e]
    exact cf i
  have cm : ∀ x ∈ ntMisfits n, Cq H 493399 x := fun x hx => by
    obtain ⟨r, hr, rfl⟩ := List.mem_map.mp hx
    rw [h.2] at hr
    exact k.m r hr
  have csum : ∀ r ∈ b.rds, Cq H 493399 (sumAtM b.names r.terms (ntHeights n) - r.value) := fun r hr => by
    have := k.m r hr
    rw [row_eq a, ← sumAt_dot (ok.r r hr).nd (ok.r r hr).mem] at this
    exact this
  refine ⟨f, ?_, ⟨?_, len_mis h, f2, fun i r x hr hx => ?_, fun nm hn => ?_, fun i p x hp hx => ?_⟩, ⟨⟨fun r hr => ?_, fun i hi => ?_⟩, fun i r x hr hx => ?_, fun nm hn => ?_, fun nm hn => ?_, ?_, fun p hp => ?_⟩⟩
  · unfold ntFactors spanM
    rw [hlen, al_moved a, lr]
    exact f1
  · rw [al_lh a]
    simp [Bk.names]
  · rw [mis_at h hr] at hx
    injection hx with hx
    have rk := ok.r r (List.mem_of_getElem? hr)
    rw [← hx, row_eq a, sumAt_dot rk.nd rk.mem]
  · rw [wsum_ls hn _ _ ok.r, ls_zip b.rds _ (len_zw _ _ _ (len_mis h)) _ (at0 b.rds fun r => r.weight * (dotM (ntRow n r) (ntHeights n) - r.value) * rwf b.names r (b.names.idxOf nm)) fun c r x hr hx => ?_]
    · rw [← ls_at]
      have e : (ls b.rds fun r => r.weight * (dotM (ntRow n r) (ntHeights n) - r.value) * rwf b.names r (b.names.idxOf nm)) =
          mv b.names.length (MA b.names b.rds) (mv b.names.length (mf n.inverse) (RA b.names b.xs b.rds)) (b.names.idxOf nm) - RA b.names b.xs b.rds (b.names.idxOf nm) := by
        rw [mv_MA]
        unfold RA
        rw [← ls_sub]
        exact ls_congr fun r hr => by
          rw [al_mis a]
          unfold RA
          grind
      rw [e, ry]
      grind
    · rw [List.getElem?_zipWith, hr, mis_at h hr] at hx
      injection hx with hx
      unfold at0
      rw [hr, ← hx]
      grind
  · have hi : i < b.pts.length := (List.getElem?_eq_some_iff.mp hp).1
    have hn : p.1 ∈ b.names := List.mem_map_of_mem (List.mem_of_getElem? hp)
    have hnm : b.names[i]? = some p.1 := by unfold Bk.names; rw [List.getElem?_map, hp]; rfl
    have hix : b.names.idxOf p.1 = i := by
      obtain ⟨g1, g2⟩ := List.getElem?_eq_some_iff.mp hnm
      rw [← g2]
      exact List.Nodup.idxOf_getElem ok.nd i g1
    rw [wsum_ls hn _ _ ok.r, hix, ls_zip b.rds f f2 _ (fun c => mf (joinM (transM (ntRows n) b.names.length) (applyM n.inverse n.right)) i c * vf f c) fun c r y hr hy => ?_]
    · have := f3 i (by rw [len_join, tr_len, al_ly a]; simp [Bk.names]; exact hi)
      rw [J1] at this
      have e2 : (sm b.rds.length fun c => mf (joinM (transM (ntRows n) b.names.length) (applyM n.inverse n.right)) i c * vf f c) = vf (applyM n.inverse n.right) i := this
      rw [e2, yy]
      have hx0 : vf b.xs i = p.2 := vf_some (by unfold Bk.xs; rw [List.getElem?_map, hp]; rfl)
      have hh := al_h a i
      rw [vf_some hx, hx0] at hh
      rw [hh]
      grind
    · show rwf b.names r i * y = _
      rw [J0 i c (by have := (List.getElem?_eq_some_iff.mp hr).1; omega), mf_rows h hr, vf_some hy]
  · have rk := ok.r r hr
    have c1 := csum r hr
    have cw := rwt_cn rk
    refine ⟨⟨fun t ht => ?_, fun i hi => ?_⟩, fit_of (k.v r hr) k.bE (by decide) (by decide), fit_of cw qb6 (by decide) (by decide), fit_of c1 k.bH (by decide) (by decide), fit_of (cq_mul cw c1) (qb6.mul k.bH) (by decide) (by decide),
      fit_of (cq_mul (cq_mul cw c1) c1) ((qb6.mul k.bH).mul k.bH) (by decide) (by decide)⟩
    · have cc := rk.c t ht
      have ct : Cq 1 4 (t.2 : Rat) := ⟨Cn.int (by omega)⟩
      exact ⟨fit_of ct qb1 (by decide) (by decide), fit_of (k.h (b.names.idxOf t.1)) k.bH (by decide) (by decide), fit_of (cq_mul ct (k.h (b.names.idxOf t.1))) (qb1.mul k.bH) (by decide) (by decide)⟩
    · have nd' : ((r.terms.take i).map (·.1)).Nodup := by
        rw [List.map_take]
        exact rk.nd.sublist (List.take_sublist _ _)
      rw [sumAt_dot nd' fun q hq => rk.mem q (List.mem_of_mem_take hq), dotM_dt (n := 16) (by rw [len_rowTo]; omega)]
      exact fit_of (cq_dt (by decide) (fun j => (show Cq 1 4 _ from ⟨(row_val (fun q hq => rk.mem q (List.mem_of_mem_take hq)) (fun q hq => rk.c q (List.mem_of_mem_take hq)) j).mono (by decide)⟩)) k.h) (qb1.mul k.bH) (by decide) (by decide)
  · show Fit ((b.rds.take i).foldl (fun acc (r : Rdg S) => acc + r.weight * (sumAtM b.names r.terms (ntHeights n) - r.value) * (sumAtM b.names r.terms (ntHeights n) - r.value)) 0)
    rw [fold_ls (fun r : Rdg S => r.weight * (sumAtM b.names r.terms (ntHeights n) - r.value) * (sumAtM b.names r.terms (ntHeights n) - r.value)), Rat.zero_add]
    exact fit_of (cq_ls (D := 6 * H * H) (k := 6 + 493399 + 493399) (by rw [List.length_take]; have := ok.rz; omega) fun r hr => cq_mul (cq_mul (rwt_cn (ok.r r (List.mem_of_mem_take hr))) (csum r (List.mem_of_mem_take hr))) (csum r (List.mem_of_mem_take hr)))
      ((qb6.mul k.bH).mul k.bH) (by decide) (by decide)
  · exact ⟨fit_of (rwt_cn (ok.r r (List.mem_of_getElem? hr))) qb6 (by decide) (by decide), fit_of (cm x (List.mem_of_getElem? hx)) k.bH (by decide) (by decide)⟩
  · refine fws_of (F := 6 * H) (t := 493405) ok hn (fun x hx => ?_) (qb6.mul k.bH) (by decide) (by decide)
    obtain ⟨i, hi, rfl⟩ := List.getElem_of_mem hx
    rw [List.getElem_zipWith]
    exact cq_mul (rwt_cn (ok.r _ (List.getElem_mem _))) (cm _ (List.getElem_mem _))
  · exact fws_of ok hn cf' bf (by decide) (by decide)
  · exact fall_of fun i => fit_of (k.h i) k.bH (by decide) (by decide)
  · have := ok.v p hp
    exact ⟨Nat.lt_of_lt_of_le this.n (Nat.pow_le_pow_right (by decide) (by unfold LIM; decide)), Nat.lt_of_lt_of_le this.d (Nat.pow_le_pow_right (by decide) (by unfold LIM; decide))⟩
/-- what the mathematics gives -/
def theMth (S : Type) [DecidableEq S] : Mth S where
  Ok := OkM
  pts := fun h => h.1.t.p
  rds := fun h => h.2
  one := fun h k => h.1.one k.1 (h.2.trans k.2.symm)
  empty := ⟨al_empty, rfl⟩
  netOf := fun ok => m_netOf ok
  point := fun ok h _ _ _ => m_point ok h
  add := fun ok h hr _ _ => m_add ok h hr
  value := fun ok h hr hq => m_value ok h hr hq
  weight := fun ok h hr hq => m_weight ok h hr hq
  withdraw := fun ok h hr => m_withdraw ok h hr
  nsz := fun ok h => m_nsz ok h
  look := fun ok h => m_look ok h
  paper := fun ok h => m_paper ok h
  squares := fun ok h => m_squares ok h
end
end Pn
set_option maxHeartbeats 0
namespace Pn
open PySem PySem.Spec PyProof.Rows L2
theorem seer_q : importsNone qv = true := by kernel_rfl
theorem name_q : (HandSHeadRun.topDef R.prog 78).name = ("law" : Str) := by kernel_rfl
theorem room_q : Room 55 callerA := ⟨rfl, by decide, by decide⟩
theorem walk_q : PySem.W.WalkO qv names (PySem.W.XL qv []) hookP.says R.toRowW (HandSHeadRun.topDef R.prog 78) [] (fun f vs => PySem.call f vs) := by
  refine Att.attach_call (l := PySem.Challenge.rw_plumbnet_k70_whole_a_kept_net_is_a_new_o) (n := 63) rfl (by kernel_rfl) fun w s₀ s₁ mg mb fa o pm cd doc a vs ns G Y ho hd hcd hmg hobj hints hlen hg => ?_
  obtain ⟨K, KX, c⟩ := Y
  have T : Txt K mg := ⟨c, _, KX, G.T.g⟩
  rw [name_q] at hmg
  have e := hmg.symm.trans T.g_law
  cases e
  exact end_call (K := K) (mg := mg) (k := 55) (x := "_law_script") (sp := spLaw K) KX G.T.g G.T.b G.T.builtins G.T.nolimit (G.T.seer seer_q) hg hobj hints (Nat.le_trans hlen (by decide)) room_q
    (fun base Kb gb hN => (d_law_ok (w := w) (base := base) T hN (theMth Str)).ok) fun H hO hS => ⟨a, ns, rfl, hS, hlen, fun _ => rfl⟩
end Pn
open PySem PySem.W PySem.Calls PyProof.Rows
set_option maxRecDepth 100000 in
set_option maxHeartbeats 0 in
theorem PySem.Challenge.cw_plumbnet_k70_whole_a_kept_net_is_a_new_o_holds : PySem.Challenge.rw_plumbnet_k70_whole_a_kept_net_is_a_new_o.Holds := by
  w_on; o_law
  refine HandSHeadRun.head_imp (r := Pn.R) (q := Pn.qv) (H := Pn.hookP) (ob := Pn.ob) (M := 8000) (loose := Pn.names) (d := HandSHeadRun.topDef Pn.R.prog 78) (kwd := []) Pn.ob_eq Pn.run
    (by kernel_rfl) (by kernel_rfl) (by kernel_rfl) (by rfl) (by first | assumption | decide +kernel) (by decide +kernel) ⟨rfl, rfl, rfl, rfl, rfl, by decide +kernel⟩ ?hw ?hc
  case hw => w_witness2
  case hc => exact Pn.walk_q
