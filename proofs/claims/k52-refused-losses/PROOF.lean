import PyProof.Rows.All
import Wide.All
import OpenK.AllK
import Wide.FinOn
import KE.KStateDown
import KE.SortData
import KE.KDictKeyed
import KE.KxText
import KE.SortKeyHeap
import HandS.ForMost
import HandS.ForExc
import HandS.Codes
import HandS.IsInst
import HandS.Style
import HandS.SetKeys
import HandS.Strs
import HandS.Zip
import HandS.Walk
import HandS.SortInts
import HandS.SortKw
import HandS.ExcInit
import HandS.ExcIs
import HandS.HotCalls
import HandS.ExcField
import HandS.SetFor
import HandS.TupAny
import KE.DataFind
import KE.KExcIs
import HandS.Defaults
import HandS.Head0
import HandS.Head1
import HandS.Head2
import HandS.HeadEnd
import HandS.HeadHook1
import HandS.HeadHook2
import PySem.Challenge.RW_coverroll_k52_refused_losses
set_option Elab.async false
set_option linter.all false
set_option maxRecDepth 100000
set_option maxHeartbeats 4000000
namespace Cv
open PySem PySem.Spec PyProof.Rows L2
/-! ### the text, by its places -/
def top (i : Nat) : Stmt := PySem.Challenge.pw_coverroll_k52_refused_losses.main.body.getD i (.Pass ⟨0, 0, 0, 0⟩)
abbrev s_Counts_init : Stmt := inClass (top 2) 0
abbrev N_Counts_init : List Str := ["self"]
abbrev P_Counts_init : List Str := ["self"]
abbrev s_Counts_have : Stmt := inClass (top 2) 1
abbrev N_Counts_have : List Str := ["self", "name", "k", "key"]
abbrev P_Counts_have : List Str := ["self", "name", "k", "key"]
abbrev s_Counts_add : Stmt := inClass (top 2) 2
abbrev N_Counts_add : List Str := ["self", "name", "k", "key", "cents", "inner"]
abbrev P_Counts_add : List Str := ["self", "name", "k", "key", "cents"]
abbrev s_turn_of : Stmt := top 4
abbrev N_turn_of : List Str := ["one"]
abbrev P_turn_of : List Str := ["one"]
abbrev s_Days_init : Stmt := inClass (top 5) 0
abbrev N_Days_init : List Str := ["self"]
abbrev P_Days_init : List Str := ["self"]
abbrev s_Days_put : Stmt := inClass (top 5) 1
abbrev N_Days_put : List Str := ["self", "day", "rank", "number", "row"]
abbrev P_Days_put : List Str := ["self", "day", "rank", "number", "row"]
abbrev s_Days_has_number : Stmt := inClass (top 5) 2
abbrev N_Days_has_number : List Str := ["self", "number"]
abbrev P_Days_has_number : List Str := ["self", "number"]
abbrev s_Days_up_to : Stmt := inClass (top 5) 3
abbrev N_Days_up_to : List Str := ["self", "day", "taken", "left", "one"]
abbrev P_Days_up_to : List Str := ["self", "day"]
abbrev s_Twice_init : Stmt := inClass (top 13) 0
abbrev N_Twice_init : List Str := ["self", "number"]
abbrev P_Twice_init : List Str := ["self", "number"]
abbrev s_Late_init : Stmt := inClass (top 14) 0
abbrev N_Late_init : List Str := ["self", "day"]
abbrev P_Late_init : List Str := ["self", "day"]
abbrev s_is_whole : Stmt := top 17
abbrev N_is_whole : List Str := ["thing"]
abbrev P_is_whole : List Str := ["thing"]
abbrev s_is_name : Stmt := top 25
abbrev N_is_name : List Str := ["thing", "sign"]
abbrev P_is_name : List Str := ["thing"]
abbrev s_is_event : Stmt := top 26
abbrev N_is_event : List Str := ["thing", "names", "name"]
abbrev P_is_event : List Str := ["thing"]
abbrev s_is_day : Stmt := top 27
abbrev N_is_day : List Str := ["thing"]
abbrev P_is_day : List Str := ["thing"]
abbrev s_is_amount : Stmt := top 28
abbrev N_is_amount : List Str := ["thing"]
abbrev P_is_amount : List Str := ["thing"]
abbrev s_year_of : Stmt := top 29
abbrev N_year_of : List Str := ["day"]
abbrev P_year_of : List Str := ["day"]
abbrev s_loss_of : Stmt := top 30
abbrev N_loss_of : List Str := ["number", "day", "event", "thing", "cause", "cents"]
abbrev P_loss_of : List Str := ["number", "day", "event", "thing", "cause", "cents"]
abbrev s_need_amount : Stmt := top 33
abbrev N_need_amount : List Str := ["thing"]
abbrev P_need_amount : List Str := ["thing"]
abbrev s_Clause_init : Stmt := inClass (top 34) 0
abbrev N_Clause_init : List Str := ["self", "by"]
abbrev P_Clause_init : List Str := ["self", "by"]
abbrev s_Clause_key : Stmt := inClass (top 34) 1
abbrev N_Clause_key : List Str := ["self", "loss"]
abbrev P_Clause_key : List Str := ["self", "loss"]
abbrev s_Clause_span : Stmt := inClass (top 34) 2
abbrev N_Clause_span : List Str := ["self", "count", "cents"]
abbrev P_Clause_span : List Str := ["self", "count", "cents"]
abbrev s_Clause_room : Stmt := inClass (top 34) 3
abbrev N_Clause_room : List Str := ["self", "paid"]
abbrev P_Clause_room : List Str := ["self", "paid"]
abbrev s_Own_init : Stmt := inClass (top 35) 0
abbrev N_Own_init : List Str := ["self", "by", "cents"]
abbrev P_Own_init : List Str := ["self", "by", "cents"]
abbrev s_Own_span : Stmt := inClass (top 35) 1
abbrev N_Own_span : List Str := ["self", "count", "cents"]
abbrev P_Own_span : List Str := ["self", "count", "cents"]
abbrev s_Layer_init : Stmt := inClass (top 36) 0
abbrev N_Layer_init : List Str := ["self", "by", "first", "upto"]
abbrev P_Layer_init : List Str := ["self", "by", "first", "upto"]
abbrev s_Layer_span : Stmt := inClass (top 36) 1
abbrev N_Layer_span : List Str := ["self", "count", "cents", "low"]
abbrev P_Layer_span : List Str := ["self", "count", "cents"]
abbrev s_Limit_init : Stmt := inClass (top 37) 0
abbrev N_Limit_init : List Str := ["self", "by", "most"]
abbrev P_Limit_init : List Str := ["self", "by", "most"]
abbrev s_Limit_room : Stmt := inClass (top 37) 1
abbrev N_Limit_room : List Str := ["self", "paid"]
abbrev P_Limit_room : List Str := ["self", "paid"]
abbrev s_cut_within : Stmt := top 39
abbrev N_cut_within : List Str := ["runs", "lo", "hi", "found", "first", "upto", "low", "high"]
abbrev P_cut_within : List Str := ["runs", "lo", "hi"]
abbrev s_lowest_of : Stmt := top 40
abbrev N_lowest_of : List Str := ["runs", "n", "found", "left", "lo", "hi", "high"]
abbrev P_lowest_of : List Str := ["runs", "n"]
abbrev s_cut_out : Stmt := top 41
abbrev N_cut_out : List Str := ["runs", "others", "found", "lo", "hi", "at", "first", "upto"]
abbrev P_cut_out : List Str := ["runs", "others"]
abbrev s_numbers_of : Stmt := top 44
abbrev N_numbers_of : List Str := ["cover", "counts", "loss", "k", "clause"]
abbrev P_numbers_of : List Str := ["cover", "counts", "loss"]
abbrev s_paid_by : Stmt := top 45
abbrev N_paid_by : List Str := ["cover", "had", "cents", "free", "low", "high", "near", "rest"]
abbrev P_paid_by : List Str := ["cover", "had", "cents", "free"]
abbrev s_unpaid_by : Stmt := top 46
abbrev N_unpaid_by : List Str := ["cover", "had", "cents", "free", "strips", "lo", "hi", "k", "rest", "first", "upto"]
abbrev P_unpaid_by : List Str := ["cover", "had", "cents", "free"]
abbrev s_strips_of : Stmt := top 47
abbrev N_strips_of : List Str := ["book", "counts", "loss", "cents", "free", "strips", "first", "cover", "took", "lo", "hi"]
abbrev P_strips_of : List Str := ["book", "counts", "loss"]
abbrev s_paid_in : Stmt := top 48
abbrev N_paid_in : List Str := ["strips", "name", "lo", "hi", "who", "k"]
abbrev P_paid_in : List Str := ["strips", "name"]
abbrev s_settle : Stmt := top 49
abbrev N_settle : List Str := ["book", "counts", "loss", "strips", "cover", "paid", "k", "clause", "cents"]
abbrev P_settle : List Str := ["book", "counts", "loss"]
abbrev s_Roll_init : Stmt := inClass (top 51) 0
abbrev N_Roll_init : List Str := ["self", "book"]
abbrev P_Roll_init : List Str := ["self", "book"]
abbrev s_Roll_is_late : Stmt := inClass (top 51) 1
abbrev N_Roll_is_late : List Str := ["self", "day"]
abbrev P_Roll_is_late : List Str := ["self", "day"]
abbrev s_Roll_enter : Stmt := inClass (top 51) 2
abbrev N_Roll_enter : List Str := ["self", "number", "day", "event", "thing", "cause", "cents", "loss"]
abbrev P_Roll_enter : List Str := ["self", "number", "day", "event", "thing", "cause", "cents"]
abbrev s_Roll_close : Stmt := inClass (top 51) 3
abbrev N_Roll_close : List Str := ["self", "day", "numbers", "one", "loss"]
abbrev P_Roll_close : List Str := ["self", "day"]
abbrev s_Roll_told : Stmt := inClass (top 51) 4
abbrev N_Roll_told : List Str := ["self", "number"]
abbrev P_Roll_told : List Str := ["self", "number"]
abbrev s_Roll_settled : Stmt := inClass (top 51) 5
abbrev N_Roll_settled : List Str := ["self"]
abbrev P_Roll_settled : List Str := ["self"]
abbrev s_Book_init : Stmt := inClass (top 54) 0
abbrev N_Book_init : List Str := ["self", "covers", "cover", "firm"]
abbrev P_Book_init : List Str := ["self", "covers"]
abbrev s_Condition_holds : Stmt := inClass (top 56) 0
abbrev N_Condition_holds : List Str := ["self", "loss"]
abbrev P_Condition_holds : List Str := ["self", "loss"]
abbrev s_CauseIs_init : Stmt := inClass (top 57) 0
abbrev N_CauseIs_init : List Str := ["self", "name"]
abbrev P_CauseIs_init : List Str := ["self", "name"]
abbrev s_CauseIs_holds : Stmt := inClass (top 57) 1
abbrev N_CauseIs_holds : List Str := ["self", "loss"]
abbrev P_CauseIs_holds : List Str := ["self", "loss"]
abbrev s_ThingIs_init : Stmt := inClass (top 58) 0
abbrev N_ThingIs_init : List Str := ["self", "name"]
abbrev P_ThingIs_init : List Str := ["self", "name"]
abbrev s_ThingIs_holds : Stmt := inClass (top 58) 1
abbrev N_ThingIs_holds : List Str := ["self", "loss"]
abbrev P_ThingIs_holds : List Str := ["self", "loss"]
abbrev s_DaysIn_init : Stmt := inClass (top 59) 0
abbrev N_DaysIn_init : List Str := ["self", "first", "last"]
abbrev P_DaysIn_init : List Str := ["self", "first", "last"]
abbrev s_DaysIn_holds : Stmt := inClass (top 59) 1
abbrev N_DaysIn_holds : List Str := ["self", "loss"]
abbrev P_DaysIn_holds : List Str := ["self", "loss"]
abbrev s_Over_init : Stmt := inClass (top 60) 0
abbrev N_Over_init : List Str := ["self", "cents"]
abbrev P_Over_init : List Str := ["self", "cents"]
abbrev s_Over_holds : Stmt := inClass (top 60) 1
abbrev N_Over_holds : List Str := ["self", "loss"]
abbrev P_Over_holds : List Str := ["self", "loss"]
abbrev s_Not_init : Stmt := inClass (top 63) 0
abbrev N_Not_init : List Str := ["self", "part"]
abbrev P_Not_init : List Str := ["self", "part"]
abbrev s_Not_holds : Stmt := inClass (top 63) 1
abbrev N_Not_holds : List Str := ["self", "loss"]
abbrev P_Not_holds : List Str := ["self", "loss"]
abbrev s_All_init : Stmt := inClass (top 64) 0
abbrev N_All_init : List Str := ["self", "several"]
abbrev P_All_init : List Str := ["self", "several"]
abbrev s_All_holds : Stmt := inClass (top 64) 1
abbrev N_All_holds : List Str := ["self", "loss", "part"]
abbrev P_All_holds : List Str := ["self", "loss"]
abbrev s_Some_init : Stmt := inClass (top 65) 0
abbrev N_Some_init : List Str := ["self", "several"]
abbrev P_Some_init : List Str := ["self", "several"]
abbrev s_Some_holds : Stmt := inClass (top 65) 1
abbrev N_Some_holds : List Str := ["self", "loss", "part"]
abbrev P_Some_holds : List Str := ["self", "loss"]
abbrev s_total_of : Stmt := top 69
abbrev N_total_of : List Str := ["weights", "weight", "total"]
abbrev P_total_of : List Str := ["weights"]
abbrev s_due_by : Stmt := top 70
abbrev N_due_by : List Str := ["given", "weight", "total"]
abbrev P_due_by : List Str := ["given", "weight", "total"]
abbrev s_next_place : Stmt := top 71
abbrev N_next_place : List Str := ["weights", "given", "total", "n", "best", "soonest", "place", "due"]
abbrev P_next_place : List Str := ["weights", "given", "total", "n"]
abbrev s_turns : Stmt := top 72
abbrev N_turns : List Str := ["weights", "total", "given", "weight", "wheel", "n", "place"]
abbrev P_turns : List Str := ["weights"]
abbrev s_Deal_init : Stmt := inClass (top 73) 0
abbrev N_Deal_init : List Str := ["self", "weights"]
abbrev P_Deal_init : List Str := ["self", "weights"]
abbrev s_need_houses : Stmt := top 77
abbrev N_need_houses : List Str := ["pairs", "found", "house", "weight"]
abbrev P_need_houses : List Str := ["pairs"]
abbrev s_left_out : Stmt := top 78
abbrev N_left_out : List Str := ["spans", "at", "k", "low", "high"]
abbrev P_left_out : List Str := ["spans", "at"]
abbrev s_Cover_init : Stmt := inClass (top 79) 0
abbrev N_Cover_init : List Str := ["self", "name", "condition", "clauses", "houses", "waits", "pairs", "house", "weight"]
abbrev P_Cover_init : List Str := ["self", "name", "condition", "clauses", "houses", "waits"]
abbrev s_Cover_asks : Stmt := inClass (top 79) 1
abbrev N_Cover_asks : List Str := ["self", "loss"]
abbrev P_Cover_asks : List Str := ["self", "loss"]
abbrev s_Cover_spans : Stmt := inClass (top 79) 2
abbrev N_Cover_spans : List Str := ["self", "counts", "cents", "k", "clause"]
abbrev P_Cover_spans : List Str := ["self", "counts", "cents"]
abbrev s_Cover_window : Stmt := inClass (top 79) 3
abbrev N_Cover_window : List Str := ["self", "counts", "cents", "low", "high", "first", "upto"]
abbrev P_Cover_window : List Str := ["self", "counts", "cents"]
abbrev s_Cover_parts : Stmt := inClass (top 79) 4
abbrev N_Cover_parts : List Str := ["self", "counts", "cents", "spans", "ends", "low", "high", "found", "lo", "hi", "k"]
abbrev P_Cover_parts : List Str := ["self", "counts", "cents"]
abbrev s_Cover_rest : Stmt := inClass (top 79) 5
abbrev N_Cover_rest : List Str := ["self", "counts", "best", "k", "clause", "room"]
abbrev P_Cover_rest : List Str := ["self", "counts"]
abbrev s_law_cell : Stmt := top 81
abbrev N_law_cell : List Str := ["_law_script", "_law_k"]
abbrev P_law_cell : List Str := ["_law_script", "_law_k"]
abbrev s_law_whole : Stmt := top 82
abbrev N_law_whole : List Str := ["_law_found"]
abbrev P_law_whole : List Str := ["_law_found"]
abbrev s_law_mix : Stmt := top 83
abbrev N_law_mix : List Str := ["_law_cell_here", "_law_k", "_law_primes", "_law_number"]
abbrev P_law_mix : List Str := ["_law_cell_here", "_law_k"]
abbrev s_law_names : Stmt := top 84
abbrev N_law_names : List Str := ["_law_cell_here", "_law_many", "_law_letters", "_law_picks", "_law_k", "_law_some", "_law_size", "_law_at", "_law_first", "_law_names_here", "_law_sign"]
abbrev P_law_names : List Str := ["_law_cell_here", "_law_many"]
abbrev s_law_start : Stmt := top 85
abbrev N_law_start : List Str := ["_law_cell_here", "_law_far"]
abbrev P_law_start : List Str := ["_law_cell_here"]
abbrev s_law_cond : Stmt := top 86
abbrev N_law_cond : List Str := ["_law_cell_here", "_law_names_here", "_law_start_here", "_law_unit", "_law_one", "_law_other", "_law_first", "_law_way"]
abbrev P_law_cond : List Str := ["_law_cell_here", "_law_names_here", "_law_start_here", "_law_unit"]
abbrev s_law_clause_by : Stmt := top 87
abbrev N_law_clause_by : List Str := ["_law_cell_here", "_law_unit", "_law_word", "_law_by", "_law_low"]
abbrev P_law_clause_by : List Str := ["_law_cell_here", "_law_unit"]
abbrev s_law_covers : Stmt := top 88
abbrev N_law_covers : List Str := ["_law_script", "_law_names_here", "_law_unit", "_law_start_here", "_law_head", "_law_tags", "_law_covers_here", "_law_k", "_law_cell_here", "_law_clauses", "_law_j", "_law_cond_here"]
abbrev P_law_covers : List Str := ["_law_script", "_law_names_here", "_law_unit", "_law_start_here"]
abbrev s_law_losses : Stmt := top 89
abbrev N_law_losses : List Str := ["_law_cells", "_law_names_here", "_law_unit", "_law_start_here", "_law_losses_here", "_law_k", "_law_cell_here", "_law_event", "_law_day", "_law_cents", "_law_thing"]
abbrev P_law_losses : List Str := ["_law_cells", "_law_names_here", "_law_unit", "_law_start_here"]
abbrev s_law_condition : Stmt := top 90
abbrev N_law_condition : List Str := ["_law_cond_here", "_law_part"]
abbrev P_law_condition : List Str := ["_law_cond_here"]
abbrev s_law_clause : Stmt := top 91
abbrev N_law_clause : List Str := ["_law_clause_here", "_law_word", "_law_by", "_law_low", "_law_high"]
abbrev P_law_clause : List Str := ["_law_clause_here"]
abbrev s_law_book : Stmt := top 92
abbrev N_law_book : List Str := ["_law_covers_here", "_law_some", "_law_name", "_law_cond_here", "_law_clauses", "_law_houses", "_law_waits", "_law_one"]
abbrev P_law_book : List Str := ["_law_covers_here"]
abbrev s_law_enter : Stmt := top 93
abbrev N_law_enter : List Str := ["_law_roll", "_law_loss"]
abbrev P_law_enter : List Str := ["_law_roll", "_law_loss"]
abbrev s_law_turn : Stmt := top 94
abbrev N_law_turn : List Str := ["_law_loss"]
abbrev P_law_turn : List Str := ["_law_loss"]
abbrev s_law_kind : Stmt := top 95
abbrev N_law_kind : List Str := ["_law_e", "_law_kinds"]
abbrev P_law_kind : List Str := ["_law_e"]
abbrev s_law_entered : Stmt := top 96
abbrev N_law_entered : List Str := ["_law_roll", "_law_loss", "_law_told", "_law_e"]
abbrev P_law_entered : List Str := ["_law_roll", "_law_loss"]
abbrev s_law_closed : Stmt := top 97
abbrev N_law_closed : List Str := ["_law_roll", "_law_day", "_law_found", "_law_one", "_law_e"]
abbrev P_law_closed : List Str := ["_law_roll", "_law_day"]
abbrev s_law_asked_for : Stmt := top 98
abbrev N_law_asked_for : List Str := ["_law_roll", "_law_number", "_law_e"]
abbrev P_law_asked_for : List Str := ["_law_roll", "_law_number"]
abbrev s_law_spoilt : Stmt := top 99
abbrev N_law_spoilt : List Str := ["_law_loss", "_law_cell_here", "_law_far", "_law_part", "_law_some"]
abbrev P_law_spoilt : List Str := ["_law_loss", "_law_cell_here"]
abbrev s_law_right : Stmt := top 100
abbrev N_law_right : List Str := ["_law_found", "_law_due_here"]
abbrev P_law_right : List Str := ["_law_found", "_law_due_here"]
abbrev s_law_due : Stmt := top 101
abbrev N_law_due : List Str := ["_law_loss", "_law_numbers", "_law_closed_here"]
abbrev P_law_due : List Str := ["_law_loss", "_law_numbers", "_law_closed_here"]
abbrev s_law_tried : Stmt := top 102
abbrev N_law_tried : List Str := ["_law_roll", "_law_loss", "_law_numbers", "_law_closed_here", "_law_waiting", "_law_due_here"]
abbrev P_law_tried : List Str := ["_law_roll", "_law_loss", "_law_numbers", "_law_closed_here", "_law_waiting"]
abbrev s_law_closes : Stmt := top 103
abbrev N_law_closes : List Str := ["_law_roll", "_law_day", "_law_closed_here", "_law_waiting", "_law_order", "_law_ready", "_law_loss"]
abbrev P_law_closes : List Str := ["_law_roll", "_law_day", "_law_closed_here", "_law_waiting", "_law_order"]
abbrev s_law_walk : Stmt := top 104
abbrev N_law_walk : List Str := ["_law_roll", "_law_losses_here", "_law_cells", "_law_start_here", "_law_order", "_law_numbers", "_law_waiting", "_law_closed_here", "_law_k", "_law_loss", "_law_cell_here", "_law_again", "_law_last", "_law_day"]
abbrev P_law_walk : List Str := ["_law_roll", "_law_losses_here", "_law_cells", "_law_start_here", "_law_order"]
abbrev s_law : Stmt := top 105
abbrev N_law : List Str := ["_law_script", "_law_names_here", "_law_unit", "_law_start_here", "_law_covers_here", "_law_losses_here", "_law_roll", "_law_order", "_law_clean", "_law_loss"]
abbrev P_law : List Str := ["_law_script"]
end Cv
namespace Cv
open PySem PySem.Spec PyProof.Rows L2
theorem sc_Counts_init : FnScope N_Counts_init P_Counts_init (defScope s_Counts_init) := C8.fnScope_by (by decide +kernel)
theorem sc_Counts_have : FnScope N_Counts_have P_Counts_have (defScope s_Counts_have) := C8.fnScope_by (by decide +kernel)
theorem sc_Counts_add : FnScope N_Counts_add P_Counts_add (defScope s_Counts_add) := C8.fnScope_by (by decide +kernel)
theorem sc_turn_of : FnScope N_turn_of P_turn_of (defScope s_turn_of) := C8.fnScope_by (by decide +kernel)
theorem sc_Days_init : FnScope N_Days_init P_Days_init (defScope s_Days_init) := C8.fnScope_by (by decide +kernel)
theorem sc_Days_put : FnScope N_Days_put P_Days_put (defScope s_Days_put) := C8.fnScope_by (by decide +kernel)
theorem sc_Days_has_number : FnScope N_Days_has_number P_Days_has_number (defScope s_Days_has_number) := C8.fnScope_by (by decide +kernel)
theorem sc_Days_up_to : FnScope N_Days_up_to P_Days_up_to (defScope s_Days_up_to) := C8.fnScope_by (by decide +kernel)
theorem sc_Twice_init : FnScope N_Twice_init P_Twice_init (defScope s_Twice_init) := C8.fnScope_by (by decide +kernel)
theorem sc_Late_init : FnScope N_Late_init P_Late_init (defScope s_Late_init) := C8.fnScope_by (by decide +kernel)
theorem sc_is_whole : FnScope N_is_whole P_is_whole (defScope s_is_whole) := C8.fnScope_by (by decide +kernel)
theorem sc_is_name : FnScope N_is_name P_is_name (defScope s_is_name) := C8.fnScope_by (by decide +kernel)
theorem sc_is_event : FnScope N_is_event P_is_event (defScope s_is_event) := C8.fnScope_by (by decide +kernel)
theorem sc_is_day : FnScope N_is_day P_is_day (defScope s_is_day) := C8.fnScope_by (by decide +kernel)
theorem sc_is_amount : FnScope N_is_amount P_is_amount (defScope s_is_amount) := C8.fnScope_by (by decide +kernel)
theorem sc_year_of : FnScope N_year_of P_year_of (defScope s_year_of) := C8.fnScope_by (by decide +kernel)
theorem sc_loss_of : FnScope N_loss_of P_loss_of (defScope s_loss_of) := C8.fnScope_by (by decide +kernel)
theorem sc_need_amount : FnScope N_need_amount P_need_amount (defScope s_need_amount) := C8.fnScope_by (by decide +kernel)
theorem sc_Clause_init : FnScope N_Clause_init P_Clause_init (defScope s_Clause_init) := C8.fnScope_by (by decide +kernel)
theorem sc_Clause_key : FnScope N_Clause_key P_Clause_key (defScope s_Clause_key) := C8.fnScope_by (by decide +kernel)
theorem sc_Clause_span : FnScope N_Clause_span P_Clause_span (defScope s_Clause_span) := C8.fnScope_by (by decide +kernel)
theorem sc_Clause_room : FnScope N_Clause_room P_Clause_room (defScope s_Clause_room) := C8.fnScope_by (by decide +kernel)
theorem sc_Own_init : FnScope N_Own_init P_Own_init (defScope s_Own_init) := C8.fnScope_by (by decide +kernel)
theorem sc_Own_span : FnScope N_Own_span P_Own_span (defScope s_Own_span) := C8.fnScope_by (by decide +kernel)
theorem sc_Layer_init : FnScope N_Layer_init P_Layer_init (defScope s_Layer_init) := C8.fnScope_by (by decide +kernel)
theorem sc_Layer_span : FnScope N_Layer_span P_Layer_span (defScope s_Layer_span) := C8.fnScope_by (by decide +kernel)
theorem sc_Limit_init : FnScope N_Limit_init P_Limit_init (defScope s_Limit_init) := C8.fnScope_by (by decide +kernel)
theorem sc_Limit_room : FnScope N_Limit_room P_Limit_room (defScope s_Limit_room) := C8.fnScope_by (by decide +kernel)
theorem sc_cut_within : FnScope N_cut_within P_cut_within (defScope s_cut_within) := C8.fnScope_by (by decide +kernel)
theorem sc_lowest_of : FnScope N_lowest_of P_lowest_of (defScope s_lowest_of) := C8.fnScope_by (by decide +kernel)
theorem sc_cut_out : FnScope N_cut_out P_cut_out (defScope s_cut_out) := C8.fnScope_by (by decide +kernel)
theorem sc_numbers_of : FnScope N_numbers_of P_numbers_of (defScope s_numbers_of) := C8.fnScope_by (by decide +kernel)
theorem sc_paid_by : FnScope N_paid_by P_paid_by (defScope s_paid_by) := C8.fnScope_by (by decide +kernel)
theorem sc_unpaid_by : FnScope N_unpaid_by P_unpaid_by (defScope s_unpaid_by) := C8.fnScope_by (by decide +kernel)
theorem sc_strips_of : FnScope N_strips_of P_strips_of (defScope s_strips_of) := C8.fnScope_by (by decide +kernel)
theorem sc_paid_in : FnScope N_paid_in P_paid_in (defScope s_paid_in) := C8.fnScope_by (by decide +kernel)
theorem sc_settle : FnScope N_settle P_settle (defScope s_settle) := C8.fnScope_by (by decide +kernel)
theorem sc_Roll_init : FnScope N_Roll_init P_Roll_init (defScope s_Roll_init) := C8.fnScope_by (by decide +kernel)
theorem sc_Roll_is_late : FnScope N_Roll_is_late P_Roll_is_late (defScope s_Roll_is_late) := C8.fnScope_by (by decide +kernel)
theorem sc_Roll_enter : FnScope N_Roll_enter P_Roll_enter (defScope s_Roll_enter) := C8.fnScope_by (by decide +kernel)
theorem sc_Roll_close : FnScope N_Roll_close P_Roll_close (defScope s_Roll_close) := C8.fnScope_by (by decide +kernel)
theorem sc_Roll_told : FnScope N_Roll_told P_Roll_told (defScope s_Roll_told) := C8.fnScope_by (by decide +kernel)
theorem sc_Roll_settled : FnScope N_Roll_settled P_Roll_settled (defScope s_Roll_settled) := C8.fnScope_by (by decide +kernel)
theorem sc_Book_init : FnScope N_Book_init P_Book_init (defScope s_Book_init) := C8.fnScope_by (by decide +kernel)
theorem sc_Condition_holds : FnScope N_Condition_holds P_Condition_holds (defScope s_Condition_holds) := C8.fnScope_by (by decide +kernel)
theorem sc_CauseIs_init : FnScope N_CauseIs_init P_CauseIs_init (defScope s_CauseIs_init) := C8.fnScope_by (by decide +kernel)
theorem sc_CauseIs_holds : FnScope N_CauseIs_holds P_CauseIs_holds (defScope s_CauseIs_holds) := C8.fnScope_by (by decide +kernel)
theorem sc_ThingIs_init : FnScope N_ThingIs_init P_ThingIs_init (defScope s_ThingIs_init) := C8.fnScope_by (by decide +kernel)
theorem sc_ThingIs_holds : FnScope N_ThingIs_holds P_ThingIs_holds (defScope s_ThingIs_holds) := C8.fnScope_by (by decide +kernel)
theorem sc_DaysIn_init : FnScope N_DaysIn_init P_DaysIn_init (defScope s_DaysIn_init) := C8.fnScope_by (by decide +kernel)
theorem sc_DaysIn_holds : FnScope N_DaysIn_holds P_DaysIn_holds (defScope s_DaysIn_holds) := C8.fnScope_by (by decide +kernel)
theorem sc_Over_init : FnScope N_Over_init P_Over_init (defScope s_Over_init) := C8.fnScope_by (by decide +kernel)
theorem sc_Over_holds : FnScope N_Over_holds P_Over_holds (defScope s_Over_holds) := C8.fnScope_by (by decide +kernel)
theorem sc_Not_init : FnScope N_Not_init P_Not_init (defScope s_Not_init) := C8.fnScope_by (by decide +kernel)
theorem sc_Not_holds : FnScope N_Not_holds P_Not_holds (defScope s_Not_holds) := C8.fnScope_by (by decide +kernel)
theorem sc_All_init : FnScope N_All_init P_All_init (defScope s_All_init) := C8.fnScope_by (by decide +kernel)
theorem sc_All_holds : FnScope N_All_holds P_All_holds (defScope s_All_holds) := C8.fnScope_by (by decide +kernel)
theorem sc_Some_init : FnScope N_Some_init P_Some_init (defScope s_Some_init) := C8.fnScope_by (by decide +kernel)
theorem sc_Some_holds : FnScope N_Some_holds P_Some_holds (defScope s_Some_holds) := C8.fnScope_by (by decide +kernel)
theorem sc_total_of : FnScope N_total_of P_total_of (defScope s_total_of) := C8.fnScope_by (by decide +kernel)
theorem sc_due_by : FnScope N_due_by P_due_by (defScope s_due_by) := C8.fnScope_by (by decide +kernel)
theorem sc_next_place : FnScope N_next_place P_next_place (defScope s_next_place) := C8.fnScope_by (by decide +kernel)
theorem sc_turns : FnScope N_turns P_turns (defScope s_turns) := C8.fnScope_by (by decide +kernel)
theorem sc_Deal_init : FnScope N_Deal_init P_Deal_init (defScope s_Deal_init) := C8.fnScope_by (by decide +kernel)
theorem sc_need_houses : FnScope N_need_houses P_need_houses (defScope s_need_houses) := C8.fnScope_by (by decide +kernel)
theorem sc_left_out : FnScope N_left_out P_left_out (defScope s_left_out) := C8.fnScope_by (by decide +kernel)
theorem sc_Cover_init : FnScope N_Cover_init P_Cover_init (defScope s_Cover_init) := C8.fnScope_by (by decide +kernel)
theorem sc_Cover_asks : FnScope N_Cover_asks P_Cover_asks (defScope s_Cover_asks) := C8.fnScope_by (by decide +kernel)
theorem sc_Cover_spans : FnScope N_Cover_spans P_Cover_spans (defScope s_Cover_spans) := C8.fnScope_by (by decide +kernel)
theorem sc_Cover_window : FnScope N_Cover_window P_Cover_window (defScope s_Cover_window) := C8.fnScope_by (by decide +kernel)
theorem sc_Cover_parts : FnScope N_Cover_parts P_Cover_parts (defScope s_Cover_parts) := C8.fnScope_by (by decide +kernel)
theorem sc_Cover_rest : FnScope N_Cover_rest P_Cover_rest (defScope s_Cover_rest) := C8.fnScope_by (by decide +kernel)
theorem sc_law_cell : FnScope N_law_cell P_law_cell (defScope s_law_cell) := C8.fnScope_by (by decide +kernel)
theorem sc_law_whole : FnScope N_law_whole P_law_whole (defScope s_law_whole) := C8.fnScope_by (by decide +kernel)
theorem sc_law_mix : FnScope N_law_mix P_law_mix (defScope s_law_mix) := C8.fnScope_by (by decide +kernel)
theorem sc_law_names : FnScope N_law_names P_law_names (defScope s_law_names) := C8.fnScope_by (by decide +kernel)
theorem sc_law_start : FnScope N_law_start P_law_start (defScope s_law_start) := C8.fnScope_by (by decide +kernel)
theorem sc_law_cond : FnScope N_law_cond P_law_cond (defScope s_law_cond) := C8.fnScope_by (by decide +kernel)
theorem sc_law_clause_by : FnScope N_law_clause_by P_law_clause_by (defScope s_law_clause_by) := C8.fnScope_by (by decide +kernel)
theorem sc_law_covers : FnScope N_law_covers P_law_covers (defScope s_law_covers) := C8.fnScope_by (by decide +kernel)
theorem sc_law_losses : FnScope N_law_losses P_law_losses (defScope s_law_losses) := C8.fnScope_by (by decide +kernel)
theorem sc_law_condition : FnScope N_law_condition P_law_condition (defScope s_law_condition) := C8.fnScope_by (by decide +kernel)
theorem sc_law_clause : FnScope N_law_clause P_law_clause (defScope s_law_clause) := C8.fnScope_by (by decide +kernel)
theorem sc_law_book : FnScope N_law_book P_law_book (defScope s_law_book) := C8.fnScope_by (by decide +kernel)
theorem sc_law_enter : FnScope N_law_enter P_law_enter (defScope s_law_enter) := C8.fnScope_by (by decide +kernel)
theorem sc_law_turn : FnScope N_law_turn P_law_turn (defScope s_law_turn) := C8.fnScope_by (by decide +kernel)
theorem sc_law_kind : FnScope N_law_kind P_law_kind (defScope s_law_kind) := C8.fnScope_by (by decide +kernel)
theorem sc_law_entered : FnScope N_law_entered P_law_entered (defScope s_law_entered) := C8.fnScope_by (by decide +kernel)
theorem sc_law_closed : FnScope N_law_closed P_law_closed (defScope s_law_closed) := C8.fnScope_by (by decide +kernel)
theorem sc_law_asked_for : FnScope N_law_asked_for P_law_asked_for (defScope s_law_asked_for) := C8.fnScope_by (by decide +kernel)
theorem sc_law_spoilt : FnScope N_law_spoilt P_law_spoilt (defScope s_law_spoilt) := C8.fnScope_by (by decide +kernel)
theorem sc_law_right : FnScope N_law_right P_law_right (defScope s_law_right) := C8.fnScope_by (by decide +kernel)
theorem sc_law_due : FnScope N_law_due P_law_due (defScope s_law_due) := C8.fnScope_by (by decide +kernel)
theorem sc_law_tried : FnScope N_law_tried P_law_tried (defScope s_law_tried) := C8.fnScope_by (by decide +kernel)
theorem sc_law_closes : FnScope N_law_closes P_law_closes (defScope s_law_closes) := C8.fnScope_by (by decide +kernel)
theorem sc_law_walk : FnScope N_law_walk P_law_walk (defScope s_law_walk) := C8.fnScope_by (by decide +kernel)
theorem sc_law : FnScope N_law P_law (defScope s_law) := C8.fnScope_by (by decide +kernel)
end Cv
namespace Cv
open PySem PySem.Spec PyProof.Rows L2
def d_turn_of : He.DefD := ⟨("turn_of", none), "turn_of", "turn_of", defArgs s_turn_of, defBody s_turn_of, defScope s_turn_of, [], []⟩
def d_is_whole : He.DefD := ⟨("is_whole", none), "is_whole", "is_whole", defArgs s_is_whole, defBody s_is_whole, defScope s_is_whole, [], []⟩
def d_is_name : He.DefD := ⟨("is_name", none), "is_name", "is_name", defArgs s_is_name, defBody s_is_name, defScope s_is_name, [], []⟩
def d_is_event : He.DefD := ⟨("is_event", none), "is_event", "is_event", defArgs s_is_event, defBody s_is_event, defScope s_is_event, [], []⟩
def d_is_day : He.DefD := ⟨("is_day", none), "is_day", "is_day", defArgs s_is_day, defBody s_is_day, defScope s_is_day, [], []⟩
def d_is_amount : He.DefD := ⟨("is_amount", none), "is_amount", "is_amount", defArgs s_is_amount, defBody s_is_amount, defScope s_is_amount, [], []⟩
def d_year_of : He.DefD := ⟨("year_of", none), "year_of", "year_of", defArgs s_year_of, defBody s_year_of, defScope s_year_of, [], []⟩
def d_loss_of : He.DefD := ⟨("loss_of", none), "loss_of", "loss_of", defArgs s_loss_of, defBody s_loss_of, defScope s_loss_of, [], []⟩
def d_need_amount : He.DefD := ⟨("need_amount", none), "need_amount", "need_amount", defArgs s_need_amount, defBody s_need_amount, defScope s_need_amount, [], []⟩
def d_cut_within : He.DefD := ⟨("cut_within", none), "cut_within", "cut_within", defArgs s_cut_within, defBody s_cut_within, defScope s_cut_within, [], []⟩
def d_lowest_of : He.DefD := ⟨("lowest_of", none), "lowest_of", "lowest_of", defArgs s_lowest_of, defBody s_lowest_of, defScope s_lowest_of, [], []⟩
def d_cut_out : He.DefD := ⟨("cut_out", none), "cut_out", "cut_out", defArgs s_cut_out, defBody s_cut_out, defScope s_cut_out, [], []⟩
def d_numbers_of : He.DefD := ⟨("numbers_of", none), "numbers_of", "numbers_of", defArgs s_numbers_of, defBody s_numbers_of, defScope s_numbers_of, [], []⟩
def d_paid_by : He.DefD := ⟨("paid_by", none), "paid_by", "paid_by", defArgs s_paid_by, defBody s_paid_by, defScope s_paid_by, [], []⟩
def d_unpaid_by : He.DefD := ⟨("unpaid_by", none), "unpaid_by", "unpaid_by", defArgs s_unpaid_by, defBody s_unpaid_by, defScope s_unpaid_by, [], []⟩
def d_strips_of : He.DefD := ⟨("strips_of", none), "strips_of", "strips_of", defArgs s_strips_of, defBody s_strips_of, defScope s_strips_of, [], []⟩
def d_paid_in : He.DefD := ⟨("paid_in", none), "paid_in", "paid_in", defArgs s_paid_in, defBody s_paid_in, defScope s_paid_in, [], []⟩
def d_settle : He.DefD := ⟨("settle", none), "settle", "settle", defArgs s_settle, defBody s_settle, defScope s_settle, [], []⟩
def d_total_of : He.DefD := ⟨("total_of", none), "total_of", "total_of", defArgs s_total_of, defBody s_total_of, defScope s_total_of, [], []⟩
def d_due_by : He.DefD := ⟨("due_by", none), "due_by", "due_by", defArgs s_due_by, defBody s_due_by, defScope s_due_by, [], []⟩
def d_next_place : He.DefD := ⟨("next_place", none), "next_place", "next_place", defArgs s_next_place, defBody s_next_place, defScope s_next_place, [], []⟩
def d_turns : He.DefD := ⟨("turns", none), "turns", "turns", defArgs s_turns, defBody s_turns, defScope s_turns, [], []⟩
def d_need_houses : He.DefD := ⟨("need_houses", none), "need_houses", "need_houses", defArgs s_need_houses, defBody s_need_houses, defScope s_need_houses, [], []⟩
def d_left_out : He.DefD := ⟨("left_out", none), "left_out", "left_out", defArgs s_left_out, defBody s_left_out, defScope s_left_out, [], []⟩
def d_law_cell : He.DefD := ⟨("_law_cell", none), "_law_cell", "_law_cell", defArgs s_law_cell, defBody s_law_cell, defScope s_law_cell, [], []⟩
def d_law_whole : He.DefD := ⟨("_law_whole", none), "_law_whole", "_law_whole", defArgs s_law_whole, defBody s_law_whole, defScope s_law_whole, [], []⟩
def d_law_mix : He.DefD := ⟨("_law_mix", none), "_law_mix", "_law_mix", defArgs s_law_mix, defBody s_law_mix, defScope s_law_mix, [], []⟩
def d_law_names : He.DefD := ⟨("_law_names", none), "_law_names", "_law_names", defArgs s_law_names, defBody s_law_names, defScope s_law_names, [], []⟩
def d_law_start : He.DefD := ⟨("_law_start", none), "_law_start", "_law_start", defArgs s_law_start, defBody s_law_start, defScope s_law_start, [], []⟩
def d_law_cond : He.DefD := ⟨("_law_cond", none), "_law_cond", "_law_cond", defArgs s_law_cond, defBody s_law_cond, defScope s_law_cond, [], []⟩
def d_law_clause_by : He.DefD := ⟨("_law_clause_by", none), "_law_clause_by", "_law_clause_by", defArgs s_law_clause_by, defBody s_law_clause_by, defScope s_law_clause_by, [], []⟩
def d_law_covers : He.DefD := ⟨("_law_covers", none), "_law_covers", "_law_covers", defArgs s_law_covers, defBody s_law_covers, defScope s_law_covers, [], []⟩
def d_law_losses : He.DefD := ⟨("_law_losses", none), "_law_losses", "_law_losses", defArgs s_law_losses, defBody s_law_losses, defScope s_law_losses, [], []⟩
def d_law_condition : He.DefD := ⟨("_law_condition", none), "_law_condition", "_law_condition", defArgs s_law_condition, defBody s_law_condition, defScope s_law_condition, [], []⟩
def d_law_clause : He.DefD := ⟨("_law_clause", none), "_law_clause", "_law_clause", defArgs s_law_clause, defBody s_law_clause, defScope s_law_clause, [], []⟩
def d_law_book : He.DefD := ⟨("_law_book", none), "_law_book", "_law_book", defArgs s_law_book, defBody s_law_book, defScope s_law_book, [], []⟩
def d_law_enter : He.DefD := ⟨("_law_enter", none), "_law_enter", "_law_enter", defArgs s_law_enter, defBody s_law_enter, defScope s_law_enter, [], []⟩
def d_law_turn : He.DefD := ⟨("_law_turn", none), "_law_turn", "_law_turn", defArgs s_law_turn, defBody s_law_turn, defScope s_law_turn, [], []⟩
def d_law_kind : He.DefD := ⟨("_law_kind", none), "_law_kind", "_law_kind", defArgs s_law_kind, defBody s_law_kind, defScope s_law_kind, [], []⟩
def d_law_entered : He.DefD := ⟨("_law_entered", none), "_law_entered", "_law_entered", defArgs s_law_entered, defBody s_law_entered, defScope s_law_entered, [], []⟩
def d_law_closed : He.DefD := ⟨("_law_closed", none), "_law_closed", "_law_closed", defArgs s_law_closed, defBody s_law_closed, defScope s_law_closed, [], []⟩
def d_law_asked_for : He.DefD := ⟨("_law_asked_for", none), "_law_asked_for", "_law_asked_for", defArgs s_law_asked_for, defBody s_law_asked_for, defScope s_law_asked_for, [], []⟩
def d_law_spoilt : He.DefD := ⟨("_law_spoilt", none), "_law_spoilt", "_law_spoilt", defArgs s_law_spoilt, defBody s_law_spoilt, defScope s_law_spoilt, [], []⟩
def d_law_right : He.DefD := ⟨("_law_right", none), "_law_right", "_law_right", defArgs s_law_right, defBody s_law_right, defScope s_law_right, [], []⟩
def d_law_due : He.DefD := ⟨("_law_due", none), "_law_due", "_law_due", defArgs s_law_due, defBody s_law_due, defScope s_law_due, [], []⟩
def d_law_tried : He.DefD := ⟨("_law_tried", none), "_law_tried", "_law_tried", defArgs s_law_tried, defBody s_law_tried, defScope s_law_tried, [], []⟩
def d_law_closes : He.DefD := ⟨("_law_closes", none), "_law_closes", "_law_closes", defArgs s_law_closes, defBody s_law_closes, defScope s_law_closes, [], []⟩
def d_law_walk : He.DefD := ⟨("_law_walk", none), "_law_walk", "_law_walk", defArgs s_law_walk, defBody s_law_walk, defScope s_law_walk, [], []⟩
def d_law : He.DefD := ⟨("law", none), "law", "law", defArgs s_law, defBody s_law, defScope s_law, [], []⟩
def d_Counts_init : He.DefD := ⟨("Counts", some "__init__"), "__init__", "Counts.__init__", defArgs s_Counts_init, defBody s_Counts_init, defScope s_Counts_init, [], []⟩
def d_Counts_have : He.DefD := ⟨("Counts", some "have"), "have", "Counts.have", defArgs s_Counts_have, defBody s_Counts_have, defScope s_Counts_have, [], []⟩
def d_Counts_add : He.DefD := ⟨("Counts", some "add"), "add", "Counts.add", defArgs s_Counts_add, defBody s_Counts_add, defScope s_Counts_add, [], []⟩
def d_Days_init : He.DefD := ⟨("Days", some "__init__"), "__init__", "Days.__init__", defArgs s_Days_init, defBody s_Days_init, defScope s_Days_init, [], []⟩
def d_Days_put : He.DefD := ⟨("Days", some "put"), "put", "Days.put", defArgs s_Days_put, defBody s_Days_put, defScope s_Days_put, [], []⟩
def d_Days_has_number : He.DefD := ⟨("Days", some "has_number"), "has_number", "Days.has_number", defArgs s_Days_has_number, defBody s_Days_has_number, defScope s_Days_has_number, [], []⟩
def d_Days_up_to : He.DefD := ⟨("Days", some "up_to"), "up_to", "Days.up_to", defArgs s_Days_up_to, defBody s_Days_up_to, defScope s_Days_up_to, [], []⟩
def d_Clause_init : He.DefD := ⟨("Clause", some "__init__"), "__init__", "Clause.__init__", defArgs s_Clause_init, defBody s_Clause_init, defScope s_Clause_init, [], []⟩
def d_Clause_key : He.DefD := ⟨("Clause", some "key"), "key", "Clause.key", defArgs s_Clause_key, defBody s_Clause_key, defScope s_Clause_key, [], []⟩
def d_Clause_span : He.DefD := ⟨("Clause", some "span"), "span", "Clause.span", defArgs s_Clause_span, defBody s_Clause_span, defScope s_Clause_span, [], []⟩
def d_Clause_room : He.DefD := ⟨("Clause", some "room"), "room", "Clause.room", defArgs s_Clause_room, defBody s_Clause_room, defScope s_Clause_room, [], []⟩
def d_Own_init : He.DefD := ⟨("Own", some "__init__"), "__init__", "Own.__init__", defArgs s_Own_init, defBody s_Own_init, defScope s_Own_init, [], []⟩
def d_Own_span : He.DefD := ⟨("Own", some "span"), "span", "Own.span", defArgs s_Own_span, defBody s_Own_span, defScope s_Own_span, [], []⟩
def d_Own_key : He.DefD := ⟨("Own", some "key"), "key", "Clause.key", defArgs s_Clause_key, defBody s_Clause_key, defScope s_Clause_key, [], []⟩
def d_Own_room : He.DefD := ⟨("Own", some "room"), "room", "Clause.room", defArgs s_Clause_room, defBody s_Clause_room, defScope s_Clause_room, [], []⟩
def d_Layer_init : He.DefD := ⟨("Layer", some "__init__"), "__init__", "Layer.__init__", defArgs s_Layer_init, defBody s_Layer_init, defScope s_Layer_init, [], []⟩
def d_Layer_span : He.DefD := ⟨("Layer", some "span"), "span", "Layer.span", defArgs s_Layer_span, defBody s_Layer_span, defScope s_Layer_span, [], []⟩
def d_Layer_key : He.DefD := ⟨("Layer", some "key"), "key", "Clause.key", defArgs s_Clause_key, defBody s_Clause_key, defScope s_Clause_key, [], []⟩
def d_Layer_room : He.DefD := ⟨("Layer", some "room"), "room", "Clause.room", defArgs s_Clause_room, defBody s_Clause_room, defScope s_Clause_room, [], []⟩
def d_Limit_init : He.DefD := ⟨("Limit", some "__init__"), "__init__", "Limit.__init__", defArgs s_Limit_init, defBody s_Limit_init, defScope s_Limit_init, [], []⟩
def d_Limit_room : He.DefD := ⟨("Limit", some "room"), "room", "Limit.room", defArgs s_Limit_room, defBody s_Limit_room, defScope s_Limit_room, [], []⟩
def d_Limit_key : He.DefD := ⟨("Limit", some "key"), "key", "Clause.key", defArgs s_Clause_key, defBody s_Clause_key, defScope s_Clause_key, [], []⟩
def d_Limit_span : He.DefD := ⟨("Limit", some "span"), "span", "Clause.span", defArgs s_Clause_span, defBody s_Clause_span, defScope s_Clause_span, [], []⟩
def d_Roll_init : He.DefD := ⟨("Roll", some "__init__"), "__init__", "Roll.__init__", defArgs s_Roll_init, defBody s_Roll_init, defScope s_Roll_init, [], []⟩
def d_Roll_is_late : He.DefD := ⟨("Roll", some "is_late"), "is_late", "Roll.is_late", defArgs s_Roll_is_late, defBody s_Roll_is_late, defScope s_Roll_is_late, [], []⟩
def d_Roll_enter : He.DefD := ⟨("Roll", some "enter"), "enter", "Roll.enter", defArgs s_Roll_enter, defBody s_Roll_enter, defScope s_Roll_enter, [], []⟩
def d_Roll_close : He.DefD := ⟨("Roll", some "close"), "close", "Roll.close", defArgs s_Roll_close, defBody s_Roll_close, defScope s_Roll_close, [], []⟩
def d_Roll_told : He.DefD := ⟨("Roll", some "told"), "told", "Roll.told", defArgs s_Roll_told, defBody s_Roll_told, defScope s_Roll_told, [], []⟩
def d_Roll_settled : He.DefD := ⟨("Roll", some "settled"), "settled", "Roll.settled", defArgs s_Roll_settled, defBody s_Roll_settled, defScope s_Roll_settled, [], []⟩
def d_Book_init : He.DefD := ⟨("Book", some "__init__"), "__init__", "Book.__init__", defArgs s_Book_init, defBody s_Book_init, defScope s_Book_init, [], []⟩
def d_Condition_holds : He.DefD := ⟨("Condition", some "holds"), "holds", "Condition.holds", defArgs s_Condition_holds, defBody s_Condition_holds, defScope s_Condition_holds, [], []⟩
def d_CauseIs_init : He.DefD := ⟨("CauseIs", some "__init__"), "__init__", "CauseIs.__init__", defArgs s_CauseIs_init, defBody s_CauseIs_init, defScope s_CauseIs_init, [], []⟩
def d_CauseIs_holds : He.DefD := ⟨("CauseIs", some "holds"), "holds", "CauseIs.holds", defArgs s_CauseIs_holds, defBody s_CauseIs_holds, defScope s_CauseIs_holds, [], []⟩
def d_ThingIs_init : He.DefD := ⟨("ThingIs", some "__init__"), "__init__", "ThingIs.__init__", defArgs s_ThingIs_init, defBody s_ThingIs_init, defScope s_ThingIs_init, [], []⟩
def d_ThingIs_holds : He.DefD := ⟨("ThingIs", some "holds"), "holds", "ThingIs.holds", defArgs s_ThingIs_holds, defBody s_ThingIs_holds, defScope s_ThingIs_holds, [], []⟩
def d_DaysIn_init : He.DefD := ⟨("DaysIn", some "__init__"), "__init__", "DaysIn.__init__", defArgs s_DaysIn_init, defBody s_DaysIn_init, defScope s_DaysIn_init, [], []⟩
def d_DaysIn_holds : He.DefD := ⟨("DaysIn", some "holds"), "holds", "DaysIn.holds", defArgs s_DaysIn_holds, defBody s_DaysIn_holds, defScope s_DaysIn_holds, [], []⟩
def d_Over_init : He.DefD := ⟨("Over", some "__init__"), "__init__", "Over.__init__", defArgs s_Over_init, defBody s_Over_init, defScope s_Over_init, [], []⟩
def d_Over_holds : He.DefD := ⟨("Over", some "holds"), "holds", "Over.holds", defArgs s_Over_holds, defBody s_Over_holds, defScope s_Over_holds, [], []⟩
def d_Not_init : He.DefD := ⟨("Not", some "__init__"), "__init__", "Not.__init__", defArgs s_Not_init, defBody s_Not_init, defScope s_Not_init, [], []⟩
def d_Not_holds : He.DefD := ⟨("Not", some "holds"), "holds", "Not.holds", defArgs s_Not_holds, defBody s_Not_holds, defScope s_Not_holds, [], []⟩
def d_All_init : He.DefD := ⟨("All", some "__init__"), "__init__", "All.__init__", defArgs s_All_init, defBody s_All_init, defScope s_All_init, [], []⟩
def d_All_holds : He.DefD := ⟨("All", some "holds"), "holds", "All.holds", defArgs s_All_holds, defBody s_All_holds, defScope s_All_holds, [], []⟩
def d_Some_init : He.DefD := ⟨("Some", some "__init__"), "__init__", "Some.__init__", defArgs s_Some_init, defBody s_Some_init, defScope s_Some_init, [], []⟩
def d_Some_holds : He.DefD := ⟨("Some", some "holds"), "holds", "Some.holds", defArgs s_Some_holds, defBody s_Some_holds, defScope s_Some_holds, [], []⟩
def d_Deal_init : He.DefD := ⟨("Deal", some "__init__"), "__init__", "Deal.__init__", defArgs s_Deal_init, defBody s_Deal_init, defScope s_Deal_init, [], []⟩
def d_Cover_init : He.DefD := ⟨("Cover", some "__init__"), "__init__", "Cover.__init__", defArgs s_Cover_init, defBody s_Cover_init, defScope s_Cover_init, [.non, .non, .bl false], []⟩
def d_Cover_asks : He.DefD := ⟨("Cover", some "asks"), "asks", "Cover.asks", defArgs s_Cover_asks, defBody s_Cover_asks, defScope s_Cover_asks, [], []⟩
def d_Cover_spans : He.DefD := ⟨("Cover", some "spans"), "spans", "Cover.spans", defArgs s_Cover_spans, defBody s_Cover_spans, defScope s_Cover_spans, [], []⟩
def d_Cover_window : He.DefD := ⟨("Cover", some "window"), "window", "Cover.window", defArgs s_Cover_window, defBody s_Cover_window, defScope s_Cover_window, [], []⟩
def d_Cover_parts : He.DefD := ⟨("Cover", some "parts"), "parts", "Cover.parts", defArgs s_Cover_parts, defBody s_Cover_parts, defScope s_Cover_parts, [], []⟩
def d_Cover_rest : He.DefD := ⟨("Cover", some "rest"), "rest", "Cover.rest", defArgs s_Cover_rest, defBody s_Cover_rest, defScope s_Cover_rest, [], []⟩
def d_Twice_init : He.DefD := ⟨("Twice", some "__init__"), "__init__", "Twice.__init__", defArgs s_Twice_init, defBody s_Twice_init, defScope s_Twice_init, [], []⟩
def d_Late_init : He.DefD := ⟨("Late", some "__init__"), "__init__", "Late.__init__", defArgs s_Late_init, defBody s_Late_init, defScope s_Late_init, [], []⟩
def fn0 : List He.DefD := [d_turn_of, d_is_whole, d_is_name, d_is_event, d_is_day, d_is_amount, d_year_of, d_loss_of, d_need_amount, d_cut_within, d_lowest_of, d_cut_out, d_numbers_of, d_paid_by, d_unpaid_by, d_strips_of, d_paid_in, d_settle, d_total_of, d_due_by, d_next_place, d_turns, d_need_houses, d_left_out, d_law_cell, d_law_whole, d_law_mix, d_law_names, d_law_start, d_law_cond]
def fn1 : List He.DefD := [d_law_clause_by, d_law_covers, d_law_losses, d_law_condition, d_law_clause, d_law_book, d_law_enter, d_law_turn, d_law_kind, d_law_entered, d_law_closed, d_law_asked_for, d_law_spoilt, d_law_right, d_law_due, d_law_tried, d_law_closes, d_law_walk, d_law, d_Counts_init, d_Counts_have, d_Counts_add, d_Days_init, d_Days_put, d_Days_has_number, d_Days_up_to, d_Clause_init, d_Clause_key, d_Clause_span, d_Clause_room]
def fn2 : List He.DefD := [d_Own_init, d_Own_span, d_Own_key, d_Own_room, d_Layer_init, d_Layer_span, d_Layer_key, d_Layer_room, d_Limit_init, d_Limit_room, d_Limit_key, d_Limit_span, d_Roll_init, d_Roll_is_late, d_Roll_enter, d_Roll_close, d_Roll_told, d_Roll_settled, d_Book_init, d_Condition_holds, d_CauseIs_init, d_CauseIs_holds, d_ThingIs_init, d_ThingIs_holds, d_DaysIn_init, d_DaysIn_holds, d_Over_init, d_Over_holds, d_Not_init, d_Not_holds]
def fn3 : List He.DefD := [d_All_init, d_All_holds, d_Some_init, d_Some_holds, d_Deal_init, d_Cover_init, d_Cover_asks, d_Cover_spans, d_Cover_window, d_Cover_parts, d_Cover_rest, d_Twice_init, d_Late_init]
def fn : List He.DefD := fn0 ++ fn1 ++ fn2 ++ fn3
def fa0 : List He.Fa := [.glo "Counts", .glo "turn_of", .glo "Days", .glo "CoverError", .glo "NoShares", .glo "NoEntry", .glo "NoClause", .glo "NoCover", .glo "NoBook", .glo "Twice", .glo "Late", .glo "NotTold", .glo "is_whole", .glo "is_name", .glo "is_event", .glo "is_day", .glo "is_amount", .glo "year_of", .glo "loss_of", .glo "need_amount", .glo "Clause", .glo "Own", .glo "Layer", .glo "Limit", .glo "cut_within", .glo "lowest_of", .glo "cut_out", .glo "numbers_of", .glo "paid_by", .glo "unpaid_by"]
def fa1 : List He.Fa := [.glo "strips_of", .glo "paid_in", .glo "settle", .glo "Roll", .glo "Book", .glo "Condition", .glo "CauseIs", .glo "ThingIs", .glo "DaysIn", .glo "Over", .glo "Not", .glo "All", .glo "Some", .glo "total_of", .glo "due_by", .glo "next_place", .glo "turns", .glo "Deal", .glo "need_houses", .glo "left_out", .glo "Cover", .glo "_law_cell", .glo "_law_whole", .glo "_law_mix", .glo "_law_names", .glo "_law_start", .glo "_law_cond", .glo "_law_clause_by", .glo "_law_covers", .glo "_law_losses"]
def fa2 : List He.Fa := [.glo "_law_condition", .glo "_law_clause", .glo "_law_book", .glo "_law_enter", .glo "_law_turn", .glo "_law_kind", .glo "_law_entered", .glo "_law_closed", .glo "_law_asked_for", .glo "_law_spoilt", .glo "_law_right", .glo "_law_due", .glo "_law_tried", .glo "_law_closes", .glo "_law_walk", .glo "law", .free "len", .free "max", .free "min", .free "isinstance", .free "sorted", .free "sum", .free "list", .free "set", .free "int", .free "str", .free "bool", .free "range", .free "enumerate", .free "zip"]
def fa3 : List He.Fa := [.free "ValueError", .int "LAST_DAY" (1000000), .int "LAST_NUMBER" (1000000000), .int "MOST_CENTS" (999999999999), .int "YEAR" (365), .int "PAID_settling" (-1), .int "MOST_COVERS" (8), .int "MOST_PLACES" (8), .int "MOST_TURNS" (100), .int "MOST_CLAUSES" (8), .int "PAID_covers" (-1), .str "LETTERS" "abcdefghijklmnopqrstuvwxyz", .cls "Counts", .noat "Counts" "held", .meth "Counts" "have", .meth "Counts" "add", .mkr "Counts", .cls "Days", .noat "Days" "waiting", .noat "Days" "known", .meth "Days" "put", .meth "Days" "has_number", .meth "Days" "up_to", .mkr "Days", .cls "Own", .noat "Own" "by", .noat "Own" "cents", .meth "Own" "span", .meth "Own" "key", .meth "Own" "room"]
def fa4 : List He.Fa := [.mkr "Own", .cls "Layer", .noat "Layer" "by", .noat "Layer" "first", .noat "Layer" "upto", .meth "Layer" "span", .meth "Layer" "key", .meth "Layer" "room", .mkr "Layer", .cls "Limit", .noat "Limit" "by", .noat "Limit" "most", .meth "Limit" "room", .meth "Limit" "key", .meth "Limit" "span", .mkr "Limit", .cls "Roll", .noat "Roll" "book", .noat "Roll" "counts", .noat "Roll" "days", .noat "Roll" "closed", .noat "Roll" "order", .noat "Roll" "held", .meth "Roll" "is_late", .meth "Roll" "enter", .meth "Roll" "close", .meth "Roll" "told", .meth "Roll" "settled", .mkr "Roll", .cls "Book"]
def fa5 : List He.Fa := [.noat "Book" "covers", .noat "Book" "asking", .mkr "Book", .cls "Condition", .meth "Condition" "holds", .cls "CauseIs", .noat "CauseIs" "name", .meth "CauseIs" "holds", .mkr "CauseIs", .cls "ThingIs", .noat "ThingIs" "name", .meth "ThingIs" "holds", .mkr "ThingIs", .cls "DaysIn", .noat "DaysIn" "first", .noat "DaysIn" "last", .meth "DaysIn" "holds", .mkr "DaysIn", .cls "Over", .noat "Over" "cents", .meth "Over" "holds", .mkr "Over", .cls "Not", .noat "Not" "part", .meth "Not" "holds", .mkr "Not", .cls "All", .noat "All" "several", .meth "All" "holds", .mkr "All"]
def fa6 : List He.Fa := [.cls "Some", .noat "Some" "several", .meth "Some" "holds", .mkr "Some", .cls "Deal", .noat "Deal" "wheel", .noat "Deal" "weights", .mkr "Deal", .cls "Cover", .noat "Cover" "name", .noat "Cover" "condition", .noat "Cover" "clauses", .noat "Cover" "houses", .noat "Cover" "deal", .noat "Cover" "waits", .meth "Cover" "asks", .meth "Cover" "spans", .meth "Cover" "window", .meth "Cover" "parts", .meth "Cover" "rest", .mkr "Cover", .keep "CoverError", .keep "NoShares", .keep "NoEntry", .keep "NoClause", .keep "NoCover", .keep "NoBook", .keep "Twice", .keep "Late", .keep "NotTold"]
def fa7 : List He.Fa := [.glo "WAYS"]
def fa : List He.Fa := fa0 ++ fa1 ++ fa2 ++ fa3 ++ fa4 ++ fa5 ++ fa6 ++ fa7
def lo0 : List PySem.Str := ["_wall", "Counts", "turn_of", "Days", "CoverError", "NoShares", "NoEntry", "NoClause", "NoCover", "NoBook", "Twice", "Late", "NotTold", "is_whole", "show_cents", "LETTERS", "LAST_DAY", "LAST_NUMBER", "MOST_CENTS", "YEAR", "is_name", "is_event", "is_day", "is_amount", "year_of", "loss_of", "WAYS", "need_amount", "Clause", "Own"]
def lo1 : List PySem.Str := ["Layer", "Limit", "cut_within", "lowest_of", "cut_out", "PAID_settling", "numbers_of", "paid_by", "unpaid_by", "strips_of", "paid_in", "settle", "Roll", "MOST_COVERS", "Book", "Condition", "CauseIs", "ThingIs", "DaysIn", "Over", "part_words", "joined_words", "Not", "All", "Some", "MOST_PLACES", "MOST_TURNS", "total_of", "due_by", "next_place"]
def lo2 : List PySem.Str := ["turns", "Deal", "MOST_CLAUSES", "PAID_covers", "need_houses", "left_out", "Cover", "_law_cell", "_law_whole", "_law_mix", "_law_names", "_law_start", "_law_cond", "_law_clause_by", "_law_covers", "_law_losses", "_law_condition", "_law_clause", "_law_book", "_law_enter", "_law_turn", "_law_kind", "_law_entered", "_law_closed", "_law_asked_for", "_law_spoilt", "_law_right", "_law_due", "_law_tried", "_law_closes"]
def lo3 : List PySem.Str := ["_law_walk"]
def loose : List PySem.Str := lo0 ++ lo1 ++ lo2 ++ lo3
end Cv
namespace Cv
/-- an exception class with its own __init__, over ValueError -/
def oexB (K : PySem.W.Frag) (C : PySem.Addr) : Bool := match K.lookup C with
  | some ⟨.type "type", _, .cls cd, sl⟩ => (match cd.mro, sl.toList with
    | .ref C' :: bm, [_, _, _, _, some (.builtin n), _] => C' == C && n == "ValueError.__new__" && !cd.hasDel && cd.hasDict && PySem.HandSPX.refsVE bm
    | _, _ => false)
  | _ => false
def clsVal (K : PySem.W.Frag) (C : PySem.Addr) (v : PySem.Value) : Bool := match PySem.W.findCls K (.ref C) (.type "type") "__init__" with
  | some (.val u) => decide (u = v)
  | _ => false
theorem clsVal_ok {K : PySem.W.Frag} {C : PySem.Addr} {v : PySem.Value} (h : clsVal K C v = true) : PySem.W.findCls K (.ref C) (.type "type") "__init__" = some (.val v) := by
  unfold clsVal at h
  split at h
  · rename_i u e
    rw [e, of_decide_eq_true h]
  · cases h
end Cv
namespace Cv
open PySem PySem.Spec PyProof.Rows L2
def ex0 (K : PySem.W.Frag) : List Bool := [
  PySem.W.excIn K (He.ga K "CoverError") ([.type "ValueError", .type "Exception", .type "BaseException", .type "object"]) "ValueError.__new__",
  decide (PySem.W.subIn K (.ref (He.ga K "CoverError")) (.type "BaseException") = some true),
  decide (PySem.W.typeIn K (.ref (He.ga K "CoverError")) = some (.type "type")),
  PySem.W.excIn K (He.ga K "NoShares") ([.type "ValueError", .type "Exception", .type "BaseException", .type "object"]) "ValueError.__new__",
  decide (PySem.W.subIn K (.ref (He.ga K "NoShares")) (.type "BaseException") = some true),
  decide (PySem.W.typeIn K (.ref (He.ga K "NoShares")) = some (.type "type")),
  PySem.W.excIn K (He.ga K "NoEntry") ([.type "ValueError", .type "Exception", .type "BaseException", .type "object"]) "ValueError.__new__",
  decide (PySem.W.subIn K (.ref (He.ga K "NoEntry")) (.type "BaseException") = some true),
  decide (PySem.W.typeIn K (.ref (He.ga K "NoEntry")) = some (.type "type")),
  decide (PySem.W.exmOne K (.ref (He.ga K "NoEntry")) (.ref (He.ga K "CoverError")) = some true),
  PySem.W.excIn K (He.ga K "NoClause") ([.type "ValueError", .type "Exception", .type "BaseException", .type "object"]) "ValueError.__new__",
  decide (PySem.W.subIn K (.ref (He.ga K "NoClause")) (.type "BaseException") = some true),
  decide (PySem.W.typeIn K (.ref (He.ga K "NoClause")) = some (.type "type")),
  PySem.W.excIn K (He.ga K "NoCover") ([.type "ValueError", .type "Exception", .type "BaseException", .type "object"]) "ValueError.__new__",
  decide (PySem.W.subIn K (.ref (He.ga K "NoCover")) (.type "BaseException") = some true),
  decide (PySem.W.typeIn K (.ref (He.ga K "NoCover")) = some (.type "type")),
  PySem.W.excIn K (He.ga K "NoBook") ([.type "ValueError", .type "Exception", .type "BaseException", .type "object"]) "ValueError.__new__",
  decide (PySem.W.subIn K (.ref (He.ga K "NoBook")) (.type "BaseException") = some true),
  decide (PySem.W.typeIn K (.ref (He.ga K "NoBook")) = some (.type "type")),
  decide (PySem.W.subIn K (.ref (He.ga K "Twice")) (.type "BaseException") = some true),
  decide (PySem.W.typeIn K (.ref (He.ga K "Twice")) = some (.type "type")),
  decide (PySem.W.exmOne K (.ref (He.ga K "Twice")) (.ref (He.ga K "CoverError")) = some true),
  decide (PySem.W.subIn K (.ref (He.ga K "Late")) (.type "BaseException") = some true),
  decide (PySem.W.typeIn K (.ref (He.ga K "Late")) = some (.type "type")),
  decide (PySem.W.exmOne K (.ref (He.ga K "Late")) (.ref (He.ga K "CoverError")) = some true)]
def ex1 (K : PySem.W.Frag) : List Bool := [
  PySem.W.excIn K (He.ga K "NotTold") ([.type "ValueError", .type "Exception", .type "BaseException", .type "object"]) "ValueError.__new__",
  decide (PySem.W.subIn K (.ref (He.ga K "NotTold")) (.type "BaseException") = some true),
  decide (PySem.W.typeIn K (.ref (He.ga K "NotTold")) = some (.type "type")),
  decide (PySem.W.exmOne K (.ref (He.ga K "NotTold")) (.ref (He.ga K "CoverError")) = some true),
  He.tupB K "WAYS" [.str "event", .str "thing", .str "year", .str "loss"],
  decide (PySem.W.findIn K (.ref (He.ga K "Own")) "__class__" = some (some (.builtin "object.__class__"))),
  decide (PySem.W.mroIn K (He.ga K "Own") (.type "object") = some true),
  decide (PySem.W.kitOne K (.ref (He.ga K "Own")) (.ref (He.ga K "Limit")) = some false),
  decide (PySem.W.findIn K (.ref (He.ga K "Layer")) "__class__" = some (some (.builtin "object.__class__"))),
  decide (PySem.W.mroIn K (He.ga K "Layer") (.type "object") = some true),
  decide (PySem.W.kitOne K (.ref (He.ga K "Layer")) (.ref (He.ga K "Limit")) = some false),
  decide (PySem.W.findIn K (.ref (He.ga K "Limit")) "__class__" = some (some (.builtin "object.__class__"))),
  decide (PySem.W.mroIn K (He.ga K "Limit") (.type "object") = some true),
  decide (PySem.W.kitOne K (.ref (He.ga K "Limit")) (.ref (He.ga K "Limit")) = some true),
  decide (PySem.W.specialIn K (.builtin "object.__class__") "__get__" = some (some (.builtin "getset_descriptor.__get__"))),
  decide (PySem.W.takesIn K (.builtin "object.__class__") = some true),
  decide (PySem.W.findIn K (.ref (He.ga K "NoEntry")) "__getattribute__" = some (some (.builtin "BaseException.__getattribute__"))),
  decide (PySem.W.findIn K (.ref (He.ga K "NoEntry")) "__getattr__" = some none),
  decide (PySem.W.hasDictIn K (He.ga K "NoEntry") = true),
  decide (PySem.W.findIn K (.ref (He.ga K "NoEntry")) "__class__" = some (some (.builtin "object.__class__"))),
  decide (PySem.W.mroIn K (He.ga K "NoEntry") (.type "object") = some true),
  decide (PySem.W.kitOne K (.ref (He.ga K "NoEntry")) (.ref (He.ga K "NoEntry")) = some true),
  decide (PySem.W.kitOne K (.ref (He.ga K "NoEntry")) (.ref (He.ga K "Twice")) = some false),
  decide (PySem.W.kitOne K (.ref (He.ga K "NoEntry")) (.ref (He.ga K "Late")) = some false),
  decide (PySem.W.kitOne K (.ref (He.ga K "NoEntry")) (.ref (He.ga K "NotTold")) = some false)]
def ex2 (K : PySem.W.Frag) : List Bool := [
  decide (PySem.W.kitOne K (.ref (He.ga K "NoEntry")) (.ref (He.ga K "NoBook")) = some false),
  decide (PySem.W.kitOne K (.ref (He.ga K "NoEntry")) (.type "ValueError") = some true),
  decide (PySem.W.findIn K (.ref (He.ga K "Twice")) "__getattribute__" = some (some (.builtin "BaseException.__getattribute__"))),
  decide (PySem.W.findIn K (.ref (He.ga K "Twice")) "__getattr__" = some none),
  decide (PySem.W.hasDictIn K (He.ga K "Twice") = true),
  decide (PySem.W.findIn K (.ref (He.ga K "Twice")) "__class__" = some (some (.builtin "object.__class__"))),
  decide (PySem.W.mroIn K (He.ga K "Twice") (.type "object") = some true),
  decide (PySem.W.kitOne K (.ref (He.ga K "Twice")) (.ref (He.ga K "NoEntry")) = some false),
  decide (PySem.W.kitOne K (.ref (He.ga K "Twice")) (.ref (He.ga K "Twice")) = some true),
  decide (PySem.W.kitOne K (.ref (He.ga K "Twice")) (.ref (He.ga K "Late")) = some false),
  decide (PySem.W.kitOne K (.ref (He.ga K "Twice")) (.ref (He.ga K "NotTold")) = some false),
  decide (PySem.W.kitOne K (.ref (He.ga K "Twice")) (.ref (He.ga K "NoBook")) = some false),
  decide (PySem.W.kitOne K (.ref (He.ga K "Twice")) (.type "ValueError") = some true),
  decide (PySem.W.findIn K (.ref (He.ga K "Late")) "__getattribute__" = some (some (.builtin "BaseException.__getattribute__"))),
  decide (PySem.W.findIn K (.ref (He.ga K "Late")) "__getattr__" = some none),
  decide (PySem.W.hasDictIn K (He.ga K "Late") = true),
  decide (PySem.W.findIn K (.ref (He.ga K "Late")) "__class__" = some (some (.builtin "object.__class__"))),
  decide (PySem.W.mroIn K (He.ga K "Late") (.type "object") = some true),
  decide (PySem.W.kitOne K (.ref (He.ga K "Late")) (.ref (He.ga K "NoEntry")) = some false),
  decide (PySem.W.kitOne K (.ref (He.ga K "Late")) (.ref (He.ga K "Twice")) = some false),
  decide (PySem.W.kitOne K (.ref (He.ga K "Late")) (.ref (He.ga K "Late")) = some true),
  decide (PySem.W.kitOne K (.ref (He.ga K "Late")) (.ref (He.ga K "NotTold")) = some false),
  decide (PySem.W.kitOne K (.ref (He.ga K "Late")) (.ref (He.ga K "NoBook")) = some false),
  decide (PySem.W.kitOne K (.ref (He.ga K "Late")) (.type "ValueError") = some true),
  decide (PySem.W.findIn K (.ref (He.ga K "NotTold")) "__getattribute__" = some (some (.builtin "BaseException.__getattribute__")))]
def ex3 (K : PySem.W.Frag) : List Bool := [
  decide (PySem.W.findIn K (.ref (He.ga K "NotTold")) "__getattr__" = some none),
  decide (PySem.W.hasDictIn K (He.ga K "NotTold") = true),
  decide (PySem.W.findIn K (.ref (He.ga K "NotTold")) "__class__" = some (some (.builtin "object.__class__"))),
  decide (PySem.W.mroIn K (He.ga K "NotTold") (.type "object") = some true),
  decide (PySem.W.kitOne K (.ref (He.ga K "NotTold")) (.ref (He.ga K "NoEntry")) = some false),
  decide (PySem.W.kitOne K (.ref (He.ga K "NotTold")) (.ref (He.ga K "Twice")) = some false),
  decide (PySem.W.kitOne K (.ref (He.ga K "NotTold")) (.ref (He.ga K "Late")) = some false),
  decide (PySem.W.kitOne K (.ref (He.ga K "NotTold")) (.ref (He.ga K "NotTold")) = some true),
  decide (PySem.W.kitOne K (.ref (He.ga K "NotTold")) (.ref (He.ga K "NoBook")) = some false),
  decide (PySem.W.kitOne K (.ref (He.ga K "NotTold")) (.type "ValueError") = some true),
  decide (PySem.W.findIn K (.ref (He.ga K "Twice")) "__setattr__" = some (some (.builtin "object.__setattr__"))),
  decide (PySem.W.findIn K (.ref (He.ga K "Twice")) "number" = some none),
  decide (PySem.W.findIn K (.ref (He.ga K "Twice")) "__init__" = some (some (.ref (He.ma K (He.ga K "Twice") "__init__")))),
  decide (PySem.W.typeIn K (.ref (He.ma K (He.ga K "Twice") "__init__")) = some (.type "function")),
  decide (PySem.W.findIn K (.ref (He.ga K "Late")) "__setattr__" = some (some (.builtin "object.__setattr__"))),
  decide (PySem.W.findIn K (.ref (He.ga K "Late")) "day" = some none),
  decide (PySem.W.findIn K (.ref (He.ga K "Late")) "__init__" = some (some (.ref (He.ma K (He.ga K "Late") "__init__")))),
  decide (PySem.W.typeIn K (.ref (He.ma K (He.ga K "Late") "__init__")) = some (.type "function")),
  oexB K (He.ga K "Twice"),
  oexB K (He.ga K "Late"),
  clsVal K (He.ga K "Clause") (.ref (He.ma K (He.ga K "Clause") "__init__")),
  decide (PySem.W.readsIn K (He.ga K "Clause") (.type "type") = true),
  decide (PySem.W.specialIn K (.ref (He.ga K "Clause")) "__getattribute__" = some (some (.builtin "type.__getattribute__"))),
  clsVal K (He.ga K "CoverError") (.builtin "ValueError.__init__"),
  decide (PySem.W.readsIn K (He.ga K "CoverError") (.type "type") = true)]
def ex4 (K : PySem.W.Frag) : List Bool := [
  decide (PySem.W.specialIn K (.ref (He.ga K "CoverError")) "__getattribute__" = some (some (.builtin "type.__getattribute__"))),
  PySem.W.keepIn K (.ref (He.ma K (He.ga K "Clause") "__init__")),
  PySem.W.makesIn K (He.ga K "Condition"),
  PySem.W.keepIn K (.ref (He.ga K "Condition")),
  decide (PySem.W.findIn K (.ref (He.ga K "Condition")) "__init__" = some (some (.builtin "object.__init__")))]
def exB (K : PySem.W.Frag) : Bool := (ex0 K).all id && (ex1 K).all id && (ex2 K).all id && (ex3 K).all id && (ex4 K).all id
/-- what the top has written -/
structure Txt (K : PySem.W.Frag) (mg : Str → Option Value) : Prop where
  facts : He.SaysD fa [] K
  defs : ∀ (i : Nat) (d : He.DefD), fn[i]? = some d → ∃ fd, FunD K d.name d.qual d.params d.body d.scope (d.dvs K) (d.kws K) (He.fAd K d.at_) fd
  more : exB K = true
  heap : ∃ h : Heap, K.In h ∧ h.Ns mainGlobals mg
section
variable {K : PySem.W.Frag} {mg : Str → Option Value}
theorem Txt.glo (T : Txt K mg) (i : Nat) {x : Str} (h : fa[i]? = some (.glo x)) : mg x = some (.ref (He.ga K x)) := by
  obtain ⟨hp, X, G⟩ := T.heap
  exact He.glo_ok X G (T.facts.fact i h)
theorem Txt.free (T : Txt K mg) (i : Nat) {x : Str} (h : fa[i]? = some (.free x)) : mg x = none := by
  obtain ⟨hp, X, G⟩ := T.heap
  exact He.free_ok X G (T.facts.fact i h)
theorem Txt.int (T : Txt K mg) (i : Nat) {x : Str} {n : Int} (h : fa[i]? = some (.int x n)) : ∃ u, mg x = some u ∧ RelV (.int n) u := by
  obtain ⟨hp, X, G⟩ := T.heap
  obtain ⟨t, e⟩ := He.int_ok X G (T.facts.fact i h)
  exact ⟨_, e, t, rfl⟩
theorem Txt.str (T : Txt K mg) (i : Nat) {x n : Str} (h : fa[i]? = some (.str x n)) : ∃ u, mg x = some u ∧ RelV (.str n) u := by
  obtain ⟨hp, X, G⟩ := T.heap
  obtain ⟨t, e⟩ := He.str_ok X G (T.facts.fact i h)
  exact ⟨_, e, t, rfl⟩
theorem Txt.ex0 (T : Txt K mg) (i : Nat) {b : Bool} (h : (Cv.ex0 K)[i]? = some b) : b = true := by
  have m := T.more
  unfold exB at m
  simp only [Bool.and_eq_true] at m
  exact List.all_eq_true.mp m.1.1.1.1 b (List.mem_of_getElem? h)
theorem Txt.ex1 (T : Txt K mg) (i : Nat) {b : Bool} (h : (Cv.ex1 K)[i]? = some b) : b = true := by
  have m := T.more
  unfold exB at m
  simp only [Bool.and_eq_true] at m
  exact List.all_eq_true.mp m.1.1.1.2 b (List.mem_of_getElem? h)
theorem Txt.ex2 (T : Txt K mg) (i : Nat) {b : Bool} (h : (Cv.ex2 K)[i]? = some b) : b = true := by
  have m := T.more
  unfold exB at m
  simp only [Bool.and_eq_true] at m
  exact List.all_eq_true.mp m.1.1.2 b (List.mem_of_getElem? h)
theorem Txt.ex3 (T : Txt K mg) (i : Nat) {b : Bool} (h : (Cv.ex3 K)[i]? = some b) : b = true := by
  have m := T.more
  unfold exB at m
  simp only [Bool.and_eq_true] at m
  exact List.all_eq_true.mp m.1.2 b (List.mem_of_getElem? h)
theorem Txt.ex4 (T : Txt K mg) (i : Nat) {b : Bool} (h : (Cv.ex4 K)[i]? = some b) : b = true := by
  have m := T.more
  unfold exB at m
  simp only [Bool.and_eq_true] at m
  exact List.all_eq_true.mp m.2 b (List.mem_of_getElem? h)
theorem Txt.xc_CoverError (T : Txt K mg) : PySem.W.excIn K (He.ga K "CoverError") ([.type "ValueError", .type "Exception", .type "BaseException", .type "object"]) "ValueError.__new__" = true := T.ex0 0 rfl
theorem Txt.sb_CoverError (T : Txt K mg) : PySem.W.subIn K (.ref (He.ga K "CoverError")) (.type "BaseException") = some true := of_decide_eq_true (T.ex0 1 rfl)
theorem Txt.tp_CoverError (T : Txt K mg) : PySem.W.typeIn K (.ref (He.ga K "CoverError")) = some (.type "type") := of_decide_eq_true (T.ex0 2 rfl)
theorem Txt.xc_NoShares (T : Txt K mg) : PySem.W.excIn K (He.ga K "NoShares") ([.type "ValueError", .type "Exception", .type "BaseException", .type "object"]) "ValueError.__new__" = true := T.ex0 3 rfl
theorem Txt.sb_NoShares (T : Txt K mg) : PySem.W.subIn K (.ref (He.ga K "NoShares")) (.type "BaseException") = some true := of_decide_eq_true (T.ex0 4 rfl)
theorem Txt.tp_NoShares (T : Txt K mg) : PySem.W.typeIn K (.ref (He.ga K "NoShares")) = some (.type "type") := of_decide_eq_true (T.ex0 5 rfl)
theorem Txt.xc_NoEntry (T : Txt K mg) : PySem.W.excIn K (He.ga K "NoEntry") ([.type "ValueError", .type "Exception", .type "BaseException", .type "object"]) "ValueError.__new__" = true := T.ex0 6 rfl
theorem Txt.sb_NoEntry (T : Txt K mg) : PySem.W.subIn K (.ref (He.ga K "NoEntry")) (.type "BaseException") = some true := of_decide_eq_true (T.ex0 7 rfl)
theorem Txt.tp_NoEntry (T : Txt K mg) : PySem.W.typeIn K (.ref (He.ga K "NoEntry")) = some (.type "type") := of_decide_eq_true (T.ex0 8 rfl)
theorem Txt.ek_NoEntry (T : Txt K mg) : PySem.W.exmOne K (.ref (He.ga K "NoEntry")) (.ref (He.ga K "CoverError")) = some true := of_decide_eq_true (T.ex0 9 rfl)
theorem Txt.xc_NoClause (T : Txt K mg) : PySem.W.excIn K (He.ga K "NoClause") ([.type "ValueError", .type "Exception", .type "BaseException", .type "object"]) "ValueError.__new__" = true := T.ex0 10 rfl
theorem Txt.sb_NoClause (T : Txt K mg) : PySem.W.subIn K (.ref (He.ga K "NoClause")) (.type "BaseException") = some true := of_decide_eq_true (T.ex0 11 rfl)
theorem Txt.tp_NoClause (T : Txt K mg) : PySem.W.typeIn K (.ref (He.ga K "NoClause")) = some (.type "type") := of_decide_eq_true (T.ex0 12 rfl)
theorem Txt.xc_NoCover (T : Txt K mg) : PySem.W.excIn K (He.ga K "NoCover") ([.type "ValueError", .type "Exception", .type "BaseException", .type "object"]) "ValueError.__new__" = true := T.ex0 13 rfl
theorem Txt.sb_NoCover (T : Txt K mg) : PySem.W.subIn K (.ref (He.ga K "NoCover")) (.type "BaseException") = some true := of_decide_eq_true (T.ex0 14 rfl)
theorem Txt.tp_NoCover (T : Txt K mg) : PySem.W.typeIn K (.ref (He.ga K "NoCover")) = some (.type "type") := of_decide_eq_true (T.ex0 15 rfl)
theorem Txt.xc_NoBook (T : Txt K mg) : PySem.W.excIn K (He.ga K "NoBook") ([.type "ValueError", .type "Exception", .type "BaseException", .type "object"]) "ValueError.__new__" = true := T.ex0 16 rfl
theorem Txt.sb_NoBook (T : Txt K mg) : PySem.W.subIn K (.ref (He.ga K "NoBook")) (.type "BaseException") = some true := of_decide_eq_true (T.ex0 17 rfl)
theorem Txt.tp_NoBook (T : Txt K mg) : PySem.W.typeIn K (.ref (He.ga K "NoBook")) = some (.type "type") := of_decide_eq_true (T.ex0 18 rfl)
theorem Txt.sb_Twice (T : Txt K mg) : PySem.W.subIn K (.ref (He.ga K "Twice")) (.type "BaseException") = some true := of_decide_eq_true (T.ex0 19 rfl)
theorem Txt.tp_Twice (T : Txt K mg) : PySem.W.typeIn K (.ref (He.ga K "Twice")) = some (.type "type") := of_decide_eq_true (T.ex0 20 rfl)
theorem Txt.ek_Twice (T : Txt K mg) : PySem.W.exmOne K (.ref (He.ga K "Twice")) (.ref (He.ga K "CoverError")) = some true := of_decide_eq_true (T.ex0 21 rfl)
theorem Txt.sb_Late (T : Txt K mg) : PySem.W.subIn K (.ref (He.ga K "Late")) (.type "BaseException") = some true := of_decide_eq_true (T.ex0 22 rfl)
theorem Txt.tp_Late (T : Txt K mg) : PySem.W.typeIn K (.ref (He.ga K "Late")) = some (.type "type") := of_decide_eq_true (T.ex0 23 rfl)
theorem Txt.ek_Late (T : Txt K mg) : PySem.W.exmOne K (.ref (He.ga K "Late")) (.ref (He.ga K "CoverError")) = some true := of_decide_eq_true (T.ex0 24 rfl)
theorem Txt.xc_NotTold (T : Txt K mg) : PySem.W.excIn K (He.ga K "NotTold") ([.type "ValueError", .type "Exception", .type "BaseException", .type "object"]) "ValueError.__new__" = true := T.ex1 0 rfl
theorem Txt.sb_NotTold (T : Txt K mg) : PySem.W.subIn K (.ref (He.ga K "NotTold")) (.type "BaseException") = some true := of_decide_eq_true (T.ex1 1 rfl)
theorem Txt.tp_NotTold (T : Txt K mg) : PySem.W.typeIn K (.ref (He.ga K "NotTold")) = some (.type "type") := of_decide_eq_true (T.ex1 2 rfl)
theorem Txt.ek_NotTold (T : Txt K mg) : PySem.W.exmOne K (.ref (He.ga K "NotTold")) (.ref (He.ga K "CoverError")) = some true := of_decide_eq_true (T.ex1 3 rfl)
theorem Txt.ways (T : Txt K mg) : He.tupB K "WAYS" [.str "event", .str "thing", .str "year", .str "loss"] = true := T.ex1 4 rfl
theorem Txt.ia_Own (T : Txt K mg) : PySem.W.findIn K (.ref (He.ga K "Own")) "__class__" = some (some (.builtin "object.__class__")) := of_decide_eq_true (T.ex1 5 rfl)
theorem Txt.im_Own (T : Txt K mg) : PySem.W.mroIn K (He.ga K "Own") (.type "object") = some true := of_decide_eq_true (T.ex1 6 rfl)
theorem Txt.ik_Own (T : Txt K mg) : PySem.W.kitOne K (.ref (He.ga K "Own")) (.ref (He.ga K "Limit")) = some false := of_decide_eq_true (T.ex1 7 rfl)
theorem Txt.ia_Layer (T : Txt K mg) : PySem.W.findIn K (.ref (He.ga K "Layer")) "__class__" = some (some (.builtin "object.__class__")) := of_decide_eq_true (T.ex1 8 rfl)
theorem Txt.im_Layer (T : Txt K mg) : PySem.W.mroIn K (He.ga K "Layer") (.type "object") = some true := of_decide_eq_true (T.ex1 9 rfl)
theorem Txt.ik_Layer (T : Txt K mg) : PySem.W.kitOne K (.ref (He.ga K "Layer")) (.ref (He.ga K "Limit")) = some false := of_decide_eq_true (T.ex1 10 rfl)
theorem Txt.ia_Limit (T : Txt K mg) : PySem.W.findIn K (.ref (He.ga K "Limit")) "__class__" = some (some (.builtin "object.__class__")) := of_decide_eq_true (T.ex1 11 rfl)
theorem Txt.im_Limit (T : Txt K mg) : PySem.W.mroIn K (He.ga K "Limit") (.type "object") = some true := of_decide_eq_true (T.ex1 12 rfl)
theorem Txt.ik_Limit (T : Txt K mg) : PySem.W.kitOne K (.ref (He.ga K "Limit")) (.ref (He.ga K "Limit")) = some true := of_decide_eq_true (T.ex1 13 rfl)
theorem Txt.oc (T : Txt K mg) : PySem.W.specialIn K (.builtin "object.__class__") "__get__" = some (some (.builtin "getset_descriptor.__get__")) := of_decide_eq_true (T.ex1 14 rfl)
theorem Txt.ot (T : Txt K mg) : PySem.W.takesIn K (.builtin "object.__class__") = some true := of_decide_eq_true (T.ex1 15 rfl)
theorem Txt.xg_NoEntry (T : Txt K mg) : PySem.W.findIn K (.ref (He.ga K "NoEntry")) "__getattribute__" = some (some (.builtin "BaseException.__getattribute__")) := of_decide_eq_true (T.ex1 16 rfl)
theorem Txt.xk_NoEntry (T : Txt K mg) : PySem.W.findIn K (.ref (He.ga K "NoEntry")) "__getattr__" = some none := of_decide_eq_true (T.ex1 17 rfl)
theorem Txt.xd_NoEntry (T : Txt K mg) : PySem.W.hasDictIn K (He.ga K "NoEntry") = true := of_decide_eq_true (T.ex1 18 rfl)
theorem Txt.xa_NoEntry (T : Txt K mg) : PySem.W.findIn K (.ref (He.ga K "NoEntry")) "__class__" = some (some (.builtin "object.__class__")) := of_decide_eq_true (T.ex1 19 rfl)
theorem Txt.xm_NoEntry (T : Txt K mg) : PySem.W.mroIn K (He.ga K "NoEntry") (.type "object") = some true := of_decide_eq_true (T.ex1 20 rfl)
theorem Txt.xi_NoEntry_NoEntry (T : Txt K mg) : PySem.W.kitOne K (.ref (He.ga K "NoEntry")) (.ref (He.ga K "NoEntry")) = some true := of_decide_eq_true (T.ex1 21 rfl)
theorem Txt.xi_Twice_NoEntry (T : Txt K mg) : PySem.W.kitOne K (.ref (He.ga K "NoEntry")) (.ref (He.ga K "Twice")) = some false := of_decide_eq_true (T.ex1 22 rfl)
theorem Txt.xi_Late_NoEntry (T : Txt K mg) : PySem.W.kitOne K (.ref (He.ga K "NoEntry")) (.ref (He.ga K "Late")) = some false := of_decide_eq_true (T.ex1 23 rfl)
theorem Txt.xi_NotTold_NoEntry (T : Txt K mg) : PySem.W.kitOne K (.ref (He.ga K "NoEntry")) (.ref (He.ga K "NotTold")) = some false := of_decide_eq_true (T.ex1 24 rfl)
theorem Txt.xi_NoBook_NoEntry (T : Txt K mg) : PySem.W.kitOne K (.ref (He.ga K "NoEntry")) (.ref (He.ga K "NoBook")) = some false := of_decide_eq_true (T.ex2 0 rfl)
theorem Txt.xv_NoEntry (T : Txt K mg) : PySem.W.kitOne K (.ref (He.ga K "NoEntry")) (.type "ValueError") = some true := of_decide_eq_true (T.ex2 1 rfl)
theorem Txt.xg_Twice (T : Txt K mg) : PySem.W.findIn K (.ref (He.ga K "Twice")) "__getattribute__" = some (some (.builtin "BaseException.__getattribute__")) := of_decide_eq_true (T.ex2 2 rfl)
theorem Txt.xk_Twice (T : Txt K mg) : PySem.W.findIn K (.ref (He.ga K "Twice")) "__getattr__" = some none := of_decide_eq_true (T.ex2 3 rfl)
theorem Txt.xd_Twice (T : Txt K mg) : PySem.W.hasDictIn K (He.ga K "Twice") = true := of_decide_eq_true (T.ex2 4 rfl)
theorem Txt.xa_Twice (T : Txt K mg) : PySem.W.findIn K (.ref (He.ga K "Twice")) "__class__" = some (some (.builtin "object.__class__")) := of_decide_eq_true (T.ex2 5 rfl)
theorem Txt.xm_Twice (T : Txt K mg) : PySem.W.mroIn K (He.ga K "Twice") (.type "object") = some true := of_decide_eq_true (T.ex2 6 rfl)
theorem Txt.xi_NoEntry_Twice (T : Txt K mg) : PySem.W.kitOne K (.ref (He.ga K "Twice")) (.ref (He.ga K "NoEntry")) = some false := of_decide_eq_true (T.ex2 7 rfl)
theorem Txt.xi_Twice_Twice (T : Txt K mg) : PySem.W.kitOne K (.ref (He.ga K "Twice")) (.ref (He.ga K "Twice")) = some true := of_decide_eq_true (T.ex2 8 rfl)
theorem Txt.xi_Late_Twice (T : Txt K mg) : PySem.W.kitOne K (.ref (He.ga K "Twice")) (.ref (He.ga K "Late")) = some false := of_decide_eq_true (T.ex2 9 rfl)
theorem Txt.xi_NotTold_Twice (T : Txt K mg) : PySem.W.kitOne K (.ref (He.ga K "Twice")) (.ref (He.ga K "NotTold")) = some false := of_decide_eq_true (T.ex2 10 rfl)
theorem Txt.xi_NoBook_Twice (T : Txt K mg) : PySem.W.kitOne K (.ref (He.ga K "Twice")) (.ref (He.ga K "NoBook")) = some false := of_decide_eq_true (T.ex2 11 rfl)
theorem Txt.xv_Twice (T : Txt K mg) : PySem.W.kitOne K (.ref (He.ga K "Twice")) (.type "ValueError") = some true := of_decide_eq_true (T.ex2 12 rfl)
theorem Txt.xg_Late (T : Txt K mg) : PySem.W.findIn K (.ref (He.ga K "Late")) "__getattribute__" = some (some (.builtin "BaseException.__getattribute__")) := of_decide_eq_true (T.ex2 13 rfl)
theorem Txt.xk_Late (T : Txt K mg) : PySem.W.findIn K (.ref (He.ga K "Late")) "__getattr__" = some none := of_decide_eq_true (T.ex2 14 rfl)
theorem Txt.xd_Late (T : Txt K mg) : PySem.W.hasDictIn K (He.ga K "Late") = true := of_decide_eq_true (T.ex2 15 rfl)
theorem Txt.xa_Late (T : Txt K mg) : PySem.W.findIn K (.ref (He.ga K "Late")) "__class__" = some (some (.builtin "object.__class__")) := of_decide_eq_true (T.ex2 16 rfl)
theorem Txt.xm_Late (T : Txt K mg) : PySem.W.mroIn K (He.ga K "Late") (.type "object") = some true := of_decide_eq_true (T.ex2 17 rfl)
theorem Txt.xi_NoEntry_Late (T : Txt K mg) : PySem.W.kitOne K (.ref (He.ga K "Late")) (.ref (He.ga K "NoEntry")) = some false := of_decide_eq_true (T.ex2 18 rfl)
theorem Txt.xi_Twice_Late (T : Txt K mg) : PySem.W.kitOne K (.ref (He.ga K "Late")) (.ref (He.ga K "Twice")) = some false := of_decide_eq_true (T.ex2 19 rfl)
theorem Txt.xi_Late_Late (T : Txt K mg) : PySem.W.kitOne K (.ref (He.ga K "Late")) (.ref (He.ga K "Late")) = some true := of_decide_eq_true (T.ex2 20 rfl)
theorem Txt.xi_NotTold_Late (T : Txt K mg) : PySem.W.kitOne K (.ref (He.ga K "Late")) (.ref (He.ga K "NotTold")) = some false := of_decide_eq_true (T.ex2 21 rfl)
theorem Txt.xi_NoBook_Late (T : Txt K mg) : PySem.W.kitOne K (.ref (He.ga K "Late")) (.ref (He.ga K "NoBook")) = some false := of_decide_eq_true (T.ex2 22 rfl)
theorem Txt.xv_Late (T : Txt K mg) : PySem.W.kitOne K (.ref (He.ga K "Late")) (.type "ValueError") = some true := of_decide_eq_true (T.ex2 23 rfl)
theorem Txt.xg_NotTold (T : Txt K mg) : PySem.W.findIn K (.ref (He.ga K "NotTold")) "__getattribute__" = some (some (.builtin "BaseException.__getattribute__")) := of_decide_eq_true (T.ex2 24 rfl)
theorem Txt.xk_NotTold (T : Txt K mg) : PySem.W.findIn K (.ref (He.ga K "NotTold")) "__getattr__" = some none := of_decide_eq_true (T.ex3 0 rfl)
theorem Txt.xd_NotTold (T : Txt K mg) : PySem.W.hasDictIn K (He.ga K "NotTold") = true := of_decide_eq_true (T.ex3 1 rfl)
theorem Txt.xa_NotTold (T : Txt K mg) : PySem.W.findIn K (.ref (He.ga K "NotTold")) "__class__" = some (some (.builtin "object.__class__")) := of_decide_eq_true (T.ex3 2 rfl)
theorem Txt.xm_NotTold (T : Txt K mg) : PySem.W.mroIn K (He.ga K "NotTold") (.type "object") = some true := of_decide_eq_true (T.ex3 3 rfl)
theorem Txt.xi_NoEntry_NotTold (T : Txt K mg) : PySem.W.kitOne K (.ref (He.ga K "NotTold")) (.ref (He.ga K "NoEntry")) = some false := of_decide_eq_true (T.ex3 4 rfl)
theorem Txt.xi_Twice_NotTold (T : Txt K mg) : PySem.W.kitOne K (.ref (He.ga K "NotTold")) (.ref (He.ga K "Twice")) = some false := of_decide_eq_true (T.ex3 5 rfl)
theorem Txt.xi_Late_NotTold (T : Txt K mg) : PySem.W.kitOne K (.ref (He.ga K "NotTold")) (.ref (He.ga K "Late")) = some false := of_decide_eq_true (T.ex3 6 rfl)
theorem Txt.xi_NotTold_NotTold (T : Txt K mg) : PySem.W.kitOne K (.ref (He.ga K "NotTold")) (.ref (He.ga K "NotTold")) = some true := of_decide_eq_true (T.ex3 7 rfl)
theorem Txt.xi_NoBook_NotTold (T : Txt K mg) : PySem.W.kitOne K (.ref (He.ga K "NotTold")) (.ref (He.ga K "NoBook")) = some false := of_decide_eq_true (T.ex3 8 rfl)
theorem Txt.xv_NotTold (T : Txt K mg) : PySem.W.kitOne K (.ref (He.ga K "NotTold")) (.type "ValueError") = some true := of_decide_eq_true (T.ex3 9 rfl)
theorem Txt.xs_Twice (T : Txt K mg) : PySem.W.findIn K (.ref (He.ga K "Twice")) "__setattr__" = some (some (.builtin "object.__setattr__")) := of_decide_eq_true (T.ex3 10 rfl)
theorem Txt.xn_Twice (T : Txt K mg) : PySem.W.findIn K (.ref (He.ga K "Twice")) "number" = some none := of_decide_eq_true (T.ex3 11 rfl)
theorem Txt.xj_Twice (T : Txt K mg) : PySem.W.findIn K (.ref (He.ga K "Twice")) "__init__" = some (some (.ref (He.ma K (He.ga K "Twice") "__init__"))) := of_decide_eq_true (T.ex3 12 rfl)
theorem Txt.xf_Twice (T : Txt K mg) : PySem.W.typeIn K (.ref (He.ma K (He.ga K "Twice") "__init__")) = some (.type "function") := of_decide_eq_true (T.ex3 13 rfl)
theorem Txt.xs_Late (T : Txt K mg) : PySem.W.findIn K (.ref (He.ga K "Late")) "__setattr__" = some (some (.builtin "object.__setattr__")) := of_decide_eq_true (T.ex3 14 rfl)
theorem Txt.xn_Late (T : Txt K mg) : PySem.W.findIn K (.ref (He.ga K "Late")) "day" = some none := of_decide_eq_true (T.ex3 15 rfl)
theorem Txt.xj_Late (T : Txt K mg) : PySem.W.findIn K (.ref (He.ga K "Late")) "__init__" = some (some (.ref (He.ma K (He.ga K "Late") "__init__"))) := of_decide_eq_true (T.ex3 16 rfl)
theorem Txt.xf_Late (T : Txt K mg) : PySem.W.typeIn K (.ref (He.ma K (He.ga K "Late") "__init__")) = some (.type "function") := of_decide_eq_true (T.ex3 17 rfl)
theorem Txt.ox_Twice (T : Txt K mg) : oexB K (He.ga K "Twice") = true := T.ex3 18 rfl
theorem Txt.ox_Late (T : Txt K mg) : oexB K (He.ga K "Late") = true := T.ex3 19 rfl
theorem Txt.ri_Clause (T : Txt K mg) : PySem.W.findCls K (.ref (He.ga K "Clause")) (.type "type") "__init__" = some (.val (.ref (He.ma K (He.ga K "Clause") "__init__"))) := clsVal_ok (T.ex3 20 rfl)
theorem Txt.rr_Clause (T : Txt K mg) : PySem.W.readsIn K (He.ga K "Clause") (.type "type") = true := of_decide_eq_true (T.ex3 21 rfl)
theorem Txt.rg_Clause (T : Txt K mg) : PySem.W.specialIn K (.ref (He.ga K "Clause")) "__getattribute__" = some (some (.builtin "type.__getattribute__")) := of_decide_eq_true (T.ex3 22 rfl)
theorem Txt.ri_CoverError (T : Txt K mg) : PySem.W.findCls K (.ref (He.ga K "CoverError")) (.type "type") "__init__" = some (.val (.builtin "ValueError.__init__")) := clsVal_ok (T.ex3 23 rfl)
theorem Txt.rr_CoverError (T : Txt K mg) : PySem.W.readsIn K (He.ga K "CoverError") (.type "type") = true := of_decide_eq_true (T.ex3 24 rfl)
theorem Txt.rg_CoverError (T : Txt K mg) : PySem.W.specialIn K (.ref (He.ga K "CoverError")) "__getattribute__" = some (some (.builtin "type.__getattribute__")) := of_decide_eq_true (T.ex4 0 rfl)
theorem Txt.kclause (T : Txt K mg) : PySem.W.keepIn K (.ref (He.ma K (He.ga K "Clause") "__init__")) = true := T.ex4 1 rfl
theorem Txt.cond (T : Txt K mg) : PySem.W.makesIn K (He.ga K "Condition") = true := T.ex4 2 rfl
theorem Txt.condk (T : Txt K mg) : PySem.W.keepIn K (.ref (He.ga K "Condition")) = true := T.ex4 3 rfl
theorem Txt.condi (T : Txt K mg) : PySem.W.findIn K (.ref (He.ga K "Condition")) "__init__" = some (some (.builtin "object.__init__")) := of_decide_eq_true (T.ex4 4 rfl)
theorem Txt.g_Counts (T : Txt K mg) : mg "Counts" = some (.ref (He.ga K "Counts")) := T.glo 0 rfl
theorem Txt.c_Counts (T : Txt K mg) : ∃ u, mg "Counts" = some u ∧ RelV (.ref (He.ga K "Counts")) u := ⟨_, T.g_Counts, rfl⟩
theorem Txt.g_turn_of (T : Txt K mg) : mg "turn_of" = some (.ref (He.ga K "turn_of")) := T.glo 1 rfl
theorem Txt.c_turn_of (T : Txt K mg) : ∃ u, mg "turn_of" = some u ∧ RelV (.ref (He.ga K "turn_of")) u := ⟨_, T.g_turn_of, rfl⟩
theorem Txt.g_Days (T : Txt K mg) : mg "Days" = some (.ref (He.ga K "Days")) := T.glo 2 rfl
theorem Txt.c_Days (T : Txt K mg) : ∃ u, mg "Days" = some u ∧ RelV (.ref (He.ga K "Days")) u := ⟨_, T.g_Days, rfl⟩
theorem Txt.g_CoverError (T : Txt K mg) : mg "CoverError" = some (.ref (He.ga K "CoverError")) := T.glo 3 rfl
theorem Txt.c_CoverError (T : Txt K mg) : ∃ u, mg "CoverError" = some u ∧ RelV (.ref (He.ga K "CoverError")) u := ⟨_, T.g_CoverError, rfl⟩
theorem Txt.g_NoShares (T : Txt K mg) : mg "NoShares" = some (.ref (He.ga K "NoShares")) := T.glo 4 rfl
theorem Txt.c_NoShares (T : Txt K mg) : ∃ u, mg "NoShares" = some u ∧ RelV (.ref (He.ga K "NoShares")) u := ⟨_, T.g_NoShares, rfl⟩
theorem Txt.g_NoEntry (T : Txt K mg) : mg "NoEntry" = some (.ref (He.ga K "NoEntry")) := T.glo 5 rfl
theorem Txt.c_NoEntry (T : Txt K mg) : ∃ u, mg "NoEntry" = some u ∧ RelV (.ref (He.ga K "NoEntry")) u := ⟨_, T.g_NoEntry, rfl⟩
theorem Txt.g_NoClause (T : Txt K mg) : mg "NoClause" = some (.ref (He.ga K "NoClause")) := T.glo 6 rfl
theorem Txt.c_NoClause (T : Txt K mg) : ∃ u, mg "NoClause" = some u ∧ RelV (.ref (He.ga K "NoClause")) u := ⟨_, T.g_NoClause, rfl⟩
theorem Txt.g_NoCover (T : Txt K mg) : mg "NoCover" = some (.ref (He.ga K "NoCover")) := T.glo 7 rfl
theorem Txt.c_NoCover (T : Txt K mg) : ∃ u, mg "NoCover" = some u ∧ RelV (.ref (He.ga K "NoCover")) u := ⟨_, T.g_NoCover, rfl⟩
theorem Txt.g_NoBook (T : Txt K mg) : mg "NoBook" = some (.ref (He.ga K "NoBook")) := T.glo 8 rfl
theorem Txt.c_NoBook (T : Txt K mg) : ∃ u, mg "NoBook" = some u ∧ RelV (.ref (He.ga K "NoBook")) u := ⟨_, T.g_NoBook, rfl⟩
theorem Txt.g_Twice (T : Txt K mg) : mg "Twice" = some (.ref (He.ga K "Twice")) := T.glo 9 rfl
theorem Txt.c_Twice (T : Txt K mg) : ∃ u, mg "Twice" = some u ∧ RelV (.ref (He.ga K "Twice")) u := ⟨_, T.g_Twice, rfl⟩
theorem Txt.g_Late (T : Txt K mg) : mg "Late" = some (.ref (He.ga K "Late")) := T.glo 10 rfl
theorem Txt.c_Late (T : Txt K mg) : ∃ u, mg "Late" = some u ∧ RelV (.ref (He.ga K "Late")) u := ⟨_, T.g_Late, rfl⟩
theorem Txt.g_NotTold (T : Txt K mg) : mg "NotTold" = some (.ref (He.ga K "NotTold")) := T.glo 11 rfl
theorem Txt.c_NotTold (T : Txt K mg) : ∃ u, mg "NotTold" = some u ∧ RelV (.ref (He.ga K "NotTold")) u := ⟨_, T.g_NotTold, rfl⟩
theorem Txt.g_is_whole (T : Txt K mg) : mg "is_whole" = some (.ref (He.ga K "is_whole")) := T.glo 12 rfl
theorem Txt.c_is_whole (T : Txt K mg) : ∃ u, mg "is_whole" = some u ∧ RelV (.ref (He.ga K "is_whole")) u := ⟨_, T.g_is_whole, rfl⟩
theorem Txt.g_is_name (T : Txt K mg) : mg "is_name" = some (.ref (He.ga K "is_name")) := T.glo 13 rfl
theorem Txt.c_is_name (T : Txt K mg) : ∃ u, mg "is_name" = some u ∧ RelV (.ref (He.ga K "is_name")) u := ⟨_, T.g_is_name, rfl⟩
theorem Txt.g_is_event (T : Txt K mg) : mg "is_event" = some (.ref (He.ga K "is_event")) := T.glo 14 rfl
theorem Txt.c_is_event (T : Txt K mg) : ∃ u, mg "is_event" = some u ∧ RelV (.ref (He.ga K "is_event")) u := ⟨_, T.g_is_event, rfl⟩
theorem Txt.g_is_day (T : Txt K mg) : mg "is_day" = some (.ref (He.ga K "is_day")) := T.glo 15 rfl
theorem Txt.c_is_day (T : Txt K mg) : ∃ u, mg "is_day" = some u ∧ RelV (.ref (He.ga K "is_day")) u := ⟨_, T.g_is_day, rfl⟩
theorem Txt.g_is_amount (T : Txt K mg) : mg "is_amount" = some (.ref (He.ga K "is_amount")) := T.glo 16 rfl
theorem Txt.c_is_amount (T : Txt K mg) : ∃ u, mg "is_amount" = some u ∧ RelV (.ref (He.ga K "is_amount")) u := ⟨_, T.g_is_amount, rfl⟩
theorem Txt.g_year_of (T : Txt K mg) : mg "year_of" = some (.ref (He.ga K "year_of")) := T.glo 17 rfl
theorem Txt.c_year_of (T : Txt K mg) : ∃ u, mg "year_of" = some u ∧ RelV (.ref (He.ga K "year_of")) u := ⟨_, T.g_year_of, rfl⟩
theorem Txt.g_loss_of (T : Txt K mg) : mg "loss_of" = some (.ref (He.ga K "loss_of")) := T.glo 18 rfl
theorem Txt.c_loss_of (T : Txt K mg) : ∃ u, mg "loss_of" = some u ∧ RelV (.ref (He.ga K "loss_of")) u := ⟨_, T.g_loss_of, rfl⟩
theorem Txt.g_need_amount (T : Txt K mg) : mg "need_amount" = some (.ref (He.ga K "need_amount")) := T.glo 19 rfl
theorem Txt.c_need_amount (T : Txt K mg) : ∃ u, mg "need_amount" = some u ∧ RelV (.ref (He.ga K "need_amount")) u := ⟨_, T.g_need_amount, rfl⟩
theorem Txt.g_Clause (T : Txt K mg) : mg "Clause" = some (.ref (He.ga K "Clause")) := T.glo 20 rfl
theorem Txt.c_Clause (T : Txt K mg) : ∃ u, mg "Clause" = some u ∧ RelV (.ref (He.ga K "Clause")) u := ⟨_, T.g_Clause, rfl⟩
theorem Txt.g_Own (T : Txt K mg) : mg "Own" = some (.ref (He.ga K "Own")) := T.glo 21 rfl
theorem Txt.c_Own (T : Txt K mg) : ∃ u, mg "Own" = some u ∧ RelV (.ref (He.ga K "Own")) u := ⟨_, T.g_Own, rfl⟩
theorem Txt.g_Layer (T : Txt K mg) : mg "Layer" = some (.ref (He.ga K "Layer")) := T.glo 22 rfl
theorem Txt.c_Layer (T : Txt K mg) : ∃ u, mg "Layer" = some u ∧ RelV (.ref (He.ga K "Layer")) u := ⟨_, T.g_Layer, rfl⟩
theorem Txt.g_Limit (T : Txt K mg) : mg "Limit" = some (.ref (He.ga K "Limit")) := T.glo 23 rfl
theorem Txt.c_Limit (T : Txt K mg) : ∃ u, mg "Limit" = some u ∧ RelV (.ref (He.ga K "Limit")) u := ⟨_, T.g_Limit, rfl⟩
theorem Txt.g_cut_within (T : Txt K mg) : mg "cut_within" = some (.ref (He.ga K "cut_within")) := T.glo 24 rfl
theorem Txt.c_cut_within (T : Txt K mg) : ∃ u, mg "cut_within" = some u ∧ RelV (.ref (He.ga K "cut_within")) u := ⟨_, T.g_cut_within, rfl⟩
theorem Txt.g_lowest_of (T : Txt K mg) : mg "lowest_of" = some (.ref (He.ga K "lowest_of")) := T.glo 25 rfl
theorem Txt.c_lowest_of (T : Txt K mg) : ∃ u, mg "lowest_of" = some u ∧ RelV (.ref (He.ga K "lowest_of")) u := ⟨_, T.g_lowest_of, rfl⟩
theorem Txt.g_cut_out (T : Txt K mg) : mg "cut_out" = some (.ref (He.ga K "cut_out")) := T.glo 26 rfl
theorem Txt.c_cut_out (T : Txt K mg) : ∃ u, mg "cut_out" = some u ∧ RelV (.ref (He.ga K "cut_out")) u := ⟨_, T.g_cut_out, rfl⟩
theorem Txt.g_numbers_of (T : Txt K mg) : mg "numbers_of" = some (.ref (He.ga K "numbers_of")) := T.glo 27 rfl
theorem Txt.c_numbers_of (T : Txt K mg) : ∃ u, mg "numbers_of" = some u ∧ RelV (.ref (He.ga K "numbers_of")) u := ⟨_, T.g_numbers_of, rfl⟩
theorem Txt.g_paid_by (T : Txt K mg) : mg "paid_by" = some (.ref (He.ga K "paid_by")) := T.glo 28 rfl
theorem Txt.c_paid_by (T : Txt K mg) : ∃ u, mg "paid_by" = some u ∧ RelV (.ref (He.ga K "paid_by")) u := ⟨_, T.g_paid_by, rfl⟩
theorem Txt.g_unpaid_by (T : Txt K mg) : mg "unpaid_by" = some (.ref (He.ga K "unpaid_by")) := T.glo 29 rfl
theorem Txt.c_unpaid_by (T : Txt K mg) : ∃ u, mg "unpaid_by" = some u ∧ RelV (.ref (He.ga K "unpaid_by")) u := ⟨_, T.g_unpaid_by, rfl⟩
theorem Txt.g_strips_of (T : Txt K mg) : mg "strips_of" = some (.ref (He.ga K "strips_of")) := T.glo 30 rfl
theorem Txt.c_strips_of (T : Txt K mg) : ∃ u, mg "strips_of" = some u ∧ RelV (.ref (He.ga K "strips_of")) u := ⟨_, T.g_strips_of, rfl⟩
theorem Txt.g_paid_in (T : Txt K mg) : mg "paid_in" = some (.ref (He.ga K "paid_in")) := T.glo 31 rfl
theorem Txt.c_paid_in (T : Txt K mg) : ∃ u, mg "paid_in" = some u ∧ RelV (.ref (He.ga K "paid_in")) u := ⟨_, T.g_paid_in, rfl⟩
theorem Txt.g_settle (T : Txt K mg) : mg "settle" = some (.ref (He.ga K "settle")) := T.glo 32 rfl
theorem Txt.c_settle (T : Txt K mg) : ∃ u, mg "settle" = some u ∧ RelV (.ref (He.ga K "settle")) u := ⟨_, T.g_settle, rfl⟩
theorem Txt.g_Roll (T : Txt K mg) : mg "Roll" = some (.ref (He.ga K "Roll")) := T.glo 33 rfl
theorem Txt.c_Roll (T : Txt K mg) : ∃ u, mg "Roll" = some u ∧ RelV (.ref (He.ga K "Roll")) u := ⟨_, T.g_Roll, rfl⟩
theorem Txt.g_Book (T : Txt K mg) : mg "Book" = some (.ref (He.ga K "Book")) := T.glo 34 rfl
theorem Txt.c_Book (T : Txt K mg) : ∃ u, mg "Book" = some u ∧ RelV (.ref (He.ga K "Book")) u := ⟨_, T.g_Book, rfl⟩
theorem Txt.g_Condition (T : Txt K mg) : mg "Condition" = some (.ref (He.ga K "Condition")) := T.glo 35 rfl
theorem Txt.c_Condition (T : Txt K mg) : ∃ u, mg "Condition" = some u ∧ RelV (.ref (He.ga K "Condition")) u := ⟨_, T.g_Condition, rfl⟩
theorem Txt.g_CauseIs (T : Txt K mg) : mg "CauseIs" = some (.ref (He.ga K "CauseIs")) := T.glo 36 rfl
theorem Txt.c_CauseIs (T : Txt K mg) : ∃ u, mg "CauseIs" = some u ∧ RelV (.ref (He.ga K "CauseIs")) u := ⟨_, T.g_CauseIs, rfl⟩
theorem Txt.g_ThingIs (T : Txt K mg) : mg "ThingIs" = some (.ref (He.ga K "ThingIs")) := T.glo 37 rfl
theorem Txt.c_ThingIs (T : Txt K mg) : ∃ u, mg "ThingIs" = some u ∧ RelV (.ref (He.ga K "ThingIs")) u := ⟨_, T.g_ThingIs, rfl⟩
theorem Txt.g_DaysIn (T : Txt K mg) : mg "DaysIn" = some (.ref (He.ga K "DaysIn")) := T.glo 38 rfl
theorem Txt.c_DaysIn (T : Txt K mg) : ∃ u, mg "DaysIn" = some u ∧ RelV (.ref (He.ga K "DaysIn")) u := ⟨_, T.g_DaysIn, rfl⟩
theorem Txt.g_Over (T : Txt K mg) : mg "Over" = some (.ref (He.ga K "Over")) := T.glo 39 rfl
theorem Txt.c_Over (T : Txt K mg) : ∃ u, mg "Over" = some u ∧ RelV (.ref (He.ga K "Over")) u := ⟨_, T.g_Over, rfl⟩
theorem Txt.g_Not (T : Txt K mg) : mg "Not" = some (.ref (He.ga K "Not")) := T.glo 40 rfl
theorem Txt.c_Not (T : Txt K mg) : ∃ u, mg "Not" = some u ∧ RelV (.ref (He.ga K "Not")) u := ⟨_, T.g_Not, rfl⟩
theorem Txt.g_All (T : Txt K mg) : mg "All" = some (.ref (He.ga K "All")) := T.glo 41 rfl
theorem Txt.c_All (T : Txt K mg) : ∃ u, mg "All" = some u ∧ RelV (.ref (He.ga K "All")) u := ⟨_, T.g_All, rfl⟩
theorem Txt.g_Some (T : Txt K mg) : mg "Some" = some (.ref (He.ga K "Some")) := T.glo 42 rfl
theorem Txt.c_Some (T : Txt K mg) : ∃ u, mg "Some" = some u ∧ RelV (.ref (He.ga K "Some")) u := ⟨_, T.g_Some, rfl⟩
theorem Txt.g_total_of (T : Txt K mg) : mg "total_of" = some (.ref (He.ga K "total_of")) := T.glo 43 rfl
theorem Txt.c_total_of (T : Txt K mg) : ∃ u, mg "total_of" = some u ∧ RelV (.ref (He.ga K "total_of")) u := ⟨_, T.g_total_of, rfl⟩
theorem Txt.g_due_by (T : Txt K mg) : mg "due_by" = some (.ref (He.ga K "due_by")) := T.glo 44 rfl
theorem Txt.c_due_by (T : Txt K mg) : ∃ u, mg "due_by" = some u ∧ RelV (.ref (He.ga K "due_by")) u := ⟨_, T.g_due_by, rfl⟩
theorem Txt.g_next_place (T : Txt K mg) : mg "next_place" = some (.ref (He.ga K "next_place")) := T.glo 45 rfl
theorem Txt.c_next_place (T : Txt K mg) : ∃ u, mg "next_place" = some u ∧ RelV (.ref (He.ga K "next_place")) u := ⟨_, T.g_next_place, rfl⟩
theorem Txt.g_turns (T : Txt K mg) : mg "turns" = some (.ref (He.ga K "turns")) := T.glo 46 rfl
theorem Txt.c_turns (T : Txt K mg) : ∃ u, mg "turns" = some u ∧ RelV (.ref (He.ga K "turns")) u := ⟨_, T.g_turns, rfl⟩
theorem Txt.g_Deal (T : Txt K mg) : mg "Deal" = some (.ref (He.ga K "Deal")) := T.glo 47 rfl
theorem Txt.c_Deal (T : Txt K mg) : ∃ u, mg "Deal" = some u ∧ RelV (.ref (He.ga K "Deal")) u := ⟨_, T.g_Deal, rfl⟩
theorem Txt.g_need_houses (T : Txt K mg) : mg "need_houses" = some (.ref (He.ga K "need_houses")) := T.glo 48 rfl
theorem Txt.c_need_houses (T : Txt K mg) : ∃ u, mg "need_houses" = some u ∧ RelV (.ref (He.ga K "need_houses")) u := ⟨_, T.g_need_houses, rfl⟩
theorem Txt.g_left_out (T : Txt K mg) : mg "left_out" = some (.ref (He.ga K "left_out")) := T.glo 49 rfl
theorem Txt.c_left_out (T : Txt K mg) : ∃ u, mg "left_out" = some u ∧ RelV (.ref (He.ga K "left_out")) u := ⟨_, T.g_left_out, rfl⟩
theorem Txt.g_Cover (T : Txt K mg) : mg "Cover" = some (.ref (He.ga K "Cover")) := T.glo 50 rfl
theorem Txt.c_Cover (T : Txt K mg) : ∃ u, mg "Cover" = some u ∧ RelV (.ref (He.ga K "Cover")) u := ⟨_, T.g_Cover, rfl⟩
theorem Txt.g__law_cell (T : Txt K mg) : mg "_law_cell" = some (.ref (He.ga K "_law_cell")) := T.glo 51 rfl
theorem Txt.c__law_cell (T : Txt K mg) : ∃ u, mg "_law_cell" = some u ∧ RelV (.ref (He.ga K "_law_cell")) u := ⟨_, T.g__law_cell, rfl⟩
theorem Txt.g__law_whole (T : Txt K mg) : mg "_law_whole" = some (.ref (He.ga K "_law_whole")) := T.glo 52 rfl
theorem Txt.c__law_whole (T : Txt K mg) : ∃ u, mg "_law_whole" = some u ∧ RelV (.ref (He.ga K "_law_whole")) u := ⟨_, T.g__law_whole, rfl⟩
theorem Txt.g__law_mix (T : Txt K mg) : mg "_law_mix" = some (.ref (He.ga K "_law_mix")) := T.glo 53 rfl
theorem Txt.c__law_mix (T : Txt K mg) : ∃ u, mg "_law_mix" = some u ∧ RelV (.ref (He.ga K "_law_mix")) u := ⟨_, T.g__law_mix, rfl⟩
theorem Txt.g__law_names (T : Txt K mg) : mg "_law_names" = some (.ref (He.ga K "_law_names")) := T.glo 54 rfl
theorem Txt.c__law_names (T : Txt K mg) : ∃ u, mg "_law_names" = some u ∧ RelV (.ref (He.ga K "_law_names")) u := ⟨_, T.g__law_names, rfl⟩
theorem Txt.g__law_start (T : Txt K mg) : mg "_law_start" = some (.ref (He.ga K "_law_start")) := T.glo 55 rfl
theorem Txt.c__law_start (T : Txt K mg) : ∃ u, mg "_law_start" = some u ∧ RelV (.ref (He.ga K "_law_start")) u := ⟨_, T.g__law_start, rfl⟩
theorem Txt.g__law_cond (T : Txt K mg) : mg "_law_cond" = some (.ref (He.ga K "_law_cond")) := T.glo 56 rfl
theorem Txt.c__law_cond (T : Txt K mg) : ∃ u, mg "_law_cond" = some u ∧ RelV (.ref (He.ga K "_law_cond")) u := ⟨_, T.g__law_cond, rfl⟩
theorem Txt.g__law_clause_by (T : Txt K mg) : mg "_law_clause_by" = some (.ref (He.ga K "_law_clause_by")) := T.glo 57 rfl
theorem Txt.c__law_clause_by (T : Txt K mg) : ∃ u, mg "_law_clause_by" = some u ∧ RelV (.ref (He.ga K "_law_clause_by")) u := ⟨_, T.g__law_clause_by, rfl⟩
theorem Txt.g__law_covers (T : Txt K mg) : mg "_law_covers" = some (.ref (He.ga K "_law_covers")) := T.glo 58 rfl
theorem Txt.c__law_covers (T : Txt K mg) : ∃ u, mg "_law_covers" = some u ∧ RelV (.ref (He.ga K "_law_covers")) u := ⟨_, T.g__law_covers, rfl⟩
theorem Txt.g__law_losses (T : Txt K mg) : mg "_law_losses" = some (.ref (He.ga K "_law_losses")) := T.glo 59 rfl
theorem Txt.c__law_losses (T : Txt K mg) : ∃ u, mg "_law_losses" = some u ∧ RelV (.ref (He.ga K "_law_losses")) u := ⟨_, T.g__law_losses, rfl⟩
theorem Txt.g__law_condition (T : Txt K mg) : mg "_law_condition" = some (.ref (He.ga K "_law_condition")) := T.glo 60 rfl
theorem Txt.c__law_condition (T : Txt K mg) : ∃ u, mg "_law_condition" = some u ∧ RelV (.ref (He.ga K "_law_condition")) u := ⟨_, T.g__law_condition, rfl⟩
theorem Txt.g__law_clause (T : Txt K mg) : mg "_law_clause" = some (.ref (He.ga K "_law_clause")) := T.glo 61 rfl
theorem Txt.c__law_clause (T : Txt K mg) : ∃ u, mg "_law_clause" = some u ∧ RelV (.ref (He.ga K "_law_clause")) u := ⟨_, T.g__law_clause, rfl⟩
theorem Txt.g__law_book (T : Txt K mg) : mg "_law_book" = some (.ref (He.ga K "_law_book")) := T.glo 62 rfl
theorem Txt.c__law_book (T : Txt K mg) : ∃ u, mg "_law_book" = some u ∧ RelV (.ref (He.ga K "_law_book")) u := ⟨_, T.g__law_book, rfl⟩
theorem Txt.g__law_enter (T : Txt K mg) : mg "_law_enter" = some (.ref (He.ga K "_law_enter")) := T.glo 63 rfl
theorem Txt.c__law_enter (T : Txt K mg) : ∃ u, mg "_law_enter" = some u ∧ RelV (.ref (He.ga K "_law_enter")) u := ⟨_, T.g__law_enter, rfl⟩
theorem Txt.g__law_turn (T : Txt K mg) : mg "_law_turn" = some (.ref (He.ga K "_law_turn")) := T.glo 64 rfl
theorem Txt.c__law_turn (T : Txt K mg) : ∃ u, mg "_law_turn" = some u ∧ RelV (.ref (He.ga K "_law_turn")) u := ⟨_, T.g__law_turn, rfl⟩
theorem Txt.g__law_kind (T : Txt K mg) : mg "_law_kind" = some (.ref (He.ga K "_law_kind")) := T.glo 65 rfl
theorem Txt.c__law_kind (T : Txt K mg) : ∃ u, mg "_law_kind" = some u ∧ RelV (.ref (He.ga K "_law_kind")) u := ⟨_, T.g__law_kind, rfl⟩
theorem Txt.g__law_entered (T : Txt K mg) : mg "_law_entered" = some (.ref (He.ga K "_law_entered")) := T.glo 66 rfl
theorem Txt.c__law_entered (T : Txt K mg) : ∃ u, mg "_law_entered" = some u ∧ RelV (.ref (He.ga K "_law_entered")) u := ⟨_, T.g__law_entered, rfl⟩
theorem Txt.g__law_closed (T : Txt K mg) : mg "_law_closed" = some (.ref (He.ga K "_law_closed")) := T.glo 67 rfl
theorem Txt.c__law_closed (T : Txt K mg) : ∃ u, mg "_law_closed" = some u ∧ RelV (.ref (He.ga K "_law_closed")) u := ⟨_, T.g__law_closed, rfl⟩
theorem Txt.g__law_asked_for (T : Txt K mg) : mg "_law_asked_for" = some (.ref (He.ga K "_law_asked_for")) := T.glo 68 rfl
theorem Txt.c__law_asked_for (T : Txt K mg) : ∃ u, mg "_law_asked_for" = some u ∧ RelV (.ref (He.ga K "_law_asked_for")) u := ⟨_, T.g__law_asked_for, rfl⟩
theorem Txt.g__law_spoilt (T : Txt K mg) : mg "_law_spoilt" = some (.ref (He.ga K "_law_spoilt")) := T.glo 69 rfl
theorem Txt.c__law_spoilt (T : Txt K mg) : ∃ u, mg "_law_spoilt" = some u ∧ RelV (.ref (He.ga K "_law_spoilt")) u := ⟨_, T.g__law_spoilt, rfl⟩
theorem Txt.g__law_right (T : Txt K mg) : mg "_law_right" = some (.ref (He.ga K "_law_right")) := T.glo 70 rfl
theorem Txt.c__law_right (T : Txt K mg) : ∃ u, mg "_law_right" = some u ∧ RelV (.ref (He.ga K "_law_right")) u := ⟨_, T.g__law_right, rfl⟩
theorem Txt.g__law_due (T : Txt K mg) : mg "_law_due" = some (.ref (He.ga K "_law_due")) := T.glo 71 rfl
theorem Txt.c__law_due (T : Txt K mg) : ∃ u, mg "_law_due" = some u ∧ RelV (.ref (He.ga K "_law_due")) u := ⟨_, T.g__law_due, rfl⟩
theorem Txt.g__law_tried (T : Txt K mg) : mg "_law_tried" = some (.ref (He.ga K "_law_tried")) := T.glo 72 rfl
theorem Txt.c__law_tried (T : Txt K mg) : ∃ u, mg "_law_tried" = some u ∧ RelV (.ref (He.ga K "_law_tried")) u := ⟨_, T.g__law_tried, rfl⟩
theorem Txt.g__law_closes (T : Txt K mg) : mg "_law_closes" = some (.ref (He.ga K "_law_closes")) := T.glo 73 rfl
theorem Txt.c__law_closes (T : Txt K mg) : ∃ u, mg "_law_closes" = some u ∧ RelV (.ref (He.ga K "_law_closes")) u := ⟨_, T.g__law_closes, rfl⟩
theorem Txt.g__law_walk (T : Txt K mg) : mg "_law_walk" = some (.ref (He.ga K "_law_walk")) := T.glo 74 rfl
theorem Txt.c__law_walk (T : Txt K mg) : ∃ u, mg "_law_walk" = some u ∧ RelV (.ref (He.ga K "_law_walk")) u := ⟨_, T.g__law_walk, rfl⟩
theorem Txt.g_law (T : Txt K mg) : mg "law" = some (.ref (He.ga K "law")) := T.glo 75 rfl
theorem Txt.c_law (T : Txt K mg) : ∃ u, mg "law" = some u ∧ RelV (.ref (He.ga K "law")) u := ⟨_, T.g_law, rfl⟩
theorem Txt.f_len (T : Txt K mg) : mg "len" = none := T.free 76 rfl
theorem Txt.f_max (T : Txt K mg) : mg "max" = none := T.free 77 rfl
theorem Txt.f_min (T : Txt K mg) : mg "min" = none := T.free 78 rfl
theorem Txt.f_isinstance (T : Txt K mg) : mg "isinstance" = none := T.free 79 rfl
theorem Txt.f_sorted (T : Txt K mg) : mg "sorted" = none := T.free 80 rfl
theorem Txt.f_sum (T : Txt K mg) : mg "sum" = none := T.free 81 rfl
theorem Txt.f_list (T : Txt K mg) : mg "list" = none := T.free 82 rfl
theorem Txt.f_set (T : Txt K mg) : mg "set" = none := T.free 83 rfl
theorem Txt.f_int (T : Txt K mg) : mg "int" = none := T.free 84 rfl
theorem Txt.f_str (T : Txt K mg) : mg "str" = none := T.free 85 rfl
theorem Txt.f_bool (T : Txt K mg) : mg "bool" = none := T.free 86 rfl
theorem Txt.f_range (T : Txt K mg) : mg "range" = none := T.free 87 rfl
theorem Txt.f_enumerate (T : Txt K mg) : mg "enumerate" = none := T.free 88 rfl
theorem Txt.f_zip (T : Txt K mg) : mg "zip" = none := T.free 89 rfl
theorem Txt.f_ValueError (T : Txt K mg) : mg "ValueError" = none := T.free 90 rfl
theorem Txt.c_LAST_DAY (T : Txt K mg) : ∃ u, mg "LAST_DAY" = some u ∧ RelV (.int (1000000)) u := T.int 91 rfl
theorem Txt.c_LAST_NUMBER (T : Txt K mg) : ∃ u, mg "LAST_NUMBER" = some u ∧ RelV (.int (1000000000)) u := T.int 92 rfl
theorem Txt.c_MOST_CENTS (T : Txt K mg) : ∃ u, mg "MOST_CENTS" = some u ∧ RelV (.int (999999999999)) u := T.int 93 rfl
theorem Txt.c_YEAR (T : Txt K mg) : ∃ u, mg "YEAR" = some u ∧ RelV (.int (365)) u := T.int 94 rfl
theorem Txt.c_PAID_settling (T : Txt K mg) : ∃ u, mg "PAID_settling" = some u ∧ RelV (.int (-1)) u := T.int 95 rfl
theorem Txt.c_MOST_COVERS (T : Txt K mg) : ∃ u, mg "MOST_COVERS" = some u ∧ RelV (.int (8)) u := T.int 96 rfl
theorem Txt.c_MOST_PLACES (T : Txt K mg) : ∃ u, mg "MOST_PLACES" = some u ∧ RelV (.int (8)) u := T.int 97 rfl
theorem Txt.c_MOST_TURNS (T : Txt K mg) : ∃ u, mg "MOST_TURNS" = some u ∧ RelV (.int (100)) u := T.int 98 rfl
theorem Txt.c_MOST_CLAUSES (T : Txt K mg) : ∃ u, mg "MOST_CLAUSES" = some u ∧ RelV (.int (8)) u := T.int 99 rfl
theorem Txt.c_PAID_covers (T : Txt K mg) : ∃ u, mg "PAID_covers" = some u ∧ RelV (.int (-1)) u := T.int 100 rfl
theorem Txt.c_LETTERS (T : Txt K mg) : ∃ u, mg "LETTERS" = some u ∧ RelV (.str "abcdefghijklmnopqrstuvwxyz") u := T.str 101 rfl
theorem Txt.cl_Counts (T : Txt K mg) : Cls K (He.ga K "Counts") := He.cls_ok (T.facts.fact 102 rfl)
theorem Txt.no_Counts_held (T : Txt K mg) : NoAttr K (He.ga K "Counts") "held" := He.noat_ok (T.facts.fact 103 rfl)
theorem Txt.m_Counts_have (T : Txt K mg) : Meth K (He.ga K "Counts") "have" (He.ma K (He.ga K "Counts") "have") := He.meth_ok (T.facts.fact 104 rfl)
theorem Txt.m_Counts_add (T : Txt K mg) : Meth K (He.ga K "Counts") "add" (He.ma K (He.ga K "Counts") "add") := He.meth_ok (T.facts.fact 105 rfl)
theorem Txt.k_Counts (T : Txt K mg) : Mk K (He.ga K "Counts") (He.ma K (He.ga K "Counts") "__init__") := He.mkr_ok (T.facts.fact 106 rfl)
theorem Txt.cl_Days (T : Txt K mg) : Cls K (He.ga K "Days") := He.cls_ok (T.facts.fact 107 rfl)
theorem Txt.no_Days_waiting (T : Txt K mg) : NoAttr K (He.ga K "Days") "waiting" := He.noat_ok (T.facts.fact 108 rfl)
theorem Txt.no_Days_known (T : Txt K mg) : NoAttr K (He.ga K "Days") "known" := He.noat_ok (T.facts.fact 109 rfl)
theorem Txt.m_Days_put (T : Txt K mg) : Meth K (He.ga K "Days") "put" (He.ma K (He.ga K "Days") "put") := He.meth_ok (T.facts.fact 110 rfl)
theorem Txt.m_Days_has_number (T : Txt K mg) : Meth K (He.ga K "Days") "has_number" (He.ma K (He.ga K "Days") "has_number") := He.meth_ok (T.facts.fact 111 rfl)
theorem Txt.m_Days_up_to (T : Txt K mg) : Meth K (He.ga K "Days") "up_to" (He.ma K (He.ga K "Days") "up_to") := He.meth_ok (T.facts.fact 112 rfl)
theorem Txt.k_Days (T : Txt K mg) : Mk K (He.ga K "Days") (He.ma K (He.ga K "Days") "__init__") := He.mkr_ok (T.facts.fact 113 rfl)
theorem Txt.cl_Own (T : Txt K mg) : Cls K (He.ga K "Own") := He.cls_ok (T.facts.fact 114 rfl)
theorem Txt.no_Own_by (T : Txt K mg) : NoAttr K (He.ga K "Own") "by" := He.noat_ok (T.facts.fact 115 rfl)
theorem Txt.no_Own_cents (T : Txt K mg) : NoAttr K (He.ga K "Own") "cents" := He.noat_ok (T.facts.fact 116 rfl)
theorem Txt.m_Own_span (T : Txt K mg) : Meth K (He.ga K "Own") "span" (He.ma K (He.ga K "Own") "span") := He.meth_ok (T.facts.fact 117 rfl)
theorem Txt.m_Own_key (T : Txt K mg) : Meth K (He.ga K "Own") "key" (He.ma K (He.ga K "Own") "key") := He.meth_ok (T.facts.fact 118 rfl)
theorem Txt.m_Own_room (T : Txt K mg) : Meth K (He.ga K "Own") "room" (He.ma K (He.ga K "Own") "room") := He.meth_ok (T.facts.fact 119 rfl)
theorem Txt.k_Own (T : Txt K mg) : Mk K (He.ga K "Own") (He.ma K (He.ga K "Own") "__init__") := He.mkr_ok (T.facts.fact 120 rfl)
theorem Txt.cl_Layer (T : Txt K mg) : Cls K (He.ga K "Layer") := He.cls_ok (T.facts.fact 121 rfl)
theorem Txt.no_Layer_by (T : Txt K mg) : NoAttr K (He.ga K "Layer") "by" := He.noat_ok (T.facts.fact 122 rfl)
theorem Txt.no_Layer_first (T : Txt K mg) : NoAttr K (He.ga K "Layer") "first" := He.noat_ok (T.facts.fact 123 rfl)
theorem Txt.no_Layer_upto (T : Txt K mg) : NoAttr K (He.ga K "Layer") "upto" := He.noat_ok (T.facts.fact 124 rfl)
theorem Txt.m_Layer_span (T : Txt K mg) : Meth K (He.ga K "Layer") "span" (He.ma K (He.ga K "Layer") "span") := He.meth_ok (T.facts.fact 125 rfl)
theorem Txt.m_Layer_key (T : Txt K mg) : Meth K (He.ga K "Layer") "key" (He.ma K (He.ga K "Layer") "key") := He.meth_ok (T.facts.fact 126 rfl)
theorem Txt.m_Layer_room (T : Txt K mg) : Meth K (He.ga K "Layer") "room" (He.ma K (He.ga K "Layer") "room") := He.meth_ok (T.facts.fact 127 rfl)
theorem Txt.k_Layer (T : Txt K mg) : Mk K (He.ga K "Layer") (He.ma K (He.ga K "Layer") "__init__") := He.mkr_ok (T.facts.fact 128 rfl)
theorem Txt.cl_Limit (T : Txt K mg) : Cls K (He.ga K "Limit") := He.cls_ok (T.facts.fact 129 rfl)
theorem Txt.no_Limit_by (T : Txt K mg) : NoAttr K (He.ga K "Limit") "by" := He.noat_ok (T.facts.fact 130 rfl)
theorem Txt.no_Limit_most (T : Txt K mg) : NoAttr K (He.ga K "Limit") "most" := He.noat_ok (T.facts.fact 131 rfl)
theorem Txt.m_Limit_room (T : Txt K mg) : Meth K (He.ga K "Limit") "room" (He.ma K (He.ga K "Limit") "room") := He.meth_ok (T.facts.fact 132 rfl)
theorem Txt.m_Limit_key (T : Txt K mg) : Meth K (He.ga K "Limit") "key" (He.ma K (He.ga K "Limit") "key") := He.meth_ok (T.facts.fact 133 rfl)
theorem Txt.m_Limit_span (T : Txt K mg) : Meth K (He.ga K "Limit") "span" (He.ma K (He.ga K "Limit") "span") := He.meth_ok (T.facts.fact 134 rfl)
theorem Txt.k_Limit (T : Txt K mg) : Mk K (He.ga K "Limit") (He.ma K (He.ga K "Limit") "__init__") := He.mkr_ok (T.facts.fact 135 rfl)
theorem Txt.cl_Roll (T : Txt K mg) : Cls K (He.ga K "Roll") := He.cls_ok (T.facts.fact 136 rfl)
theorem Txt.no_Roll_book (T : Txt K mg) : NoAttr K (He.ga K "Roll") "book" := He.noat_ok (T.facts.fact 137 rfl)
theorem Txt.no_Roll_counts (T : Txt K mg) : NoAttr K (He.ga K "Roll") "counts" := He.noat_ok (T.facts.fact 138 rfl)
theorem Txt.no_Roll_days (T : Txt K mg) : NoAttr K (He.ga K "Roll") "days" := He.noat_ok (T.facts.fact 139 rfl)
theorem Txt.no_Roll_closed (T : Txt K mg) : NoAttr K (He.ga K "Roll") "closed" := He.noat_ok (T.facts.fact 140 rfl)
theorem Txt.no_Roll_order (T : Txt K mg) : NoAttr K (He.ga K "Roll") "order" := He.noat_ok (T.facts.fact 141 rfl)
theorem Txt.no_Roll_held (T : Txt K mg) : NoAttr K (He.ga K "Roll") "held" := He.noat_ok (T.facts.fact 142 rfl)
theorem Txt.m_Roll_is_late (T : Txt K mg) : Meth K (He.ga K "Roll") "is_late" (He.ma K (He.ga K "Roll") "is_late") := He.meth_ok (T.facts.fact 143 rfl)
theorem Txt.m_Roll_enter (T : Txt K mg) : Meth K (He.ga K "Roll") "enter" (He.ma K (He.ga K "Roll") "enter") := He.meth_ok (T.facts.fact 144 rfl)
theorem Txt.m_Roll_close (T : Txt K mg) : Meth K (He.ga K "Roll") "close" (He.ma K (He.ga K "Roll") "close") := He.meth_ok (T.facts.fact 145 rfl)
theorem Txt.m_Roll_told (T : Txt K mg) : Meth K (He.ga K "Roll") "told" (He.ma K (He.ga K "Roll") "told") := He.meth_ok (T.facts.fact 146 rfl)
theorem Txt.m_Roll_settled (T : Txt K mg) : Meth K (He.ga K "Roll") "settled" (He.ma K (He.ga K "Roll") "settled") := He.meth_ok (T.facts.fact 147 rfl)
theorem Txt.k_Roll (T : Txt K mg) : Mk K (He.ga K "Roll") (He.ma K (He.ga K "Roll") "__init__") := He.mkr_ok (T.facts.fact 148 rfl)
theorem Txt.cl_Book (T : Txt K mg) : Cls K (He.ga K "Book") := He.cls_ok (T.facts.fact 149 rfl)
theorem Txt.no_Book_covers (T : Txt K mg) : NoAttr K (He.ga K "Book") "covers" := He.noat_ok (T.facts.fact 150 rfl)
theorem Txt.no_Book_asking (T : Txt K mg) : NoAttr K (He.ga K "Book") "asking" := He.noat_ok (T.facts.fact 151 rfl)
theorem Txt.k_Book (T : Txt K mg) : Mk K (He.ga K "Book") (He.ma K (He.ga K "Book") "__init__") := He.mkr_ok (T.facts.fact 152 rfl)
theorem Txt.cl_Condition (T : Txt K mg) : Cls K (He.ga K "Condition") := He.cls_ok (T.facts.fact 153 rfl)
theorem Txt.m_Condition_holds (T : Txt K mg) : Meth K (He.ga K "Condition") "holds" (He.ma K (He.ga K "Condition") "holds") := He.meth_ok (T.facts.fact 154 rfl)
theorem Txt.cl_CauseIs (T : Txt K mg) : Cls K (He.ga K "CauseIs") := He.cls_ok (T.facts.fact 155 rfl)
theorem Txt.no_CauseIs_name (T : Txt K mg) : NoAttr K (He.ga K "CauseIs") "name" := He.noat_ok (T.facts.fact 156 rfl)
theorem Txt.m_CauseIs_holds (T : Txt K mg) : Meth K (He.ga K "CauseIs") "holds" (He.ma K (He.ga K "CauseIs") "holds") := He.meth_ok (T.facts.fact 157 rfl)
theorem Txt.k_CauseIs (T : Txt K mg) : Mk K (He.ga K "CauseIs") (He.ma K (He.ga K "CauseIs") "__init__") := He.mkr_ok (T.facts.fact 158 rfl)
theorem Txt.cl_ThingIs (T : Txt K mg) : Cls K (He.ga K "ThingIs") := He.cls_ok (T.facts.fact 159 rfl)
theorem Txt.no_ThingIs_name (T : Txt K mg) : NoAttr K (He.ga K "ThingIs") "name" := He.noat_ok (T.facts.fact 160 rfl)
theorem Txt.m_ThingIs_holds (T : Txt K mg) : Meth K (He.ga K "ThingIs") "holds" (He.ma K (He.ga K "ThingIs") "holds") := He.meth_ok (T.facts.fact 161 rfl)
theorem Txt.k_ThingIs (T : Txt K mg) : Mk K (He.ga K "ThingIs") (He.ma K (He.ga K "ThingIs") "__init__") := He.mkr_ok (T.facts.fact 162 rfl)
theorem Txt.cl_DaysIn (T : Txt K mg) : Cls K (He.ga K "DaysIn") := He.cls_ok (T.facts.fact 163 rfl)
theorem Txt.no_DaysIn_first (T : Txt K mg) : NoAttr K (He.ga K "DaysIn") "first" := He.noat_ok (T.facts.fact 164 rfl)
theorem Txt.no_DaysIn_last (T : Txt K mg) : NoAttr K (He.ga K "DaysIn") "last" := He.noat_ok (T.facts.fact 165 rfl)
theorem Txt.m_DaysIn_holds (T : Txt K mg) : Meth K (He.ga K "DaysIn") "holds" (He.ma K (He.ga K "DaysIn") "holds") := He.meth_ok (T.facts.fact 166 rfl)
theorem Txt.k_DaysIn (T : Txt K mg) : Mk K (He.ga K "DaysIn") (He.ma K (He.ga K "DaysIn") "__init__") := He.mkr_ok (T.facts.fact 167 rfl)
theorem Txt.cl_Over (T : Txt K mg) : Cls K (He.ga K "Over") := He.cls_ok (T.facts.fact 168 rfl)
theorem Txt.no_Over_cents (T : Txt K mg) : NoAttr K (He.ga K "Over") "cents" := He.noat_ok (T.facts.fact 169 rfl)
theorem Txt.m_Over_holds (T : Txt K mg) : Meth K (He.ga K "Over") "holds" (He.ma K (He.ga K "Over") "holds") := He.meth_ok (T.facts.fact 170 rfl)
theorem Txt.k_Over (T : Txt K mg) : Mk K (He.ga K "Over") (He.ma K (He.ga K "Over") "__init__") := He.mkr_ok (T.facts.fact 171 rfl)
theorem Txt.cl_Not (T : Txt K mg) : Cls K (He.ga K "Not") := He.cls_ok (T.facts.fact 172 rfl)
theorem Txt.no_Not_part (T : Txt K mg) : NoAttr K (He.ga K "Not") "part" := He.noat_ok (T.facts.fact 173 rfl)
theorem Txt.m_Not_holds (T : Txt K mg) : Meth K (He.ga K "Not") "holds" (He.ma K (He.ga K "Not") "holds") := He.meth_ok (T.facts.fact 174 rfl)
theorem Txt.k_Not (T : Txt K mg) : Mk K (He.ga K "Not") (He.ma K (He.ga K "Not") "__init__") := He.mkr_ok (T.facts.fact 175 rfl)
theorem Txt.cl_All (T : Txt K mg) : Cls K (He.ga K "All") := He.cls_ok (T.facts.fact 176 rfl)
theorem Txt.no_All_several (T : Txt K mg) : NoAttr K (He.ga K "All") "several" := He.noat_ok (T.facts.fact 177 rfl)
theorem Txt.m_All_holds (T : Txt K mg) : Meth K (He.ga K "All") "holds" (He.ma K (He.ga K "All") "holds") := He.meth_ok (T.facts.fact 178 rfl)
theorem Txt.k_All (T : Txt K mg) : Mk K (He.ga K "All") (He.ma K (He.ga K "All") "__init__") := He.mkr_ok (T.facts.fact 179 rfl)
theorem Txt.cl_Some (T : Txt K mg) : Cls K (He.ga K "Some") := He.cls_ok (T.facts.fact 180 rfl)
theorem Txt.no_Some_several (T : Txt K mg) : NoAttr K (He.ga K "Some") "several" := He.noat_ok (T.facts.fact 181 rfl)
theorem Txt.m_Some_holds (T : Txt K mg) : Meth K (He.ga K "Some") "holds" (He.ma K (He.ga K "Some") "holds") := He.meth_ok (T.facts.fact 182 rfl)
theorem Txt.k_Some (T : Txt K mg) : Mk K (He.ga K "Some") (He.ma K (He.ga K "Some") "__init__") := He.mkr_ok (T.facts.fact 183 rfl)
theorem Txt.cl_Deal (T : Txt K mg) : Cls K (He.ga K "Deal") := He.cls_ok (T.facts.fact 184 rfl)
theorem Txt.no_Deal_wheel (T : Txt K mg) : NoAttr K (He.ga K "Deal") "wheel" := He.noat_ok (T.facts.fact 185 rfl)
theorem Txt.no_Deal_weights (T : Txt K mg) : NoAttr K (He.ga K "Deal") "weights" := He.noat_ok (T.facts.fact 186 rfl)
theorem Txt.k_Deal (T : Txt K mg) : Mk K (He.ga K "Deal") (He.ma K (He.ga K "Deal") "__init__") := He.mkr_ok (T.facts.fact 187 rfl)
theorem Txt.cl_Cover (T : Txt K mg) : Cls K (He.ga K "Cover") := He.cls_ok (T.facts.fact 188 rfl)
theorem Txt.no_Cover_name (T : Txt K mg) : NoAttr K (He.ga K "Cover") "name" := He.noat_ok (T.facts.fact 189 rfl)
theorem Txt.no_Cover_condition (T : Txt K mg) : NoAttr K (He.ga K "Cover") "condition" := He.noat_ok (T.facts.fact 190 rfl)
theorem Txt.no_Cover_clauses (T : Txt K mg) : NoAttr K (He.ga K "Cover") "clauses" := He.noat_ok (T.facts.fact 191 rfl)
theorem Txt.no_Cover_houses (T : Txt K mg) : NoAttr K (He.ga K "Cover") "houses" := He.noat_ok (T.facts.fact 192 rfl)
theorem Txt.no_Cover_deal (T : Txt K mg) : NoAttr K (He.ga K "Cover") "deal" := He.noat_ok (T.facts.fact 193 rfl)
theorem Txt.no_Cover_waits (T : Txt K mg) : NoAttr K (He.ga K "Cover") "waits" := He.noat_ok (T.facts.fact 194 rfl)
theorem Txt.m_Cover_asks (T : Txt K mg) : Meth K (He.ga K "Cover") "asks" (He.ma K (He.ga K "Cover") "asks") := He.meth_ok (T.facts.fact 195 rfl)
theorem Txt.m_Cover_spans (T : Txt K mg) : Meth K (He.ga K "Cover") "spans" (He.ma K (He.ga K "Cover") "spans") := He.meth_ok (T.facts.fact 196 rfl)
theorem Txt.m_Cover_window (T : Txt K mg) : Meth K (He.ga K "Cover") "window" (He.ma K (He.ga K "Cover") "window") := He.meth_ok (T.facts.fact 197 rfl)
theorem Txt.m_Cover_parts (T : Txt K mg) : Meth K (He.ga K "Cover") "parts" (He.ma K (He.ga K "Cover") "parts") := He.meth_ok (T.facts.fact 198 rfl)
theorem Txt.m_Cover_rest (T : Txt K mg) : Meth K (He.ga K "Cover") "rest" (He.ma K (He.ga K "Cover") "rest") := He.meth_ok (T.facts.fact 199 rfl)
theorem Txt.k_Cover (T : Txt K mg) : Mk K (He.ga K "Cover") (He.ma K (He.ga K "Cover") "__init__") := He.mkr_ok (T.facts.fact 200 rfl)
theorem Txt.kp_CoverError (T : Txt K mg) : PySem.W.keepIn K (.ref (He.ga K "CoverError")) = true := He.keep_ok (T.facts.fact 201 rfl)
theorem Txt.kp_NoShares (T : Txt K mg) : PySem.W.keepIn K (.ref (He.ga K "NoShares")) = true := He.keep_ok (T.facts.fact 202 rfl)
theorem Txt.kp_NoEntry (T : Txt K mg) : PySem.W.keepIn K (.ref (He.ga K "NoEntry")) = true := He.keep_ok (T.facts.fact 203 rfl)
theorem Txt.kp_NoClause (T : Txt K mg) : PySem.W.keepIn K (.ref (He.ga K "NoClause")) = true := He.keep_ok (T.facts.fact 204 rfl)
theorem Txt.kp_NoCover (T : Txt K mg) : PySem.W.keepIn K (.ref (He.ga K "NoCover")) = true := He.keep_ok (T.facts.fact 205 rfl)
theorem Txt.kp_NoBook (T : Txt K mg) : PySem.W.keepIn K (.ref (He.ga K "NoBook")) = true := He.keep_ok (T.facts.fact 206 rfl)
theorem Txt.kp_Twice (T : Txt K mg) : PySem.W.keepIn K (.ref (He.ga K "Twice")) = true := He.keep_ok (T.facts.fact 207 rfl)
theorem Txt.kp_Late (T : Txt K mg) : PySem.W.keepIn K (.ref (He.ga K "Late")) = true := He.keep_ok (T.facts.fact 208 rfl)
theorem Txt.kp_NotTold (T : Txt K mg) : PySem.W.keepIn K (.ref (He.ga K "NotTold")) = true := He.keep_ok (T.facts.fact 209 rfl)
theorem Txt.g_WAYS (T : Txt K mg) : mg "WAYS" = some (.ref (He.ga K "WAYS")) := T.glo 210 rfl
theorem Txt.c_WAYS (T : Txt K mg) : ∃ u, mg "WAYS" = some u ∧ RelV (.ref (He.ga K "WAYS")) u := ⟨_, T.g_WAYS, rfl⟩
theorem Txt.D_turn_of (T : Txt K mg) : ∃ fd, FunD K d_turn_of.name d_turn_of.qual d_turn_of.params d_turn_of.body d_turn_of.scope (d_turn_of.dvs K) (d_turn_of.kws K) (He.fAd K d_turn_of.at_) fd := T.defs 0 d_turn_of rfl
theorem Txt.D_is_whole (T : Txt K mg) : ∃ fd, FunD K d_is_whole.name d_is_whole.qual d_is_whole.params d_is_whole.body d_is_whole.scope (d_is_whole.dvs K) (d_is_whole.kws K) (He.fAd K d_is_whole.at_) fd := T.defs 1 d_is_whole rfl
theorem Txt.D_is_name (T : Txt K mg) : ∃ fd, FunD K d_is_name.name d_is_name.qual d_is_name.params d_is_name.body d_is_name.scope (d_is_name.dvs K) (d_is_name.kws K) (He.fAd K d_is_name.at_) fd := T.defs 2 d_is_name rfl
theorem Txt.D_is_event (T : Txt K mg) : ∃ fd, FunD K d_is_event.name d_is_event.qual d_is_event.params d_is_event.body d_is_event.scope (d_is_event.dvs K) (d_is_event.kws K) (He.fAd K d_is_event.at_) fd := T.defs 3 d_is_event rfl
theorem Txt.D_is_day (T : Txt K mg) : ∃ fd, FunD K d_is_day.name d_is_day.qual d_is_day.params d_is_day.body d_is_day.scope (d_is_day.dvs K) (d_is_day.kws K) (He.fAd K d_is_day.at_) fd := T.defs 4 d_is_day rfl
theorem Txt.D_is_amount (T : Txt K mg) : ∃ fd, FunD K d_is_amount.name d_is_amount.qual d_is_amount.params d_is_amount.body d_is_amount.scope (d_is_amount.dvs K) (d_is_amount.kws K) (He.fAd K d_is_amount.at_) fd := T.defs 5 d_is_amount rfl
theorem Txt.D_year_of (T : Txt K mg) : ∃ fd, FunD K d_year_of.name d_year_of.qual d_year_of.params d_year_of.body d_year_of.scope (d_year_of.dvs K) (d_year_of.kws K) (He.fAd K d_year_of.at_) fd := T.defs 6 d_year_of rfl
theorem Txt.D_loss_of (T : Txt K mg) : ∃ fd, FunD K d_loss_of.name d_loss_of.qual d_loss_of.params d_loss_of.body d_loss_of.scope (d_loss_of.dvs K) (d_loss_of.kws K) (He.fAd K d_loss_of.at_) fd := T.defs 7 d_loss_of rfl
theorem Txt.D_need_amount (T : Txt K mg) : ∃ fd, FunD K d_need_amount.name d_need_amount.qual d_need_amount.params d_need_amount.body d_need_amount.scope (d_need_amount.dvs K) (d_need_amount.kws K) (He.fAd K d_need_amount.at_) fd := T.defs 8 d_need_amount rfl
theorem Txt.D_cut_within (T : Txt K mg) : ∃ fd, FunD K d_cut_within.name d_cut_within.qual d_cut_within.params d_cut_within.body d_cut_within.scope (d_cut_within.dvs K) (d_cut_within.kws K) (He.fAd K d_cut_within.at_) fd := T.defs 9 d_cut_within rfl
theorem Txt.D_lowest_of (T : Txt K mg) : ∃ fd, FunD K d_lowest_of.name d_lowest_of.qual d_lowest_of.params d_lowest_of.body d_lowest_of.scope (d_lowest_of.dvs K) (d_lowest_of.kws K) (He.fAd K d_lowest_of.at_) fd := T.defs 10 d_lowest_of rfl
theorem Txt.D_cut_out (T : Txt K mg) : ∃ fd, FunD K d_cut_out.name d_cut_out.qual d_cut_out.params d_cut_out.body d_cut_out.scope (d_cut_out.dvs K) (d_cut_out.kws K) (He.fAd K d_cut_out.at_) fd := T.defs 11 d_cut_out rfl
theorem Txt.D_numbers_of (T : Txt K mg) : ∃ fd, FunD K d_numbers_of.name d_numbers_of.qual d_numbers_of.params d_numbers_of.body d_numbers_of.scope (d_numbers_of.dvs K) (d_numbers_of.kws K) (He.fAd K d_numbers_of.at_) fd := T.defs 12 d_numbers_of rfl
theorem Txt.D_paid_by (T : Txt K mg) : ∃ fd, FunD K d_paid_by.name d_paid_by.qual d_paid_by.params d_paid_by.body d_paid_by.scope (d_paid_by.dvs K) (d_paid_by.kws K) (He.fAd K d_paid_by.at_) fd := T.defs 13 d_paid_by rfl
theorem Txt.D_unpaid_by (T : Txt K mg) : ∃ fd, FunD K d_unpaid_by.name d_unpaid_by.qual d_unpaid_by.params d_unpaid_by.body d_unpaid_by.scope (d_unpaid_by.dvs K) (d_unpaid_by.kws K) (He.fAd K d_unpaid_by.at_) fd := T.defs 14 d_unpaid_by rfl
theorem Txt.D_strips_of (T : Txt K mg) : ∃ fd, FunD K d_strips_of.name d_strips_of.qual d_strips_of.params d_strips_of.body d_strips_of.scope (d_strips_of.dvs K) (d_strips_of.kws K) (He.fAd K d_strips_of.at_) fd := T.defs 15 d_strips_of rfl
theorem Txt.D_paid_in (T : Txt K mg) : ∃ fd, FunD K d_paid_in.name d_paid_in.qual d_paid_in.params d_paid_in.body d_paid_in.scope (d_paid_in.dvs K) (d_paid_in.kws K) (He.fAd K d_paid_in.at_) fd := T.defs 16 d_paid_in rfl
theorem Txt.D_settle (T : Txt K mg) : ∃ fd, FunD K d_settle.name d_settle.qual d_settle.params d_settle.body d_settle.scope (d_settle.dvs K) (d_settle.kws K) (He.fAd K d_settle.at_) fd := T.defs 17 d_settle rfl
theorem Txt.D_total_of (T : Txt K mg) : ∃ fd, FunD K d_total_of.name d_total_of.qual d_total_of.params d_total_of.body d_total_of.scope (d_total_of.dvs K) (d_total_of.kws K) (He.fAd K d_total_of.at_) fd := T.defs 18 d_total_of rfl
theorem Txt.D_due_by (T : Txt K mg) : ∃ fd, FunD K d_due_by.name d_due_by.qual d_due_by.params d_due_by.body d_due_by.scope (d_due_by.dvs K) (d_due_by.kws K) (He.fAd K d_due_by.at_) fd := T.defs 19 d_due_by rfl
theorem Txt.D_next_place (T : Txt K mg) : ∃ fd, FunD K d_next_place.name d_next_place.qual d_next_place.params d_next_place.body d_next_place.scope (d_next_place.dvs K) (d_next_place.kws K) (He.fAd K d_next_place.at_) fd := T.defs 20 d_next_place rfl
theorem Txt.D_turns (T : Txt K mg) : ∃ fd, FunD K d_turns.name d_turns.qual d_turns.params d_turns.body d_turns.scope (d_turns.dvs K) (d_turns.kws K) (He.fAd K d_turns.at_) fd := T.defs 21 d_turns rfl
theorem Txt.D_need_houses (T : Txt K mg) : ∃ fd, FunD K d_need_houses.name d_need_houses.qual d_need_houses.params d_need_houses.body d_need_houses.scope (d_need_houses.dvs K) (d_need_houses.kws K) (He.fAd K d_need_houses.at_) fd := T.defs 22 d_need_houses rfl
theorem Txt.D_left_out (T : Txt K mg) : ∃ fd, FunD K d_left_out.name d_left_out.qual d_left_out.params d_left_out.body d_left_out.scope (d_left_out.dvs K) (d_left_out.kws K) (He.fAd K d_left_out.at_) fd := T.defs 23 d_left_out rfl
theorem Txt.D_law_cell (T : Txt K mg) : ∃ fd, FunD K d_law_cell.name d_law_cell.qual d_law_cell.params d_law_cell.body d_law_cell.scope (d_law_cell.dvs K) (d_law_cell.kws K) (He.fAd K d_law_cell.at_) fd := T.defs 24 d_law_cell rfl
theorem Txt.D_law_whole (T : Txt K mg) : ∃ fd, FunD K d_law_whole.name d_law_whole.qual d_law_whole.params d_law_whole.body d_law_whole.scope (d_law_whole.dvs K) (d_law_whole.kws K) (He.fAd K d_law_whole.at_) fd := T.defs 25 d_law_whole rfl
theorem Txt.D_law_mix (T : Txt K mg) : ∃ fd, FunD K d_law_mix.name d_law_mix.qual d_law_mix.params d_law_mix.body d_law_mix.scope (d_law_mix.dvs K) (d_law_mix.kws K) (He.fAd K d_law_mix.at_) fd := T.defs 26 d_law_mix rfl
theorem Txt.D_law_names (T : Txt K mg) : ∃ fd, FunD K d_law_names.name d_law_names.qual d_law_names.params d_law_names.body d_law_names.scope (d_law_names.dvs K) (d_law_names.kws K) (He.fAd K d_law_names.at_) fd := T.defs 27 d_law_names rfl
theorem Txt.D_law_start (T : Txt K mg) : ∃ fd, FunD K d_law_start.name d_law_start.qual d_law_start.params d_law_start.body d_law_start.scope (d_law_start.dvs K) (d_law_start.kws K) (He.fAd K d_law_start.at_) fd := T.defs 28 d_law_start rfl
theorem Txt.D_law_cond (T : Txt K mg) : ∃ fd, FunD K d_law_cond.name d_law_cond.qual d_law_cond.params d_law_cond.body d_law_cond.scope (d_law_cond.dvs K) (d_law_cond.kws K) (He.fAd K d_law_cond.at_) fd := T.defs 29 d_law_cond rfl
theorem Txt.D_law_clause_by (T : Txt K mg) : ∃ fd, FunD K d_law_clause_by.name d_law_clause_by.qual d_law_clause_by.params d_law_clause_by.body d_law_clause_by.scope (d_law_clause_by.dvs K) (d_law_clause_by.kws K) (He.fAd K d_law_clause_by.at_) fd := T.defs 30 d_law_clause_by rfl
theorem Txt.D_law_covers (T : Txt K mg) : ∃ fd, FunD K d_law_covers.name d_law_covers.qual d_law_covers.params d_law_covers.body d_law_covers.scope (d_law_covers.dvs K) (d_law_covers.kws K) (He.fAd K d_law_covers.at_) fd := T.defs 31 d_law_covers rfl
theorem Txt.D_law_losses (T : Txt K mg) : ∃ fd, FunD K d_law_losses.name d_law_losses.qual d_law_losses.params d_law_losses.body d_law_losses.scope (d_law_losses.dvs K) (d_law_losses.kws K) (He.fAd K d_law_losses.at_) fd := T.defs 32 d_law_losses rfl
theorem Txt.D_law_condition (T : Txt K mg) : ∃ fd, FunD K d_law_condition.name d_law_condition.qual d_law_condition.params d_law_condition.body d_law_condition.scope (d_law_condition.dvs K) (d_law_condition.kws K) (He.fAd K d_law_condition.at_) fd := T.defs 33 d_law_condition rfl
theorem Txt.D_law_clause (T : Txt K mg) : ∃ fd, FunD K d_law_clause.name d_law_clause.qual d_law_clause.params d_law_clause.body d_law_clause.scope (d_law_clause.dvs K) (d_law_clause.kws K) (He.fAd K d_law_clause.at_) fd := T.defs 34 d_law_clause rfl
theorem Txt.D_law_book (T : Txt K mg) : ∃ fd, FunD K d_law_book.name d_law_book.qual d_law_book.params d_law_book.body d_law_book.scope (d_law_book.dvs K) (d_law_book.kws K) (He.fAd K d_law_book.at_) fd := T.defs 35 d_law_book rfl
theorem Txt.D_law_enter (T : Txt K mg) : ∃ fd, FunD K d_law_enter.name d_law_enter.qual d_law_enter.params d_law_enter.body d_law_enter.scope (d_law_enter.dvs K) (d_law_enter.kws K) (He.fAd K d_law_enter.at_) fd := T.defs 36 d_law_enter rfl
theorem Txt.D_law_turn (T : Txt K mg) : ∃ fd, FunD K d_law_turn.name d_law_turn.qual d_law_turn.params d_law_turn.body d_law_turn.scope (d_law_turn.dvs K) (d_law_turn.kws K) (He.fAd K d_law_turn.at_) fd := T.defs 37 d_law_turn rfl
theorem Txt.D_law_kind (T : Txt K mg) : ∃ fd, FunD K d_law_kind.name d_law_kind.qual d_law_kind.params d_law_kind.body d_law_kind.scope (d_law_kind.dvs K) (d_law_kind.kws K) (He.fAd K d_law_kind.at_) fd := T.defs 38 d_law_kind rfl
theorem Txt.D_law_entered (T : Txt K mg) : ∃ fd, FunD K d_law_entered.name d_law_entered.qual d_law_entered.params d_law_entered.body d_law_entered.scope (d_law_entered.dvs K) (d_law_entered.kws K) (He.fAd K d_law_entered.at_) fd := T.defs 39 d_law_entered rfl
theorem Txt.D_law_closed (T : Txt K mg) : ∃ fd, FunD K d_law_closed.name d_law_closed.qual d_law_closed.params d_law_closed.body d_law_closed.scope (d_law_closed.dvs K) (d_law_closed.kws K) (He.fAd K d_law_closed.at_) fd := T.defs 40 d_law_closed rfl
theorem Txt.D_law_asked_for (T : Txt K mg) : ∃ fd, FunD K d_law_asked_for.name d_law_asked_for.qual d_law_asked_for.params d_law_asked_for.body d_law_asked_for.scope (d_law_asked_for.dvs K) (d_law_asked_for.kws K) (He.fAd K d_law_asked_for.at_) fd := T.defs 41 d_law_asked_for rfl
theorem Txt.D_law_spoilt (T : Txt K mg) : ∃ fd, FunD K d_law_spoilt.name d_law_spoilt.qual d_law_spoilt.params d_law_spoilt.body d_law_spoilt.scope (d_law_spoilt.dvs K) (d_law_spoilt.kws K) (He.fAd K d_law_spoilt.at_) fd := T.defs 42 d_law_spoilt rfl
theorem Txt.D_law_right (T : Txt K mg) : ∃ fd, FunD K d_law_right.name d_law_right.qual d_law_right.params d_law_right.body d_law_right.scope (d_law_right.dvs K) (d_law_right.kws K) (He.fAd K d_law_right.at_) fd := T.defs 43 d_law_right rfl
theorem Txt.D_law_due (T : Txt K mg) : ∃ fd, FunD K d_law_due.name d_law_due.qual d_law_due.params d_law_due.body d_law_due.scope (d_law_due.dvs K) (d_law_due.kws K) (He.fAd K d_law_due.at_) fd := T.defs 44 d_law_due rfl
theorem Txt.D_law_tried (T : Txt K mg) : ∃ fd, FunD K d_law_tried.name d_law_tried.qual d_law_tried.params d_law_tried.body d_law_tried.scope (d_law_tried.dvs K) (d_law_tried.kws K) (He.fAd K d_law_tried.at_) fd := T.defs 45 d_law_tried rfl
theorem Txt.D_law_closes (T : Txt K mg) : ∃ fd, FunD K d_law_closes.name d_law_closes.qual d_law_closes.params d_law_closes.body d_law_closes.scope (d_law_closes.dvs K) (d_law_closes.kws K) (He.fAd K d_law_closes.at_) fd := T.defs 46 d_law_closes rfl
theorem Txt.D_law_walk (T : Txt K mg) : ∃ fd, FunD K d_law_walk.name d_law_walk.qual d_law_walk.params d_law_walk.body d_law_walk.scope (d_law_walk.dvs K) (d_law_walk.kws K) (He.fAd K d_law_walk.at_) fd := T.defs 47 d_law_walk rfl
theorem Txt.D_law (T : Txt K mg) : ∃ fd, FunD K d_law.name d_law.qual d_law.params d_law.body d_law.scope (d_law.dvs K) (d_law.kws K) (He.fAd K d_law.at_) fd := T.defs 48 d_law rfl
theorem Txt.D_Counts_init (T : Txt K mg) : ∃ fd, FunD K d_Counts_init.name d_Counts_init.qual d_Counts_init.params d_Counts_init.body d_Counts_init.scope (d_Counts_init.dvs K) (d_Counts_init.kws K) (He.fAd K d_Counts_init.at_) fd := T.defs 49 d_Counts_init rfl
theorem Txt.D_Counts_have (T : Txt K mg) : ∃ fd, FunD K d_Counts_have.name d_Counts_have.qual d_Counts_have.params d_Counts_have.body d_Counts_have.scope (d_Counts_have.dvs K) (d_Counts_have.kws K) (He.fAd K d_Counts_have.at_) fd := T.defs 50 d_Counts_have rfl
theorem Txt.D_Counts_add (T : Txt K mg) : ∃ fd, FunD K d_Counts_add.name d_Counts_add.qual d_Counts_add.params d_Counts_add.body d_Counts_add.scope (d_Counts_add.dvs K) (d_Counts_add.kws K) (He.fAd K d_Counts_add.at_) fd := T.defs 51 d_Counts_add rfl
theorem Txt.D_Days_init (T : Txt K mg) : ∃ fd, FunD K d_Days_init.name d_Days_init.qual d_Days_init.params d_Days_init.body d_Days_init.scope (d_Days_init.dvs K) (d_Days_init.kws K) (He.fAd K d_Days_init.at_) fd := T.defs 52 d_Days_init rfl
theorem Txt.D_Days_put (T : Txt K mg) : ∃ fd, FunD K d_Days_put.name d_Days_put.qual d_Days_put.params d_Days_put.body d_Days_put.scope (d_Days_put.dvs K) (d_Days_put.kws K) (He.fAd K d_Days_put.at_) fd := T.defs 53 d_Days_put rfl
theorem Txt.D_Days_has_number (T : Txt K mg) : ∃ fd, FunD K d_Days_has_number.name d_Days_has_number.qual d_Days_has_number.params d_Days_has_number.body d_Days_has_number.scope (d_Days_has_number.dvs K) (d_Days_has_number.kws K) (He.fAd K d_Days_has_number.at_) fd := T.defs 54 d_Days_has_number rfl
theorem Txt.D_Days_up_to (T : Txt K mg) : ∃ fd, FunD K d_Days_up_to.name d_Days_up_to.qual d_Days_up_to.params d_Days_up_to.body d_Days_up_to.scope (d_Days_up_to.dvs K) (d_Days_up_to.kws K) (He.fAd K d_Days_up_to.at_) fd := T.defs 55 d_Days_up_to rfl
theorem Txt.D_Clause_init (T : Txt K mg) : ∃ fd, FunD K d_Clause_init.name d_Clause_init.qual d_Clause_init.params d_Clause_init.body d_Clause_init.scope (d_Clause_init.dvs K) (d_Clause_init.kws K) (He.fAd K d_Clause_init.at_) fd := T.defs 56 d_Clause_init rfl
theorem Txt.D_Clause_key (T : Txt K mg) : ∃ fd, FunD K d_Clause_key.name d_Clause_key.qual d_Clause_key.params d_Clause_key.body d_Clause_key.scope (d_Clause_key.dvs K) (d_Clause_key.kws K) (He.fAd K d_Clause_key.at_) fd := T.defs 57 d_Clause_key rfl
theorem Txt.D_Clause_span (T : Txt K mg) : ∃ fd, FunD K d_Clause_span.name d_Clause_span.qual d_Clause_span.params d_Clause_span.body d_Clause_span.scope (d_Clause_span.dvs K) (d_Clause_span.kws K) (He.fAd K d_Clause_span.at_) fd := T.defs 58 d_Clause_span rfl
theorem Txt.D_Clause_room (T : Txt K mg) : ∃ fd, FunD K d_Clause_room.name d_Clause_room.qual d_Clause_room.params d_Clause_room.body d_Clause_room.scope (d_Clause_room.dvs K) (d_Clause_room.kws K) (He.fAd K d_Clause_room.at_) fd := T.defs 59 d_Clause_room rfl
theorem Txt.D_Own_init (T : Txt K mg) : ∃ fd, FunD K d_Own_init.name d_Own_init.qual d_Own_init.params d_Own_init.body d_Own_init.scope (d_Own_init.dvs K) (d_Own_init.kws K) (He.fAd K d_Own_init.at_) fd := T.defs 60 d_Own_init rfl
theorem Txt.D_Own_span (T : Txt K mg) : ∃ fd, FunD K d_Own_span.name d_Own_span.qual d_Own_span.params d_Own_span.body d_Own_span.scope (d_Own_span.dvs K) (d_Own_span.kws K) (He.fAd K d_Own_span.at_) fd := T.defs 61 d_Own_span rfl
theorem Txt.D_Own_key (T : Txt K mg) : ∃ fd, FunD K d_Own_key.name d_Own_key.qual d_Own_key.params d_Own_key.body d_Own_key.scope (d_Own_key.dvs K) (d_Own_key.kws K) (He.fAd K d_Own_key.at_) fd := T.defs 62 d_Own_key rfl
theorem Txt.D_Own_room (T : Txt K mg) : ∃ fd, FunD K d_Own_room.name d_Own_room.qual d_Own_room.params d_Own_room.body d_Own_room.scope (d_Own_room.dvs K) (d_Own_room.kws K) (He.fAd K d_Own_room.at_) fd := T.defs 63 d_Own_room rfl
theorem Txt.D_Layer_init (T : Txt K mg) : ∃ fd, FunD K d_Layer_init.name d_Layer_init.qual d_Layer_init.params d_Layer_init.body d_Layer_init.scope (d_Layer_init.dvs K) (d_Layer_init.kws K) (He.fAd K d_Layer_init.at_) fd := T.defs 64 d_Layer_init rfl
theorem Txt.D_Layer_span (T : Txt K mg) : ∃ fd, FunD K d_Layer_span.name d_Layer_span.qual d_Layer_span.params d_Layer_span.body d_Layer_span.scope (d_Layer_span.dvs K) (d_Layer_span.kws K) (He.fAd K d_Layer_span.at_) fd := T.defs 65 d_Layer_span rfl
theorem Txt.D_Layer_key (T : Txt K mg) : ∃ fd, FunD K d_Layer_key.name d_Layer_key.qual d_Layer_key.params d_Layer_key.body d_Layer_key.scope (d_Layer_key.dvs K) (d_Layer_key.kws K) (He.fAd K d_Layer_key.at_) fd := T.defs 66 d_Layer_key rfl
theorem Txt.D_Layer_room (T : Txt K mg) : ∃ fd, FunD K d_Layer_room.name d_Layer_room.qual d_Layer_room.params d_Layer_room.body d_Layer_room.scope (d_Layer_room.dvs K) (d_Layer_room.kws K) (He.fAd K d_Layer_room.at_) fd := T.defs 67 d_Layer_room rfl
theorem Txt.D_Limit_init (T : Txt K mg) : ∃ fd, FunD K d_Limit_init.name d_Limit_init.qual d_Limit_init.params d_Limit_init.body d_Limit_init.scope (d_Limit_init.dvs K) (d_Limit_init.kws K) (He.fAd K d_Limit_init.at_) fd := T.defs 68 d_Limit_init rfl
theorem Txt.D_Limit_room (T : Txt K mg) : ∃ fd, FunD K d_Limit_room.name d_Limit_room.qual d_Limit_room.params d_Limit_room.body d_Limit_room.scope (d_Limit_room.dvs K) (d_Limit_room.kws K) (He.fAd K d_Limit_room.at_) fd := T.defs 69 d_Limit_room rfl
theorem Txt.D_Limit_key (T : Txt K mg) : ∃ fd, FunD K d_Limit_key.name d_Limit_key.qual d_Limit_key.params d_Limit_key.body d_Limit_key.scope (d_Limit_key.dvs K) (d_Limit_key.kws K) (He.fAd K d_Limit_key.at_) fd := T.defs 70 d_Limit_key rfl
theorem Txt.D_Limit_span (T : Txt K mg) : ∃ fd, FunD K d_Limit_span.name d_Limit_span.qual d_Limit_span.params d_Limit_span.body d_Limit_span.scope (d_Limit_span.dvs K) (d_Limit_span.kws K) (He.fAd K d_Limit_span.at_) fd := T.defs 71 d_Limit_span rfl
theorem Txt.D_Roll_init (T : Txt K mg) : ∃ fd, FunD K d_Roll_init.name d_Roll_init.qual d_Roll_init.params d_Roll_init.body d_Roll_init.scope (d_Roll_init.dvs K) (d_Roll_init.kws K) (He.fAd K d_Roll_init.at_) fd := T.defs 72 d_Roll_init rfl
theorem Txt.D_Roll_is_late (T : Txt K mg) : ∃ fd, FunD K d_Roll_is_late.name d_Roll_is_late.qual d_Roll_is_late.params d_Roll_is_late.body d_Roll_is_late.scope (d_Roll_is_late.dvs K) (d_Roll_is_late.kws K) (He.fAd K d_Roll_is_late.at_) fd := T.defs 73 d_Roll_is_late rfl
theorem Txt.D_Roll_enter (T : Txt K mg) : ∃ fd, FunD K d_Roll_enter.name d_Roll_enter.qual d_Roll_enter.params d_Roll_enter.body d_Roll_enter.scope (d_Roll_enter.dvs K) (d_Roll_enter.kws K) (He.fAd K d_Roll_enter.at_) fd := T.defs 74 d_Roll_enter rfl
theorem Txt.D_Roll_close (T : Txt K mg) : ∃ fd, FunD K d_Roll_close.name d_Roll_close.qual d_Roll_close.params d_Roll_close.body d_Roll_close.scope (d_Roll_close.dvs K) (d_Roll_close.kws K) (He.fAd K d_Roll_close.at_) fd := T.defs 75 d_Roll_close rfl
theorem Txt.D_Roll_told (T : Txt K mg) : ∃ fd, FunD K d_Roll_told.name d_Roll_told.qual d_Roll_told.params d_Roll_told.body d_Roll_told.scope (d_Roll_told.dvs K) (d_Roll_told.kws K) (He.fAd K d_Roll_told.at_) fd := T.defs 76 d_Roll_told rfl
theorem Txt.D_Roll_settled (T : Txt K mg) : ∃ fd, FunD K d_Roll_settled.name d_Roll_settled.qual d_Roll_settled.params d_Roll_settled.body d_Roll_settled.scope (d_Roll_settled.dvs K) (d_Roll_settled.kws K) (He.fAd K d_Roll_settled.at_) fd := T.defs 77 d_Roll_settled rfl
theorem Txt.D_Book_init (T : Txt K mg) : ∃ fd, FunD K d_Book_init.name d_Book_init.qual d_Book_init.params d_Book_init.body d_Book_init.scope (d_Book_init.dvs K) (d_Book_init.kws K) (He.fAd K d_Book_init.at_) fd := T.defs 78 d_Book_init rfl
theorem Txt.D_Condition_holds (T : Txt K mg) : ∃ fd, FunD K d_Condition_holds.name d_Condition_holds.qual d_Condition_holds.params d_Condition_holds.body d_Condition_holds.scope (d_Condition_holds.dvs K) (d_Condition_holds.kws K) (He.fAd K d_Condition_holds.at_) fd := T.defs 79 d_Condition_holds rfl
theorem Txt.D_CauseIs_init (T : Txt K mg) : ∃ fd, FunD K d_CauseIs_init.name d_CauseIs_init.qual d_CauseIs_init.params d_CauseIs_init.body d_CauseIs_init.scope (d_CauseIs_init.dvs K) (d_CauseIs_init.kws K) (He.fAd K d_CauseIs_init.at_) fd := T.defs 80 d_CauseIs_init rfl
theorem Txt.D_CauseIs_holds (T : Txt K mg) : ∃ fd, FunD K d_CauseIs_holds.name d_CauseIs_holds.qual d_CauseIs_holds.params d_CauseIs_holds.body d_CauseIs_holds.scope (d_CauseIs_holds.dvs K) (d_CauseIs_holds.kws K) (He.fAd K d_CauseIs_holds.at_) fd := T.defs 81 d_CauseIs_holds rfl
theorem Txt.D_ThingIs_init (T : Txt K mg) : ∃ fd, FunD K d_ThingIs_init.name d_ThingIs_init.qual d_ThingIs_init.params d_ThingIs_init.body d_ThingIs_init.scope (d_ThingIs_init.dvs K) (d_ThingIs_init.kws K) (He.fAd K d_ThingIs_init.at_) fd := T.defs 82 d_ThingIs_init rfl
theorem Txt.D_ThingIs_holds (T : Txt K mg) : ∃ fd, FunD K d_ThingIs_holds.name d_ThingIs_holds.qual d_ThingIs_holds.params d_ThingIs_holds.body d_ThingIs_holds.scope (d_ThingIs_holds.dvs K) (d_ThingIs_holds.kws K) (He.fAd K d_ThingIs_holds.at_) fd := T.defs 83 d_ThingIs_holds rfl
theorem Txt.D_DaysIn_init (T : Txt K mg) : ∃ fd, FunD K d_DaysIn_init.name d_DaysIn_init.qual d_DaysIn_init.params d_DaysIn_init.body d_DaysIn_init.scope (d_DaysIn_init.dvs K) (d_DaysIn_init.kws K) (He.fAd K d_DaysIn_init.at_) fd := T.defs 84 d_DaysIn_init rfl
theorem Txt.D_DaysIn_holds (T : Txt K mg) : ∃ fd, FunD K d_DaysIn_holds.name d_DaysIn_holds.qual d_DaysIn_holds.params d_DaysIn_holds.body d_DaysIn_holds.scope (d_DaysIn_holds.dvs K) (d_DaysIn_holds.kws K) (He.fAd K d_DaysIn_holds.at_) fd := T.defs 85 d_DaysIn_holds rfl
theorem Txt.D_Over_init (T : Txt K mg) : ∃ fd, FunD K d_Over_init.name d_Over_init.qual d_Over_init.params d_Over_init.body d_Over_init.scope (d_Over_init.dvs K) (d_Over_init.kws K) (He.fAd K d_Over_init.at_) fd := T.defs 86 d_Over_init rfl
theorem Txt.D_Over_holds (T : Txt K mg) : ∃ fd, FunD K d_Over_holds.name d_Over_holds.qual d_Over_holds.params d_Over_holds.body d_Over_holds.scope (d_Over_holds.dvs K) (d_Over_holds.kws K) (He.fAd K d_Over_holds.at_) fd := T.defs 87 d_Over_holds rfl
theorem Txt.D_Not_init (T : Txt K mg) : ∃ fd, FunD K d_Not_init.name d_Not_init.qual d_Not_init.params d_Not_init.body d_Not_init.scope (d_Not_init.dvs K) (d_Not_init.kws K) (He.fAd K d_Not_init.at_) fd := T.defs 88 d_Not_init rfl
theorem Txt.D_Not_holds (T : Txt K mg) : ∃ fd, FunD K d_Not_holds.name d_Not_holds.qual d_Not_holds.params d_Not_holds.body d_Not_holds.scope (d_Not_holds.dvs K) (d_Not_holds.kws K) (He.fAd K d_Not_holds.at_) fd := T.defs 89 d_Not_holds rfl
theorem Txt.D_All_init (T : Txt K mg) : ∃ fd, FunD K d_All_init.name d_All_init.qual d_All_init.params d_All_init.body d_All_init.scope (d_All_init.dvs K) (d_All_init.kws K) (He.fAd K d_All_init.at_) fd := T.defs 90 d_All_init rfl
theorem Txt.D_All_holds (T : Txt K mg) : ∃ fd, FunD K d_All_holds.name d_All_holds.qual d_All_holds.params d_All_holds.body d_All_holds.scope (d_All_holds.dvs K) (d_All_holds.kws K) (He.fAd K d_All_holds.at_) fd := T.defs 91 d_All_holds rfl
theorem Txt.D_Some_init (T : Txt K mg) : ∃ fd, FunD K d_Some_init.name d_Some_init.qual d_Some_init.params d_Some_init.body d_Some_init.scope (d_Some_init.dvs K) (d_Some_init.kws K) (He.fAd K d_Some_init.at_) fd := T.defs 92 d_Some_init rfl
theorem Txt.D_Some_holds (T : Txt K mg) : ∃ fd, FunD K d_Some_holds.name d_Some_holds.qual d_Some_holds.params d_Some_holds.body d_Some_holds.scope (d_Some_holds.dvs K) (d_Some_holds.kws K) (He.fAd K d_Some_holds.at_) fd := T.defs 93 d_Some_holds rfl
theorem Txt.D_Deal_init (T : Txt K mg) : ∃ fd, FunD K d_Deal_init.name d_Deal_init.qual d_Deal_init.params d_Deal_init.body d_Deal_init.scope (d_Deal_init.dvs K) (d_Deal_init.kws K) (He.fAd K d_Deal_init.at_) fd := T.defs 94 d_Deal_init rfl
theorem Txt.D_Cover_init (T : Txt K mg) : ∃ fd, FunD K d_Cover_init.name d_Cover_init.qual d_Cover_init.params d_Cover_init.body d_Cover_init.scope (d_Cover_init.dvs K) (d_Cover_init.kws K) (He.fAd K d_Cover_init.at_) fd := T.defs 95 d_Cover_init rfl
theorem Txt.D_Cover_asks (T : Txt K mg) : ∃ fd, FunD K d_Cover_asks.name d_Cover_asks.qual d_Cover_asks.params d_Cover_asks.body d_Cover_asks.scope (d_Cover_asks.dvs K) (d_Cover_asks.kws K) (He.fAd K d_Cover_asks.at_) fd := T.defs 96 d_Cover_asks rfl
theorem Txt.D_Cover_spans (T : Txt K mg) : ∃ fd, FunD K d_Cover_spans.name d_Cover_spans.qual d_Cover_spans.params d_Cover_spans.body d_Cover_spans.scope (d_Cover_spans.dvs K) (d_Cover_spans.kws K) (He.fAd K d_Cover_spans.at_) fd := T.defs 97 d_Cover_spans rfl
theorem Txt.D_Cover_window (T : Txt K mg) : ∃ fd, FunD K d_Cover_window.name d_Cover_window.qual d_Cover_window.params d_Cover_window.body d_Cover_window.scope (d_Cover_window.dvs K) (d_Cover_window.kws K) (He.fAd K d_Cover_window.at_) fd := T.defs 98 d_Cover_window rfl
theorem Txt.D_Cover_parts (T : Txt K mg) : ∃ fd, FunD K d_Cover_parts.name d_Cover_parts.qual d_Cover_parts.params d_Cover_parts.body d_Cover_parts.scope (d_Cover_parts.dvs K) (d_Cover_parts.kws K) (He.fAd K d_Cover_parts.at_) fd := T.defs 99 d_Cover_parts rfl
theorem Txt.D_Cover_rest (T : Txt K mg) : ∃ fd, FunD K d_Cover_rest.name d_Cover_rest.qual d_Cover_rest.params d_Cover_rest.body d_Cover_rest.scope (d_Cover_rest.dvs K) (d_Cover_rest.kws K) (He.fAd K d_Cover_rest.at_) fd := T.defs 100 d_Cover_rest rfl
theorem Txt.D_Twice_init (T : Txt K mg) : ∃ fd, FunD K d_Twice_init.name d_Twice_init.qual d_Twice_init.params d_Twice_init.body d_Twice_init.scope (d_Twice_init.dvs K) (d_Twice_init.kws K) (He.fAd K d_Twice_init.at_) fd := T.defs 101 d_Twice_init rfl
theorem Txt.D_Late_init (T : Txt K mg) : ∃ fd, FunD K d_Late_init.name d_Late_init.qual d_Late_init.params d_Late_init.body d_Late_init.scope (d_Late_init.dvs K) (d_Late_init.kws K) (He.fAd K d_Late_init.at_) fd := T.defs 102 d_Late_init rfl
end
end Cv
namespace Cv
open PySem PySem.Spec
open PyProof.Rows hiding St
open L2
abbrev R : PySem.W.OpenRow := PySem.W.OpenLaw.row PySem.Challenge.rw_coverroll_k52_refused_losses
abbrev vw : Program := PySem.W.view R.prog [105]
def addrs : Nat → List Addr
  | 0 => []
  | n + 1 => n :: addrs n
def KG (g : Addr → Option Obj) : PySem.W.Frag := He.frG g (addrs 1500)
def fb : List He.Fa := fa0 ++ fa1 ++ fa2 ++ fa3
def fc : List He.Fa := fa4 ++ fa5 ++ fa6 ++ fa7
theorem says_fa {K : PySem.W.Frag} (h1 : He.SaysD fb [] K) (h2 : He.SaysD fc [] K) : He.SaysD fa [] K := by
  have e : fa = fb ++ fc := by
    unfold fa fb fc
    simp [List.append_assoc]
  have q1 := congrArg (fun z : He.AlD => z.1) h1
  have q2 := congrArg (fun z : He.AlD => z.1) h2
  have q1 : ((fb.all fun f => f.ok K) && true) = true := q1
  have q2 : ((fc.all fun f => f.ok K) && true) = true := q2
  show ((fa.all fun f => f.ok K) && true, ([] : List He.FnW)) = (true, [])
  rw [e, List.all_append]
  rw [Bool.and_true] at q1 q2
  rw [q1, q2]
  rfl
abbrev AlC : Type := He.AlD × He.AlD × He.AlD × He.AlD × He.AlD × He.AlD × Bool
def obsC (g : Addr → Option Obj) : AlC := (He.obsD fb [] (KG g), He.obsD fc [] (KG g), He.obsD [] fn0 (KG g), He.obsD [] fn1 (KG g), He.obsD [] fn2 (KG g), He.obsD [] fn3 (KG g), exB (KG g))
def valC : AlC := (He.valD [], He.valD [], He.valD fn0, He.valD fn1, He.valD fn2, He.valD fn3, true)
def hk : PySem.W.Hook where
  α := AlC
  obs := fun s => obsC s.heap.get?
  val := fun _ => valC
  says := fun _ h => ∃ K : PySem.W.Frag, K.In h ∧ He.SaysD fa [] K ∧ (He.SaysD [] fn0 K ∧ He.SaysD [] fn1 K ∧ He.SaysD [] fn2 K ∧ He.SaysD [] fn3 K) ∧ exB K = true
  of := fun _ s e => by
    have e1 : He.obsD fb [] (KG s.heap.get?) = He.valD [] := congrArg (fun z : AlC => z.1) e
    have e2 : He.obsD fc [] (KG s.heap.get?) = He.valD [] := congrArg (fun z : AlC => z.2.1) e
    have e3 : He.obsD [] fn0 (KG s.heap.get?) = He.valD fn0 := congrArg (fun z : AlC => z.2.2.1) e
    have e4 : He.obsD [] fn1 (KG s.heap.get?) = He.valD fn1 := congrArg (fun z : AlC => z.2.2.2.1) e
    have e5 : He.obsD [] fn2 (KG s.heap.get?) = He.valD fn2 := congrArg (fun z : AlC => z.2.2.2.2.1) e
    have e6 : He.obsD [] fn3 (KG s.heap.get?) = He.valD fn3 := congrArg (fun z : AlC => z.2.2.2.2.2.1) e
    have e7 : exB (KG s.heap.get?) = true := congrArg (fun z : AlC => z.2.2.2.2.2.2) e
    exact ⟨KG s.heap.get?, He.frG_in, says_fa e1 e2, ⟨e3, e4, e5, e6⟩, e7⟩
  keeps := fun _ _ _ ⟨K, hK, c⟩ k => ⟨K, PySem.W.Frag.In.keeps hK k, c⟩
def ob (s : PySem.W.SharedT) : AlC := obsC (HandSHeadRun.getT s)
theorem ob_eq (s : PySem.W.SharedT) : ob s = hk.obs s.abs := by
  have e : HandSHeadRun.getT s = s.abs.heap.get? := funext (HandSHeadRun.getT_eq s)
  show obsC (HandSHeadRun.getT s) = obsC s.abs.heap.get?
  rw [e]
end Cv
namespace Cv
open PySem PySem.Spec
open PyProof.Rows hiding St
open L2
open HandSHeadRun PySem.W in
theorem runA (w : World) (os : OsState) : (endF (stepQ (denQ tabQ) R.prog w) 20000 R.prog w os).map (fun s => (looksF R.prog (boot_heap w.params) s.abs, seenQ vw loose (importedModules R.prog.main.body) (fun s => xlAt vw [] s && recOk R.toRowW.records s) s.abs)) = some (true, openGood vw loose) := by kernel_rfl
end Cv
namespace Cv
open PySem PySem.Spec
open PyProof.Rows hiding St
open L2
open HandSHeadRun PySem.W in
theorem run1 (w : World) (os : OsState) : (endF (stepQ (denQ tabQ) R.prog w) 20000 R.prog w os).map (fun s => He.obsD fb [] (KG (getT s))) = some (He.valD []) := by kernel_rfl
end Cv
namespace Cv
open PySem PySem.Spec
open PyProof.Rows hiding St
open L2
open HandSHeadRun PySem.W in
theorem run2 (w : World) (os : OsState) : (endF (stepQ (denQ tabQ) R.prog w) 20000 R.prog w os).map (fun s => He.obsD fc [] (KG (getT s))) = some (He.valD []) := by kernel_rfl
end Cv
namespace Cv
open PySem PySem.Spec
open PyProof.Rows hiding St
open L2
open HandSHeadRun PySem.W in
theorem run3 (w : World) (os : OsState) : (endF (stepQ (denQ tabQ) R.prog w) 20000 R.prog w os).map (fun s => He.obsD [] fn0 (KG (getT s))) = some (He.valD fn0) := by kernel_rfl
end Cv
namespace Cv
open PySem PySem.Spec
open PyProof.Rows hiding St
open L2
open HandSHeadRun PySem.W in
theorem run4 (w : World) (os : OsState) : (endF (stepQ (denQ tabQ) R.prog w) 20000 R.prog w os).map (fun s => He.obsD [] fn1 (KG (getT s))) = some (He.valD fn1) := by kernel_rfl
end Cv
namespace Cv
open PySem PySem.Spec
open PyProof.Rows hiding St
open L2
open HandSHeadRun PySem.W in
theorem run5 (w : World) (os : OsState) : (endF (stepQ (denQ tabQ) R.prog w) 20000 R.prog w os).map (fun s => He.obsD [] fn2 (KG (getT s))) = some (He.valD fn2) := by kernel_rfl
end Cv
namespace Cv
open PySem PySem.Spec
open PyProof.Rows hiding St
open L2
open HandSHeadRun PySem.W in
theorem run6 (w : World) (os : OsState) : (endF (stepQ (denQ tabQ) R.prog w) 20000 R.prog w os).map (fun s => He.obsD [] fn3 (KG (getT s))) = some (He.valD fn3) := by kernel_rfl
end Cv
namespace Cv
open PySem PySem.Spec
open PyProof.Rows hiding St
open L2
open HandSHeadRun PySem.W in
theorem run7 (w : World) (os : OsState) : (endF (stepQ (denQ tabQ) R.prog w) 20000 R.prog w os).map (fun s => exB (KG (getT s))) = some (true) := by kernel_rfl
end Cv
namespace Cv
open PySem PySem.Spec
open PyProof.Rows hiding St
open L2
/-- what is promised of the law's own call -/
def sp_law (K : PySem.W.Frag) : Sp := fun vs H Q _ => ∃ (a : Addr) (ns : List Int), vs = [.ref a] ∧ SqL K H a (ns.map V.int) ∧ ns.length ≤ 63 ∧ ∀ H', Same H H' → Q (.bl true) H'
/-- the law's def keeps it -/
def LawOk : Prop := ∀ {P : Program} {w : World} {K : PySem.W.Frag} {mg : Str → Option Value} {base : Heap} (_ : Txt K mg) {fd : FuncData} (_ : FunD K d_law.name d_law.qual d_law.params d_law.body d_law.scope (d_law.dvs K) (d_law.kws K) (He.fAd K d_law.at_) fd), FnOk P w K mg base C8.CX0 11 (He.fAd K d_law.at_) fd P_law (sp_law K)
end Cv
namespace Cv
open PySem PySem.Spec
open PyProof.Rows hiding St
open L2
theorem pair {σ α β : Type} {o : Option σ} {f : σ → α} {g : σ → β} {a : α} {b : β} (h1 : o.map (fun s => f s) = some a) (h2 : o.map (fun s => g s) = some b) : o.map (fun s => (f s, g s)) = some (a, b) := by
  cases o with
  | none => cases h1
  | some s =>
    have q1 : f s = a := Option.some.inj h1
    have q2 : g s = b := Option.some.inj h2
    show some (f s, g s) = _
    rw [q1, q2]
theorem trip {σ α β γ : Type} {o : Option σ} {f : σ → α} {g : σ → β} {h : σ → γ} {a : α} {b : β} {c : γ} (h1 : o.map (fun s => (f s, g s)) = some (a, b)) (h2 : o.map (fun s => h s) = some c) : o.map (fun s => (f s, g s, h s)) = some (a, b, c) := by
  cases o with
  | none => cases h2
  | some s =>
    have q1 : (f s, g s) = (a, b) := Option.some.inj h1
    have q2 : h s = c := Option.some.inj h2
    have r1 : f s = a := congrArg (fun z => z.1) q1
    have r2 : g s = b := congrArg (fun z => z.2) q1
    show some (f s, g s, h s) = _
    rw [r1, r2, q2]
theorem run (w : World) : HandSHeadRun.RunEq R vw hk ob 20000 loose w := fun os => trip (runA w os) (pair (run1 w os) (pair (run2 w os) (pair (run3 w os) (pair (run4 w os) (pair (run5 w os) (pair (run6 w os) (run7 w os)))))))
theorem defs_of {K : PySem.W.Frag} (c0 : He.SaysD [] fn0 K) (c1 : He.SaysD [] fn1 K) (c2 : He.SaysD [] fn2 K) (c3 : He.SaysD [] fn3 K) (i : Nat) (d : He.DefD) (h : fn[i]? = some d) : ∃ fd, FunD K d.name d.qual d.params d.body d.scope (d.dvs K) (d.kws K) (He.fAd K d.at_) fd := by
  have m := List.mem_of_getElem? h
  unfold fn at m
  simp only [List.mem_append] at m
  rcases m with ((m | m) | m) | m
  all_goals obtain ⟨j, hj⟩ := List.mem_iff_getElem?.mp m
  · exact c0.def_ j hj
  · exact c1.def_ j hj
  · exact c2.def_ j hj
  · exact c3.def_ j hj
theorem ends (L : LawOk) {P : Program} {w : World} {K : PySem.W.Frag} {h : Heap} {mg : Str → Option Value} {f : Addr} (X : K.In h) (G : h.Ns mainGlobals mg) (hfa : mg ("law" : Str) = some (.ref f)) (c0 : He.SaysD fa [] K) (c1 : He.SaysD [] fn0 K ∧ He.SaysD [] fn1 K ∧ He.SaysD [] fn2 K ∧ He.SaysD [] fn3 K) (c3 : exB K = true) :
    ∃ fd : FuncData, (∀ (s : Shared) (v : Value), BindsTo s fd ⟨[v], []⟩ [("_law_script", v)]) ∧ ∀ base : Heap, K.In base → base.Ns mainGlobals mg → FnOk P w K mg base C8.CX0 11 f fd ["_law_script"] (sp_law K) := by
  have T : Txt K mg := ⟨c0, defs_of c1.1 c1.2.1 c1.2.2.1 c1.2.2.2, c3, h, X, G⟩
  obtain ⟨fd, F⟩ := T.D_law
  have e := hfa.symm.trans T.g_law
  cases e
  have b := FunD.bindsA (ps := ["_law_script"]) F fun _ _ _ _ _ _ us hl => match us, hl with | [_], _ => rfl
  exact ⟨fd, fun s v => b s [v] rfl, fun base _ _ => L T F⟩
open PySem.W PySem.Calls in
theorem holds_of (L : LawOk) : PySem.Challenge.rw_coverroll_k52_refused_losses.Holds := by
  w_on; o_law
  refine HandSHeadRun.head_any (r := OpenLaw.row PySem.Challenge.rw_coverroll_k52_refused_losses) (q := view (OpenLaw.row PySem.Challenge.rw_coverroll_k52_refused_losses).prog [105]) (H := Cv.hk) (ob := Cv.ob) (M := 20000) (loose := Cv.loose) (d := HandSHeadRun.topDef (OpenLaw.row PySem.Challenge.rw_coverroll_k52_refused_losses).prog 105) (kwd := []) Cv.ob_eq
    (by kernel_rfl) (fun s => by kernel_rfl) Cv.run (by kernel_rfl) (by kernel_rfl) (by kernel_rfl) (by rfl) (by first | assumption | decide +kernel) (by decide +kernel) ⟨rfl, rfl, rfl, rfl, rfl, by decide +kernel⟩ ?hw ?hc
  case hw => w_witness2
  case hc =>
    refine L2.walk_ofE (l := PySem.Challenge.rw_coverroll_k52_refused_losses) (n := 63) (k := 11) (x := "_law_script") (CX := C8.CX0) rfl (by decide) (by kernel_rfl) ⟨rfl, by decide, by decide⟩ ?F (fun _ _ _ _ z => z)
    intro w mg fa h Y G hmg0
    obtain ⟨K, KX, c0, c1, c3⟩ := Y
    have hmg : mg ("law" : PySem.Str) = some (.ref fa) := by
      have e : (HandSHeadRun.topDef (OpenLaw.row PySem.Challenge.rw_coverroll_k52_refused_losses).prog 105).name = ("law" : PySem.Str) := by kernel_rfl
      rw [← e]
      exact hmg0
    obtain ⟨fd, hb, hF⟩ := Cv.ends L (P := (PySem.Challenge.rw_coverroll_k52_refused_losses).prog) (w := w) KX G hmg c0 c1 c3
    exact ⟨K, fd, Cv.sp_law K, KX, hb, fun H a ns hl _ hS => ⟨a, ns, rfl, hS, hl, fun _ _ => rfl⟩, hF⟩
end Cv
namespace Cv
open PySem PySem.Spec
open PyProof.Rows hiding St
open L2
theorem bb_len : bootBuiltins "len" = some (.builtin "len") := by decide +kernel
theorem bb_max : bootBuiltins "max" = some (.builtin "max") := by decide +kernel
theorem bb_min : bootBuiltins "min" = some (.builtin "min") := by decide +kernel
theorem bb_isinstance : bootBuiltins "isinstance" = some (.builtin "isinstance") := by decide +kernel
theorem bb_sum : bootBuiltins "sum" = some (.builtin "sum") := by decide +kernel
theorem bb_sorted : bootBuiltins "sorted" = some (.builtin "sorted") := by decide +kernel
theorem bt_list : bootBuiltins "list" = some (.type "list") := by decide +kernel
theorem bt_int : bootBuiltins "int" = some (.type "int") := by decide +kernel
theorem bt_str : bootBuiltins "str" = some (.type "str") := by decide +kernel
theorem bt_bool : bootBuiltins "bool" = some (.type "bool") := by decide +kernel
theorem bt_set : bootBuiltins "set" = some (.type "set") := by decide +kernel
theorem bt_ValueError : bootBuiltins "ValueError" = some (.type "ValueError") := by decide +kernel
/-! ### heaps -/
theorem _root_.L2.Same.get {H H' : Hp} {a : Addr} {o : HO} (S : Same H H') (h : H a = some o) : H' a = some o := S a o h
theorem _root_.L2.Same.seqT {K : PySem.W.Frag} {H H' : Hp} {a : Addr} {xs : List V} (e : Same H H') (h : SqT K H a xs) : SqT K H' a xs := by
  rcases h with h | h
  · rcases h with h | ⟨o, h⟩
    · exact .inl (.inl (e _ _ h))
    · exact .inl (.inr ⟨o, e _ _ h⟩)
  · exact .inr h
theorem new_same {H H' : Hp} {p : Addr} {o : HO} (hp : H p = none) (e : upd H p o = H') : Same H H' := fun b u h => by
  rw [← e, upd_ne (ne_of_none h hp)]
  exact h
theorem new_at {H H' : Hp} {p : Addr} {o : HO} (e : upd H p o = H') : H' p = some o := by
  rw [← e]
  exact upd_same
/-- an object that H0 does not know may change -/
theorem _root_.L2.Same.mut {H0 H : Hp} {p : Addr} {o : HO} (S : Same H0 H) (h : H0 p = none) : Same H0 (upd H p o) := fun a u ha => by
  rw [upd_ne (ne_of_none ha h)]
  exact S a u ha
theorem sz_nil : ([] : List V).length ≤ sizeLine := Nat.zero_le _
theorem sz_lit (n : Nat) (h : Nat.ble n 100000 = true) : n ≤ sizeLine := Nat.le_trans (Nat.le_of_ble_eq_true h) (by decide)
theorem sz_lit' {n : Nat} (h : n ≤ 100000) : n ≤ sizeLine := Nat.le_trans h (by decide)
theorem sz_fs {n : Nat} (h : Nat.blt n 1000 = true) : n < 1000 := Nat.le_of_ble_eq_true h
theorem sz_lt {n : Nat} (h : n < 100000) : n < sizeLine := Nat.lt_of_lt_of_le h (by decide)
/-- what a loop's word says: not to be opened by a step -/
def Hold (p : Prop) : Prop := p
theorem hold {p : Prop} (h : p) : Hold p := h
/-- d.setdefault(k, v), k a tuple -/
def tDSetT (td ty tx : TE) : TE := fun σ H Q => td σ H fun x H1 => ∃ a, x = .ref a ∧ IsD H1 a ∧ ty σ H1 fun y H2 => tx σ H2 fun z H3 => ∃ (kvs : List (List Key × V)) (k : List Key) (b : Addr), H3 a = some (.dT kvs) ∧ y = .ref b ∧ H3 b = some (.tup (k.map kV)) ∧ kvs.length < sizeLine ∧
  (∀ v, valV kvs k = some v → Q v H3) ∧ (valV kvs k = none → Q z (upd H3 a (.dT (putK kvs k z))))
theorem rd_dsetT {td ty tx : TE} {σ : St} {H : Hp} {Q : VK} (h : td σ H fun x H1 => ∃ a, x = .ref a ∧ IsD H1 a ∧ ty σ H1 fun y H2 => tx σ H2 fun z H3 => ∃ (kvs : List (List Key × V)) (k : List Key) (b : Addr), H3 a = some (.dT kvs) ∧ y = .ref b ∧ H3 b = some (.tup (k.map kV)) ∧ kvs.length < sizeLine ∧
  (∀ v, valV kvs k = some v → Q v H3) ∧ (valV kvs k = none → Q z (upd H3 a (.dT (putK kvs k z))))) : tDSetT td ty tx σ H Q := h
/-! ### readings, a step each -/
section
variable {K : PySem.W.Frag} {σ : St} {H : Hp} {D : Ends} {Q : VK} {ta tb te : TE} {t u : TS}
theorem rd_seq (h : t ⟨u D, D.rt, D.bk, D.ct⟩ σ H) : tSeq t u D σ H := h
theorem rd_next (h : D.nx σ H) : tNext D σ H := h
theorem rd_brk (h : D.bk σ H) : tBreak D σ H := h
theorem rd_cont (h : D.ct σ H) : tCont D σ H := h
theorem rd_drop (h : te σ H fun _ H1 => D.nx σ H1) : tDrop te D σ H := h
theorem rd_ret (h : te σ H D.rt) : tRet te D σ H := h
theorem rd_retN (h : D.rt .non H) : tRetN D σ H := h
theorem rd_ifs {c : TT} (h : c σ H fun b H1 => if b = true then t D σ H1 else u D σ H1) : tIfS c t u D σ H := h
theorem rd_asg {g : TG} (h : te σ H fun x H1 => g x σ H1 D.nx) : tAsg te g D σ H := h
theorem rd_gname {i : Nat} {v : V} {R : St → Hp → Prop} (h : R (σ.set i (some v)) H) : gName i v σ H R := h
theorem rd_gtup {n : Nat} {tg : TGs} {a : Addr} {xs : List V} {R : St → Hp → Prop} (h1 : SqT K H a xs) (h2 : xs.length = n) (h3 : tg xs σ H R) : gTup K n tg (.ref a) σ H R := ⟨a, xs, rfl, h1, h2, h3⟩
theorem rd_gcons {tg : TG} {tr : TGs} {v : V} {r : List V} {R : St → Hp → Prop} (h : tg v σ H fun s' h' => tr r s' h' R) : gCons tg tr (v :: r) σ H R := ⟨v, r, rfl, h⟩
theorem rd_gnil {R : St → Hp → Prop} (h : R σ H) : gNil [] σ H R := ⟨rfl, h⟩
theorem rd_var {i : Nat} {v : V} (h : σ[i]? = some (some v)) (q : Q v H) : tVar i σ H Q := ⟨v, h, q⟩
theorem rd_c {v : V} (h : Q v H) : tC v σ H Q := h
theorem rd_op {r : R2} (h : ta σ H fun x H1 => tb σ H1 fun y H2 => r x y H2 Q) : tOp r ta tb σ H Q := h
theorem rd_un {r : V → Hp → VK → Prop} (h : ta σ H fun x H1 => r x H1 Q) : tUn r ta σ H Q := h
theorem rd_rI0 {g : Int → Int → V} {i j : Int} (h : Q (g i j) H) : rI0 g (.int i) (.int j) H Q := ⟨i, j, rfl, rfl, h⟩
theorem rd_rI {C : Int → Int → Prop} {g : Int → Int → V} {i j : Int} (c : C i j) (h : Q (g i j) H) : rI C g (.int i) (.int j) H Q := ⟨i, j, rfl, rfl, c, h⟩
theorem rd_rU {g : Int → V} {i : Int} (h : Q (g i) H) : rU g (.int i) H Q := ⟨i, rfl, h⟩
theorem rd_eq {x y : V} (s : scal x y = true) (h : Q (.bl (decide (x = y))) H) : rEq x y H Q := ⟨s, h⟩
theorem rd_ne {x y : V} (s : scal x y = true) (h : Q (.bl (!decide (x = y))) H) : rNe x y H Q := ⟨s, h⟩
theorem rd_test {R : Bool → Hp → Prop} (h : te σ H fun x H' => ∃ k, x = .bl k ∧ R k H') : tTest te σ H R := h
theorem rd_tB {R : Bool → Hp → Prop} (h : te σ H fun x H' => ∃ k, x = .bl k ∧ R k H') : tB te σ H R := h
theorem rd_bl {k : Bool} {R : Bool → Prop} (h : R k) : ∃ c, V.bl k = .bl c ∧ R c := ⟨k, rfl, h⟩
theorem rd_and {a b : TT} {R : Bool → Hp → Prop} (h : a σ H fun c H1 => if c = true then b σ H1 R else R false H1) : tAnd a b σ H R := h
theorem rd_or {a b : TT} {R : Bool → Hp → Prop} (h : a σ H fun c H1 => if c = true then R true H1 else b σ H1 R) : tOr a b σ H R := h
theorem rd_not {a : TT} {R : Bool → Hp → Prop} (h : a σ H fun c H1 => R (!c) H1) : tNot a σ H R := h
theorem rd_andV (h : ta σ H fun x H1 => ∃ c, x = .bl c ∧ if c = true then tb σ H1 Q else Q (.bl false) H1) : tAndV ta tb σ H Q := h
theorem rd_orV (h : ta σ H fun x H1 => ∃ c, x = .bl c ∧ if c = true then Q (.bl true) H1 else tb σ H1 Q) : tOrV ta tb σ H Q := h
theorem rd_notV (h : ta σ H fun x H1 => ∃ c, x = .bl c ∧ Q (.bl (!c)) H1) : tNotV ta σ H Q := h
theorem rd_tif {c : TT} (h : c σ H fun b H1 => if b = true then ta σ H1 Q else tb σ H1 Q) : tIf c ta tb σ H Q := h
theorem rd_chain {r r' : R2} {tc : TE} (h : ta σ H fun x H1 => tb σ H1 fun y H2 => r x y H2 fun z H3 => ∃ k, z = .bl k ∧ (if k = true then tc σ H3 fun w' H4 => r' y w' H4 Q else Q (.bl false) H3)) : tChain r r' ta tb tc σ H Q := h
theorem rd_cb {r : List V → Hp → VK → Prop} {tt : TA} (h : tt σ H fun vs H1 => r vs H1 Q) : tCB r tt σ H Q := h
theorem rd_cons {tr : TA} {R : List V → Hp → Prop} (h : ta σ H fun x H1 => tr σ H1 fun xs H2 => R (x :: xs) H2) : tCons ta tr σ H R := h
theorem rd_nil {R : List V → Hp → Prop} (h : R [] H) : tNil σ H R := h
theorem rd_bm {n : String} {r : V → List V → Hp → VK → Prop} {tt : TA} (h : ta σ H fun x H1 => tyV K n x H1 ∧ tt σ H1 fun xs H2 => r x xs H2 Q) : tBM K n r ta tt σ H Q := h
theorem rd_m1 {r : V → List V → Hp → VK → Prop} (h : ta σ H fun x H1 => (∃ a, x = .str a) ∧ tb σ H1 fun y H2 => r x [y] H2 Q) : tM1 r ta tb σ H Q := h
theorem rd_bm0 {n : String} {r : V → List V → Hp → VK → Prop} (h : ta σ H fun x H1 => tyV K n x H1 ∧ r x [] H1 Q) : tBM0 K n r ta σ H Q := h
theorem rd_fld {f : Str} (h : ta σ H fun x H1 => ∃ a C dx fs v, x = .ref a ∧ H1 a = some (.ins C dx fs) ∧ Cls K C ∧ NoAttr K C f ∧ fs.lookup f = some v ∧ Q v H1) : tFld K ta f σ H Q := h
theorem rd_tup {tt : TA} (h : tt σ H fun xs H1 => xs.length ≤ sizeLine ∧ ∀ p, H1 p = none → Q (.ref p) (upd H1 p (.tup xs))) : tTup tt σ H Q := h
theorem rd_lst {tt : TA} (h : tt σ H fun xs H1 => xs.length ≤ sizeLine ∧ ∀ p, H1 p = none → Q (.ref p) (upd H1 p (.lst xs))) : tLst tt σ H Q := h
theorem rd_calls {sp : Sp} {dvs : List V} {E : XK} {tt : TA} (h : tt σ H fun vs H1 => sp (vs ++ dvs) H1 Q E) : tCall sp dvs E tt σ H Q := h
theorem rd_meth {C : Addr} {m : Str} {sp : Sp} {dvs : List V} {E : XK} {tt : TA} (h : ta σ H fun x H1 => ∃ a dx fs, x = .ref a ∧ H1 a = some (.ins C dx fs) ∧ fs.lookup m = none ∧ tt σ H1 fun vs H2 => sp (x :: (vs ++ dvs)) H2 Q E) : tMeth C m sp dvs E ta tt σ H Q := h
theorem rd_make {C : Addr} {sp : Sp} {dvs : List V} {E : XK} {tt : TA} (h : tt σ H fun vs H1 => ∀ x dx, H1 x = none → H1 dx = none → dx ≠ x → sp (.ref x :: (vs ++ dvs)) (upd (upd H1 dx (.own x)) x (.ins C dx [])) (fun v H2 => v = .non ∧ Q (.ref x) H2) E) : tMake C sp dvs E tt σ H Q := h
theorem rd_isi_lst {a : Addr} {xs : List V} (h : H a = some (.lst xs)) (q : Q (.bl true) H) : rIsi K [.ref a, .ty "list"] H Q := ⟨_, _, _, _, true, rfl, .ty _, .base (.lst h), kit_ty (show kitB "list" "list" = some true by decide +kernel), q⟩
theorem rd_gsub {to ti : TE} {t : TSet} {v : V} {R : St → Hp → Prop} (h : to σ H fun o H1 => ti σ H1 fun i H2 => t o i v H2 fun H3 => R σ H3) : gSub to ti t v σ H R := h
theorem rd_setl {p : Addr} {xs : List V} {k : Int} {j : Nat} {v : V} {R : Hp → Prop} (h : H p = some (.lst xs)) (e : ixN xs.length k = some j) (q : R (upd H p (.lst (xs.set j v)))) : rSetL (.ref p) (.int k) v H R := ⟨p, xs, k, j, rfl, rfl, h, e, q⟩
theorem rd_dnewK (h : ∀ p, H p = none → Q (.ref p) (upd H p (.dK []))) : tDNewK σ H Q := h
theorem rd_dnewT (h : ∀ p, H p = none → Q (.ref p) (upd H p (.dT []))) : tDNewT σ H Q := h
theorem rd_dget2 {tx : TE} (h : ta σ H fun x H1 => ∃ a, x = .ref a ∧ IsD H1 a ∧ tb σ H1 fun y H2 => tx σ H2 fun z H3 => ∃ o, DGet H3 a y o ∧ Q (o.getD z) H3) : tDGet2 ta tb tx σ H Q := h
theorem rd_dget (h : ta σ H fun x H1 => tb σ H1 fun y H2 => ∃ a v, x = .ref a ∧ DGet H2 a y (some v) ∧ Q v H2) : tDGet ta tb σ H Q := h
theorem rd_din (h : ta σ H fun y H1 => tb σ H1 fun x H2 => ∃ a o, x = .ref a ∧ DGet H2 a y o ∧ Q (.bl o.isSome) H2) : tDIn ta tb σ H Q := h
theorem rd_dnotin (h : ta σ H fun y H1 => tb σ H1 fun x H2 => ∃ a o, x = .ref a ∧ DGet H2 a y o ∧ Q (.bl (!o.isSome)) H2) : tDNotIn ta tb σ H Q := h
theorem rd_dput {tv : TE} (h : tv σ H fun v H1 => ta σ H1 fun x H2 => tb σ H2 fun y H3 => ∃ a H4, x = .ref a ∧ DPut H3 a y v H4 ∧ D.nx σ H4) : sDPut ta tb tv D σ H := h
theorem isd_T {a : Addr} {kvs : List (List Key × V)} (h : H a = some (.dT kvs)) : IsD H a := .inr ⟨kvs, .of h⟩
theorem isd_K {a : Addr} {kvs : List (Key × V)} (h : H a = some (.dK kvs)) : IsD H a := .inl ⟨kvs, .of h⟩
theorem rd_sl {r : V → Option Int → Option Int → Hp → VK → Prop} {tl th : TO} (h : ta σ H fun x H1 => tl σ H1 fun l H2 => th σ H2 fun u H3 => r x l u H3 Q) : tSl r ta tl th σ H Q := h
theorem rd_nopart {R : Option Int → Hp → Prop} (h : R none H) : tNoPart σ H R := h
theorem rd_part {R : Option Int → Hp → Prop} (h : te σ H fun x H1 => ∃ i, x = .int i ∧ R (some i) H1) : tPart te σ H R := h
theorem rd_slL {a : Addr} {xs : List V} {lo hi : Option Int} (h : SqL K H a xs) (q : ∀ p, H p = none → Q (.ref p) (upd H p (.lst (cutV xs lo hi)))) : rSlL K (.ref a) lo hi H Q := ⟨a, xs, rfl, h, q⟩
theorem rd_ext {l b : Addr} {xs zs : List V} (h : H l = some (.lst xs)) (h2 : H b = some (.lst zs)) (z : xs.length + zs.length ≤ sizeLine) (q : Q .non (upd H l (.lst (xs ++ zs)))) : rExtend (.ref l) [.ref b] H Q := ⟨l, b, xs, zs, rfl, rfl, h, h2, z, q⟩
theorem rd_cat {l b : Addr} {xs zs : List V} (h : H l = some (.lst xs)) (h2 : H b = some (.lst zs)) (z : xs.length + zs.length ≤ sizeLine) (q : ∀ p, H p = none → Q (.ref p) (upd H p (.lst (xs ++ zs)))) : rCat (.ref l) (.ref b) H Q := ⟨l, b, xs, zs, rfl, rfl, h, h2, z, q⟩
theorem rd_cut (Mid : L2.St → Hp → Prop) (h1 : t ⟨fun s h => Hold (Mid s h), D.rt, D.bk, D.ct⟩ σ H) (h2 : ∀ s h, Mid s h → u D s h) : C8.tCut t u D σ H := ⟨Mid, h1, h2⟩
/-- a for's loop, a comprehension's, ahead of the invariant -/
def ForG (J : It) (g : TG) (tb : TS) (D : Ends) (σ : L2.St) (H1 : Hp) : Prop := ∃ W : Nat → Nat → L2.St → Hp → Prop, (∃ m, W 0 m σ H1) ∧ ∀ i m σ H, W i m σ H →
  (J.stop i H ∧ D.nx σ H) ∨ (J.go i H ∧ ∃ N : L2.St → Hp → Prop, (∀ σ' H', N σ' H' → ∃ m', m' < m ∧ W (i + 1) m' σ' H') ∧ ∀ x H', J.yld i H x H' → g x σ H' fun σ2 H2 => tb { D with nx := N, ct := N, bk := D.nx } σ2 H2)
theorem rd_for {wi : TI} {g : TG} (h : wi σ H fun J H1 => ForG J g t D σ H1) : tFor wi g t D σ H := h
def LcG (J : It) (g : TG) (tt : TT) (te : TE) (vs : List Nat) (σ : L2.St) (Q : VK) (H1 : Hp) : Prop := ∀ D, H1 D = none → ∃ W : Nat → Nat → Hp → Prop, (∃ m, W 0 m (upd H1 D (.lst []))) ∧ ∀ i m H, W i m H →
  (J.stop i H ∧ Q (.ref D) H) ∨ (J.go i H ∧ ∃ Nx : Hp → Prop, (∀ H', Nx H' → ∃ m', m' < m ∧ W (i + 1) m' H') ∧ ∀ x H', J.yld i H x H' → g x (wipe σ vs) H' fun σ2 H2 => wipe σ2 vs = wipe σ vs ∧ tt σ2 H2 fun b H3 =>
    if b = true then te σ2 H3 fun y H4 => ∃ acc, H4 D = some (.lst acc) ∧ acc.length < sizeLine ∧ Nx (upd H4 D (.lst (acc ++ [y]))) else Nx H3)
theorem rd_lc {wi : TI} {g : TG} {tt : TT} {vs : List Nat} (h : wi σ H fun J H1 => LcG J g tt te vs σ Q H1) : tLc wi g tt te vs σ H Q := h
theorem rd_ilist {R : It → Hp → Prop} (h : te σ H fun x H1 => ∃ a, x = .ref a ∧ (∃ xs, SqL K H1 a xs) ∧ R (Itl K a) H1) : iList K te σ H R := h
theorem rd_istr {R : It → Hp → Prop} (h : te σ H fun v H1 => ∃ x, v = .str x ∧ R (Its x) H1) : iStr te σ H R := h
theorem rd_ienum {R : It → Hp → Prop} {tt : TA} (h : tt σ H fun vs H1 => ∃ a xs, vs = [.ref a] ∧ SqL K H1 a xs ∧ R (Ite K a) H1) : iEnum K tt σ H R := h
theorem rd_izip {R : It → Hp → Prop} {tt : TA} (h : tt σ H fun vs H1 => ∃ a b xs ys, vs = [.ref a, .ref b] ∧ SqL K H1 a xs ∧ SqL K H1 b ys ∧ R (Itz K a b) H1) : iZip K tt σ H R := h
theorem rd_irng1 {R : It → Hp → Prop} {tt : TA} (h : tt σ H fun vs H1 => ∃ j : Int, vs = [.int j] ∧ -(2 ^ 62) ≤ j ∧ j < 2 ^ 62 ∧ R (Itr 0 j.toNat) H1) : iRng1 tt σ H R := h
theorem rd_yes {R : Bool → Hp → Prop} (h : R true H) : tYes σ H R := h
theorem rd_app {l : Addr} {xs : List V} {y : V} (h : H l = some (.lst xs)) (z : xs.length < sizeLine) (q : Q .non (upd H l (.lst (xs ++ [y])))) : rAppend (.ref l) [y] H Q := ⟨l, xs, y, rfl, rfl, h, z, q⟩
theorem tyl {a : Addr} {xs : List V} (h : SqL K H a xs) : tyV K "list" (.ref a) H := Or.inl ⟨rfl, _, h⟩
theorem rd_ixT {a : Addr} {xs : List V} {i : Int} {v : V} (h : SqT K H a xs) (e : atI xs i = some v) (q : Q v H) : rIxT K (.ref a) (.int i) H Q := ⟨a, xs, i, v, rfl, rfl, h, e, q⟩
theorem rd_ixL {a : Addr} {xs : List V} {i : Int} {v : V} (h : SqL K H a xs) (e : atI xs i = some v) (q : Q v H) : rIxL K (.ref a) (.int i) H Q := ⟨a, xs, i, v, rfl, rfl, h, e, q⟩
theorem rd_sfld {f : Str} {tv : TE} (h : tv σ H fun y H1 => ta σ H1 fun x H2 => ∃ a C dx fs, x = .ref a ∧ H2 a = some (.ins C dx fs) ∧ Cls K C ∧ NoAttr K C f ∧ fs.length < 1000 ∧ D.nx σ (upd H2 a (.ins C dx (putF f y fs)))) : sFld K ta tv f D σ H := h
theorem ifdt {p : Prop} [Decidable p] {A B : Prop} (c : p) (h : A) : if decide p = true then A else B := by
  rw [if_pos (decide_eq_true c)]
  exact h
theorem ifdf {p : Prop} [Decidable p] {A B : Prop} (c : ¬ p) (h : B) : if decide p = true then A else B := by
  rw [if_neg (by simpa using c)]
  exact h
theorem ift {A B : Prop} (h : A) : if true = true then A else B := by rw [if_pos rfl]; exact h
theorem iff {A B : Prop} (h : B) : if false = true then A else B := by rw [if_neg Bool.false_ne_true]; exact h
theorem ifnt {A B : Prop} (h : B) : if (!true) = true then A else B := iff h
theorem ifnf {A B : Prop} (h : A) : if (!false) = true then A else B := ift h
theorem ifb {b : Bool} {A B : Prop} (h1 : b = true → A) (h2 : b = false → B) : if b = true then A else B := by
  cases b
  · exact iff (h2 rfl)
  · exact ift (h1 rfl)
theorem ifnb {b : Bool} {A B : Prop} (h1 : b = false → A) (h2 : b = true → B) : if (!b) = true then A else B := by
  cases b
  · exact ifnf (h1 rfl)
  · exact ifnt (h2 rfl)
/-! ### what a thing may be -/
inductive Kd (K : PySem.W.Frag) (H : Hp) : V → Prop where
  | non : Kd K H .non
  | bl (b : Bool) : Kd K H (.bl b)
  | int (i : Int) : Kd K H (.int i)
  | str (x : Str) : Kd K H (.str x)
  | lst {a : Addr} {xs : List V} (h : H a = some (.lst xs)) : Kd K H (.ref a)
  | tup {a : Addr} {xs : List V} (h : H a = some (.tup xs)) : Kd K H (.ref a)
def isI : V → Bool
  | .int _ => true
  | .bl _ => true
  | _ => false
def isBo : V → Bool
  | .bl _ => true
  | _ => false
def isS : V → Bool
  | .str _ => true
  | _ => false
theorem rd_isi_int {x : V} (k : Kd K H x) (q : Q (.bl (isI x)) H) : rIsi K [x, .ty "int"] H Q := by
  cases k with
  | non => exact ⟨_, _, _, _, false, rfl, .ty _, .base .non, kit_ty (show kitB "NoneType" "int" = some false by decide +kernel), q⟩
  | bl b => exact ⟨_, _, _, _, true, rfl, .ty _, .base (.bl b), kit_ty (show kitB "bool" "int" = some true by decide +kernel), q⟩
  | int i => exact ⟨_, _, _, _, true, rfl, .ty _, .base (.int i), kit_ty (show kitB "int" "int" = some true by decide +kernel), q⟩
  | str x => exact ⟨_, _, _, _, false, rfl, .ty _, .base (.str x), kit_ty (show kitB "str" "int" = some false by decide +kernel), q⟩
  | lst h => exact ⟨_, _, _, _, false, rfl, .ty _, .base (.lst h), kit_ty (show kitB "list" "int" = some false by decide +kernel), q⟩
  | tup h => exact ⟨_, _, _, _, false, rfl, .ty _, .base (.tup h), kit_ty (show kitB "tuple" "int" = some false by decide +kernel), q⟩
theorem rd_isi_bool {x : V} (k : Kd K H x) (q : Q (.bl (isBo x)) H) : rIsi K [x, .ty "bool"] H Q := by
  cases k with
  | non => exact ⟨_, _, _, _, false, rfl, .ty _, .base .non, kit_ty (show kitB "NoneType" "bool" = some false by decide +kernel), q⟩
  | bl b => exact ⟨_, _, _, _, true, rfl, .ty _, .base (.bl b), kit_ty (show kitB "bool" "bool" = some true by decide +kernel), q⟩
  | int i => exact ⟨_, _, _, _, false, rfl, .ty _, .base (.int i), kit_ty (show kitB "int" "bool" = some false by decide +kernel), q⟩
  | str x => exact ⟨_, _, _, _, false, rfl, .ty _, .base (.str x), kit_ty (show kitB "str" "bool" = some false by decide +kernel), q⟩
  | lst h => exact ⟨_, _, _, _, false, rfl, .ty _, .base (.lst h), kit_ty (show kitB "list" "bool" = some false by decide +kernel), q⟩
  | tup h => exact ⟨_, _, _, _, false, rfl, .ty _, .base (.tup h), kit_ty (show kitB "tuple" "bool" = some false by decide +kernel), q⟩
theorem rd_isi_str {x : V} (k : Kd K H x) (q : Q (.bl (isS x)) H) : rIsi K [x, .ty "str"] H Q := by
  cases k with
  | non => exact ⟨_, _, _, _, false, rfl, .ty _, .base .non, kit_ty (show kitB "NoneType" "str" = some false by decide +kernel), q⟩
  | bl b => exact ⟨_, _, _, _, false, rfl, .ty _, .base (.bl b), kit_ty (show kitB "bool" "str" = some false by decide +kernel), q⟩
  | int i => exact ⟨_, _, _, _, false, rfl, .ty _, .base (.int i), kit_ty (show kitB "int" "str" = some false by decide +kernel), q⟩
  | str x => exact ⟨_, _, _, _, true, rfl, .ty _, .base (.str x), kit_ty (show kitB "str" "str" = some true by decide +kernel), q⟩
  | lst h => exact ⟨_, _, _, _, false, rfl, .ty _, .base (.lst h), kit_ty (show kitB "list" "str" = some false by decide +kernel), q⟩
  | tup h => exact ⟨_, _, _, _, false, rfl, .ty _, .base (.tup h), kit_ty (show kitB "tuple" "str" = some false by decide +kernel), q⟩
/-- a test whose answer is by a decision -/
theorem ifd {p : Prop} [Decidable p] {A B : Prop} (h1 : p → A) (h2 : ¬ p → B) : if decide p = true then A else B := by
  by_cases c : p
  · rw [if_pos (decide_eq_true c)]; exact h1 c
  · rw [if_neg (by simpa using c)]; exact h2 c
theorem ifnd {p : Prop} [Decidable p] {A B : Prop} (h1 : ¬ p → A) (h2 : p → B) : if (!decide p) = true then A else B := by
  by_cases c : p
  · rw [if_neg (by simpa using c)]; exact h2 c
  · rw [if_pos (by simpa using c)]; exact h1 c
end
/-! ### the promise of a def -/
section
variable {P : Program} {w : World} {K : PySem.W.Frag} {mg : Str → Option Value} {base : Heap}
/-- a def of the module -/
theorem cal {x : Str} {qual : Str} {params : Arguments} {body : List Stmt} {scope : Scope} {f : Addr} {N ps : List Str} {k : Nat} {sp : Sp} (F : ∃ fd, FunD K x qual params body scope [] [] f fd) (hm : mg x = some (.ref f)) (S : FnScope N ps scope)
    (bd : ∀ (kV doc pm : Value) (an : Option Addr) (cdv ct : Value) (us : List Value), us.length = ps.length → bindArgs (PySem.W.fnOf x qual params body scope .none kV doc pm an cdv ct) ⟨us, []⟩ = pure (ps.zip us))
    (len : ∀ vs H Q E, sp vs H Q E → vs.length = ps.length)
    (hbody : ∀ (cdv : Value) (A : Around) (outer : List Env) (s : Shared) (H : Hp) (vs : List V) (Q : VK) (E : XK), Room k (A.deeper (envOfC qual scope s.heap.objs.size f cdv)) → sp vs H Q E →
      ∃ t, PSs (cxOf C8.CX0 P w K mg base N qual scope f cdv A outer s H E).nox body t ∧ t { nx := fun _ H' => Q .non H', rt := Q } (start N vs) H) : C8.Cal P w K mg base (k + 1) x sp [] := by
  obtain ⟨fd, F⟩ := F
  refine ⟨f, fd, ps, [], F.ok S len fun cdv A outer s H vs Q E hr h => ?_, hm, F.kp, F.bindsN bd, .nil⟩
  obtain ⟨t, h1, h2⟩ := hbody cdv A outer s H vs Q E hr h
  exact ⟨t, PSs.nox h1, h2⟩
/-- a method -/
theorem met {C : Addr} {x : Str} {qual : Str} {params : Arguments} {body : List Stmt} {scope : Scope} {f : Addr} {N ps : List Str} {k : Nat} {sp : Sp} (F : ∃ fd, FunD K x qual params body scope [] [] f fd) (c : Cls K C) (hm : Meth K C x f) (S : FnScope N ps scope)
    (bd : ∀ (kV doc pm : Value) (an : Option Addr) (cdv ct : Value) (us : List Value), us.length = ps.length → bindArgs (PySem.W.fnOf x qual params body scope .none kV doc pm an cdv ct) ⟨us, []⟩ = pure (ps.zip us))
    (len : ∀ vs H Q E, sp vs H Q E → vs.length = ps.length)
    (hbody : ∀ (cdv : Value) (A : Around) (outer : List Env) (s : Shared) (H : Hp) (vs : List V) (Q : VK) (E : XK), Room k (A.deeper (envOfC qual scope s.heap.objs.size f cdv)) → sp vs H Q E →
      ∃ t, PSs (cxOf C8.CX0 P w K mg base N qual scope f cdv A outer s H E).nox body t ∧ t { nx := fun _ H' => Q .non H', rt := Q } (start N vs) H) : C8.Met P w K mg base (k + 1) C x sp [] := by
  obtain ⟨fd, F⟩ := F
  refine ⟨f, fd, ps, [], c, hm, F.ok S len fun cdv A outer s H vs Q E hr h => ?_, F.bindsN bd, .nil⟩
  obtain ⟨t, h1, h2⟩ := hbody cdv A outer s H vs Q E hr h
  exact ⟨t, PSs.nox h1, h2⟩
/-- a class that is made; sp: its __init__ -/
theorem mak {C : Addr} {x : Str} {qual : Str} {params : Arguments} {body : List Stmt} {scope : Scope} {f : Addr} {N ps : List Str} {k : Nat} {sp : Sp} (F : ∃ fd, FunD K "__init__" qual params body scope [] [] f fd) (hm : mg x = some (.ref C)) (M : Mk K C f) (S : FnScope N ps scope)
    (bd : ∀ (kV doc pm : Value) (an : Option Addr) (cdv ct : Value) (us : List Value), us.length = ps.length → bindArgs (PySem.W.fnOf "__init__" qual params body scope .none kV doc pm an cdv ct) ⟨us, []⟩ = pure (ps.zip us))
    (len : ∀ vs H Q E, sp vs H Q E → vs.length = ps.length)
    (hbody : ∀ (cdv : Value) (A : Around) (outer : List Env) (s : Shared) (H : Hp) (vs : List V) (Q : VK) (E : XK), Room k (A.deeper (envOfC qual scope s.heap.objs.size f cdv)) → sp vs H Q E →
      ∃ t, PSs (cxOf C8.CX0 P w K mg base N qual scope f cdv A outer s H E).nox body t ∧ t { nx := fun _ H' => Q .non H', rt := Q } (start N vs) H) : C8.Mak P w K mg base (k + 1) x C sp [] := by
  obtain ⟨fd, F⟩ := F
  refine ⟨f, fd, ps, [], M, F.ok S len fun cdv A outer s H vs Q E hr h => ?_, hm, F.bindsN bd, .nil⟩
  obtain ⟨t, h1, h2⟩ := hbody cdv A outer s H vs Q E hr h
  exact ⟨t, PSs.nox h1, h2⟩
end
end Cv
namespace Cv
open PySem PySem.Spec
open PyProof.Rows hiding St
open L2
/-! ### tuples stay -/
def TK (H H' : Hp) : Prop := ∀ a xs, H a = some (.tup xs) → H' a = some (.tup xs)
theorem TK.refl (H : Hp) : TK H H := fun _ _ h => h
theorem TK.trans {H H1 H2 : Hp} (a : TK H H1) (b : TK H1 H2) : TK H H2 := fun p xs h => b p xs (a p xs h)
theorem _root_.L2.Same.tk {H H' : Hp} (S : Same H H') : TK H H' := fun a xs h => S a _ h
/-- a list, a dict, an instance is changed -/
theorem TK.upd {H H0 : Hp} {l : Addr} {o u : HO} (T : TK H0 H) (h : H l = some u) (hn : ∀ xs, u ≠ .tup xs) : TK H0 (upd H l o) := fun a xs e => by
  have q := T a xs e
  have ne : a ≠ l := ne_of q h (fun z => hn xs z.symm)
  rw [upd_ne ne]
  exact q
theorem TK.lst {H H0 : Hp} {l : Addr} {xs : List V} {o : HO} (T : TK H0 H) (h : H l = some (.lst xs)) : TK H0 (L2.upd H l o) := T.upd h fun _ z => nomatch z
theorem TK.new {H H0 : Hp} {l : Addr} {o : HO} (T : TK H0 H) (h : H l = none) : TK H0 (L2.upd H l o) := fun a xs e => by
  rw [upd_ne (ne_of_none (T a xs e) h)]
  exact T a xs e
/-! ### pairs of lists -/
theorem Pa.get {α β : Type} {F : α → β → Prop} : ∀ {l : List α} {m : List β} {i : Nat} {x : α} {y : β}, Paired F l m → l[i]? = some x → m[i]? = some y → F x y
  | _, _, _, _, _, .nil, h, _ => by simp at h
  | _, _, 0, _, _, .cons r _, h, h' => by simp at h h'; subst h h'; exact r
  | _, _, i + 1, _, _, .cons _ t, h, h' => Pa.get (i := i) t (by simpa using h) (by simpa using h')
theorem Pa.right {α β : Type} {F : α → β → Prop} : ∀ {l : List α} {m : List β} {i : Nat} {y : β}, Paired F l m → m[i]? = some y → ∃ x, l[i]? = some x ∧ F x y
  | _, _, _, _, .nil, h => by simp at h
  | _, _, 0, _, .cons r _, h => by simp at h; subst h; exact ⟨_, rfl, r⟩
  | _, _, i + 1, _, .cons _ t, h => by
    obtain ⟨x, h1, h2⟩ := Pa.right (i := i) t (by simpa using h)
    exact ⟨x, by simpa using h1, h2⟩
theorem Pa.left {α β : Type} {F : α → β → Prop} : ∀ {l : List α} {m : List β} {i : Nat} {x : α}, Paired F l m → l[i]? = some x → ∃ y, m[i]? = some y ∧ F x y
  | _, _, _, _, .nil, h => by simp at h
  | _, _, 0, _, .cons r _, h => by simp at h; subst h; exact ⟨_, rfl, r⟩
  | _, _, i + 1, _, .cons _ t, h => by
    obtain ⟨x, h1, h2⟩ := Pa.left (i := i) t (by simpa using h)
    exact ⟨x, by simpa using h1, h2⟩
theorem Pa.append {α β : Type} {F : α → β → Prop} : ∀ {l l' : List α} {m m' : List β}, Paired F l m → Paired F l' m' → Paired F (l ++ l') (m ++ m')
  | _, _, _, _, .nil, s => s
  | _, _, _, _, .cons r t, s => .cons r (Pa.append t s)
theorem Pa.ints : ∀ (ns : List Int), Paired (fun v (n : Int) => v = V.int n) (ns.map V.int) ns
  | [] => .nil
  | _ :: r => .cons rfl (Pa.ints r)
theorem Pa.mapself {α β : Type} (f : α → β) : ∀ (ns : List α), Paired (fun v n => v = f n) (ns.map f) ns
  | [] => .nil
  | _ :: r => .cons rfl (Pa.mapself f r)
theorem Pa.of_ints : ∀ {vs : List V} {ns : List Int}, Paired (fun v (n : Int) => v = V.int n) vs ns → vs = ns.map V.int
  | _, _, .nil => rfl
  | _, _, .cons h t => by rw [h, Pa.of_ints t]; rfl
theorem Pa.mapl {α β γ : Type} {F : α → β → Prop} {G : γ → β → Prop} {f : α → γ} (h : ∀ a b, F a b → G (f a) b) : ∀ {l : List α} {m : List β}, Paired F l m → Paired G (l.map f) m
  | _, _, .nil => .nil
  | _, _, .cons r t => .cons (h _ _ r) (Pa.mapl h t)
theorem Pa.mem {α β : Type} {F : α → β → Prop} : ∀ {l : List α} {m : List β} {x : α}, Paired F l m → x ∈ l → ∃ y ∈ m, F x y
  | _, _, _, .nil, h => by simp at h
  | _, _, _, .cons r t, h => by
    rcases List.mem_cons.mp h with e | h
    · subst e; exact ⟨_, List.mem_cons_self, r⟩
    · obtain ⟨y, h1, h2⟩ := Pa.mem t h
      exact ⟨y, List.mem_cons_of_mem _ h1, h2⟩
/-! ### the heap without one object -/
def Off (D : Addr) (H : Hp) : Hp := fun a => if a = D then none else H a
theorem Off.at {D a : Addr} {H : Hp} {o : HO} (h : H a = some o) (n : a ≠ D) : Off D H a = some o := by
  unfold Off
  rw [if_neg n]
  exact h
theorem Off.upd (D : Addr) (H : Hp) (o : HO) : Off D (L2.upd H D o) = Off D H := by
  funext a
  unfold Off L2.upd
  by_cases e : a = D
  · rw [if_pos e, if_pos e]
  · rw [if_neg e, if_neg e, if_neg e]
theorem Off.same (D : Addr) (H : Hp) : Same (Off D H) H := fun a o h => by
  unfold Off at h
  by_cases e : a = D
  · rw [if_pos e] at h; cases h
  · rw [if_neg e] at h; exact h
theorem Off.mono {D : Addr} {H H' : Hp} (S : Same H H') : Same (Off D H) (Off D H') := fun a o h => by
  unfold Off at h ⊢
  by_cases e : a = D
  · rw [if_pos e] at h; cases h
  · rw [if_neg e] at h ⊢; exact S a o h
theorem Off.of {D : Addr} {H H' : Hp} (S : Same H H') (h : H D = none) : Same H (Off D H') := fun a o e => by
  unfold Off
  rw [if_neg (ne_of_none e h)]
  exact S a o e
/-! ### loops: what remains -/
section
variable {α : Type} {J : It} {n : Nat} {G : Hp → Prop} {Y : Nat → Hp → V → Hp → Prop}
theorem drop_cons {ls : List α} {i : Nat} (h : i < ls.length) : ls.drop i = ls[i] :: ls.drop (i + 1) := List.drop_eq_getElem_cons h
/-- a for: Pv i r: behind i turns r is left -/
theorem for_ls (w : Walk J n G Y) (ls : List α) (hn : ls.length = n) {g : TG} {tb : TS} {D : Ends} {σ : L2.St} {H : Hp} (Pv : Nat → List α → L2.St → Hp → Prop) (h0 : Pv 0 ls σ H) (hG : ∀ i r σ H, Pv i r σ H → G H)
    (hs : ∀ i c r x σ H H', ls.drop i = c :: r → ls[i]? = some c → Pv i (c :: r) σ H → Y i H x H' → g x σ H' fun σ2 H2 => tb ⟨fun s h => Hold (Pv (i + 1) r s h), D.rt, D.nx, fun s h => Hold (Pv (i + 1) r s h)⟩ σ2 H2) (hd : ∀ σ H, Pv n [] σ H → D.nx σ H) :
    ∃ W : Nat → Nat → L2.St → Hp → Prop, (∃ m, W 0 m σ H) ∧ ∀ i m σ H, W i m σ H →
      (J.stop i H ∧ D.nx σ H) ∨ (J.go i H ∧ ∃ N : L2.St → Hp → Prop, (∀ σ' H', N σ' H' → ∃ m', m' < m ∧ W (i + 1) m' σ' H') ∧ ∀ x H', J.yld i H x H' → g x σ H' fun σ2 H2 => tb { D with nx := N, ct := N, bk := D.nx } σ2 H2) := by
  refine for_it w (fun i σ H => Pv i (ls.drop i) σ H) ?_ (fun i σ H _ p => hG _ _ _ _ p) (fun i x σ H H' hi p y => ?_) (fun σ H p => hd σ H ?_)
  · show Pv 0 (ls.drop 0) σ H
    rw [List.drop_zero]
    exact h0
  · have e := drop_cons (ls := ls) (i := i) (by omega)
    rw [e] at p
    exact hs i _ _ x σ H H' e (by rw [List.getElem?_eq_getElem (by omega)]) p y
  · rw [List.drop_eq_nil_of_le (by omega)] at p
    exact p
/-- .. over a list of known things -/
theorem for_l {K : PySem.W.Frag} {a : Addr} {xs : List V} (R : Hp → V → α → Prop) (ls : List α) {g : TG} {tb : TS} {D : Ends} {σ : L2.St} {H : Hp} (Pv : List α → L2.St → Hp → Prop) (h0 : Pv ls σ H)
    (hk : ∀ r σ H, Pv r σ H → SqL K H a xs ∧ Paired (R H) xs ls)
    (hs : ∀ c r x σ H, c ∈ ls → Pv (c :: r) σ H → R H x c → g x σ H fun σ2 H2 => tb ⟨fun s h => Hold (Pv r s h), D.rt, D.nx, fun s h => Hold (Pv r s h)⟩ σ2 H2) (hd : ∀ σ H, Pv [] σ H → D.nx σ H) :
    ∃ W : Nat → Nat → L2.St → Hp → Prop, (∃ m, W 0 m σ H) ∧ ∀ i m σ H, W i m σ H →
      ((Itl K a).stop i H ∧ D.nx σ H) ∨ ((Itl K a).go i H ∧ ∃ N : L2.St → Hp → Prop, (∀ σ' H', N σ' H' → ∃ m', m' < m ∧ W (i + 1) m' σ' H') ∧ ∀ x H', (Itl K a).yld i H x H' → g x σ H' fun σ2 H2 => tb { D with nx := N, ct := N, bk := D.nx } σ2 H2) := by
  have hl := (hk _ _ _ h0).2.length
  refine for_ls (walk_list (K := K) (a := a) (xs := xs)) ls hl.symm (fun _ r => Pv r) h0 (fun _ r σ H p => (hk r σ H p).1) (fun i c r x σ H H' _ e2 p y => ?_) hd
  obtain ⟨rfl, hx⟩ := y
  exact hs c r x σ H' (List.mem_of_getElem? e2) p (Pa.get (hk _ _ _ p).2 hx e2)
/-- .. by enumerate: the pair is a new tuple at T -/
theorem for_e {K : PySem.W.Frag} {a : Addr} {xs : List V} (R : Hp → V → α → Prop) (ls : List α) {g : TG} {tb : TS} {D : Ends} {σ : L2.St} {H : Hp} (Pv : Nat → List α → L2.St → Hp → Prop) (h0 : Pv 0 ls σ H)
    (hk : ∀ i r σ H, Pv i r σ H → SqL K H a xs ∧ Paired (R H) xs ls)
    (hs : ∀ i c r x T σ H H', ls[i]? = some c → ls.drop i = c :: r → Pv i (c :: r) σ H → R H x c → H T = none → Same H H' → H' T = some (.tup [.int (i : Nat), x]) → H' = upd H T (.tup [.int (i : Nat), x]) → g (.ref T) σ H' fun σ2 H2 => tb ⟨fun s h => Hold (Pv (i + 1) r s h), D.rt, D.nx, fun s h => Hold (Pv (i + 1) r s h)⟩ σ2 H2) (hd : ∀ σ H, Pv ls.length [] σ H → D.nx σ H) :
    ∃ W : Nat → Nat → L2.St → Hp → Prop, (∃ m, W 0 m σ H) ∧ ∀ i m σ H, W i m σ H →
      ((Ite K a).stop i H ∧ D.nx σ H) ∨ ((Ite K a).go i H ∧ ∃ N : L2.St → Hp → Prop, (∀ σ' H', N σ' H' → ∃ m', m' < m ∧ W (i + 1) m' σ' H') ∧ ∀ x H', (Ite K a).yld i H x H' → g x σ H' fun σ2 H2 => tb { D with nx := N, ct := N, bk := D.nx } σ2 H2) := by
  have hl := (hk _ _ _ _ h0).2.length
  refine for_ls (walk_enum (K := K) (a := a) (xs := xs)) ls hl.symm Pv h0 (fun i r σ H p => (hk i r σ H p).1) (fun i c r x σ H H' e1 e2 p y => ?_) (fun σ H p => hd σ H (by rw [← hl]; exact p))
  obtain ⟨T, x0, y0, h1, h2, h3, h4, h5⟩ := y
  subst h1 h3
  cases h4
  exact hs i c r y0 T σ H _ e2 e1 p (Pa.get (hk _ _ _ _ p).2 h5 e2) h2 (fun b u e => by rw [upd_ne (ne_of_none e h2)]; exact e) upd_same rfl
/-- .. over a range -/
theorem for_r {m : Nat} {g : TG} {tb : TS} {D : Ends} {σ : L2.St} {H : Hp} (Pv : Nat → L2.St → Hp → Prop) (h0 : Pv 0 σ H)
    (hs : ∀ i σ H, i < m → Pv i σ H → g (.int (i : Nat)) σ H fun σ2 H2 => tb ⟨fun s h => Hold (Pv (i + 1) s h), D.rt, D.nx, fun s h => Hold (Pv (i + 1) s h)⟩ σ2 H2) (hd : ∀ σ H, Pv m σ H → D.nx σ H) :
    ∃ W : Nat → Nat → L2.St → Hp → Prop, (∃ m, W 0 m σ H) ∧ ∀ i k σ H, W i k σ H →
      ((Itr 0 m).stop i H ∧ D.nx σ H) ∨ ((Itr 0 m).go i H ∧ ∃ N : L2.St → Hp → Prop, (∀ σ' H', N σ' H' → ∃ m', m' < k ∧ W (i + 1) m' σ' H') ∧ ∀ x H', (Itr 0 m).yld i H x H' → g x σ H' fun σ2 H2 => tb { D with nx := N, ct := N, bk := D.nx } σ2 H2) := by
  refine for_it (walk_range (lo := 0) (n := m)) Pv h0 (fun _ _ _ _ _ => trivial) (fun i x σ H H' hi p y => ?_) hd
  obtain ⟨rfl, rfl⟩ := y
  have q := hs i σ H' hi p
  have e : (0 : Int) + (i : Int) = (i : Int) := Int.zero_add _
  show g (.int (0 + (i : Int))) σ H' _
  rw [e]
  exact q
end
/-- over zip of two lists -/
theorem for_z {α : Type} {K : PySem.W.Frag} {a b : Addr} {xs ys : List V} (ls : List α) (hn : ls.length = min xs.length ys.length) {g : TG} {tb : TS} {D : Ends} {σ : L2.St} {H : Hp} (Pv : List α → L2.St → Hp → Prop) (h0 : Pv ls σ H)
    (hk : ∀ r σ H, Pv r σ H → SqL K H a xs ∧ SqL K H b ys)
    (hs : ∀ (i : Nat) c r x y T σ H H', ls[i]? = some c → Pv (c :: r) σ H → xs[i]? = some x → ys[i]? = some y → Same H H' → H T = none → H' T = some (.tup [x, y]) → g (.ref T) σ H' fun σ2 H2 => tb ⟨fun s h => Hold (Pv r s h), D.rt, D.nx, fun s h => Hold (Pv r s h)⟩ σ2 H2) (hd : ∀ σ H, Pv [] σ H → D.nx σ H) :
    ∃ W : Nat → Nat → L2.St → Hp → Prop, (∃ m, W 0 m σ H) ∧ ∀ i m σ H, W i m σ H →
      ((Itz K a b).stop i H ∧ D.nx σ H) ∨ ((Itz K a b).go i H ∧ ∃ N : L2.St → Hp → Prop, (∀ σ' H', N σ' H' → ∃ m', m' < m ∧ W (i + 1) m' σ' H') ∧ ∀ x H', (Itz K a b).yld i H x H' → g x σ H' fun σ2 H2 => tb { D with nx := N, ct := N, bk := D.nx } σ2 H2) := by
  refine for_ls (walk_zip (K := K) (a := a) (b := b) (xs := xs) (ys := ys) rfl) ls hn (fun _ r => Pv r) h0 (fun i r σ H p => hk r σ H p) (fun i c r x σ H H' e1 e2 p y => ?_) (fun σ H p => hd σ H p)
  obtain ⟨T, x0, y0, h1, h2, h3, h4, h5⟩ := y
  subst h1 h3
  exact hs i c r x0 y0 T σ H _ e2 p h4 h5 (fun b u e => by rw [upd_ne (ne_of_none e h2)]; exact e) h2 upd_same
/-! ### over the signs of a text -/
theorem for_s {z : Str} {g : TG} {tb : TS} {D : Ends} {σ : L2.St} {H : Hp} (Pv : List Nat → L2.St → Hp → Prop) (h0 : Pv z.cps.toList σ H)
    (hs : ∀ c r σ H, Pv (c :: r) σ H → g (.str ⟨#[c]⟩) σ H fun σ2 H2 => tb ⟨fun s h => Hold (Pv r s h), D.rt, D.nx, fun s h => Hold (Pv r s h)⟩ σ2 H2) (hd : ∀ σ H, Pv [] σ H → D.nx σ H) : ForG (Its z) g tb D σ H := by
  refine for_ls walk_str z.cps.toList (by simp) (fun _ r => Pv r) h0 (fun _ _ _ _ _ => trivial) (fun i c r x σ H H' _ e2 p y => ?_) hd
  obtain ⟨rfl, c', hc, rfl⟩ := y
  have e : c' = c := by
    have e3 : z.cps.toList[i]? = some c' := by rw [Array.getElem?_toList]; exact hc
    rw [e2] at e3
    exact (Option.some.inj e3).symm
  rw [e]
  exact hs c r σ H' p
/-! ### comprehensions: what is made is told in the heap without the new list -/
section
variable {α β : Type} {J : It} {n : Nat} {G : Hp → Prop} {Y : Nat → Hp → V → Hp → Prop}
/-- [e for .. in ls if t]: a turn keeps what stands and gives y, which is f c by S, or nothing -/
theorem lc_ls (w : Walk J n G Y) (ls : List α) (hn : ls.length = n) (hz : n < sizeLine) (S : Hp → V → β → Prop) (f : α → Option β) (mono : ∀ {H H' : Hp} {v b}, Same H H' → S H v b → S H' v b)
    {g : TG} {tt : TT} {te : TE} {vs : List Nat} {σ : L2.St} {H1 : Hp} {D : Addr} {Qd : Hp → Prop} (nD : H1 D = none) (hG : ∀ H, Same H1 H → G H)
    (turn : ∀ i c x H H' acc (K1 : V → Hp → Prop) (K0 : Hp → Prop), ls[i]? = some c → Same H1 H → H D = some (.lst acc) → Y i H x H' → (∀ y z H4, f c = some z → Same H H4 → S (Off D H4) y z → K1 y H4) → (∀ H3, f c = none → Same H H3 → K0 H3) →
      g x (wipe σ vs) H' fun σ2 H2 => wipe σ2 vs = wipe σ vs ∧ tt σ2 H2 fun b H3 => if b = true then te σ2 H3 fun y H4 => K1 y H4 else K0 H3)
    (done : ∀ H ys, Same H1 H → H D = some (.lst ys) → Paired (S H) ys (ls.filterMap f) → Qd H) :
    ∃ W : Nat → Nat → Hp → Prop, (∃ m, W 0 m (upd H1 D (.lst []))) ∧ ∀ i m H, W i m H →
      (J.stop i H ∧ Qd H) ∨ (J.go i H ∧ ∃ Nx : Hp → Prop, (∀ H', Nx H' → ∃ m', m' < m ∧ W (i + 1) m' H') ∧ ∀ x H', J.yld i H x H' → g x (wipe σ vs) H' fun σ2 H2 => wipe σ2 vs = wipe σ vs ∧ tt σ2 H2 fun b H3 =>
        if b = true then te σ2 H3 fun y H4 => ∃ acc, H4 D = some (.lst acc) ∧ acc.length < sizeLine ∧ Nx (upd H4 D (.lst (acc ++ [y]))) else Nx H3) := by
  refine lc_it w (fun i H => ∃ acc, H D = some (.lst acc) ∧ Same H1 (Off D H) ∧ acc.length ≤ i ∧ Paired (S (Off D H)) acc ((ls.take i).filterMap f)) ?_ ?_ ?_ ?_
  · refine ⟨[], upd_same, ?_, Nat.le_refl _, .nil⟩
    rw [Off.upd]
    exact Off.of (Same.refl _) nD
  · rintro i H _ ⟨acc, _, h2, _⟩
    exact hG H (h2.trans (Off.same D H))
  · rintro i x H H' hi ⟨acc, h1, h2, h3, h4⟩ y
    have e2 : ls[i]? = some (ls[i]'(by omega)) := List.getElem?_eq_getElem (by omega)
    have tk : (ls.take (i + 1)).filterMap f = (ls.take i).filterMap f ++ (match f (ls[i]'(by omega)) with | some z => [z] | none => []) := by
      rw [List.take_add_one, e2, List.filterMap_append]
      cases e : f (ls[i]'(by omega)) <;> simp [e]
    refine turn i _ x H H' acc (fun v H4 => ∃ acc, H4 D = some (.lst acc) ∧ acc.length < sizeLine ∧ (∃ acc', (upd H4 D (.lst (acc ++ [v]))) D = some (.lst acc') ∧ Same H1 (Off D (upd H4 D (.lst (acc ++ [v])))) ∧ acc'.length ≤ i + 1 ∧ Paired (S (Off D (upd H4 D (.lst (acc ++ [v]))))) acc' ((ls.take (i + 1)).filterMap f))) _ e2 (h2.trans (Off.same D H)) h1 y ?_ ?_
    · intro v z H4 ez s1 sz
      refine ⟨acc, s1 _ _ h1, by omega, acc ++ [v], upd_same, ?_, ?_, ?_⟩
      · rw [Off.upd]
        exact h2.trans (Off.mono s1)
      · rw [List.length_append, List.length_singleton]; omega
      · rw [Off.upd, tk, ez]
        exact Paired.snoc (Paired.mapP h4 fun a b r => mono (Off.mono s1) r) sz
    · intro H3 ez s1
      refine ⟨acc, s1 _ _ h1, h2.trans (Off.mono s1), by omega, ?_⟩
      rw [tk, ez, List.append_nil]
      exact Paired.mapP h4 fun a b r => mono (Off.mono s1) r
  · rintro H ⟨acc, h1, h2, h3, h4⟩
    rw [List.take_of_length_le (by omega)] at h4
    exact done H acc (h2.trans (Off.same D H)) h1 (Paired.mapP h4 fun a b r => mono (Off.same D H) r)
end
section
variable {α β : Type}
theorem sqls {K : PySem.W.Frag} {H H' : Hp} {a : Addr} {xs : List V} (e : Same H H') (h : SqL K H a xs) : SqL K H' a xs := e.seq h
theorem lcg_l {K : PySem.W.Frag} {a : Addr} {xs : List V} (R : Hp → V → α → Prop) (ls : List α) (S : Hp → V → β → Prop) (f : α → Option β) (mono : ∀ {H H' : Hp} {v b}, Same H H' → S H v b → S H' v b)
    {g : TG} {tt : TT} {te : TE} {vs : List Nat} {σ : L2.St} {H1 : Hp} {Q : VK} (hl : SqL K H1 a xs) (hR : ∀ H, Same H1 H → Paired (R H) xs ls) (hz : ls.length < sizeLine)
    (turn : ∀ (i : Nat) c x D H acc (K1 : V → Hp → Prop) (K0 : Hp → Prop), ls[i]? = some c → H1 D = none → Same H1 H → H D = some (.lst acc) → R H x c → (∀ y z H4, f c = some z → Same H H4 → S (Off D H4) y z → K1 y H4) → (∀ H3, f c = none → Same H H3 → K0 H3) →
      g x (wipe σ vs) H fun σ2 H2 => wipe σ2 vs = wipe σ vs ∧ tt σ2 H2 fun b H3 => if b = true then te σ2 H3 fun y H4 => K1 y H4 else K0 H3)
    (done : ∀ D H ys, H1 D = none → Same H1 H → H D = some (.lst ys) → Paired (S H) ys (ls.filterMap f) → Q (.ref D) H) : LcG (Itl K a) g tt te vs σ Q H1 := by
  intro D nD
  have hl0 := (hR H1 (Same.refl _)).length
  refine lc_ls (walk_list (K := K) (a := a) (xs := xs)) ls hl0.symm (by rw [hl0]; exact hz) S f mono nD (fun H hS => hS.seq hl) (fun i c x H H' acc K1 K0 e1 hS hD y k1 k0 => ?_) (fun H ys h1 h2 h3 => done D H ys nD h1 h2 h3)
  obtain ⟨rfl, hx⟩ := y
  exact turn i c x D H' acc K1 K0 e1 nD hS hD (Pa.get (hR _ hS) hx e1) k1 k0
theorem lcg_e {K : PySem.W.Frag} {a : Addr} {xs : List V} (R : Hp → V → α → Prop) (ls : List α) (S : Hp → V → β → Prop) (f : Nat → α → Option β) (mono : ∀ {H H' : Hp} {v b}, Same H H' → S H v b → S H' v b)
    {g : TG} {tt : TT} {te : TE} {vs : List Nat} {σ : L2.St} {H1 : Hp} {Q : VK} (hl : SqL K H1 a xs) (hR : ∀ H, Same H1 H → Paired (R H) xs ls) (hz : ls.length < sizeLine)
    (turn : ∀ (i : Nat) c x T D H acc (K1 : V → Hp → Prop) (K0 : Hp → Prop), ls[i]? = some c → H1 D = none → Same H1 H → H D = some (.lst acc) → R H x c → H T = some (.tup [.int (i : Nat), x]) → (∀ y z H4, f i c = some z → Same H H4 → S (Off D H4) y z → K1 y H4) → (∀ H3, f i c = none → Same H H3 → K0 H3) →
      g (.ref T) (wipe σ vs) H fun σ2 H2 => wipe σ2 vs = wipe σ vs ∧ tt σ2 H2 fun b H3 => if b = true then te σ2 H3 fun y H4 => K1 y H4 else K0 H3)
    (done : ∀ D H ys, H1 D = none → Same H1 H → H D = some (.lst ys) → Paired (S H) ys ((ls.zipIdx).filterMap fun p => f p.2 p.1) → Q (.ref D) H) : LcG (Ite K a) g tt te vs σ Q H1 := by
  intro D nD
  have hl0 := (hR H1 (Same.refl _)).length
  refine lc_ls (walk_enum (K := K) (a := a) (xs := xs)) ls.zipIdx (by rw [List.length_zipIdx]; exact hl0.symm) (by rw [hl0]; exact hz) S (fun p => f p.2 p.1) mono nD (fun H hS => hS.seq hl) (fun i c x H H' acc K1 K0 e1 hS hD y k1 k0 => ?_) (fun H ys h1 h2 h3 => done D H ys nD h1 h2 h3)
  obtain ⟨T, x0, y0, h1, h2, h3, h4, h5⟩ := y
  subst h1 h3
  cases h4
  rw [List.getElem?_zipIdx] at e1
  obtain ⟨c0, e2, e3⟩ := Option.map_eq_some_iff.mp e1
  subst e3
  have s1 : Same H (L2.upd H T (.tup [.int (i : Nat), y0])) := fun b u e => by rw [upd_ne (ne_of_none e h2)]; exact e
  rw [Nat.zero_add] at k1 k0
  exact turn i c0 y0 T D _ acc K1 K0 e2 nD (hS.trans s1) (s1 _ _ hD) (Pa.get (hR _ (hS.trans s1)) h5 e2) upd_same (fun y z H4 e q => k1 y z H4 e (s1.trans q)) fun H3 e q => k0 H3 e (s1.trans q)
theorem lcg_r {m : Nat} (S : Hp → V → β → Prop) (f : Nat → Option β) (mono : ∀ {H H' : Hp} {v b}, Same H H' → S H v b → S H' v b)
    {g : TG} {tt : TT} {te : TE} {vs : List Nat} {σ : L2.St} {H1 : Hp} {Q : VK} (hz : m < sizeLine)
    (turn : ∀ (i : Nat) D H acc (K1 : V → Hp → Prop) (K0 : Hp → Prop), i < m → H1 D = none → Same H1 H → H D = some (.lst acc) → (∀ y z H4, f i = some z → Same H H4 → S (Off D H4) y z → K1 y H4) → (∀ H3, f i = none → Same H H3 → K0 H3) →
      g (.int (i : Nat)) (wipe σ vs) H fun σ2 H2 => wipe σ2 vs = wipe σ vs ∧ tt σ2 H2 fun b H3 => if b = true then te σ2 H3 fun y H4 => K1 y H4 else K0 H3)
    (done : ∀ D H ys, H1 D = none → Same H1 H → H D = some (.lst ys) → Paired (S H) ys ((List.range m).filterMap f) → Q (.ref D) H) : LcG (Itr 0 m) g tt te vs σ Q H1 := by
  intro D nD
  refine lc_ls (walk_range (lo := 0) (n := m)) (List.range m) (List.length_range) hz S f mono nD (fun _ _ => trivial) (fun i c x H H' acc K1 K0 e1 hS hD y k1 k0 => ?_) (fun H ys h1 h2 h3 => done D H ys nD h1 h2 h3)
  obtain ⟨rfl, rfl⟩ := y
  have hi : i < m := by
    have := (List.getElem?_eq_some_iff.mp e1).1
    rwa [List.length_range] at this
  have e2 : c = i := by
    rw [List.getElem?_range hi] at e1
    exact (Option.some.inj e1).symm
  subst e2
  have q := turn c D H' acc K1 K0 hi nD hS hD k1 k0
  have e : (0 : Int) + (c : Int) = (c : Int) := Int.zero_add _
  show g (.int (0 + (c : Int))) (wipe σ vs) H' _
  rw [e]
  exact q
end
end Cv
namespace Cv
open PySem PySem.Spec
open PyProof.Rows hiding St
open L2
section
variable {X : Cx} {x m : Str} {p p1 p2 pos apos : Pos} {e f o : Expr} {es : List Expr} {ta td ty tx : TE} {t : TA} {C : Addr}
/-- C(), C without an own __init__ -/
def tMakeN (C : Addr) : TE := fun _ H Q => ∀ x dx, H x = none → H dx = none → dx ≠ x → Q (.ref x) (upd (upd H dx (.own x)) x (.ins C dx []))
theorem pe_makeN (M : PySem.W.makesIn X.K C = true) (hi : PySem.W.findIn X.K (.ref C) "__init__" = some (some (.builtin "object.__init__"))) (kp : PySem.W.keepIn X.K (.ref C) = true) (hg : Gl X x) (hm : X.mg x = some (.ref C))
    (hdb : (x == ("__debug__" : Str)) = false := by decide) : PE X (.Call (.Name x p) [] [] pos) (tMakeN C) := by
  refine ⟨fun pins s σ H Q I h => ?_⟩
  refine wpAny_Call_Name_kw (ld_glob I hg hm ?_ hdb)
  refine PySem.W.callWith_K0 I.kIn kp ?_
  have hq := h (s.heap.objs.size + 1) s.heap.objs.size (I.hok.fresh (Nat.le_succ _)) (I.hok.fresh (Nat.le_refl _)) (Nat.ne_of_lt (Nat.lt_succ_self _))
  have I2 := Inv.made (C := C) I
  refine wpAny_call (make_map0 I.kIn M hi (fun self => PySem.W.Looks.of_pure (PySem.W.oi_bind self)) ?_)
  obtain ⟨hh, g, d, tk, os⟩ := s
  have t1 : PySem.W.Looks (model X.prog X.w) ((hh.push PySem.W.emptyDict).push (PySem.W.instObj C hh.objs.size)) (typeOf (.ref (hh.objs.size + 1))) (.ref C) :=
    (PySem.W.Looks.ld (by heap_get)).andThen .now
  have t2 : PySem.W.Looks (model X.prog X.w) ((hh.push PySem.W.emptyDict).push (PySem.W.instObj C hh.objs.size)) (isInstance (.ref (hh.objs.size + 1)) (.type "object")) true :=
    t1.andThen ((PySem.W.makes_of (M := model X.prog X.w) I.kIn M).top.keeps fun b o e => Heap.get?_push_of_some _ (Heap.get?_push_of_some _ e))
  refine codeAny_call_builtin PySem.W.oi_plain PySem.W.entry_oi (@PySem.W.check_slot (model X.prog X.w) _ _ _ "object.__init__" "object" "__init__" (.ref (hh.objs.size + 1)) [] [] _ PySem.W.oi_kind PySem.W.oi_split t2 (PySem.W.oi_args (.ref (hh.objs.size + 1))) ?_)
  rw [PySem.W.oi_run]
  exact wpAny_pure (And.intro rfl ⟨.ref (hh.objs.size + 1), _, I2, rfl, hq⟩)
/-- C(), C's own __init__ has no parameter but self -/
theorem pe_mk0 {k j : Nat} {sp : Sp} {dvs : List V} (c : C8.Mak X.prog X.w X.K X.mg X.base k x C sp dvs) (hr : Room j X.A) (hk : k + 1 ≤ j) (hg : Gl X x) (hdb : (x == ("__debug__" : Str)) = false := by decide) :
    PE X (.Call (.Name x p) [] [] pos) (tMake C sp dvs C8.E0 tNil) := by
  obtain ⟨f, fd, ps, ds, M, F, hm, b, d⟩ := c.ex
  exact pe_make0 M F (hr.mono hk) hg hm b d C8.pass0 hdb
/-- C.__init__(e, ..), C a class of the text -/
theorem pe_cinit {k j : Nat} {sp : Sp} {fI : Addr} {fd : FuncData} {ps : List Str} {pl : Sem Bool} (rr : PySem.W.readsIn X.K C (.type "type") = true) (rg : PySem.W.specialIn X.K (.ref C) "__getattribute__" = some (some (.builtin "type.__getattribute__")))
    (ri : PySem.W.findCls X.K (.ref C) (.type "type") "__init__" = some (.val (.ref fI))) (kp : PySem.W.keepIn X.K (.ref fI) = true) (F : FnOk X.prog X.w X.K X.mg X.base C8.CX0 k fI fd ps sp) (b : Binds X.K fd ps []) (hr : Room j X.A) (hk : k ≤ j)
    (hg : Gl X x) (hm : X.mg x = some (.ref C)) (ha : PA X (e :: es) t) (hdb : (x == ("__debug__" : Str)) = false := by decide)
    (hc : eval (.Call (.Attribute (.Name x p1) "__init__" p2) (e :: es) [] pos) X.env = (do
      let ov ← eval (.Name x p1) X.env
      standAt p2.atName
      let (f, first) ← holding [ov] (getMethod ov "__init__" pl)
      callWith pos f first (backTo pos (starEach (e :: es) X.env)) (backToKw pos (keywordEach [] X.env))) := by rfl)
    (he : starEach (e :: es) X.env = (false, eval e X.env) :: starEach es X.env := by rfl) (hpl : (backTo pos (starEach es X.env)).any (·.1) = false := by rfl) :
    PE X (.Call (.Attribute (.Name x p1) "__init__" p2) (e :: es) [] pos) (tCall sp [] C8.E0 t) := by
  refine ⟨fun pins s σ H Q I h => ?_⟩
  refine PySem.W.methodCall_KW (ld_glob I hg hm ?_ hdb) hc
  refine PySem.W.method_cls I.kIn rg (PySem.W.cls_value I.kIn rr ri rfl ?_)
  refine PySem.W.callWith_K (h₀ := X.base) I.ok.mod.kin kp (thn (ha.run pos pins _ σ H _ (I.tok _) h) fun us s1 ⟨vs, H1, I1, r, q⟩ => ⟨I1.kIn, ?_⟩) he hpl
  exact run_fn F (hr.mono hk) b .nil C8.pass0 I1 r q
/-- CoverError.__init__(self, ..) -/
theorem pe_ceinit {pl : Sem Bool} (rr : PySem.W.readsIn X.K C (.type "type") = true) (rg : PySem.W.specialIn X.K (.ref C) "__getattribute__" = some (some (.builtin "type.__getattribute__")))
    (ri : PySem.W.findCls X.K (.ref C) (.type "type") "__init__" = some (.val (.builtin "ValueError.__init__"))) (hg : Gl X x) (hm : X.mg x = some (.ref C)) (ha : PA X (e :: es) t) (hdb : (x == ("__debug__" : Str)) = false := by decide)
    (hc : eval (.Call (.Attribute (.Name x p1) "__init__" p2) (e :: es) [] pos) X.env = (do
      let ov ← eval (.Name x p1) X.env
      standAt p2.atName
      let (f, first) ← holding [ov] (getMethod ov "__init__" pl)
      callWith pos f first (backTo pos (starEach (e :: es) X.env)) (backToKw pos (keywordEach [] X.env))) := by rfl)
    (he : starEach (e :: es) X.env = (false, eval e X.env) :: starEach es X.env := by rfl) (hpl : (backTo pos (starEach es X.env)).any (·.1) = false := by rfl) :
    PE X (.Call (.Attribute (.Name x p1) "__init__" p2) (e :: es) [] pos) (tVeI X.K t) := by
  refine ⟨fun pins s σ H Q I h => ?_⟩
  refine PySem.W.methodCall_KW (ld_glob I hg hm ?_ hdb) hc
  refine PySem.W.method_cls I.kIn rg (PySem.W.cls_value I.kIn rr ri rfl ?_)
  show wpAny _ _ (callWith pos (Value.builtin "ValueError.__init__") [] (backTo pos (starEach (e :: es) X.env)) []) _ _ _
  refine PyProof.Rows.callWith_method1 (thn (ha.run pos pins _ σ H _ (I.tok _) h) fun us s1 ⟨vs, H1, I1, r1, a, C', ws, ev, hl, T, ea, q⟩ => ?_) he hpl
  subst ev
  cases r1 with
  | @cons _ u0 _ ur ra rw' =>
    obtain rfl : u0 = Value.ref a := ra
    have hlen : ur.length ≤ sizeLine := by
      rw [← Paired.length rw', sizeLine_eq]
      omega
    exact oinit_ok T I1 ea hlen fun s' J => ⟨.non, H1, J, rfl, q⟩
end
/-! ### defs that may raise -/
structure CalX (P : Program) (w : World) (K : PySem.W.Frag) (mg : Str → Option Value) (base : Heap) (k : Nat) (x : Str) (sp : Sp) : Prop where
  ex : ∃ (f : Addr) (fd : FuncData) (ps : List Str), FnOk P w K mg base (L2.CX P w) k f fd ps sp ∧ mg x = some (.ref f) ∧ PySem.W.keepIn K (.ref f) = true ∧ Binds K fd ps []
structure MetX (P : Program) (w : World) (K : PySem.W.Frag) (mg : Str → Option Value) (base : Heap) (k : Nat) (C : Addr) (m : Str) (sp : Sp) : Prop where
  ex : ∃ (f : Addr) (fd : FuncData) (ps : List Str), Cls K C ∧ Meth K C m f ∧ FnOk P w K mg base (L2.CX P w) k f fd ps sp ∧ Binds K fd ps []
section
variable {X : Cx} {x m : Str} {p pos apos : Pos} {e o : Expr} {es : List Expr} {ta : TE} {t : TA} {C : Addr} {k j : Nat} {sp : Sp} {E : XK}
theorem pe_cx (c : CalX X.prog X.w X.K X.mg X.base k x sp) (hr : Room j X.A) (hk : k ≤ j) (hg : Gl X x) (tk : Takes X (fun cls d _ H => E cls d H)) (ha : PA X (e :: es) t)
    (hdb : (x == ("__debug__" : Str)) = false := by decide) (he : starEach (e :: es) X.env = (false, eval e X.env) :: starEach es X.env := by rfl) (hpl : (backTo pos (starEach es X.env)).any (·.1) = false := by rfl) :
    PE X (.Call (.Name x p) (e :: es) [] pos) (tCall sp [] E t) := by
  obtain ⟨f, fd, ps, F, hm, kp, b⟩ := c.ex
  exact pe_call F (hr.mono hk) hg hm kp b .nil (passes_call tk fun _ _ _ _ h => h) ha hdb he hpl
theorem pe_mtx {pl : Sem Bool} (c : MetX X.prog X.w X.K X.mg X.base k C m sp) (hr : Room j X.A) (hk : k ≤ j) (he : PE X o ta) (tk : Takes X (fun cls d _ H => E cls d H)) (ha : PA X (e :: es) t)
    (hst : starEach (e :: es) X.env = (false, eval e X.env) :: starEach es X.env := by rfl) (hpl : (backTo pos (starEach es X.env)).any (·.1) = false := by rfl)
    (ht : eval (.Call (.Attribute o m apos) (e :: es) [] pos) X.env = (do
      let ov ← eval o X.env
      standAt apos.atName
      let (f, first) ← holding [ov] (getMethod ov m pl)
      callWith pos f first (backTo pos (starEach (e :: es) X.env)) (backToKw pos (keywordEach [] X.env))) := by rfl) :
    PE X (.Call (.Attribute o m apos) (e :: es) [] pos) (tMeth C m sp [] E ta t) := by
  obtain ⟨f, fd, ps, hc, hm, F, b⟩ := c.ex
  exact pe_meth (pl := pl) he hc hm F (hr.mono hk) b .nil (passes_call tk fun _ _ _ _ h => h) ha hst hpl ht
end
section
variable {P : Program} {w : World} {K : PySem.W.Frag} {mg : Str → Option Value} {base : Heap}
theorem calx {x : Str} {qual : Str} {params : Arguments} {body : List Stmt} {scope : Scope} {f : Addr} {N ps : List Str} {k : Nat} {sp : Sp} (F : ∃ fd, FunD K x qual params body scope [] [] f fd) (hm : mg x = some (.ref f)) (S : FnScope N ps scope)
    (bd : ∀ (kV doc pm : Value) (an : Option Addr) (cdv ct : Value) (us : List Value), us.length = ps.length → bindArgs (PySem.W.fnOf x qual params body scope .none kV doc pm an cdv ct) ⟨us, []⟩ = pure (ps.zip us))
    (len : ∀ vs H Q E, sp vs H Q E → vs.length = ps.length)
    (hbody : ∀ (cdv : Value) (A : Around) (outer : List Env) (s : Shared) (H : Hp) (vs : List V) (Q : VK) (E : XK), Room k (A.deeper (envOfC qual scope s.heap.objs.size f cdv)) → sp vs H Q E →
      ∃ t, PSs (cxOf (L2.CX P w) P w K mg base N qual scope f cdv A outer s H E) body t ∧ t { nx := fun _ H' => Q .non H', rt := Q } (start N vs) H) : CalX P w K mg base (k + 1) x sp := by
  obtain ⟨fd, F⟩ := F
  exact ⟨f, fd, ps, F.ok S len fun cdv A outer s H vs Q E hr h => hbody cdv A outer s H vs Q E hr h, hm, F.kp, F.bindsN bd⟩
theorem metx {C : Addr} {x : Str} {qual : Str} {params : Arguments} {body : List Stmt} {scope : Scope} {f : Addr} {N ps : List Str} {k : Nat} {sp : Sp} (F : ∃ fd, FunD K x qual params body scope [] [] f fd) (c : Cls K C) (hm : Meth K C x f) (S : FnScope N ps scope)
    (bd : ∀ (kV doc pm : Value) (an : Option Addr) (cdv ct : Value) (us : List Value), us.length = ps.length → bindArgs (PySem.W.fnOf x qual params body scope .none kV doc pm an cdv ct) ⟨us, []⟩ = pure (ps.zip us))
    (len : ∀ vs H Q E, sp vs H Q E → vs.length = ps.length)
    (hbody : ∀ (cdv : Value) (A : Around) (outer : List Env) (s : Shared) (H : Hp) (vs : List V) (Q : VK) (E : XK), Room k (A.deeper (envOfC qual scope s.heap.objs.size f cdv)) → sp vs H Q E →
      ∃ t, PSs (cxOf (L2.CX P w) P w K mg base N qual scope f cdv A outer s H E) body t ∧ t { nx := fun _ H' => Q .non H', rt := Q } (start N vs) H) : MetX P w K mg base (k + 1) C x sp := by
  obtain ⟨fd, F⟩ := F
  exact ⟨f, fd, ps, c, hm, F.ok S len fun cdv A outer s H vs Q E hr h => hbody cdv A outer s H vs Q E hr h, F.bindsN bd⟩
end
theorem oexB_ok {K : PySem.W.Frag} {C : Addr} (q : oexB K C = true) : ∃ nm q N bs bm sn sub ab col dd k0 k1 k2 k3 k5, K.lookup C = some (excClassObj nm q C N bs bm true sn sub ab col dd k0 k1 k2 k3 k5 "ValueError.__new__") ∧ PySem.HandSPX.refsVE bm = true := by
  unfold oexB at q
  split at q
  · rename_i dd cd sl ho
    split at q
    · rename_i C' bm k0 k1 k2 k3 n k5 hm hs
      simp only [Bool.and_eq_true, beq_iff_eq, Bool.not_eq_true'] at q
      obtain ⟨⟨⟨⟨rfl, rfl⟩, hdel⟩, hd⟩, hr⟩ := q
      obtain ⟨nm, bs, mro, ns, qn, hd', sn, sub, ab, col, del⟩ := cd
      dsimp only at hm hdel hd
      subst hm hdel hd
      have hsl : sl = #[k0, k1, k2, k3, some (.builtin "ValueError.__new__"), k5] := by
        obtain ⟨l⟩ := sl
        simp only at hs
        rw [hs]
      subst hsl
      exact ⟨nm, qn, ns, bs, bm, sn, sub, ab, col, dd, k0, k1, k2, k3, k5, ho, hr⟩
    · cases q
  · cases q
end Cv
namespace Cv
open PySem PySem.Spec
open PyProof.Rows hiding St
open L2
theorem units65 {k : Nat} {A : Around} (r : Room k A) : A.units + 65 < cLine := by
  have := r.un
  omega
theorem room_mark {k : Nat} {A : Around} (r : Room k A) (h : Option Value) : L2H.RoomH k (A.mark h) := ⟨r.dp, r.un⟩
/-! ### list.remove of data, list.count of flat things -/
section
variable {X : Cx}
def rRemD (K : PySem.W.Frag) : V → List V → Hp → VK → Prop := fun x xs H Q => ∃ (l : Addr) (ys : List V) (y : V) (d : PyData) (ds : List PyData) (j : Nat), x = .ref l ∧ xs = [y] ∧ H l = some (.lst ys) ∧ DpAll K H ys ds ∧ Dp K H y d ∧ SeqAt.shaped (.list ds) = true ∧ SeqAt.shaped d = true ∧
  (∃ z, ds[j]? = some z ∧ PyData.eqv z d = true) ∧ (∀ (m : Nat) (z : PyData), m < j → ds[m]? = some z → PyData.eqv z d = false) ∧ Q .non (upd H l (.lst (ys.eraseIdx j)))
theorem mt_removeD (hu : X.A.units + 65 < cLine) : MtR X "list.remove" (rRemD X.K) := fun pins s σ H x xs v us Q I rx rxs h => by
  obtain ⟨l, ys, y, d, ds, j, rfl, rfl, hH, ha, hy, sl, sd, ⟨z0, hz, hzd⟩, hno, q⟩ := h
  cases rx
  obtain ⟨uy, rfl, ry⟩ := rxs.one
  obtain ⟨bs, r1⟩ := Dp.reads I d y uy hy ry
  have hcan : PyData.canLayAll0 ds = true := SeqAt.canLay_of_shaped sl
  obtain ⟨zl, its, n, rv, hlen, eo⟩ := I.lstM hH
  obtain ⟨as, h4⟩ := Dp.readsAll I ds _ its ha rv
  have hn := SeqAt.ReadsAll.length ds its as h4
  have hmap := SeqAt.readsAll_map ds its as hcan h4
  have at_ : ∀ (m : Nat) (hm : m < its.toArray.size) (z : PyData), ds[m]? = some z → SeqAt.readOf s.heap its.toArray[m] = z := fun m hm z hz' => by
    have hml : m < its.length := by simpa using hm
    rw [← hmap, List.getElem?_map, List.getElem?_eq_getElem hml] at hz'
    have e1 := Option.some.inj hz'
    simpa using e1
  have hjd := (List.getElem?_eq_some_iff.mp hz).1
  have hj : j < its.toArray.size := by
    rw [List.size_toArray]
    omega
  have room : X.A.units + 1 + min (PyData.depthAll ds) d.depth < cLine := room_in_shaped sd hu
  refine call_meets PySem.F.slot_list_remove ⟨_, eo, rfl⟩ PySem.F.entry_list_remove (PySem.F.args_list_remove_2 _ _) (SeqAt.list_removeAt l its.toArray n none #[] uy (fun u => PyData.eqv (SeqAt.readOf s.heap u) d) j hj ?_ ?_ (by rw [List.size_toArray]; omega)) ⟨eo, SeqAt.items_eqAt (vs := its.toArray) (show ReadsAll s.heap its.toArray.toList ds as from h4) r1 hcan (SeqAt.canLay_of_shaped sd) room, ?_⟩
  · show PyData.eqv (SeqAt.readOf s.heap its.toArray[j]) d = true
    rw [at_ j hj z0 hz]
    exact hzd
  · intro m hm hmj
    have hz' : ds[m]? = some (ds[m]'(by omega)) := List.getElem?_eq_getElem (by omega)
    show PyData.eqv (SeqAt.readOf s.heap its.toArray[m]) d = false
    rw [at_ m hm _ hz']
    exact hno m _ hmj hz'
  · refine ⟨.non, _, I.lset (its' := its.eraseIdx j) (t' := s.toks) hH eo ?_ (rv.eraseIdx j) (Nat.le_trans (len_erase ys j) zl), rfl, q⟩
    exact List.eraseIdxIfInBounds_toArray ..
def rCntB (K : PySem.W.Frag) : V → List V → Hp → VK → Prop := fun x xs H Q => ∃ (p : Addr) (ys : List V) (y : V), x = .ref p ∧ xs = [y] ∧ SqL K H p ys ∧ flatV y = true ∧ ys.all flatV = true ∧ Q (.int ((ys.countP fun z => eqV z y : Nat) : Int)) H
theorem count_eqU {y : V} : ∀ {ys : List V} {us : List Value}, Vals ys us → ys.all flatV = true → us.countP (eqU y) = ys.countP fun z => eqV z y
  | _, _, .nil, _ => rfl
  | _, _, .cons r t, f => by
    rw [List.all_cons, Bool.and_eq_true] at f
    rw [List.countP_cons, List.countP_cons, count_eqU t f.2, eqU_of r f.1]
theorem mt_countB : MtR X "list.count" (rCntB X.K) := fun pins s σ H x xs v us Q I rx rxs h => by
  obtain ⟨p, ys, y, rfl, rfl, hs, fy, fys, q⟩ := h
  cases rx
  obtain ⟨uy, rfl, ry⟩ := rxs.one
  obtain ⟨its, rv, ⟨⟨cls, dd, data, sl⟩, n, ho, hc, hdn, hd⟩, hlen⟩ := I.list hs
  simp only at hc hd
  subst hc hd
  refine call_meets PySem.F.slot_list_count ⟨_, ho, rfl⟩ PySem.F.entry_list_count (PySem.F.args_list_count_2 _ _) (SeqAt.list_countAt p its.toArray n dd sl uy (eqU y)) ⟨ho, fun u hu => mem_eqAt ry fy rv fys u (by simpa using hu), ?_⟩
  have ec : its.toArray.toList.countP (eqU y) = ys.countP fun z => eqV z y := count_eqU rv fys
  refine ⟨.int ((ys.countP fun z => eqV z y : Nat) : Int), H, I.tok _, ⟨s.toks, ?_⟩, q⟩
  show Value.int ((its.toArray.toList.countP (eqU y) : Nat) : Int) s.toks = _
  rw [ec]
end
/-! ### a def that is called with the caught exception within the suite -/
structure FnE (P : Program) (w : World) (K : PySem.W.Frag) (mg : Str → Option Value) (base : Heap) (k : Nat) (f : Addr) (fd : FuncData) (ps : List Str) (sp : Addr → Value → Option Addr → Sp) : Prop where
  len : ∀ a c d vs H Q E, sp a c d vs H Q E → vs.length = ps.length
  run : ∀ (A : Around) (outer : List Env) (s : Shared) (H : Hp) (args : Args) (us : List Value) (vs : List V) (Q : VK) (E : XK) (a : Addr) (o : Obj) (c : Value) (d : Option Addr), Zc c d o → (∃ fs, o.data = .fields fs) → L2H.RoomH k A → L2H.PinOk outer H s (a, o) → Env0 P w K mg base A outer s H → BindsTo s fd args (ps.zip us) → Vals vs us →
    sp a c d vs H Q E → codeAny (model P w) A (.call (.ref f) args) (CR C8.CX0 outer P w H s Q E) s
theorem fnE {P : Program} {w : World} {K : PySem.W.Frag} {mg : Str → Option Value} {base : Heap} {k : Nat} {f : Addr} {fd : FuncData} {name qual : Str} {params : Arguments} {body : List Stmt} {scope : Scope} {N ps : List Str} {sp : Addr → Value → Option Addr → Sp} (F : FunD K name qual params body scope [] [] f fd) (S : FnScope N ps scope)
    (len : ∀ a c d vs H Q E, sp a c d vs H Q E → vs.length = ps.length)
    (walk : ∀ (cdv : Value) (A : Around) (outer : List Env) (s : Shared) (H : Hp) (vs : List V) (Q : VK) (E : XK) (a : Addr) (o : Obj) (c : Value) (d : Option Addr), Zc c d o → (∃ fs, o.data = .fields fs) → L2H.RoomH k (A.deeper (envOfC qual scope s.heap.objs.size f cdv)) → sp a c d vs H Q E →
      ∃ t, PSs (L2H.cxH C8.CX0 P w K mg base N qual scope f cdv A outer s H E (a, o)) body t ∧ t { nx := fun _ H' => Q .non H', rt := Q } (L2.start N vs) H) : FnE P w K mg base (k + 1) f fd ps sp := by
  obtain ⟨oc, od, dV, kV, doc, pm, an, cdv, ct, osl, rfl, lk, hcd, _, _⟩ := F.ex
  refine ⟨len, fun A outer s H args us vs Q E a o c d hz hf hr hpin e0 hb r hsp => ?_⟩
  have hl := len _ _ _ _ _ _ _ hsp
  have keepsB : ∀ b u, base.get? b = some u → s.heap.get? b = some u := fun b u e => (e0.bs b u e).1
  have KX := e0.mod.kin.keeps keepsB
  have lim := e0.mod.nolimit.keeps keepsB
  refine codeAny_call_function hr.depth (KX _ _ lk) rfl S.co S.gen rfl (PySem.W.codeRec_of KX hcd) (hb _ _ _ _ (wpAny_newFunctionEnv_cells S.kind (fun ⟨n, v⟩ hy => ?_) fun env he s1 x => ?_))
  · rcases S.par n (List.of_mem_zip hy).1 with c | c
    · exact .inl c
    · exact .inr ⟨c, PySem.W.cellsFrom_some _ _ _ (.inl c)⟩
  subst he
  refine ⟨lim.keeps x.toInCall.keep, codeAny_func ?_⟩
  obtain ⟨t, ht, hq⟩ := walk cdv A outer s H vs Q E a o c d hz hf (hr.deeper _) hsp
  have I := L2H.inv_startH (CX := C8.CX0) (E := E) S hpin e0 hl r x
  refine wpAny_mono (ht.run [] s1 (L2.start N vs) H _ I hq) (fun fl s' hs => ?_) fun e s' hs => hs
  cases fl with
  | ret u =>
    obtain ⟨v, σ', H', J, rv, q⟩ := hs
    exact ⟨v, H', J.os, J.bare, J.base, J.hok, rv, q⟩
  | next =>
    obtain ⟨σ', H', J, q⟩ := hs
    exact ⟨V.non, H', J.os, J.bare, J.base, J.hok, rfl, q⟩
  | brk =>
    obtain ⟨_, _, _, q⟩ := hs
    exact q.elim
  | cont =>
    obtain ⟨_, _, _, q⟩ := hs
    exact q.elim
def tCallE (sp : Addr → Value → Option Addr → Sp) (a : Addr) (c : Value) (d : Option Addr) (t : TA) : TE := fun σ H Q => t σ H fun vs H1 => sp a c d vs H1 Q C8.E0
theorem pe_callE {X : Cx} {k : Nat} {f : Addr} {fd : FuncData} {ps : List Str} {sp : Addr → Value → Option Addr → Sp} {x : Str} {p pos : Pos} {e : Expr} {es : List Expr} {t : TA} {a : Addr} {o : Obj} {c : Value} {d : Option Addr} (hz : Zc c d o) (hf : ∃ fs, o.data = .fields fs) (F : FnE X.prog X.w X.K X.mg X.base k f fd ps sp) (hr : L2H.RoomH k X.A) (hp : (a, o) ∈ X.pn) (hg : Gl X x) (hm : X.mg x = some (.ref f))
    (hk : PySem.W.keepIn X.K (.ref f) = true) (hb : Binds X.K fd ps []) (ha : PA X (e :: es) t) (hdb : (x == ("__debug__" : Str)) = false := by decide)
    (he : starEach (e :: es) X.env = (false, eval e X.env) :: starEach es X.env := by rfl) (hpl : (backTo pos (starEach es X.env)).any (·.1) = false := by rfl) : PE X (.Call (.Name x p) (e :: es) [] pos) (tCallE sp a c d t) := by
  refine ⟨fun pins s σ H Q I h => wpAny_Call_Name_kw (ld_glob I hg hm ?_ hdb)⟩
  refine PySem.W.callWith_K (h₀ := X.base) I.ok.mod.kin hk (thn (ha.run pos pins s σ H _ I h) fun us s1 ⟨vs, H1, I1, r, q⟩ => ⟨I1.kIn, ?_⟩) he hpl
  have hl : (us ++ []).length = ps.length := by
    rw [List.append_nil, ← r.length]
    exact F.len _ _ _ _ _ _ _ q
  have b := hb s1 us I1.kIn hl
  rw [List.append_nil] at b
  have P1 := I1.pin (a, o) (List.mem_append_left _ hp)
  refine wpAny_call (codeAny_mono (F.run X.A X.stack s1 H1 ⟨us, []⟩ us vs Q C8.E0 a o c d hz hf hr ⟨P1.1, P1.2.1, fun hmm => ?_, P1.2.2.2.2⟩ I1.env0 b r q) fun r s' hq => ?_)
  · rcases List.mem_cons.mp (I1.stkSub a hmm) with z | z
    · exact P1.2.2.1 z
    · exact P1.2.2.2.1 z
  · cases r with
    | error e => exact hq.elim
    | ok fl =>
      cases fl with
      | ret u => exact I1.after hq
      | _ => exact hq.elim
/-! ### isinstance, a field of the caught exception -/
/-- what a class must say -/
structure ExcD (K : PySem.W.Frag) (D : Addr) : Prop where
  c : ExcC K D
theorem inst_at {X : Cx} {pins : List (Addr × Obj)} {σ : L2.St} {H : Hp} {s : Shared} {a D : Addr} {oe : Obj} {d : Option Addr} (I : Inv X pins σ H s) (ha : s.heap.get? a = some oe) (hz : Zc (.ref D) d oe) (hf : ∃ vs, oe.data = .fields vs) (hd : d = none ∨ ∃ dd fs, d = some dd ∧ H dd = some (.xd fs)) :
    ∃ od, PySem.W.InstAt s.heap a oe D od := by
  obtain ⟨vs, hv⟩ := hf
  obtain ⟨oc, oo, oda, osl⟩ := oe
  obtain ⟨h1, h2⟩ := hz
  dsimp only at h1 h2 hv
  subst h1 h2 hv
  rcases hd with rfl | ⟨dd, fs, rfl, hx⟩
  · exact ⟨none, ha, rfl, rfl, trivial⟩
  · have hx : ObjOk X.prog X.w H s.heap dd (.xd fs) := I.hok dd _ hx
    obtain ⟨mA, hns, hr⟩ := hx
    obtain ⟨od, ho, hl⟩ := lookIn_ns hns
    exact ⟨some od, ha, rfl, rfl, ho⟩
def rIsP (K : PySem.W.Frag) (a : Addr) (oe : Obj) : List V → Hp → VK → Prop := fun xs H Q => ∃ (D : Addr) (d : Option Addr) (c : V) (cv : Value) (b : Bool), xs = [.ref a, c] ∧ Zc (.ref D) d oe ∧ (∃ vs, oe.data = .fields vs) ∧ (d = none ∨ ∃ dd fs, d = some dd ∧ H dd = some (.xd fs)) ∧ ExcC K D ∧
  (∀ u, RelV c u → u = cv) ∧ PySem.W.kitOne K (.ref D) cv = some b ∧ Q (.bl b) H
theorem call_isP {X : Cx} {a : Addr} {oe : Obj} (hp : (a, oe) ∈ X.pn) : CallR X (.builtin "isinstance") (rIsP X.K a oe) := fun pins s σ H xs us Q I r h => by
  obtain ⟨D, d, c, cv, b, rfl, hz, hf, hd, C, hcv, e, q⟩ := h
  cases r with
  | cons rx rr =>
    cases rr with
    | cons rt rr =>
      cases rr
      cases rx
      have ec := hcv _ rt
      subst ec
      obtain ⟨od, J⟩ := inst_at I (I.pin (a, oe) (List.mem_append_left _ hp)).1 hz hf hd
      have hcl : (PySem.W.clsIn X.K D).isSome = true := by
        obtain ⟨cd, hc, _⟩ := PySem.W.any_some C.hd
        rw [hc]
        rfl
      exact PySem.W.kia_one (PySem.W.kitx_exc (od := od) hcl C.hg C.hk C.hs C.ha C.hn C.ht C.hm) I.kIn J e (fun z => nomatch z) fun tk => ⟨.bl b, H, I.kept (t' := tk) fun _ _ z => z, rfl, q⟩
/-- e.f -/
def tXP (K : PySem.W.Frag) (a : Addr) (oe : Obj) (f : Str) (te : TE) : TE := fun σ H Q => te σ H fun x H1 => x = .ref a ∧ ∃ (D dd : Addr) (fs : List (Str × V)) (v : V), Zc (.ref D) (some dd) oe ∧ (∃ vs, oe.data = .fields vs) ∧ XfC K D ∧ PySem.W.findIn K (.ref D) f = some none ∧ H1 dd = some (.xd fs) ∧ fs.lookup f = some v ∧ Q v H1
theorem pe_xp {X : Cx} {a : Addr} {oe : Obj} {e : Expr} {te : TE} {pos : Pos} {n : Str} (hp : (a, oe) ∈ X.pn) (he : PE X e te) (hb : attributeBase e n X.env (eval e X.env) = eval e X.env := by rfl) : PE X (.Attribute e n pos) (tXP X.K a oe n te) := by
  refine ⟨fun pins s σ H Q I h => attr_of hb (thn (he.run pins s σ H _ I h) fun u s1 hh => ?_)⟩
  obtain ⟨x, H1, I1, rx, rfl, D, dd, fs, v, hz, hf, T, hno, ea, l, q⟩ := hh
  obtain rfl : u = Value.ref a := rx
  have ha := (I1.pin (a, oe) (List.mem_append_left _ hp)).1
  obtain ⟨vs, hd⟩ := hf
  have hx : ObjOk X.prog X.w H1 s1.heap dd (.xd fs) := I1.hok dd _ ea
  obtain ⟨mA, hns, hr⟩ := hx
  obtain ⟨od, ho, hl⟩ := lookIn_ns hns
  obtain ⟨u, hu, ru⟩ := RelO.some_of (v := v) (o := mA n) (by rw [← l]; exact hr n)
  have J : PySem.W.InstAt s1.heap a oe D (some od) := ⟨ha, hz.1, by unfold PySem.W.notCls; rw [hd] <;> rfl, by rw [hz.2]; exact ho⟩
  exact HandSPX.exc_get I1.kIn J T.ga T.gg T.exC (PySem.W.findObj_own T.hdC hno rfl (by rw [hl, hu])) (handed_of ru) ⟨v, H1, I1.tok _, ru, q⟩
/-! ### a def that may raise, called within a try -/
theorem pe_cxS {X : Cx} {k j : Nat} {x : Str} {sp : Sp} {p pos : Pos} {e : Expr} {es : List Expr} {t : TA} {W : WX} (c : CalX X.prog X.w X.K X.mg X.base k x sp) (hr : Room j X.A) (hk : k ≤ j) (hg : Gl X x) (tk : Takes X W) (ha : PA X (e :: es) t)
    (hdb : (x == ("__debug__" : Str)) = false := by decide) (he : starEach (e :: es) X.env = (false, eval e X.env) :: starEach es X.env := by rfl) (hpl : (backTo pos (starEach es X.env)).any (·.1) = false := by rfl) :
    PE X (.Call (.Name x p) (e :: es) [] pos) (tCallS sp (fun σ => WE W σ) t) := by
  obtain ⟨f, fd, ps, F, hm, kp, b⟩ := c.ex
  exact pe_callS F (hr.mono hk) hg hm kp b (fun σ => passAt tk σ) ha hdb he hpl
def tMethX (C : Addr) (m : Str) (sp : Sp) (E : L2.St → XK) (ta : TE) (t : TA) : TE := fun σ H Q => ta σ H fun x H1 => ∃ a dx fs, x = .ref a ∧ H1 a = some (.ins C dx fs) ∧ fs.lookup m = none ∧ t σ H1 fun vs H2 => sp (x :: vs) H2 Q (E σ)
theorem pe_mtxS {X : Cx} {k j : Nat} {C : Addr} {m : Str} {sp : Sp} {apos pos : Pos} {o e : Expr} {es : List Expr} {ta : TE} {t : TA} {W : WX} {pl : Sem Bool} (c : MetX X.prog X.w X.K X.mg X.base k C m sp) (hr : Room j X.A) (hk : k ≤ j) (he : PE X o ta) (tk : Takes X W) (ha : PA X (e :: es) t)
    (hst : starEach (e :: es) X.env = (false, eval e X.env) :: starEach es X.env := by rfl) (hpl : (backTo pos (starEach es X.env)).any (·.1) = false := by rfl)
    (ht : eval (.Call (.Attribute o m apos) (e :: es) [] pos) X.env = (do
      let ov ← eval o X.env
      standAt apos.atName
      let (f, first) ← holding [ov] (getMethod ov m pl)
      callWith pos f first (backTo pos (starEach (e :: es) X.env)) (backToKw pos (keywordEach [] X.env))) := by rfl) :
    PE X (.Call (.Attribute o m apos) (e :: es) [] pos) (tMethX C m sp (fun σ => WE W σ) ta t) := by
  obtain ⟨f, fd, ps, hc, hm, F, b⟩ := c.ex
  refine ⟨fun pins s σ H Q I h => PySem.W.methodCall_KW (pl := pl) (thn (he.run pins s σ H _ I h) fun u s1 ⟨x, H1, I1, rx, a, dx, fs, ex, ea, l, q⟩ => ?_) ht⟩
  subst ex
  obtain rfl : u = Value.ref a := rx
  refine getmeth_ok I1 ea hc hm l (PySem.W.callWith_K (first := [.ref a]) (h₀ := X.base) I.ok.mod.kin hm.kp (thn (ha.run pos pins s1 σ H1 _ I1 q) fun us s2 ⟨vs, H2, I2, r, q2⟩ => ⟨I2.kIn, ?_⟩) hst hpl)
  exact run_fnS (E := fun σ => WE W σ) (us := .ref a :: us) (vs := .ref a :: vs) F (hr.mono hk) b (passAt tk σ) I2 (.cons rfl r) q2
theorem rd_callS {sp : Sp} {E : L2.St → XK} {t : TA} {σ : L2.St} {H : Hp} {Q : VK} (h : t σ H fun vs H1 => sp vs H1 Q (E σ)) : tCallS sp E t σ H Q := h
theorem rd_callE {sp : Addr → Value → Option Addr → Sp} {a : Addr} {c : Value} {d : Option Addr} {t : TA} {σ : L2.St} {H : Hp} {Q : VK} (h : t σ H fun vs H1 => sp a c d vs H1 Q C8.E0) : tCallE sp a c d t σ H Q := h
theorem rd_methX {C : Addr} {m : Str} {sp : Sp} {E : L2.St → XK} {ta : TE} {t : TA} {σ : L2.St} {H : Hp} {Q : VK} (h : ta σ H fun x H1 => ∃ a dx fs, x = .ref a ∧ H1 a = some (.ins C dx fs) ∧ fs.lookup m = none ∧ t σ H1 fun vs H2 => sp (x :: vs) H2 Q (E σ)) : tMethX C m sp E ta t σ H Q := h
end Cv
section
/-! ### my own short words: a reading's step, looks at the heap -/
local macro_rules | `(tactic| k_memK) => `(tactic| (first | with_reducible assumption | with_reducible exact L2.upd_same | ((with_reducible apply L2.Same.get); (· with_reducible assumption); (first | with_reducible assumption | with_reducible exact L2.upd_same | ((with_reducible apply L2.Same.get); (· with_reducible assumption); (first | with_reducible assumption | with_reducible exact L2.upd_same | ((with_reducible apply L2.Same.get); (· with_reducible assumption); (first | with_reducible assumption | with_reducible exact L2.upd_same | ((with_reducible apply L2.Same.get); (· with_reducible assumption); (first | with_reducible assumption | with_reducible exact L2.upd_same | ((with_reducible apply L2.Same.get); (· with_reducible assumption); (first | with_reducible assumption | with_reducible exact L2.upd_same))))))))))))
local macro_rules | `(tactic| k_mem) => `(tactic| (first | with_reducible assumption | ((with_reducible apply L2.SqL.of); (first | with_reducible assumption | with_reducible exact L2.upd_same)) | ((with_reducible apply L2.Same.seq); (· with_reducible assumption); (first | with_reducible assumption | ((with_reducible apply L2.SqL.of); (first | with_reducible assumption | with_reducible exact L2.upd_same)) | ((with_reducible apply L2.Same.seq); (· with_reducible assumption); (first | with_reducible assumption | ((with_reducible apply L2.SqL.of); (first | with_reducible assumption | with_reducible exact L2.upd_same)) | ((with_reducible apply L2.Same.seq); (· with_reducible assumption); (first | with_reducible assumption | ((with_reducible apply L2.SqL.of); (first | with_reducible assumption | with_reducible exact L2.upd_same)) | ((with_reducible apply L2.Same.seq); (· with_reducible assumption); (first | with_reducible assumption | ((with_reducible apply L2.SqL.of); (first | with_reducible assumption | with_reducible exact L2.upd_same)) | ((with_reducible apply L2.Same.seq); (· with_reducible assumption); (first | with_reducible assumption | ((with_reducible apply L2.SqL.of); (first | with_reducible assumption | with_reducible exact L2.upd_same))))))))))))))
local macro_rules | `(tactic| k_ownIn) => `(tactic| (first | with_reducible assumption | ((with_reducible apply L2.SqT.of); (first | with_reducible assumption | with_reducible exact L2.upd_same)) | ((with_reducible apply L2.Same.seqT); (· with_reducible assumption); (first | with_reducible assumption | ((with_reducible apply L2.SqT.of); (first | with_reducible assumption | with_reducible exact L2.upd_same)) | ((with_reducible apply L2.Same.seqT); (· with_reducible assumption); (first | with_reducible assumption | ((with_reducible apply L2.SqT.of); (first | with_reducible assumption | with_reducible exact L2.upd_same)) | ((with_reducible apply L2.Same.seqT); (· with_reducible assumption); (first | with_reducible assumption | ((with_reducible apply L2.SqT.of); (first | with_reducible assumption | with_reducible exact L2.upd_same)) | ((with_reducible apply L2.Same.seqT); (· with_reducible assumption); (first | with_reducible assumption | ((with_reducible apply L2.SqT.of); (first | with_reducible assumption | with_reducible exact L2.upd_same)) | ((with_reducible apply L2.Same.seqT); (· with_reducible assumption); (first | with_reducible assumption | ((with_reducible apply L2.SqT.of); (first | with_reducible assumption | with_reducible exact L2.upd_same))))))))))))))
local macro_rules | `(tactic| k_allIn) => `(tactic| (first | with_reducible assumption | with_reducible exact L2.Same.refl _ | ((with_reducible refine' L2.Same.trans ?ha ?hb); (case hb => with_reducible assumption); (case ha => (first | with_reducible assumption | with_reducible exact L2.Same.refl _ | ((with_reducible refine' L2.Same.trans ?ha ?hb); (case hb => with_reducible assumption); (case ha => (first | with_reducible assumption | with_reducible exact L2.Same.refl _ | ((with_reducible refine' L2.Same.trans ?ha ?hb); (case hb => with_reducible assumption); (case ha => (first | with_reducible assumption | with_reducible exact L2.Same.refl _ | ((with_reducible refine' L2.Same.trans ?ha ?hb); (case hb => with_reducible assumption); (case ha => (first | with_reducible assumption | with_reducible exact L2.Same.refl _ | ((with_reducible refine' L2.Same.trans ?ha ?hb); (case hb => with_reducible assumption); (case ha => (first | with_reducible assumption | with_reducible exact L2.Same.refl _ | ((with_reducible refine' L2.Same.trans ?ha ?hb); (case hb => with_reducible assumption); (case ha => (first | with_reducible assumption | with_reducible exact L2.Same.refl _))))))))))))))))))))
local macro_rules | `(tactic| k_places) => `(tactic| (intro p hp; generalize hH : L2.upd _ p _ = H'; have hS := Cv.new_same hp hH; have hN := Cv.new_at hH; clear hH))
local macro_rules | `(tactic| k_all) => `(tactic| (first
  | with_reducible rfl
  | with_reducible assumption
  | ((with_reducible apply Cv.sz_lit); rfl)
  | ((with_reducible apply Cv.sz_fs); rfl)
  | ((with_reducible apply Cv.tyl); (first | with_reducible assumption | ((with_reducible apply L2.SqL.of); (first | with_reducible assumption | with_reducible exact L2.upd_same)) | ((with_reducible apply L2.Same.seq); (· with_reducible assumption); (first | with_reducible assumption | ((with_reducible apply L2.SqL.of); (first | with_reducible assumption | with_reducible exact L2.upd_same)) | ((with_reducible apply L2.Same.seq); (· with_reducible assumption); (first | with_reducible assumption | ((with_reducible apply L2.SqL.of); (first | with_reducible assumption | with_reducible exact L2.upd_same)) | ((with_reducible apply L2.Same.seq); (· with_reducible assumption); (first | with_reducible assumption | ((with_reducible apply L2.SqL.of); (first | with_reducible assumption | with_reducible exact L2.upd_same)) | ((with_reducible apply L2.Same.seq); (· with_reducible assumption); (first | with_reducible assumption | ((with_reducible apply L2.SqL.of); (first | with_reducible assumption | with_reducible exact L2.upd_same)) | ((with_reducible apply L2.Same.seq); (· with_reducible assumption); (first | with_reducible assumption | ((with_reducible apply L2.SqL.of); (first | with_reducible assumption | with_reducible exact L2.upd_same))))))))))))))
  | ((with_reducible apply Cv.isd_T); (first | with_reducible assumption | with_reducible exact L2.upd_same | ((with_reducible apply L2.Same.get); (· with_reducible assumption); (first | with_reducible assumption | with_reducible exact L2.upd_same | ((with_reducible apply L2.Same.get); (· with_reducible assumption); (first | with_reducible assumption | with_reducible exact L2.upd_same | ((with_reducible apply L2.Same.get); (· with_reducible assumption); (first | with_reducible assumption | with_reducible exact L2.upd_same | ((with_reducible apply L2.Same.get); (· with_reducible assumption); (first | with_reducible assumption | with_reducible exact L2.upd_same | ((with_reducible apply L2.Same.get); (· with_reducible assumption); (first | with_reducible assumption | with_reducible exact L2.upd_same))))))))))))
  | ((with_reducible apply Cv.isd_K); (first | with_reducible assumption | with_reducible exact L2.upd_same | ((with_reducible apply L2.Same.get); (· with_reducible assumption); (first | with_reducible assumption | with_reducible exact L2.upd_same | ((with_reducible apply L2.Same.get); (· with_reducible assumption); (first | with_reducible assumption | with_reducible exact L2.upd_same | ((with_reducible apply L2.Same.get); (· with_reducible assumption); (first | with_reducible assumption | with_reducible exact L2.upd_same | ((with_reducible apply L2.Same.get); (· with_reducible assumption); (first | with_reducible assumption | with_reducible exact L2.upd_same | ((with_reducible apply L2.Same.get); (· with_reducible assumption); (first | with_reducible assumption | with_reducible exact L2.upd_same))))))))))))
  | ((with_reducible apply Or.inl); (first | with_reducible assumption | ((with_reducible apply L2.SqL.of); (first | with_reducible assumption | with_reducible exact L2.upd_same)) | ((with_reducible apply L2.Same.seq); (· with_reducible assumption); (first | with_reducible assumption | ((with_reducible apply L2.SqL.of); (first | with_reducible assumption | with_reducible exact L2.upd_same)) | ((with_reducible apply L2.Same.seq); (· with_reducible assumption); (first | with_reducible assumption | ((with_reducible apply L2.SqL.of); (first | with_reducible assumption | with_reducible exact L2.upd_same)) | ((with_reducible apply L2.Same.seq); (· with_reducible assumption); (first | with_reducible assumption | ((with_reducible apply L2.SqL.of); (first | with_reducible assumption | with_reducible exact L2.upd_same)) | ((with_reducible apply L2.Same.seq); (· with_reducible assumption); (first | with_reducible assumption | ((with_reducible apply L2.SqL.of); (first | with_reducible assumption | with_reducible exact L2.upd_same)) | ((with_reducible apply L2.Same.seq); (· with_reducible assumption); (first | with_reducible assumption | ((with_reducible apply L2.SqL.of); (first | with_reducible assumption | with_reducible exact L2.upd_same))))))))))))))
  | ((with_reducible apply Or.inr); (first | with_reducible assumption | ((with_reducible apply L2.SqT.of); (first | with_reducible assumption | with_reducible exact L2.upd_same)) | ((with_reducible apply L2.Same.seqT); (· with_reducible assumption); (first | with_reducible assumption | ((with_reducible apply L2.SqT.of); (first | with_reducible assumption | with_reducible exact L2.upd_same)) | ((with_reducible apply L2.Same.seqT); (· with_reducible assumption); (first | with_reducible assumption | ((with_reducible apply L2.SqT.of); (first | with_reducible assumption | with_reducible exact L2.upd_same)) | ((with_reducible apply L2.Same.seqT); (· with_reducible assumption); (first | with_reducible assumption | ((with_reducible apply L2.SqT.of); (first | with_reducible assumption | with_reducible exact L2.upd_same)) | ((with_reducible apply L2.Same.seqT); (· with_reducible assumption); (first | with_reducible assumption | ((with_reducible apply L2.SqT.of); (first | with_reducible assumption | with_reducible exact L2.upd_same)) | ((with_reducible apply L2.Same.seqT); (· with_reducible assumption); (first | with_reducible assumption | ((with_reducible apply L2.SqT.of); (first | with_reducible assumption | with_reducible exact L2.upd_same))))))))))))))
  | ((with_reducible apply Exists.intro); (first | with_reducible assumption | ((with_reducible apply L2.SqL.of); (first | with_reducible assumption | with_reducible exact L2.upd_same)) | ((with_reducible apply L2.Same.seq); (· with_reducible assumption); (first | with_reducible assumption | ((with_reducible apply L2.SqL.of); (first | with_reducible assumption | with_reducible exact L2.upd_same)) | ((with_reducible apply L2.Same.seq); (· with_reducible assumption); (first | with_reducible assumption | ((with_reducible apply L2.SqL.of); (first | with_reducible assumption | with_reducible exact L2.upd_same)) | ((with_reducible apply L2.Same.seq); (· with_reducible assumption); (first | with_reducible assumption | ((with_reducible apply L2.SqL.of); (first | with_reducible assumption | with_reducible exact L2.upd_same)) | ((with_reducible apply L2.Same.seq); (· with_reducible assumption); (first | with_reducible assumption | ((with_reducible apply L2.SqL.of); (first | with_reducible assumption | with_reducible exact L2.upd_same)) | ((with_reducible apply L2.Same.seq); (· with_reducible assumption); (first | with_reducible assumption | ((with_reducible apply L2.SqL.of); (first | with_reducible assumption | with_reducible exact L2.upd_same))))))))))))))
  | ((with_reducible apply Exists.intro); with_reducible rfl)
  | (first | with_reducible assumption | with_reducible exact L2.upd_same | ((with_reducible apply L2.Same.get); (· with_reducible assumption); (first | with_reducible assumption | with_reducible exact L2.upd_same | ((with_reducible apply L2.Same.get); (· with_reducible assumption); (first | with_reducible assumption | with_reducible exact L2.upd_same | ((with_reducible apply L2.Same.get); (· with_reducible assumption); (first | with_reducible assumption | with_reducible exact L2.upd_same | ((with_reducible apply L2.Same.get); (· with_reducible assumption); (first | with_reducible assumption | with_reducible exact L2.upd_same | ((with_reducible apply L2.Same.get); (· with_reducible assumption); (first | with_reducible assumption | with_reducible exact L2.upd_same))))))))))) | (first | with_reducible assumption | ((with_reducible apply L2.SqL.of); (first | with_reducible assumption | with_reducible exact L2.upd_same)) | ((with_reducible apply L2.Same.seq); (· with_reducible assumption); (first | with_reducible assumption | ((with_reducible apply L2.SqL.of); (first | with_reducible assumption | with_reducible exact L2.upd_same)) | ((with_reducible apply L2.Same.seq); (· with_reducible assumption); (first | with_reducible assumption | ((with_reducible apply L2.SqL.of); (first | with_reducible assumption | with_reducible exact L2.upd_same)) | ((with_reducible apply L2.Same.seq); (· with_reducible assumption); (first | with_reducible assumption | ((with_reducible apply L2.SqL.of); (first | with_reducible assumption | with_reducible exact L2.upd_same)) | ((with_reducible apply L2.Same.seq); (· with_reducible assumption); (first | with_reducible assumption | ((with_reducible apply L2.SqL.of); (first | with_reducible assumption | with_reducible exact L2.upd_same)) | ((with_reducible apply L2.Same.seq); (· with_reducible assumption); (first | with_reducible assumption | ((with_reducible apply L2.SqL.of); (first | with_reducible assumption | with_reducible exact L2.upd_same))))))))))))) | (first | with_reducible assumption | ((with_reducible apply L2.SqT.of); (first | with_reducible assumption | with_reducible exact L2.upd_same)) | ((with_reducible apply L2.Same.seqT); (· with_reducible assumption); (first | with_reducible assumption | ((with_reducible apply L2.SqT.of); (first | with_reducible assumption | with_reducible exact L2.upd_same)) | ((with_reducible apply L2.Same.seqT); (· with_reducible assumption); (first | with_reducible assumption | ((with_reducible apply L2.SqT.of); (first | with_reducible assumption | with_reducible exact L2.upd_same)) | ((with_reducible apply L2.Same.seqT); (· with_reducible assumption); (first | with_reducible assumption | ((with_reducible apply L2.SqT.of); (first | with_reducible assumption | with_reducible exact L2.upd_same)) | ((with_reducible apply L2.Same.seqT); (· with_reducible assumption); (first | with_reducible assumption | ((with_reducible apply L2.SqT.of); (first | with_reducible assumption | with_reducible exact L2.upd_same)) | ((with_reducible apply L2.Same.seqT); (· with_reducible assumption); (first | with_reducible assumption | ((with_reducible apply L2.SqT.of); (first | with_reducible assumption | with_reducible exact L2.upd_same))))))))))))) | ((with_reducible show List.lookup _ _ = _); rfl)
  | rfl | assumption | exact ⟨by decide, by decide⟩ | omega | decide))
local macro_rules | `(tactic| k_subL) => `(tactic| first
  | (with_reducible apply Cv.rd_seq)
  | (with_reducible apply Cv.rd_asg)
  | ((with_reducible apply Cv.rd_var); (· rfl))
  | (with_reducible apply Cv.rd_c)
  | (with_reducible apply Cv.rd_op)
  | (with_reducible apply Cv.rd_gname)
  | (with_reducible apply Cv.rd_cons)
  | (with_reducible apply Cv.rd_nil)
  | (with_reducible apply Cv.rd_rI0)
  | ((with_reducible apply Cv.rd_rI); (· first | decide | exact ⟨by decide, by decide⟩ | omega | exact Or.inl (by omega) | exact Or.inr (by omega)))
  | ((with_reducible apply Cv.rd_eq); (· rfl))
  | ((with_reducible apply Cv.rd_ne); (· rfl))
  | ((with_reducible apply And.intro); (· (first
  | with_reducible rfl
  | with_reducible assumption
  | ((with_reducible apply Cv.sz_lit); rfl)
  | ((with_reducible apply Cv.sz_fs); rfl)
  | ((with_reducible apply Cv.tyl); (first | with_reducible assumption | ((with_reducible apply L2.SqL.of); (first | with_reducible assumption | with_reducible exact L2.upd_same)) | ((with_reducible apply L2.Same.seq); (· with_reducible assumption); (first | with_reducible assumption | ((with_reducible apply L2.SqL.of); (first | with_reducible assumption | with_reducible exact L2.upd_same)) | ((with_reducible apply L2.Same.seq); (· with_reducible assumption); (first | with_reducible assumption | ((with_reducible apply L2.SqL.of); (first | with_reducible assumption | with_reducible exact L2.upd_same)) | ((with_reducible apply L2.Same.seq); (· with_reducible assumption); (first | with_reducible assumption | ((with_reducible apply L2.SqL.of); (first | with_reducible assumption | with_reducible exact L2.upd_same)) | ((with_reducible apply L2.Same.seq); (· with_reducible assumption); (first | with_reducible assumption | ((with_reducible apply L2.SqL.of); (first | with_reducible assumption | with_reducible exact L2.upd_same)) | ((with_reducible apply L2.Same.seq); (· with_reducible assumption); (first | with_reducible assumption | ((with_reducible apply L2.SqL.of); (first | with_reducible assumption | with_reducible exact L2.upd_same))))))))))))))
  | ((with_reducible apply Cv.isd_T); (first | with_reducible assumption | with_reducible exact L2.upd_same | ((with_reducible apply L2.Same.get); (· with_reducible assumption); (first | with_reducible assumption | with_reducible exact L2.upd_same | ((with_reducible apply L2.Same.get); (· with_reducible assumption); (first | with_reducible assumption | with_reducible exact L2.upd_same | ((with_reducible apply L2.Same.get); (· with_reducible assumption); (first | with_reducible assumption | with_reducible exact L2.upd_same | ((with_reducible apply L2.Same.get); (· with_reducible assumption); (first | with_reducible assumption | with_reducible exact L2.upd_same | ((with_reducible apply L2.Same.get); (· with_reducible assumption); (first | with_reducible assumption | with_reducible exact L2.upd_same))))))))))))
  | ((with_reducible apply Cv.isd_K); (first | with_reducible assumption | with_reducible exact L2.upd_same | ((with_reducible apply L2.Same.get); (· with_reducible assumption); (first | with_reducible assumption | with_reducible exact L2.upd_same | ((with_reducible apply L2.Same.get); (· with_reducible assumption); (first | with_reducible assumption | with_reducible exact L2.upd_same | ((with_reducible apply L2.Same.get); (· with_reducible assumption); (first | with_reducible assumption | with_reducible exact L2.upd_same | ((with_reducible apply L2.Same.get); (· with_reducible assumption); (first | with_reducible assumption | with_reducible exact L2.upd_same | ((with_reducible apply L2.Same.get); (· with_reducible assumption); (first | with_reducible assumption | with_reducible exact L2.upd_same))))))))))))
  | ((with_reducible apply Or.inl); (first | with_reducible assumption | ((with_reducible apply L2.SqL.of); (first | with_reducible assumption | with_reducible exact L2.upd_same)) | ((with_reducible apply L2.Same.seq); (· with_reducible assumption); (first | with_reducible assumption | ((with_reducible apply L2.SqL.of); (first | with_reducible assumption | with_reducible exact L2.upd_same)) | ((with_reducible apply L2.Same.seq); (· with_reducible assumption); (first | with_reducible assumption | ((with_reducible apply L2.SqL.of); (first | with_reducible assumption | with_reducible exact L2.upd_same)) | ((with_reducible apply L2.Same.seq); (· with_reducible assumption); (first | with_reducible assumption | ((with_reducible apply L2.SqL.of); (first | with_reducible assumption | with_reducible exact L2.upd_same)) | ((with_reducible apply L2.Same.seq); (· with_reducible assumption); (first | with_reducible assumption | ((with_reducible apply L2.SqL.of); (first | with_reducible assumption | with_reducible exact L2.upd_same)) | ((with_reducible apply L2.Same.seq); (· with_reducible assumption); (first | with_reducible assumption | ((with_reducible apply L2.SqL.of); (first | with_reducible assumption | with_reducible exact L2.upd_same))))))))))))))
  | ((with_reducible apply Or.inr); (first | with_reducible assumption | ((with_reducible apply L2.SqT.of); (first | with_reducible assumption | with_reducible exact L2.upd_same)) | ((with_reducible apply L2.Same.seqT); (· with_reducible assumption); (first | with_reducible assumption | ((with_reducible apply L2.SqT.of); (first | with_reducible assumption | with_reducible exact L2.upd_same)) | ((with_reducible apply L2.Same.seqT); (· with_reducible assumption); (first | with_reducible assumption | ((with_reducible apply L2.SqT.of); (first | with_reducible assumption | with_reducible exact L2.upd_same)) | ((with_reducible apply L2.Same.seqT); (· with_reducible assumption); (first | with_reducible assumption | ((with_reducible apply L2.SqT.of); (first | with_reducible assumption | with_reducible exact L2.upd_same)) | ((with_reducible apply L2.Same.seqT); (· with_reducible assumption); (first | with_reducible assumption | ((with_reducible apply L2.SqT.of); (first | with_reducible assumption | with_reducible exact L2.upd_same)) | ((with_reducible apply L2.Same.seqT); (· with_reducible assumption); (first | with_reducible assumption | ((with_reducible apply L2.SqT.of); (first | with_reducible assumption | with_reducible exact L2.upd_same))))))))))))))
  | ((with_reducible apply Exists.intro); (first | with_reducible assumption | ((with_reducible apply L2.SqL.of); (first | with_reducible assumption | with_reducible exact L2.upd_same)) | ((with_reducible apply L2.Same.seq); (· with_reducible assumption); (first | with_reducible assumption | ((with_reducible apply L2.SqL.of); (first | with_reducible assumption | with_reducible exact L2.upd_same)) | ((with_reducible apply L2.Same.seq); (· with_reducible assumption); (first | with_reducible assumption | ((with_reducible apply L2.SqL.of); (first | with_reducible assumption | with_reducible exact L2.upd_same)) | ((with_reducible apply L2.Same.seq); (· with_reducible assumption); (first | with_reducible assumption | ((with_reducible apply L2.SqL.of); (first | with_reducible assumption | with_reducible exact L2.upd_same)) | ((with_reducible apply L2.Same.seq); (· with_reducible assumption); (first | with_reducible assumption | ((with_reducible apply L2.SqL.of); (first | with_reducible assumption | with_reducible exact L2.upd_same)) | ((with_reducible apply L2.Same.seq); (· with_reducible assumption); (first | with_reducible assumption | ((with_reducible apply L2.SqL.of); (first | with_reducible assumption | with_reducible exact L2.upd_same))))))))))))))
  | ((with_reducible apply Exists.intro); with_reducible rfl)
  | (first | with_reducible assumption | with_reducible exact L2.upd_same | ((with_reducible apply L2.Same.get); (· with_reducible assumption); (first | with_reducible assumption | with_reducible exact L2.upd_same | ((with_reducible apply L2.Same.get); (· with_reducible assumption); (first | with_reducible assumption | with_reducible exact L2.upd_same | ((with_reducible apply L2.Same.get); (· with_reducible assumption); (first | with_reducible assumption | with_reducible exact L2.upd_same | ((with_reducible apply L2.Same.get); (· with_reducible assumption); (first | with_reducible assumption | with_reducible exact L2.upd_same | ((with_reducible apply L2.Same.get); (· with_reducible assumption); (first | with_reducible assumption | with_reducible exact L2.upd_same))))))))))) | (first | with_reducible assumption | ((with_reducible apply L2.SqL.of); (first | with_reducible assumption | with_reducible exact L2.upd_same)) | ((with_reducible apply L2.Same.seq); (· with_reducible assumption); (first | with_reducible assumption | ((with_reducible apply L2.SqL.of); (first | with_reducible assumption | with_reducible exact L2.upd_same)) | ((with_reducible apply L2.Same.seq); (· with_reducible assumption); (first | with_reducible assumption | ((with_reducible apply L2.SqL.of); (first | with_reducible assumption | with_reducible exact L2.upd_same)) | ((with_reducible apply L2.Same.seq); (· with_reducible assumption); (first | with_reducible assumption | ((with_reducible apply L2.SqL.of); (first | with_reducible assumption | with_reducible exact L2.upd_same)) | ((with_reducible apply L2.Same.seq); (· with_reducible assumption); (first | with_reducible assumption | ((with_reducible apply L2.SqL.of); (first | with_reducible assumption | with_reducible exact L2.upd_same)) | ((with_reducible apply L2.Same.seq); (· with_reducible assumption); (first | with_reducible assumption | ((with_reducible apply L2.SqL.of); (first | with_reducible assumption | with_reducible exact L2.upd_same))))))))))))) | (first | with_reducible assumption | ((with_reducible apply L2.SqT.of); (first | with_reducible assumption | with_reducible exact L2.upd_same)) | ((with_reducible apply L2.Same.seqT); (· with_reducible assumption); (first | with_reducible assumption | ((with_reducible apply L2.SqT.of); (first | with_reducible assumption | with_reducible exact L2.upd_same)) | ((with_reducible apply L2.Same.seqT); (· with_reducible assumption); (first | with_reducible assumption | ((with_reducible apply L2.SqT.of); (first | with_reducible assumption | with_reducible exact L2.upd_same)) | ((with_reducible apply L2.Same.seqT); (· with_reducible assumption); (first | with_reducible assumption | ((with_reducible apply L2.SqT.of); (first | with_reducible assumption | with_reducible exact L2.upd_same)) | ((with_reducible apply L2.Same.seqT); (· with_reducible assumption); (first | with_reducible assumption | ((with_reducible apply L2.SqT.of); (first | with_reducible assumption | with_reducible exact L2.upd_same)) | ((with_reducible apply L2.Same.seqT); (· with_reducible assumption); (first | with_reducible assumption | ((with_reducible apply L2.SqT.of); (first | with_reducible assumption | with_reducible exact L2.upd_same))))))))))))) | ((with_reducible show List.lookup _ _ = _); rfl)
  | rfl | assumption | exact ⟨by decide, by decide⟩ | omega | decide)))
  | (with_reducible apply Exists.intro)
  | (with_reducible apply Cv.ift)
  | (with_reducible apply Cv.iff)
  | (with_reducible apply Cv.ifnt)
  | (with_reducible apply Cv.ifnf)
  | ((with_reducible apply Cv.rd_isi_int); (· with_reducible assumption))
  | ((with_reducible apply Cv.rd_isi_bool); (· with_reducible assumption))
  | ((with_reducible apply Cv.rd_isi_str); (· with_reducible assumption))
  | (with_reducible apply Cv.rd_bl)
  | (with_reducible apply Cv.rd_cb)
  | (with_reducible apply Cv.rd_test)
  | (with_reducible apply Cv.rd_ifs)
  | (with_reducible apply Cv.rd_fld)
  | (with_reducible apply Cv.rd_ret)
  | (with_reducible apply Cv.rd_drop)
  | (with_reducible apply Cv.rd_tup)
  | (with_reducible apply Cv.rd_lst)
  | (with_reducible apply Cv.rd_tB)
  | (with_reducible apply Cv.rd_gcons)
  | (with_reducible apply Cv.rd_gnil)
  | ((with_reducible apply Cv.rd_gtup); (· (first | with_reducible assumption | ((with_reducible apply L2.SqT.of); (first | with_reducible assumption | with_reducible exact L2.upd_same)) | ((with_reducible apply L2.Same.seqT); (· with_reducible assumption); (first | with_reducible assumption | ((with_reducible apply L2.SqT.of); (first | with_reducible assumption | with_reducible exact L2.upd_same)) | ((with_reducible apply L2.Same.seqT); (· with_reducible assumption); (first | with_reducible assumption | ((with_reducible apply L2.SqT.of); (first | with_reducible assumption | with_reducible exact L2.upd_same)) | ((with_reducible apply L2.Same.seqT); (· with_reducible assumption); (first | with_reducible assumption | ((with_reducible apply L2.SqT.of); (first | with_reducible assumption | with_reducible exact L2.upd_same)) | ((with_reducible apply L2.Same.seqT); (· with_reducible assumption); (first | with_reducible assumption | ((with_reducible apply L2.SqT.of); (first | with_reducible assumption | with_reducible exact L2.upd_same)) | ((with_reducible apply L2.Same.seqT); (· with_reducible assumption); (first | with_reducible assumption | ((with_reducible apply L2.SqT.of); (first | with_reducible assumption | with_reducible exact L2.upd_same)))))))))))))); (· rfl))
  | (with_reducible apply Cv.rd_m1)
  | (with_reducible apply Cv.rd_bm)
  | (with_reducible apply Cv.rd_bm0)
  | (with_reducible apply Cv.rd_sfld)
  | (with_reducible apply Cv.rd_calls)
  | (with_reducible apply Cv.rd_meth)
  | (with_reducible apply Cv.rd_make)
  | (with_reducible apply Cv.rd_un)
  | (with_reducible apply Cv.rd_rU)
  | (with_reducible apply Cv.rd_and)
  | (with_reducible apply Cv.rd_or)
  | (with_reducible apply Cv.rd_not)
  | (with_reducible apply Cv.rd_next)
  | (with_reducible apply Cv.rd_for)
  | (with_reducible apply Cv.rd_ilist)
  | (with_reducible apply Cv.rd_retN)
  | (with_reducible apply Cv.rd_brk)
  | (with_reducible apply Cv.rd_cont)
  | (with_reducible apply Cv.rd_lc)
  | (with_reducible apply Cv.rd_ienum)
  | (with_reducible apply Cv.rd_izip)
  | (with_reducible apply Cv.rd_istr)
  | (with_reducible apply Cv.rd_irng1)
  | (with_reducible apply Cv.rd_yes)
  | (with_reducible apply Cv.rd_andV)
  | (with_reducible apply Cv.rd_orV)
  | (with_reducible apply Cv.rd_notV)
  | (with_reducible apply Cv.rd_tif)
  | (with_reducible apply Cv.rd_chain)
  | ((with_reducible apply Cv.rd_app); (· (first | with_reducible assumption | with_reducible exact L2.upd_same | ((with_reducible apply L2.Same.get); (· with_reducible assumption); (first | with_reducible assumption | with_reducible exact L2.upd_same | ((with_reducible apply L2.Same.get); (· with_reducible assumption); (first | with_reducible assumption | with_reducible exact L2.upd_same | ((with_reducible apply L2.Same.get); (· with_reducible assumption); (first | with_reducible assumption | with_reducible exact L2.upd_same | ((with_reducible apply L2.Same.get); (· with_reducible assumption); (first | with_reducible assumption | with_reducible exact L2.upd_same | ((with_reducible apply L2.Same.get); (· with_reducible assumption); (first | with_reducible assumption | with_reducible exact L2.upd_same)))))))))))); (· first | with_reducible assumption | (exact Cv.sz_lt (by omega)) | (exact Cv.sz_lt (by decide))))
  | ((with_reducible apply Cv.rd_ixT); (· (first | with_reducible assumption | ((with_reducible apply L2.SqT.of); (first | with_reducible assumption | with_reducible exact L2.upd_same)) | ((with_reducible apply L2.Same.seqT); (· with_reducible assumption); (first | with_reducible assumption | ((with_reducible apply L2.SqT.of); (first | with_reducible assumption | with_reducible exact L2.upd_same)) | ((with_reducible apply L2.Same.seqT); (· with_reducible assumption); (first | with_reducible assumption | ((with_reducible apply L2.SqT.of); (first | with_reducible assumption | with_reducible exact L2.upd_same)) | ((with_reducible apply L2.Same.seqT); (· with_reducible assumption); (first | with_reducible assumption | ((with_reducible apply L2.SqT.of); (first | with_reducible assumption | with_reducible exact L2.upd_same)) | ((with_reducible apply L2.Same.seqT); (· with_reducible assumption); (first | with_reducible assumption | ((with_reducible apply L2.SqT.of); (first | with_reducible assumption | with_reducible exact L2.upd_same)) | ((with_reducible apply L2.Same.seqT); (· with_reducible assumption); (first | with_reducible assumption | ((with_reducible apply L2.SqT.of); (first | with_reducible assumption | with_reducible exact L2.upd_same)))))))))))))); (· rfl))
  | ((with_reducible apply Cv.rd_ixL); (· (first | with_reducible assumption | ((with_reducible apply L2.SqL.of); (first | with_reducible assumption | with_reducible exact L2.upd_same)) | ((with_reducible apply L2.Same.seq); (· with_reducible assumption); (first | with_reducible assumption | ((with_reducible apply L2.SqL.of); (first | with_reducible assumption | with_reducible exact L2.upd_same)) | ((with_reducible apply L2.Same.seq); (· with_reducible assumption); (first | with_reducible assumption | ((with_reducible apply L2.SqL.of); (first | with_reducible assumption | with_reducible exact L2.upd_same)) | ((with_reducible apply L2.Same.seq); (· with_reducible assumption); (first | with_reducible assumption | ((with_reducible apply L2.SqL.of); (first | with_reducible assumption | with_reducible exact L2.upd_same)) | ((with_reducible apply L2.Same.seq); (· with_reducible assumption); (first | with_reducible assumption | ((with_reducible apply L2.SqL.of); (first | with_reducible assumption | with_reducible exact L2.upd_same)) | ((with_reducible apply L2.Same.seq); (· with_reducible assumption); (first | with_reducible assumption | ((with_reducible apply L2.SqL.of); (first | with_reducible assumption | with_reducible exact L2.upd_same)))))))))))))); (· first | with_reducible assumption | rfl))
  | ((with_reducible apply Cv.rd_isi_lst); (· (first | with_reducible assumption | with_reducible exact L2.upd_same | ((with_reducible apply L2.Same.get); (· with_reducible assumption); (first | with_reducible assumption | with_reducible exact L2.upd_same | ((with_reducible apply L2.Same.get); (· with_reducible assumption); (first | with_reducible assumption | with_reducible exact L2.upd_same | ((with_reducible apply L2.Same.get); (· with_reducible assumption); (first | with_reducible assumption | with_reducible exact L2.upd_same | ((with_reducible apply L2.Same.get); (· with_reducible assumption); (first | with_reducible assumption | with_reducible exact L2.upd_same | ((with_reducible apply L2.Same.get); (· with_reducible assumption); (first | with_reducible assumption | with_reducible exact L2.upd_same)))))))))))))
  | (with_reducible apply Cv.rd_gsub)
  | ((with_reducible apply Cv.rd_setl); (· (first | with_reducible assumption | with_reducible exact L2.upd_same | ((with_reducible apply L2.Same.get); (· with_reducible assumption); (first | with_reducible assumption | with_reducible exact L2.upd_same | ((with_reducible apply L2.Same.get); (· with_reducible assumption); (first | with_reducible assumption | with_reducible exact L2.upd_same | ((with_reducible apply L2.Same.get); (· with_reducible assumption); (first | with_reducible assumption | with_reducible exact L2.upd_same | ((with_reducible apply L2.Same.get); (· with_reducible assumption); (first | with_reducible assumption | with_reducible exact L2.upd_same | ((with_reducible apply L2.Same.get); (· with_reducible assumption); (first | with_reducible assumption | with_reducible exact L2.upd_same)))))))))))); (· first | with_reducible assumption | rfl))
  | (with_reducible apply Cv.rd_dnewK)
  | (with_reducible apply Cv.rd_dnewT)
  | (with_reducible apply Cv.rd_dget2)
  | (with_reducible apply Cv.rd_dget)
  | (with_reducible apply Cv.rd_din)
  | (with_reducible apply Cv.rd_dnotin)
  | (with_reducible apply Cv.rd_sl)
  | (with_reducible apply Cv.rd_nopart)
  | (with_reducible apply Cv.rd_part)
  | ((with_reducible apply Cv.rd_slL); (· (first | with_reducible assumption | ((with_reducible apply L2.SqL.of); (first | with_reducible assumption | with_reducible exact L2.upd_same)) | ((with_reducible apply L2.Same.seq); (· with_reducible assumption); (first | with_reducible assumption | ((with_reducible apply L2.SqL.of); (first | with_reducible assumption | with_reducible exact L2.upd_same)) | ((with_reducible apply L2.Same.seq); (· with_reducible assumption); (first | with_reducible assumption | ((with_reducible apply L2.SqL.of); (first | with_reducible assumption | with_reducible exact L2.upd_same)) | ((with_reducible apply L2.Same.seq); (· with_reducible assumption); (first | with_reducible assumption | ((with_reducible apply L2.SqL.of); (first | with_reducible assumption | with_reducible exact L2.upd_same)) | ((with_reducible apply L2.Same.seq); (· with_reducible assumption); (first | with_reducible assumption | ((with_reducible apply L2.SqL.of); (first | with_reducible assumption | with_reducible exact L2.upd_same)) | ((with_reducible apply L2.Same.seq); (· with_reducible assumption); (first | with_reducible assumption | ((with_reducible apply L2.SqL.of); (first | with_reducible assumption | with_reducible exact L2.upd_same)))))))))))))))
  | ((with_reducible apply Cv.rd_ext); (· (first | with_reducible assumption | with_reducible exact L2.upd_same | ((with_reducible apply L2.Same.get); (· with_reducible assumption); (first | with_reducible assumption | with_reducible exact L2.upd_same | ((with_reducible apply L2.Same.get); (· with_reducible assumption); (first | with_reducible assumption | with_reducible exact L2.upd_same | ((with_reducible apply L2.Same.get); (· with_reducible assumption); (first | with_reducible assumption | with_reducible exact L2.upd_same | ((with_reducible apply L2.Same.get); (· with_reducible assumption); (first | with_reducible assumption | with_reducible exact L2.upd_same | ((with_reducible apply L2.Same.get); (· with_reducible assumption); (first | with_reducible assumption | with_reducible exact L2.upd_same)))))))))))); (· (first | with_reducible assumption | with_reducible exact L2.upd_same | ((with_reducible apply L2.Same.get); (· with_reducible assumption); (first | with_reducible assumption | with_reducible exact L2.upd_same | ((with_reducible apply L2.Same.get); (· with_reducible assumption); (first | with_reducible assumption | with_reducible exact L2.upd_same | ((with_reducible apply L2.Same.get); (· with_reducible assumption); (first | with_reducible assumption | with_reducible exact L2.upd_same | ((with_reducible apply L2.Same.get); (· with_reducible assumption); (first | with_reducible assumption | with_reducible exact L2.upd_same | ((with_reducible apply L2.Same.get); (· with_reducible assumption); (first | with_reducible assumption | with_reducible exact L2.upd_same)))))))))))); (· first | with_reducible assumption | (exact Cv.sz_lit' (by omega)) | (exact Cv.sz_lit' (by decide))))
  | ((with_reducible apply Cv.rd_cat); (· (first | with_reducible assumption | with_reducible exact L2.upd_same | ((with_reducible apply L2.Same.get); (· with_reducible assumption); (first | with_reducible assumption | with_reducible exact L2.upd_same | ((with_reducible apply L2.Same.get); (· with_reducible assumption); (first | with_reducible assumption | with_reducible exact L2.upd_same | ((with_reducible apply L2.Same.get); (· with_reducible assumption); (first | with_reducible assumption | with_reducible exact L2.upd_same | ((with_reducible apply L2.Same.get); (· with_reducible assumption); (first | with_reducible assumption | with_reducible exact L2.upd_same | ((with_reducible apply L2.Same.get); (· with_reducible assumption); (first | with_reducible assumption | with_reducible exact L2.upd_same)))))))))))); (· (first | with_reducible assumption | with_reducible exact L2.upd_same | ((with_reducible apply L2.Same.get); (· with_reducible assumption); (first | with_reducible assumption | with_reducible exact L2.upd_same | ((with_reducible apply L2.Same.get); (· with_reducible assumption); (first | with_reducible assumption | with_reducible exact L2.upd_same | ((with_reducible apply L2.Same.get); (· with_reducible assumption); (first | with_reducible assumption | with_reducible exact L2.upd_same | ((with_reducible apply L2.Same.get); (· with_reducible assumption); (first | with_reducible assumption | with_reducible exact L2.upd_same | ((with_reducible apply L2.Same.get); (· with_reducible assumption); (first | with_reducible assumption | with_reducible exact L2.upd_same)))))))))))); (· first | with_reducible assumption | (exact Cv.sz_lit' (by omega)) | (exact Cv.sz_lit' (by decide))))
  | (with_reducible apply Cv.rd_dsetT)
  | (with_reducible apply Cv.rd_dput))
local macro_rules | `(tactic| k_clsL) => `(tactic| repeat' (first
  | (with_reducible apply Cv.rd_seq)
  | (with_reducible apply Cv.rd_asg)
  | ((with_reducible apply Cv.rd_var); (· rfl))
  | (with_reducible apply Cv.rd_c)
  | (with_reducible apply Cv.rd_op)
  | (with_reducible apply Cv.rd_gname)
  | (with_reducible apply Cv.rd_cons)
  | (with_reducible apply Cv.rd_nil)
  | (with_reducible apply Cv.rd_rI0)
  | ((with_reducible apply Cv.rd_rI); (· first | decide | exact ⟨by decide, by decide⟩ | omega | exact Or.inl (by omega) | exact Or.inr (by omega)))
  | ((with_reducible apply Cv.rd_eq); (· rfl))
  | ((with_reducible apply Cv.rd_ne); (· rfl))
  | ((with_reducible apply And.intro); (· (first
  | with_reducible rfl
  | with_reducible assumption
  | ((with_reducible apply Cv.sz_lit); rfl)
  | ((with_reducible apply Cv.sz_fs); rfl)
  | ((with_reducible apply Cv.tyl); (first | with_reducible assumption | ((with_reducible apply L2.SqL.of); (first | with_reducible assumption | with_reducible exact L2.upd_same)) | ((with_reducible apply L2.Same.seq); (· with_reducible assumption); (first | with_reducible assumption | ((with_reducible apply L2.SqL.of); (first | with_reducible assumption | with_reducible exact L2.upd_same)) | ((with_reducible apply L2.Same.seq); (· with_reducible assumption); (first | with_reducible assumption | ((with_reducible apply L2.SqL.of); (first | with_reducible assumption | with_reducible exact L2.upd_same)) | ((with_reducible apply L2.Same.seq); (· with_reducible assumption); (first | with_reducible assumption | ((with_reducible apply L2.SqL.of); (first | with_reducible assumption | with_reducible exact L2.upd_same)) | ((with_reducible apply L2.Same.seq); (· with_reducible assumption); (first | with_reducible assumption | ((with_reducible apply L2.SqL.of); (first | with_reducible assumption | with_reducible exact L2.upd_same)) | ((with_reducible apply L2.Same.seq); (· with_reducible assumption); (first | with_reducible assumption | ((with_reducible apply L2.SqL.of); (first | with_reducible assumption | with_reducible exact L2.upd_same))))))))))))))
  | ((with_reducible apply Cv.isd_T); (first | with_reducible assumption | with_reducible exact L2.upd_same | ((with_reducible apply L2.Same.get); (· with_reducible assumption); (first | with_reducible assumption | with_reducible exact L2.upd_same | ((with_reducible apply L2.Same.get); (· with_reducible assumption); (first | with_reducible assumption | with_reducible exact L2.upd_same | ((with_reducible apply L2.Same.get); (· with_reducible assumption); (first | with_reducible assumption | with_reducible exact L2.upd_same | ((with_reducible apply L2.Same.get); (· with_reducible assumption); (first | with_reducible assumption | with_reducible exact L2.upd_same | ((with_reducible apply L2.Same.get); (· with_reducible assumption); (first | with_reducible assumption | with_reducible exact L2.upd_same))))))))))))
  | ((with_reducible apply Cv.isd_K); (first | with_reducible assumption | with_reducible exact L2.upd_same | ((with_reducible apply L2.Same.get); (· with_reducible assumption); (first | with_reducible assumption | with_reducible exact L2.upd_same | ((with_reducible apply L2.Same.get); (· with_reducible assumption); (first | with_reducible assumption | with_reducible exact L2.upd_same | ((with_reducible apply L2.Same.get); (· with_reducible assumption); (first | with_reducible assumption | with_reducible exact L2.upd_same | ((with_reducible apply L2.Same.get); (· with_reducible assumption); (first | with_reducible assumption | with_reducible exact L2.upd_same | ((with_reducible apply L2.Same.get); (· with_reducible assumption); (first | with_reducible assumption | with_reducible exact L2.upd_same))))))))))))
  | ((with_reducible apply Or.inl); (first | with_reducible assumption | ((with_reducible apply L2.SqL.of); (first | with_reducible assumption | with_reducible exact L2.upd_same)) | ((with_reducible apply L2.Same.seq); (· with_reducible assumption); (first | with_reducible assumption | ((with_reducible apply L2.SqL.of); (first | with_reducible assumption | with_reducible exact L2.upd_same)) | ((with_reducible apply L2.Same.seq); (· with_reducible assumption); (first | with_reducible assumption | ((with_reducible apply L2.SqL.of); (first | with_reducible assumption | with_reducible exact L2.upd_same)) | ((with_reducible apply L2.Same.seq); (· with_reducible assumption); (first | with_reducible assumption | ((with_reducible apply L2.SqL.of); (first | with_reducible assumption | with_reducible exact L2.upd_same)) | ((with_reducible apply L2.Same.seq); (· with_reducible assumption); (first | with_reducible assumption | ((with_reducible apply L2.SqL.of); (first | with_reducible assumption | with_reducible exact L2.upd_same)) | ((with_reducible apply L2.Same.seq); (· with_reducible assumption); (first | with_reducible assumption | ((with_reducible apply L2.SqL.of); (first | with_reducible assumption | with_reducible exact L2.upd_same))))))))))))))
  | ((with_reducible apply Or.inr); (first | with_reducible assumption | ((with_reducible apply L2.SqT.of); (first | with_reducible assumption | with_reducible exact L2.upd_same)) | ((with_reducible apply L2.Same.seqT); (· with_reducible assumption); (first | with_reducible assumption | ((with_reducible apply L2.SqT.of); (first | with_reducible assumption | with_reducible exact L2.upd_same)) | ((with_reducible apply L2.Same.seqT); (· with_reducible assumption); (first | with_reducible assumption | ((with_reducible apply L2.SqT.of); (first | with_reducible assumption | with_reducible exact L2.upd_same)) | ((with_reducible apply L2.Same.seqT); (· with_reducible assumption); (first | with_reducible assumption | ((with_reducible apply L2.SqT.of); (first | with_reducible assumption | with_reducible exact L2.upd_same)) | ((with_reducible apply L2.Same.seqT); (· with_reducible assumption); (first | with_reducible assumption | ((with_reducible apply L2.SqT.of); (first | with_reducible assumption | with_reducible exact L2.upd_same)) | ((with_reducible apply L2.Same.seqT); (· with_reducible assumption); (first | with_reducible assumption | ((with_reducible apply L2.SqT.of); (first | with_reducible assumption | with_reducible exact L2.upd_same))))))))))))))
  | ((with_reducible apply Exists.intro); (first | with_reducible assumption | ((with_reducible apply L2.SqL.of); (first | with_reducible assumption | with_reducible exact L2.upd_same)) | ((with_reducible apply L2.Same.seq); (· with_reducible assumption); (first | with_reducible assumption | ((with_reducible apply L2.SqL.of); (first | with_reducible assumption | with_reducible exact L2.upd_same)) | ((with_reducible apply L2.Same.seq); (· with_reducible assumption); (first | with_reducible assumption | ((with_reducible apply L2.SqL.of); (first | with_reducible assumption | with_reducible exact L2.upd_same)) | ((with_reducible apply L2.Same.seq); (· with_reducible assumption); (first | with_reducible assumption | ((with_reducible apply L2.SqL.of); (first | with_reducible assumption | with_reducible exact L2.upd_same)) | ((with_reducible apply L2.Same.seq); (· with_reducible assumption); (first | with_reducible assumption | ((with_reducible apply L2.SqL.of); (first | with_reducible assumption | with_reducible exact L2.upd_same)) | ((with_reducible apply L2.Same.seq); (· with_reducible assumption); (first | with_reducible assumption | ((with_reducible apply L2.SqL.of); (first | with_reducible assumption | with_reducible exact L2.upd_same))))))))))))))
  | ((with_reducible apply Exists.intro); with_reducible rfl)
  | (first | with_reducible assumption | with_reducible exact L2.upd_same | ((with_reducible apply L2.Same.get); (· with_reducible assumption); (first | with_reducible assumption | with_reducible exact L2.upd_same | ((with_reducible apply L2.Same.get); (· with_reducible assumption); (first | with_reducible assumption | with_reducible exact L2.upd_same | ((with_reducible apply L2.Same.get); (· with_reducible assumption); (first | with_reducible assumption | with_reducible exact L2.upd_same | ((with_reducible apply L2.Same.get); (· with_reducible assumption); (first | with_reducible assumption | with_reducible exact L2.upd_same | ((with_reducible apply L2.Same.get); (· with_reducible assumption); (first | with_reducible assumption | with_reducible exact L2.upd_same))))))))))) | (first | with_reducible assumption | ((with_reducible apply L2.SqL.of); (first | with_reducible assumption | with_reducible exact L2.upd_same)) | ((with_reducible apply L2.Same.seq); (· with_reducible assumption); (first | with_reducible assumption | ((with_reducible apply L2.SqL.of); (first | with_reducible assumption | with_reducible exact L2.upd_same)) | ((with_reducible apply L2.Same.seq); (· with_reducible assumption); (first | with_reducible assumption | ((with_reducible apply L2.SqL.of); (first | with_reducible assumption | with_reducible exact L2.upd_same)) | ((with_reducible apply L2.Same.seq); (· with_reducible assumption); (first | with_reducible assumption | ((with_reducible apply L2.SqL.of); (first | with_reducible assumption | with_reducible exact L2.upd_same)) | ((with_reducible apply L2.Same.seq); (· with_reducible assumption); (first | with_reducible assumption | ((with_reducible apply L2.SqL.of); (first | with_reducible assumption | with_reducible exact L2.upd_same)) | ((with_reducible apply L2.Same.seq); (· with_reducible assumption); (first | with_reducible assumption | ((with_reducible apply L2.SqL.of); (first | with_reducible assumption | with_reducible exact L2.upd_same))))))))))))) | (first | with_reducible assumption | ((with_reducible apply L2.SqT.of); (first | with_reducible assumption | with_reducible exact L2.upd_same)) | ((with_reducible apply L2.Same.seqT); (· with_reducible assumption); (first | with_reducible assumption | ((with_reducible apply L2.SqT.of); (first | with_reducible assumption | with_reducible exact L2.upd_same)) | ((with_reducible apply L2.Same.seqT); (· with_reducible assumption); (first | with_reducible assumption | ((with_reducible apply L2.SqT.of); (first | with_reducible assumption | with_reducible exact L2.upd_same)) | ((with_reducible apply L2.Same.seqT); (· with_reducible assumption); (first | with_reducible assumption | ((with_reducible apply L2.SqT.of); (first | with_reducible assumption | with_reducible exact L2.upd_same)) | ((with_reducible apply L2.Same.seqT); (· with_reducible assumption); (first | with_reducible assumption | ((with_reducible apply L2.SqT.of); (first | with_reducible assumption | with_reducible exact L2.upd_same)) | ((with_reducible apply L2.Same.seqT); (· with_reducible assumption); (first | with_reducible assumption | ((with_reducible apply L2.SqT.of); (first | with_reducible assumption | with_reducible exact L2.upd_same))))))))))))) | ((with_reducible show List.lookup _ _ = _); rfl)
  | rfl | assumption | exact ⟨by decide, by decide⟩ | omega | decide)))
  | (with_reducible apply Exists.intro)
  | (with_reducible apply Cv.ift)
  | (with_reducible apply Cv.iff)
  | (with_reducible apply Cv.ifnt)
  | (with_reducible apply Cv.ifnf)
  | ((with_reducible apply Cv.rd_isi_int); (· with_reducible assumption))
  | ((with_reducible apply Cv.rd_isi_bool); (· with_reducible assumption))
  | ((with_reducible apply Cv.rd_isi_str); (· with_reducible assumption))
  | (with_reducible apply Cv.rd_bl)
  | (with_reducible apply Cv.rd_cb)
  | (with_reducible apply Cv.rd_test)
  | (with_reducible apply Cv.rd_ifs)
  | (with_reducible apply Cv.rd_fld)
  | (with_reducible apply Cv.rd_ret)
  | (with_reducible apply Cv.rd_drop)
  | (with_reducible apply Cv.rd_tup)
  | (with_reducible apply Cv.rd_lst)
  | (with_reducible apply Cv.rd_tB)
  | (with_reducible apply Cv.rd_gcons)
  | (with_reducible apply Cv.rd_gnil)
  | ((with_reducible apply Cv.rd_gtup); (· (first | with_reducible assumption | ((with_reducible apply L2.SqT.of); (first | with_reducible assumption | with_reducible exact L2.upd_same)) | ((with_reducible apply L2.Same.seqT); (· with_reducible assumption); (first | with_reducible assumption | ((with_reducible apply L2.SqT.of); (first | with_reducible assumption | with_reducible exact L2.upd_same)) | ((with_reducible apply L2.Same.seqT); (· with_reducible assumption); (first | with_reducible assumption | ((with_reducible apply L2.SqT.of); (first | with_reducible assumption | with_reducible exact L2.upd_same)) | ((with_reducible apply L2.Same.seqT); (· with_reducible assumption); (first | with_reducible assumption | ((with_reducible apply L2.SqT.of); (first | with_reducible assumption | with_reducible exact L2.upd_same)) | ((with_reducible apply L2.Same.seqT); (· with_reducible assumption); (first | with_reducible assumption | ((with_reducible apply L2.SqT.of); (first | with_reducible assumption | with_reducible exact L2.upd_same)) | ((with_reducible apply L2.Same.seqT); (· with_reducible assumption); (first | with_reducible assumption | ((with_reducible apply L2.SqT.of); (first | with_reducible assumption | with_reducible exact L2.upd_same)))))))))))))); (· rfl))
  | (with_reducible apply Cv.rd_m1)
  | (with_reducible apply Cv.rd_bm)
  | (with_reducible apply Cv.rd_bm0)
  | (with_reducible apply Cv.rd_sfld)
  | (with_reducible apply Cv.rd_calls)
  | (with_reducible apply Cv.rd_meth)
  | (with_reducible apply Cv.rd_make)
  | (with_reducible apply Cv.rd_un)
  | (with_reducible apply Cv.rd_rU)
  | (with_reducible apply Cv.rd_and)
  | (with_reducible apply Cv.rd_or)
  | (with_reducible apply Cv.rd_not)
  | (with_reducible apply Cv.rd_next)
  | (with_reducible apply Cv.rd_for)
  | (with_reducible apply Cv.rd_ilist)
  | (with_reducible apply Cv.rd_retN)
  | (with_reducible apply Cv.rd_brk)
  | (with_reducible apply Cv.rd_cont)
  | (with_reducible apply Cv.rd_lc)
  | (with_reducible apply Cv.rd_ienum)
  | (with_reducible apply Cv.rd_izip)
  | (with_reducible apply Cv.rd_istr)
  | (with_reducible apply Cv.rd_irng1)
  | (with_reducible apply Cv.rd_yes)
  | (with_reducible apply Cv.rd_andV)
  | (with_reducible apply Cv.rd_orV)
  | (with_reducible apply Cv.rd_notV)
  | (with_reducible apply Cv.rd_tif)
  | (with_reducible apply Cv.rd_chain)
  | ((with_reducible apply Cv.rd_app); (· (first | with_reducible assumption | with_reducible exact L2.upd_same | ((with_reducible apply L2.Same.get); (· with_reducible assumption); (first | with_reducible assumption | with_reducible exact L2.upd_same | ((with_reducible apply L2.Same.get); (· with_reducible assumption); (first | with_reducible assumption | with_reducible exact L2.upd_same | ((with_reducible apply L2.Same.get); (· with_reducible assumption); (first | with_reducible assumption | with_reducible exact L2.upd_same | ((with_reducible apply L2.Same.get); (· with_reducible assumption); (first | with_reducible assumption | with_reducible exact L2.upd_same | ((with_reducible apply L2.Same.get); (· with_reducible assumption); (first | with_reducible assumption | with_reducible exact L2.upd_same)))))))))))); (· first | with_reducible assumption | (exact Cv.sz_lt (by omega)) | (exact Cv.sz_lt (by decide))))
  | ((with_reducible apply Cv.rd_ixT); (· (first | with_reducible assumption | ((with_reducible apply L2.SqT.of); (first | with_reducible assumption | with_reducible exact L2.upd_same)) | ((with_reducible apply L2.Same.seqT); (· with_reducible assumption); (first | with_reducible assumption | ((with_reducible apply L2.SqT.of); (first | with_reducible assumption | with_reducible exact L2.upd_same)) | ((with_reducible apply L2.Same.seqT); (· with_reducible assumption); (first | with_reducible assumption | ((with_reducible apply L2.SqT.of); (first | with_reducible assumption | with_reducible exact L2.upd_same)) | ((with_reducible apply L2.Same.seqT); (· with_reducible assumption); (first | with_reducible assumption | ((with_reducible apply L2.SqT.of); (first | with_reducible assumption | with_reducible exact L2.upd_same)) | ((with_reducible apply L2.Same.seqT); (· with_reducible assumption); (first | with_reducible assumption | ((with_reducible apply L2.SqT.of); (first | with_reducible assumption | with_reducible exact L2.upd_same)) | ((with_reducible apply L2.Same.seqT); (· with_reducible assumption); (first | with_reducible assumption | ((with_reducible apply L2.SqT.of); (first | with_reducible assumption | with_reducible exact L2.upd_same)))))))))))))); (· rfl))
  | ((with_reducible apply Cv.rd_ixL); (· (first | with_reducible assumption | ((with_reducible apply L2.SqL.of); (first | with_reducible assumption | with_reducible exact L2.upd_same)) | ((with_reducible apply L2.Same.seq); (· with_reducible assumption); (first | with_reducible assumption | ((with_reducible apply L2.SqL.of); (first | with_reducible assumption | with_reducible exact L2.upd_same)) | ((with_reducible apply L2.Same.seq); (· with_reducible assumption); (first | with_reducible assumption | ((with_reducible apply L2.SqL.of); (first | with_reducible assumption | with_reducible exact L2.upd_same)) | ((with_reducible apply L2.Same.seq); (· with_reducible assumption); (first | with_reducible assumption | ((with_reducible apply L2.SqL.of); (first | with_reducible assumption | with_reducible exact L2.upd_same)) | ((with_reducible apply L2.Same.seq); (· with_reducible assumption); (first | with_reducible assumption | ((with_reducible apply L2.SqL.of); (first | with_reducible assumption | with_reducible exact L2.upd_same)) | ((with_reducible apply L2.Same.seq); (· with_reducible assumption); (first | with_reducible assumption | ((with_reducible apply L2.SqL.of); (first | with_reducible assumption | with_reducible exact L2.upd_same)))))))))))))); (· first | with_reducible assumption | rfl))
  | ((with_reducible apply Cv.rd_isi_lst); (· (first | with_reducible assumption | with_reducible exact L2.upd_same | ((with_reducible apply L2.Same.get); (· with_reducible assumption); (first | with_reducible assumption | with_reducible exact L2.upd_same | ((with_reducible apply L2.Same.get); (· with_reducible assumption); (first | with_reducible assumption | with_reducible exact L2.upd_same | ((with_reducible apply L2.Same.get); (· with_reducible assumption); (first | with_reducible assumption | with_reducible exact L2.upd_same | ((with_reducible apply L2.Same.get); (· with_reducible assumption); (first | with_reducible assumption | with_reducible exact L2.upd_same | ((with_reducible apply L2.Same.get); (· with_reducible assumption); (first | with_reducible assumption | with_reducible exact L2.upd_same)))))))))))))
  | (with_reducible apply Cv.rd_gsub)
  | ((with_reducible apply Cv.rd_setl); (· (first | with_reducible assumption | with_reducible exact L2.upd_same | ((with_reducible apply L2.Same.get); (· with_reducible assumption); (first | with_reducible assumption | with_reducible exact L2.upd_same | ((with_reducible apply L2.Same.get); (· with_reducible assumption); (first | with_reducible assumption | with_reducible exact L2.upd_same | ((with_reducible apply L2.Same.get); (· with_reducible assumption); (first | with_reducible assumption | with_reducible exact L2.upd_same | ((with_reducible apply L2.Same.get); (· with_reducible assumption); (first | with_reducible assumption | with_reducible exact L2.upd_same | ((with_reducible apply L2.Same.get); (· with_reducible assumption); (first | with_reducible assumption | with_reducible exact L2.upd_same)))))))))))); (· first | with_reducible assumption | rfl))
  | (with_reducible apply Cv.rd_dnewK)
  | (with_reducible apply Cv.rd_dnewT)
  | (with_reducible apply Cv.rd_dget2)
  | (with_reducible apply Cv.rd_dget)
  | (with_reducible apply Cv.rd_din)
  | (with_reducible apply Cv.rd_dnotin)
  | (with_reducible apply Cv.rd_sl)
  | (with_reducible apply Cv.rd_nopart)
  | (with_reducible apply Cv.rd_part)
  | ((with_reducible apply Cv.rd_slL); (· (first | with_reducible assumption | ((with_reducible apply L2.SqL.of); (first | with_reducible assumption | with_reducible exact L2.upd_same)) | ((with_reducible apply L2.Same.seq); (· with_reducible assumption); (first | with_reducible assumption | ((with_reducible apply L2.SqL.of); (first | with_reducible assumption | with_reducible exact L2.upd_same)) | ((with_reducible apply L2.Same.seq); (· with_reducible assumption); (first | with_reducible assumption | ((with_reducible apply L2.SqL.of); (first | with_reducible assumption | with_reducible exact L2.upd_same)) | ((with_reducible apply L2.Same.seq); (· with_reducible assumption); (first | with_reducible assumption | ((with_reducible apply L2.SqL.of); (first | with_reducible assumption | with_reducible exact L2.upd_same)) | ((with_reducible apply L2.Same.seq); (· with_reducible assumption); (first | with_reducible assumption | ((with_reducible apply L2.SqL.of); (first | with_reducible assumption | with_reducible exact L2.upd_same)) | ((with_reducible apply L2.Same.seq); (· with_reducible assumption); (first | with_reducible assumption | ((with_reducible apply L2.SqL.of); (first | with_reducible assumption | with_reducible exact L2.upd_same)))))))))))))))
  | ((with_reducible apply Cv.rd_ext); (· (first | with_reducible assumption | with_reducible exact L2.upd_same | ((with_reducible apply L2.Same.get); (· with_reducible assumption); (first | with_reducible assumption | with_reducible exact L2.upd_same | ((with_reducible apply L2.Same.get); (· with_reducible assumption); (first | with_reducible assumption | with_reducible exact L2.upd_same | ((with_reducible apply L2.Same.get); (· with_reducible assumption); (first | with_reducible assumption | with_reducible exact L2.upd_same | ((with_reducible apply L2.Same.get); (· with_reducible assumption); (first | with_reducible assumption | with_reducible exact L2.upd_same | ((with_reducible apply L2.Same.get); (· with_reducible assumption); (first | with_reducible assumption | with_reducible exact L2.upd_same)))))))))))); (· (first | with_reducible assumption | with_reducible exact L2.upd_same | ((with_reducible apply L2.Same.get); (· with_reducible assumption); (first | with_reducible assumption | with_reducible exact L2.upd_same | ((with_reducible apply L2.Same.get); (· with_reducible assumption); (first | with_reducible assumption | with_reducible exact L2.upd_same | ((with_reducible apply L2.Same.get); (· with_reducible assumption); (first | with_reducible assumption | with_reducible exact L2.upd_same | ((with_reducible apply L2.Same.get); (· with_reducible assumption); (first | with_reducible assumption | with_reducible exact L2.upd_same | ((with_reducible apply L2.Same.get); (· with_reducible assumption); (first | with_reducible assumption | with_reducible exact L2.upd_same)))))))))))); (· first | with_reducible assumption | (exact Cv.sz_lit' (by omega)) | (exact Cv.sz_lit' (by decide))))
  | ((with_reducible apply Cv.rd_cat); (· (first | with_reducible assumption | with_reducible exact L2.upd_same | ((with_reducible apply L2.Same.get); (· with_reducible assumption); (first | with_reducible assumption | with_reducible exact L2.upd_same | ((with_reducible apply L2.Same.get); (· with_reducible assumption); (first | with_reducible assumption | with_reducible exact L2.upd_same | ((with_reducible apply L2.Same.get); (· with_reducible assumption); (first | with_reducible assumption | with_reducible exact L2.upd_same | ((with_reducible apply L2.Same.get); (· with_reducible assumption); (first | with_reducible assumption | with_reducible exact L2.upd_same | ((with_reducible apply L2.Same.get); (· with_reducible assumption); (first | with_reducible assumption | with_reducible exact L2.upd_same)))))))))))); (· (first | with_reducible assumption | with_reducible exact L2.upd_same | ((with_reducible apply L2.Same.get); (· with_reducible assumption); (first | with_reducible assumption | with_reducible exact L2.upd_same | ((with_reducible apply L2.Same.get); (· with_reducible assumption); (first | with_reducible assumption | with_reducible exact L2.upd_same | ((with_reducible apply L2.Same.get); (· with_reducible assumption); (first | with_reducible assumption | with_reducible exact L2.upd_same | ((with_reducible apply L2.Same.get); (· with_reducible assumption); (first | with_reducible assumption | with_reducible exact L2.upd_same | ((with_reducible apply L2.Same.get); (· with_reducible assumption); (first | with_reducible assumption | with_reducible exact L2.upd_same)))))))))))); (· first | with_reducible assumption | (exact Cv.sz_lit' (by omega)) | (exact Cv.sz_lit' (by decide))))
  | (with_reducible apply Cv.rd_dsetT)
  | (with_reducible apply Cv.rd_dput)))
local macro_rules | `(tactic| k_offL) => `(tactic| repeat' (first
  | (with_reducible apply Cv.rd_seq)
  | (with_reducible apply Cv.rd_asg)
  | ((with_reducible apply Cv.rd_var); (· rfl))
  | (with_reducible apply Cv.rd_c)
  | (with_reducible apply Cv.rd_op)
  | (with_reducible apply Cv.rd_gname)
  | (with_reducible apply Cv.rd_cons)
  | (with_reducible apply Cv.rd_nil)
  | (with_reducible apply Cv.rd_rI0)
  | ((with_reducible apply Cv.rd_rI); (· first | decide | exact ⟨by decide, by decide⟩ | omega | exact Or.inl (by omega) | exact Or.inr (by omega)))
  | ((with_reducible apply Cv.rd_eq); (· rfl))
  | ((with_reducible apply Cv.rd_ne); (· rfl))
  | ((with_reducible apply And.intro); (· (first
  | with_reducible rfl
  | with_reducible assumption
  | ((with_reducible apply Cv.sz_lit); rfl)
  | ((with_reducible apply Cv.sz_fs); rfl)
  | ((with_reducible apply Cv.tyl); (first | with_reducible assumption | ((with_reducible apply L2.SqL.of); (first | with_reducible assumption | with_reducible exact L2.upd_same)) | ((with_reducible apply L2.Same.seq); (· with_reducible assumption); (first | with_reducible assumption | ((with_reducible apply L2.SqL.of); (first | with_reducible assumption | with_reducible exact L2.upd_same)) | ((with_reducible apply L2.Same.seq); (· with_reducible assumption); (first | with_reducible assumption | ((with_reducible apply L2.SqL.of); (first | with_reducible assumption | with_reducible exact L2.upd_same)) | ((with_reducible apply L2.Same.seq); (· with_reducible assumption); (first | with_reducible assumption | ((with_reducible apply L2.SqL.of); (first | with_reducible assumption | with_reducible exact L2.upd_same)) | ((with_reducible apply L2.Same.seq); (· with_reducible assumption); (first | with_reducible assumption | ((with_reducible apply L2.SqL.of); (first | with_reducible assumption | with_reducible exact L2.upd_same)) | ((with_reducible apply L2.Same.seq); (· with_reducible assumption); (first | with_reducible assumption | ((with_reducible apply L2.SqL.of); (first | with_reducible assumption | with_reducible exact L2.upd_same))))))))))))))
  | ((with_reducible apply Cv.isd_T); (first | with_reducible assumption | with_reducible exact L2.upd_same | ((with_reducible apply L2.Same.get); (· with_reducible assumption); (first | with_reducible assumption | with_reducible exact L2.upd_same | ((with_reducible apply L2.Same.get); (· with_reducible assumption); (first | with_reducible assumption | with_reducible exact L2.upd_same | ((with_reducible apply L2.Same.get); (· with_reducible assumption); (first | with_reducible assumption | with_reducible exact L2.upd_same | ((with_reducible apply L2.Same.get); (· with_reducible assumption); (first | with_reducible assumption | with_reducible exact L2.upd_same | ((with_reducible apply L2.Same.get); (· with_reducible assumption); (first | with_reducible assumption | with_reducible exact L2.upd_same))))))))))))
  | ((with_reducible apply Cv.isd_K); (first | with_reducible assumption | with_reducible exact L2.upd_same | ((with_reducible apply L2.Same.get); (· with_reducible assumption); (first | with_reducible assumption | with_reducible exact L2.upd_same | ((with_reducible apply L2.Same.get); (· with_reducible assumption); (first | with_reducible assumption | with_reducible exact L2.upd_same | ((with_reducible apply L2.Same.get); (· with_reducible assumption); (first | with_reducible assumption | with_reducible exact L2.upd_same | ((with_reducible apply L2.Same.get); (· with_reducible assumption); (first | with_reducible assumption | with_reducible exact L2.upd_same | ((with_reducible apply L2.Same.get); (· with_reducible assumption); (first | with_reducible assumption | with_reducible exact L2.upd_same))))))))))))
  | ((with_reducible apply Or.inl); (first | with_reducible assumption | ((with_reducible apply L2.SqL.of); (first | with_reducible assumption | with_reducible exact L2.upd_same)) | ((with_reducible apply L2.Same.seq); (· with_reducible assumption); (first | with_reducible assumption | ((with_reducible apply L2.SqL.of); (first | with_reducible assumption | with_reducible exact L2.upd_same)) | ((with_reducible apply L2.Same.seq); (· with_reducible assumption); (first | with_reducible assumption | ((with_reducible apply L2.SqL.of); (first | with_reducible assumption | with_reducible exact L2.upd_same)) | ((with_reducible apply L2.Same.seq); (· with_reducible assumption); (first | with_reducible assumption | ((with_reducible apply L2.SqL.of); (first | with_reducible assumption | with_reducible exact L2.upd_same)) | ((with_reducible apply L2.Same.seq); (· with_reducible assumption); (first | with_reducible assumption | ((with_reducible apply L2.SqL.of); (first | with_reducible assumption | with_reducible exact L2.upd_same)) | ((with_reducible apply L2.Same.seq); (· with_reducible assumption); (first | with_reducible assumption | ((with_reducible apply L2.SqL.of); (first | with_reducible assumption | with_reducible exact L2.upd_same))))))))))))))
  | ((with_reducible apply Or.inr); (first | with_reducible assumption | ((with_reducible apply L2.SqT.of); (first | with_reducible assumption | with_reducible exact L2.upd_same)) | ((with_reducible apply L2.Same.seqT); (· with_reducible assumption); (first | with_reducible assumption | ((with_reducible apply L2.SqT.of); (first | with_reducible assumption | with_reducible exact L2.upd_same)) | ((with_reducible apply L2.Same.seqT); (· with_reducible assumption); (first | with_reducible assumption | ((with_reducible apply L2.SqT.of); (first | with_reducible assumption | with_reducible exact L2.upd_same)) | ((with_reducible apply L2.Same.seqT); (· with_reducible assumption); (first | with_reducible assumption | ((with_reducible apply L2.SqT.of); (first | with_reducible assumption | with_reducible exact L2.upd_same)) | ((with_reducible apply L2.Same.seqT); (· with_reducible assumption); (first | with_reducible assumption | ((with_reducible apply L2.SqT.of); (first | with_reducible assumption | with_reducible exact L2.upd_same)) | ((with_reducible apply L2.Same.seqT); (· with_reducible assumption); (first | with_reducible assumption | ((with_reducible apply L2.SqT.of); (first | with_reducible assumption | with_reducible exact L2.upd_same))))))))))))))
  | ((with_reducible apply Exists.intro); (first | with_reducible assumption | ((with_reducible apply L2.SqL.of); (first | with_reducible assumption | with_reducible exact L2.upd_same)) | ((with_reducible apply L2.Same.seq); (· with_reducible assumption); (first | with_reducible assumption | ((with_reducible apply L2.SqL.of); (first | with_reducible assumption | with_reducible exact L2.upd_same)) | ((with_reducible apply L2.Same.seq); (· with_reducible assumption); (first | with_reducible assumption | ((with_reducible apply L2.SqL.of); (first | with_reducible assumption | with_reducible exact L2.upd_same)) | ((with_reducible apply L2.Same.seq); (· with_reducible assumption); (first | with_reducible assumption | ((with_reducible apply L2.SqL.of); (first | with_reducible assumption | with_reducible exact L2.upd_same)) | ((with_reducible apply L2.Same.seq); (· with_reducible assumption); (first | with_reducible assumption | ((with_reducible apply L2.SqL.of); (first | with_reducible assumption | with_reducible exact L2.upd_same)) | ((with_reducible apply L2.Same.seq); (· with_reducible assumption); (first | with_reducible assumption | ((with_reducible apply L2.SqL.of); (first | with_reducible assumption | with_reducible exact L2.upd_same))))))))))))))
  | ((with_reducible apply Exists.intro); with_reducible rfl)
  | (first | with_reducible assumption | with_reducible exact L2.upd_same | ((with_reducible apply L2.Same.get); (· with_reducible assumption); (first | with_reducible assumption | with_reducible exact L2.upd_same | ((with_reducible apply L2.Same.get); (· with_reducible assumption); (first | with_reducible assumption | with_reducible exact L2.upd_same | ((with_reducible apply L2.Same.get); (· with_reducible assumption); (first | with_reducible assumption | with_reducible exact L2.upd_same | ((with_reducible apply L2.Same.get); (· with_reducible assumption); (first | with_reducible assumption | with_reducible exact L2.upd_same | ((with_reducible apply L2.Same.get); (· with_reducible assumption); (first | with_reducible assumption | with_reducible exact L2.upd_same))))))))))) | (first | with_reducible assumption | ((with_reducible apply L2.SqL.of); (first | with_reducible assumption | with_reducible exact L2.upd_same)) | ((with_reducible apply L2.Same.seq); (· with_reducible assumption); (first | with_reducible assumption | ((with_reducible apply L2.SqL.of); (first | with_reducible assumption | with_reducible exact L2.upd_same)) | ((with_reducible apply L2.Same.seq); (· with_reducible assumption); (first | with_reducible assumption | ((with_reducible apply L2.SqL.of); (first | with_reducible assumption | with_reducible exact L2.upd_same)) | ((with_reducible apply L2.Same.seq); (· with_reducible assumption); (first | with_reducible assumption | ((with_reducible apply L2.SqL.of); (first | with_reducible assumption | with_reducible exact L2.upd_same)) | ((with_reducible apply L2.Same.seq); (· with_reducible assumption); (first | with_reducible assumption | ((with_reducible apply L2.SqL.of); (first | with_reducible assumption | with_reducible exact L2.upd_same)) | ((with_reducible apply L2.Same.seq); (· with_reducible assumption); (first | with_reducible assumption | ((with_reducible apply L2.SqL.of); (first | with_reducible assumption | with_reducible exact L2.upd_same))))))))))))) | (first | with_reducible assumption | ((with_reducible apply L2.SqT.of); (first | with_reducible assumption | with_reducible exact L2.upd_same)) | ((with_reducible apply L2.Same.seqT); (· with_reducible assumption); (first | with_reducible assumption | ((with_reducible apply L2.SqT.of); (first | with_reducible assumption | with_reducible exact L2.upd_same)) | ((with_reducible apply L2.Same.seqT); (· with_reducible assumption); (first | with_reducible assumption | ((with_reducible apply L2.SqT.of); (first | with_reducible assumption | with_reducible exact L2.upd_same)) | ((with_reducible apply L2.Same.seqT); (· with_reducible assumption); (first | with_reducible assumption | ((with_reducible apply L2.SqT.of); (first | with_reducible assumption | with_reducible exact L2.upd_same)) | ((with_reducible apply L2.Same.seqT); (· with_reducible assumption); (first | with_reducible assumption | ((with_reducible apply L2.SqT.of); (first | with_reducible assumption | with_reducible exact L2.upd_same)) | ((with_reducible apply L2.Same.seqT); (· with_reducible assumption); (first | with_reducible assumption | ((with_reducible apply L2.SqT.of); (first | with_reducible assumption | with_reducible exact L2.upd_same))))))))))))) | ((with_reducible show List.lookup _ _ = _); rfl)
  | rfl | assumption | exact ⟨by decide, by decide⟩ | omega | decide)))
  | (with_reducible apply Exists.intro)
  | (with_reducible apply Cv.ift)
  | (with_reducible apply Cv.iff)
  | (with_reducible apply Cv.ifnt)
  | (with_reducible apply Cv.ifnf)
  | ((with_reducible apply Cv.rd_isi_int); (· with_reducible assumption))
  | ((with_reducible apply Cv.rd_isi_bool); (· with_reducible assumption))
  | ((with_reducible apply Cv.rd_isi_str); (· with_reducible assumption))
  | (with_reducible apply Cv.rd_bl)
  | (with_reducible apply Cv.rd_cb)
  | (with_reducible apply Cv.rd_test)
  | (with_reducible apply Cv.rd_ifs)
  | (with_reducible apply Cv.rd_fld)
  | (with_reducible apply Cv.rd_ret)
  | (with_reducible apply Cv.rd_drop)
  | (with_reducible apply Cv.rd_tup)
  | (with_reducible apply Cv.rd_lst)
  | (with_reducible apply Cv.rd_tB)
  | (with_reducible apply Cv.rd_gcons)
  | (with_reducible apply Cv.rd_gnil)
  | ((with_reducible apply Cv.rd_gtup); (· (first | with_reducible assumption | ((with_reducible apply L2.SqT.of); (first | with_reducible assumption | with_reducible exact L2.upd_same)) | ((with_reducible apply L2.Same.seqT); (· with_reducible assumption); (first | with_reducible assumption | ((with_reducible apply L2.SqT.of); (first | with_reducible assumption | with_reducible exact L2.upd_same)) | ((with_reducible apply L2.Same.seqT); (· with_reducible assumption); (first | with_reducible assumption | ((with_reducible apply L2.SqT.of); (first | with_reducible assumption | with_reducible exact L2.upd_same)) | ((with_reducible apply L2.Same.seqT); (· with_reducible assumption); (first | with_reducible assumption | ((with_reducible apply L2.SqT.of); (first | with_reducible assumption | with_reducible exact L2.upd_same)) | ((with_reducible apply L2.Same.seqT); (· with_reducible assumption); (first | with_reducible assumption | ((with_reducible apply L2.SqT.of); (first | with_reducible assumption | with_reducible exact L2.upd_same)) | ((with_reducible apply L2.Same.seqT); (· with_reducible assumption); (first | with_reducible assumption | ((with_reducible apply L2.SqT.of); (first | with_reducible assumption | with_reducible exact L2.upd_same)))))))))))))); (· rfl))
  | (with_reducible apply Cv.rd_m1)
  | (with_reducible apply Cv.rd_bm)
  | (with_reducible apply Cv.rd_bm0)
  | (with_reducible apply Cv.rd_sfld)
  | (with_reducible apply Cv.rd_calls)
  | (with_reducible apply Cv.rd_meth)
  | (with_reducible apply Cv.rd_make)
  | (with_reducible apply Cv.rd_un)
  | (with_reducible apply Cv.rd_rU)
  | (with_reducible apply Cv.rd_and)
  | (with_reducible apply Cv.rd_or)
  | (with_reducible apply Cv.rd_not)
  | (with_reducible apply Cv.rd_next)
  | (with_reducible apply Cv.rd_ilist)
  | (with_reducible apply Cv.rd_retN)
  | (with_reducible apply Cv.rd_brk)
  | (with_reducible apply Cv.rd_cont)
  | (with_reducible apply Cv.rd_lc)
  | (with_reducible apply Cv.rd_ienum)
  | (with_reducible apply Cv.rd_izip)
  | (with_reducible apply Cv.rd_istr)
  | (with_reducible apply Cv.rd_irng1)
  | (with_reducible apply Cv.rd_yes)
  | (with_reducible apply Cv.rd_andV)
  | (with_reducible apply Cv.rd_orV)
  | (with_reducible apply Cv.rd_notV)
  | (with_reducible apply Cv.rd_tif)
  | (with_reducible apply Cv.rd_chain)
  | ((with_reducible apply Cv.rd_app); (· (first | with_reducible assumption | with_reducible exact L2.upd_same | ((with_reducible apply L2.Same.get); (· with_reducible assumption); (first | with_reducible assumption | with_reducible exact L2.upd_same | ((with_reducible apply L2.Same.get); (· with_reducible assumption); (first | with_reducible assumption | with_reducible exact L2.upd_same | ((with_reducible apply L2.Same.get); (· with_reducible assumption); (first | with_reducible assumption | with_reducible exact L2.upd_same | ((with_reducible apply L2.Same.get); (· with_reducible assumption); (first | with_reducible assumption | with_reducible exact L2.upd_same | ((with_reducible apply L2.Same.get); (· with_reducible assumption); (first | with_reducible assumption | with_reducible exact L2.upd_same)))))))))))); (· first | with_reducible assumption | (exact Cv.sz_lt (by omega)) | (exact Cv.sz_lt (by decide))))
  | ((with_reducible apply Cv.rd_ixT); (· (first | with_reducible assumption | ((with_reducible apply L2.SqT.of); (first | with_reducible assumption | with_reducible exact L2.upd_same)) | ((with_reducible apply L2.Same.seqT); (· with_reducible assumption); (first | with_reducible assumption | ((with_reducible apply L2.SqT.of); (first | with_reducible assumption | with_reducible exact L2.upd_same)) | ((with_reducible apply L2.Same.seqT); (· with_reducible assumption); (first | with_reducible assumption | ((with_reducible apply L2.SqT.of); (first | with_reducible assumption | with_reducible exact L2.upd_same)) | ((with_reducible apply L2.Same.seqT); (· with_reducible assumption); (first | with_reducible assumption | ((with_reducible apply L2.SqT.of); (first | with_reducible assumption | with_reducible exact L2.upd_same)) | ((with_reducible apply L2.Same.seqT); (· with_reducible assumption); (first | with_reducible assumption | ((with_reducible apply L2.SqT.of); (first | with_reducible assumption | with_reducible exact L2.upd_same)) | ((with_reducible apply L2.Same.seqT); (· with_reducible assumption); (first | with_reducible assumption | ((with_reducible apply L2.SqT.of); (first | with_reducible assumption | with_reducible exact L2.upd_same)))))))))))))); (· rfl))
  | ((with_reducible apply Cv.rd_ixL); (· (first | with_reducible assumption | ((with_reducible apply L2.SqL.of); (first | with_reducible assumption | with_reducible exact L2.upd_same)) | ((with_reducible apply L2.Same.seq); (· with_reducible assumption); (first | with_reducible assumption | ((with_reducible apply L2.SqL.of); (first | with_reducible assumption | with_reducible exact L2.upd_same)) | ((with_reducible apply L2.Same.seq); (· with_reducible assumption); (first | with_reducible assumption | ((with_reducible apply L2.SqL.of); (first | with_reducible assumption | with_reducible exact L2.upd_same)) | ((with_reducible apply L2.Same.seq); (· with_reducible assumption); (first | with_reducible assumption | ((with_reducible apply L2.SqL.of); (first | with_reducible assumption | with_reducible exact L2.upd_same)) | ((with_reducible apply L2.Same.seq); (· with_reducible assumption); (first | with_reducible assumption | ((with_reducible apply L2.SqL.of); (first | with_reducible assumption | with_reducible exact L2.upd_same)) | ((with_reducible apply L2.Same.seq); (· with_reducible assumption); (first | with_reducible assumption | ((with_reducible apply L2.SqL.of); (first | with_reducible assumption | with_reducible exact L2.upd_same)))))))))))))); (· first | with_reducible assumption | rfl))
  | ((with_reducible apply Cv.rd_isi_lst); (· (first | with_reducible assumption | with_reducible exact L2.upd_same | ((with_reducible apply L2.Same.get); (· with_reducible assumption); (first | with_reducible assumption | with_reducible exact L2.upd_same | ((with_reducible apply L2.Same.get); (· with_reducible assumption); (first | with_reducible assumption | with_reducible exact L2.upd_same | ((with_reducible apply L2.Same.get); (· with_reducible assumption); (first | with_reducible assumption | with_reducible exact L2.upd_same | ((with_reducible apply L2.Same.get); (· with_reducible assumption); (first | with_reducible assumption | with_reducible exact L2.upd_same | ((with_reducible apply L2.Same.get); (· with_reducible assumption); (first | with_reducible assumption | with_reducible exact L2.upd_same)))))))))))))
  | (with_reducible apply Cv.rd_gsub)
  | ((with_reducible apply Cv.rd_setl); (· (first | with_reducible assumption | with_reducible exact L2.upd_same | ((with_reducible apply L2.Same.get); (· with_reducible assumption); (first | with_reducible assumption | with_reducible exact L2.upd_same | ((with_reducible apply L2.Same.get); (· with_reducible assumption); (first | with_reducible assumption | with_reducible exact L2.upd_same | ((with_reducible apply L2.Same.get); (· with_reducible assumption); (first | with_reducible assumption | with_reducible exact L2.upd_same | ((with_reducible apply L2.Same.get); (· with_reducible assumption); (first | with_reducible assumption | with_reducible exact L2.upd_same | ((with_reducible apply L2.Same.get); (· with_reducible assumption); (first | with_reducible assumption | with_reducible exact L2.upd_same)))))))))))); (· first | with_reducible assumption | rfl))
  | (with_reducible apply Cv.rd_dnewK)
  | (with_reducible apply Cv.rd_dnewT)
  | (with_reducible apply Cv.rd_dget2)
  | (with_reducible apply Cv.rd_dget)
  | (with_reducible apply Cv.rd_din)
  | (with_reducible apply Cv.rd_dnotin)
  | (with_reducible apply Cv.rd_sl)
  | (with_reducible apply Cv.rd_nopart)
  | (with_reducible apply Cv.rd_part)
  | ((with_reducible apply Cv.rd_slL); (· (first | with_reducible assumption | ((with_reducible apply L2.SqL.of); (first | with_reducible assumption | with_reducible exact L2.upd_same)) | ((with_reducible apply L2.Same.seq); (· with_reducible assumption); (first | with_reducible assumption | ((with_reducible apply L2.SqL.of); (first | with_reducible assumption | with_reducible exact L2.upd_same)) | ((with_reducible apply L2.Same.seq); (· with_reducible assumption); (first | with_reducible assumption | ((with_reducible apply L2.SqL.of); (first | with_reducible assumption | with_reducible exact L2.upd_same)) | ((with_reducible apply L2.Same.seq); (· with_reducible assumption); (first | with_reducible assumption | ((with_reducible apply L2.SqL.of); (first | with_reducible assumption | with_reducible exact L2.upd_same)) | ((with_reducible apply L2.Same.seq); (· with_reducible assumption); (first | with_reducible assumption | ((with_reducible apply L2.SqL.of); (first | with_reducible assumption | with_reducible exact L2.upd_same)) | ((with_reducible apply L2.Same.seq); (· with_reducible assumption); (first | with_reducible assumption | ((with_reducible apply L2.SqL.of); (first | with_reducible assumption | with_reducible exact L2.upd_same)))))))))))))))
  | ((with_reducible apply Cv.rd_ext); (· (first | with_reducible assumption | with_reducible exact L2.upd_same | ((with_reducible apply L2.Same.get); (· with_reducible assumption); (first | with_reducible assumption | with_reducible exact L2.upd_same | ((with_reducible apply L2.Same.get); (· with_reducible assumption); (first | with_reducible assumption | with_reducible exact L2.upd_same | ((with_reducible apply L2.Same.get); (· with_reducible assumption); (first | with_reducible assumption | with_reducible exact L2.upd_same | ((with_reducible apply L2.Same.get); (· with_reducible assumption); (first | with_reducible assumption | with_reducible exact L2.upd_same | ((with_reducible apply L2.Same.get); (· with_reducible assumption); (first | with_reducible assumption | with_reducible exact L2.upd_same)))))))))))); (· (first | with_reducible assumption | with_reducible exact L2.upd_same | ((with_reducible apply L2.Same.get); (· with_reducible assumption); (first | with_reducible assumption | with_reducible exact L2.upd_same | ((with_reducible apply L2.Same.get); (· with_reducible assumption); (first | with_reducible assumption | with_reducible exact L2.upd_same | ((with_reducible apply L2.Same.get); (· with_reducible assumption); (first | with_reducible assumption | with_reducible exact L2.upd_same | ((with_reducible apply L2.Same.get); (· with_reducible assumption); (first | with_reducible assumption | with_reducible exact L2.upd_same | ((with_reducible apply L2.Same.get); (· with_reducible assumption); (first | with_reducible assumption | with_reducible exact L2.upd_same)))))))))))); (· first | with_reducible assumption | (exact Cv.sz_lit' (by omega)) | (exact Cv.sz_lit' (by decide))))
  | ((with_reducible apply Cv.rd_cat); (· (first | with_reducible assumption | with_reducible exact L2.upd_same | ((with_reducible apply L2.Same.get); (· with_reducible assumption); (first | with_reducible assumption | with_reducible exact L2.upd_same | ((with_reducible apply L2.Same.get); (· with_reducible assumption); (first | with_reducible assumption | with_reducible exact L2.upd_same | ((with_reducible apply L2.Same.get); (· with_reducible assumption); (first | with_reducible assumption | with_reducible exact L2.upd_same | ((with_reducible apply L2.Same.get); (· with_reducible assumption); (first | with_reducible assumption | with_reducible exact L2.upd_same | ((with_reducible apply L2.Same.get); (· with_reducible assumption); (first | with_reducible assumption | with_reducible exact L2.upd_same)))))))))))); (· (first | with_reducible assumption | with_reducible exact L2.upd_same | ((with_reducible apply L2.Same.get); (· with_reducible assumption); (first | with_reducible assumption | with_reducible exact L2.upd_same | ((with_reducible apply L2.Same.get); (· with_reducible assumption); (first | with_reducible assumption | with_reducible exact L2.upd_same | ((with_reducible apply L2.Same.get); (· with_reducible assumption); (first | with_reducible assumption | with_reducible exact L2.upd_same | ((with_reducible apply L2.Same.get); (· with_reducible assumption); (first | with_reducible assumption | with_reducible exact L2.upd_same | ((with_reducible apply L2.Same.get); (· with_reducible assumption); (first | with_reducible assumption | with_reducible exact L2.upd_same)))))))))))); (· first | with_reducible assumption | (exact Cv.sz_lit' (by omega)) | (exact Cv.sz_lit' (by decide))))
  | (with_reducible apply Cv.rd_dsetT)
  | (with_reducible apply Cv.rd_dput)))
namespace Cv
open PySem PySem.Spec
open PyProof.Rows hiding St
open L2
/-! ### runs: the mirror -/
abbrev Run := Int × Int
def imax (a b : Int) : Int := if b > a then b else a
def imin (a b : Int) : Int := if b < a then b else a
def cutW (lo hi : Int) : List Run → List Run
  | [] => []
  | r :: rs => (if imax r.1 lo < imin r.2 hi then [(imax r.1 lo, imin r.2 hi)] else []) ++ cutW lo hi rs
theorem cutW_len (lo hi : Int) : ∀ rs, (cutW lo hi rs).length ≤ rs.length
  | [] => Nat.le_refl _
  | r :: rs => by
    have := cutW_len lo hi rs
    unfold cutW
    rw [List.length_append, List.length_cons]
    split <;> simp <;> omega
/-! ### how they stand -/
def RunV (H : Hp) (v : V) (r : Run) : Prop := ∃ t, v = .ref t ∧ H t = some (.tup [.int r.1, .int r.2])
theorem RunV.tk {H H' : Hp} {v : V} {r : Run} (T : TK H H') (h : RunV H v r) : RunV H' v r := by
  obtain ⟨t, e, h⟩ := h
  exact ⟨t, e, T _ _ h⟩
abbrev Runs (H : Hp) : List V → List Run → Prop := Paired (RunV H)
theorem Runs.tk {H H' : Hp} {vs : List V} {rs : List Run} (T : TK H H') (h : Runs H vs rs) : Runs H' vs rs := Paired.mapP h fun _ _ q => q.tk T
section
variable {P : Program} {w : World} {K : PySem.W.Frag} {mg : Str → Option Value} {base : Heap}
def sp_cut_within (K : PySem.W.Frag) : Sp := fun vs H Q _ => ∃ (a : Addr) (lo hi : Int) (xs : List V) (rs : List Run), vs = [.ref a, .int lo, .int hi] ∧ SqL K H a xs ∧ Runs H xs rs ∧ rs.length < 100000 ∧
  ∀ p H' ys, Same H H' → H p = none → H' p = some (.lst ys) → Runs H' ys (cutW lo hi rs) → Q (.ref p) H'
theorem ok_cut_within (T : Txt K mg) : C8.Cal P w K mg base 1 "cut_within" (sp_cut_within K) [] := by
  refine cal T.D_cut_within T.g_cut_within sc_cut_within (fun _ _ _ _ _ _ us hl => match us, hl with | [_, _, _], _ => rfl) (fun vs H Q E h => ?_) (fun cdv A outer s H vs Q E hr h => ?_)
  · obtain ⟨a, lo, hi, xs, rs, rfl, _⟩ := h
    rfl
  obtain ⟨a, lo, hi, xs, rs, rfl, hS, hR, hl, k⟩ := h
  have nd := (sc_cut_within).nd
  refine ⟨_, (pss_cons (ps_set (i := 3) nd rfl (Or.inl rfl) (pe_lst pa_nil))
(pss_cons (ps_for PassesOwn.never rfl (pi_list (pv 0)) (pg_tup rfl (pgs_cons (pg_name (i := 4) nd rfl (Or.inl rfl)) (pgs_cons (pg_name (i := 5) nd rfl (Or.inl rfl)) pgs_nil)))
(pss_cons (ps_set (i := 6) nd rfl (Or.inl rfl) (pe_callB (call_max2 rfl) (by rfl) T.f_max Cv.bb_max (pa_cons (pv 4) (pa_cons (pv 1) pa_nil))))
(pss_cons (ps_set (i := 7) nd rfl (Or.inl rfl) (pe_callB (call_min2 rfl) (by rfl) T.f_min Cv.bb_min (pa_cons (pv 5) (pa_cons (pv 2) pa_nil))))
(pss_one (ps_if (pt_cmpR op_lt (pv 6) (pv 7) (nomark _))
(pss_one (ps_expr (pe_bm PySem.F.plainAttrs_list PySem.F.slot_list_append PySem.F.type_list_append mt_append (pv 3) (pa_cons (pe_tup (pa_cons (pv 6) (pa_cons (pv 7) pa_nil))) pa_nil))))
pss_nil)))))
(pss_one (ps_ret (pv 3))))), ?_⟩
  dsimp only [cxOf, Cx.nox, Cx.wish]
  k_clsL
  k_places
  rename_i l nl H1 hS1 hL1
  k_clsL
  refine for_l (xs := xs) RunV rs (fun r σ H2 => ∃ ys done v1 v2 v3 v4, σ = [some (.ref a), some (.int lo), some (.int hi), some (.ref l), v1, v2, v3, v4] ∧ Same H H2 ∧ H2 l = some (.lst ys) ∧ Runs H2 ys done ∧ done ++ cutW lo hi r = cutW lo hi rs ∧ done.length + r.length ≤ rs.length) ?_ ?_ ?_ ?_
  · exact ⟨[], [], _, _, _, _, rfl, hS1, hL1, .nil, rfl, by simp⟩
  · rintro r σ H2 ⟨ys, done, v1, v2, v3, v4, rfl, s1, _⟩
    exact ⟨s1.seq hS, hR.tk s1.tk⟩
  · rintro c r x σ H2 hc ⟨ys, done, v1, v2, v3, v4, rfl, s1, hl2, hr2, e, hz⟩ ⟨t, rfl, ht⟩
    k_clsL
    refine ifd (fun q => ?_) (fun q => ?_)
    · k_clsL
      k_places
      rename_i p np H3 hS3 hp3
      have hyl := hr2.length
      have hzz := List.length_cons (a := c) (as := r)
      k_clsL
      refine hold ⟨_, done ++ [(imax c.1 lo, imin c.2 hi)], _, _, _, _, rfl, (s1.trans hS3).mut nl, upd_same, ?_, ?_, ?_⟩
      · have tk : TK H3 (upd H3 l (.lst (ys ++ [.ref p]))) := (TK.refl H3).lst (hS3.get hl2)
        exact Paired.snoc (hr2.tk (hS3.tk.trans tk)) ⟨p, rfl, tk _ _ hp3⟩
      · rw [← e, List.append_assoc]
        congr 1
        show _ = (if imax c.1 lo < imin c.2 hi then _ else _) ++ _
        rw [if_pos (show imax c.1 lo < imin c.2 hi from q)]
      · simp at hz ⊢; omega
    · k_clsL
      refine hold ⟨ys, done, _, _, _, _, rfl, s1, hl2, hr2, ?_, ?_⟩
      · rw [← e]
        congr 1
        show _ = (if imax c.1 lo < imin c.2 hi then _ else _) ++ _
        rw [if_neg (show ¬ imax c.1 lo < imin c.2 hi from q)]
        rfl
      · simp at hz; omega
  · rintro σ H2 ⟨ys, done, v1, v2, v3, v4, rfl, s1, hl2, hr2, e, hz⟩
    k_clsL
    rw [show cutW lo hi [] = [] from rfl, List.append_nil] at e
    exact k l H2 ys s1 nl hl2 (e ▸ hr2)

/-! ### lowest_of -/
def lowW : Int → List Run → List Run
  | _, [] => []
  | left, r :: rs => if left < 1 then [] else (r.1, imin r.2 (r.1 + left)) :: lowW (left - (imin r.2 (r.1 + left) - r.1)) rs
theorem lowW_len : ∀ (rs : List Run) (n : Int), (lowW n rs).length ≤ rs.length
  | [], _ => Nat.le_refl _
  | r :: rs, n => by
    unfold lowW
    split
    · simp
    · have := lowW_len rs (n - (imin r.2 (r.1 + n) - r.1))
      simp; omega
def sp_lowest_of (K : PySem.W.Frag) : Sp := fun vs H Q _ => ∃ (a : Addr) (n : Int) (xs : List V) (rs : List Run), vs = [.ref a, .int n] ∧ SqL K H a xs ∧ Runs H xs rs ∧ rs.length < 100000 ∧
  ∀ p H' ys, Same H H' → H p = none → H' p = some (.lst ys) → Runs H' ys (lowW n rs) → Q (.ref p) H'
theorem lowW_nil (n : Int) : lowW n [] = [] := by unfold lowW; rfl
theorem lowW_cons (n : Int) (r : Run) (rs : List Run) : lowW n (r :: rs) = if n < 1 then [] else (r.1, imin r.2 (r.1 + n)) :: lowW (n - (imin r.2 (r.1 + n) - r.1)) rs := rfl
theorem ok_lowest_of (T : Txt K mg) : C8.Cal P w K mg base 1 "lowest_of" (sp_lowest_of K) [] := by
  refine cal T.D_lowest_of T.g_lowest_of sc_lowest_of (fun _ _ _ _ _ _ us hl => match us, hl with | [_, _], _ => rfl) (fun vs H Q E h => ?_) (fun cdv A outer s H vs Q E hr h => ?_)
  · obtain ⟨a, n, xs, rs, rfl, _⟩ := h
    rfl
  obtain ⟨a, n, xs, rs, rfl, hS, hR, hl, k⟩ := h
  have nd := (sc_lowest_of).nd
  refine ⟨_, (pss_cons (ps_if (pt_cmpR op_isN (pv 1) pe_non (nomark _))
(pss_one (ps_ret (pe_callTy call_list_of (by rfl) T.f_list Cv.bt_list (pa_cons (pv 0) pa_nil))))
pss_nil)
(pss_cons (ps_set (i := 2) nd rfl (Or.inl rfl) (pe_lst pa_nil))
(pss_cons (ps_set (i := 3) nd rfl (Or.inl rfl) (pv 1))
(C8.pss_cut (ps_for PassesOwn.never rfl (pi_list (pv 0)) (pg_tup rfl (pgs_cons (pg_name (i := 4) nd rfl (Or.inl rfl)) (pgs_cons (pg_name (i := 5) nd rfl (Or.inl rfl)) pgs_nil)))
(pss_cons (ps_if (pt_cmpR op_lt (pv 3) pe_int (nomark _))
(pss_one ps_break)
pss_nil)
(pss_cons (ps_set (i := 6) nd rfl (Or.inl rfl) (pe_callB (call_min2 rfl) (by rfl) T.f_min Cv.bb_min (pa_cons (pv 5) (pa_cons (pe_op op_add (pv 4) (pv 3)) pa_nil))))
(pss_cons (ps_expr (pe_bm PySem.F.plainAttrs_list PySem.F.slot_list_append PySem.F.type_list_append mt_append (pv 2) (pa_cons (pe_tup (pa_cons (pv 4) (pa_cons (pv 6) pa_nil))) pa_nil)))
(pss_one (ps_set (i := 3) nd rfl (Or.inl rfl) (pe_op op_sub (pv 3) (pe_op op_sub (pv 6) (pv 4)))))))))
(pss_one (ps_ret (pv 2))))))), ?_⟩
  dsimp only [cxOf, Cx.nox, Cx.wish]
  k_clsL
  refine ifd (fun q => nomatch q) (fun _ => ?_)
  k_clsL
  k_places
  rename_i l nl H1 hS1 hL1
  k_clsL
  refine rd_cut (fun σ H2 => ∃ ys left v1 v2 v3, σ = [some (.ref a), some (.int n), some (.ref l), some (.int left), v1, v2, v3] ∧ Same H H2 ∧ H2 l = some (.lst ys) ∧ Runs H2 ys (lowW n rs)) ?_ ?_
  · k_clsL
    refine for_l (xs := xs) RunV rs (fun r σ H2 => ∃ ys done left v1 v2 v3, σ = [some (.ref a), some (.int n), some (.ref l), some (.int left), v1, v2, v3] ∧ Same H H2 ∧ H2 l = some (.lst ys) ∧ Runs H2 ys done ∧ done ++ lowW left r = lowW n rs) ?_ ?_ ?_ ?_
    · exact ⟨[], [], _, _, _, _, rfl, hS1, hL1, .nil, rfl⟩
    · rintro r σ H2 ⟨ys, done, left, v1, v2, v3, rfl, s1, _⟩
      exact ⟨s1.seq hS, hR.tk s1.tk⟩
    · rintro c r x σ H2 hc ⟨ys, done, left, v1, v2, v3, rfl, s1, hl2, hr2, e⟩ ⟨t, rfl, ht⟩
      k_clsL
      refine ifd (fun q => ?_) (fun q => ?_)
      · k_clsL
        rw [lowW_cons, if_pos q, List.append_nil] at e
        exact hold ⟨ys, _, _, _, _, rfl, s1, hl2, e ▸ hr2⟩
      · rw [lowW_cons, if_neg q] at e
        have hyl := hr2.length
        have hb := lowW_len rs n
        have he := congrArg List.length e
        rw [List.length_append, List.length_cons] at he
        have hyz : ys.length < sizeLine := sz_lt (by omega)
        k_clsL
        k_places
        rename_i p np H3 hS3 hp3
        k_clsL
        refine hold ⟨_, done ++ [(c.1, imin c.2 (c.1 + left))], _, _, _, _, rfl, (s1.trans hS3).mut nl, upd_same, ?_, ?_⟩
        · have tk : TK H3 (upd H3 l (.lst (ys ++ [.ref p]))) := (TK.refl H3).lst (hS3.get hl2)
          exact Paired.snoc (hr2.tk (hS3.tk.trans tk)) ⟨p, rfl, tk _ _ hp3⟩
        · rw [← e, List.append_assoc]
          rfl
    · rintro σ H2 ⟨ys, done, left, v1, v2, v3, rfl, s1, hl2, hr2, e⟩
      rw [lowW_nil, List.append_nil] at e
      exact hold ⟨ys, _, _, _, _, rfl, s1, hl2, e ▸ hr2⟩
  · rintro σ H2 ⟨ys, left, v1, v2, v3, rfl, s1, hl2, hr2⟩
    k_clsL
    exact k l H2 ys s1 nl hl2 hr2
/-! ### cut_out -/
/-- what of the stretch from at to hi the others leave: the stretches ahead, and from where on the rest -/
def cutO1 (hi : Int) : Int → List Run → List Run × Int
  | at_, [] => ([], at_)
  | at_, o :: os => if o.1 ≥ hi then ([], at_) else if o.2 ≤ at_ then cutO1 hi at_ os else
    ((if at_ < o.1 then [(at_, o.1)] else []) ++ (cutO1 hi o.2 os).1, (cutO1 hi o.2 os).2)
theorem cutO1_len (hi : Int) : ∀ (os : List Run) (a : Int), (cutO1 hi a os).1.length ≤ os.length
  | [], _ => Nat.le_refl _
  | o :: os, a => by
    unfold cutO1
    split
    · simp
    · split
      · have := cutO1_len hi os a
        simp; omega
      · have := cutO1_len hi os o.2
        simp only [List.length_append, List.length_cons]
        split <;> simp <;> omega
def cutO (os : List Run) : List Run → List Run
  | [] => []
  | r :: rs => (cutO1 r.2 r.1 os).1 ++ ((if (cutO1 r.2 r.1 os).2 < r.2 then [((cutO1 r.2 r.1 os).2, r.2)] else []) ++ cutO os rs)
theorem cutO_len (os : List Run) : ∀ rs, (cutO os rs).length ≤ rs.length * (os.length + 1)
  | [] => by simp [cutO]
  | r :: rs => by
    have h1 := cutO_len os rs
    have h2 := cutO1_len r.2 os r.1
    unfold cutO
    rw [List.length_append, List.length_append, List.length_cons, Nat.succ_mul]
    split <;> simp <;> omega
def sp_cut_out (K : PySem.W.Frag) : Sp := fun vs H Q _ => ∃ (a b : Addr) (xs zs : List V) (rs os : List Run), vs = [.ref a, .ref b] ∧ SqL K H a xs ∧ Runs H xs rs ∧ SqL K H b zs ∧ Runs H zs os ∧ rs.length * (os.length + 1) < 100000 ∧
  ∀ p H' ys, Same H H' → H p = none → H' p = some (.lst ys) → Runs H' ys (cutO os rs) → Q (.ref p) H'
theorem cutO1_nil (hi a : Int) : cutO1 hi a [] = ([], a) := by unfold cutO1; rfl
theorem cutO1_cons (hi a : Int) (o : Run) (os : List Run) : cutO1 hi a (o :: os) = if o.1 ≥ hi then ([], a) else if o.2 ≤ a then cutO1 hi a os else
    ((if a < o.1 then [(a, o.1)] else []) ++ (cutO1 hi o.2 os).1, (cutO1 hi o.2 os).2) := rfl
theorem cutO_cons (os : List Run) (r : Run) (rs : List Run) : cutO os (r :: rs) = (cutO1 r.2 r.1 os).1 ++ ((if (cutO1 r.2 r.1 os).2 < r.2 then [((cutO1 r.2 r.1 os).2, r.2)] else []) ++ cutO os rs) := rfl
theorem ok_cut_out (T : Txt K mg) : C8.Cal P w K mg base 1 "cut_out" (sp_cut_out K) [] := by
  refine cal T.D_cut_out T.g_cut_out sc_cut_out (fun _ _ _ _ _ _ us hl => match us, hl with | [_, _], _ => rfl) (fun vs H Q E h => ?_) (fun cdv A outer s H vs Q E hr h => ?_)
  · obtain ⟨a, b, xs, zs, rs, os, rfl, _⟩ := h
    rfl
  obtain ⟨a, b, xs, zs, rs, os, rfl, hS, hR, hZ, hO, hl, k⟩ := h
  have nd := (sc_cut_out).nd
  have hb := cutO_len os rs
  have sz : ∀ {ys : List V} {done rest : List Run} {H : Hp}, Runs H ys done → done ++ rest = cutO os rs → ys.length < sizeLine := fun {ys done rest H} h1 e => by
    have := h1.length
    have he := congrArg List.length e
    rw [List.length_append] at he
    exact sz_lt (by omega)
  refine ⟨_, (pss_cons (ps_set (i := 2) nd rfl (Or.inl rfl) (pe_lst pa_nil))
(pss_cons (ps_for PassesOwn.never rfl (pi_list (pv 0)) (pg_tup rfl (pgs_cons (pg_name (i := 3) nd rfl (Or.inl rfl)) (pgs_cons (pg_name (i := 4) nd rfl (Or.inl rfl)) pgs_nil)))
(pss_cons (ps_set (i := 5) nd rfl (Or.inl rfl) (pv 3))
(C8.pss_cut (ps_for PassesOwn.never rfl (pi_list (pv 1)) (pg_tup rfl (pgs_cons (pg_name (i := 6) nd rfl (Or.inl rfl)) (pgs_cons (pg_name (i := 7) nd rfl (Or.inl rfl)) pgs_nil)))
(pss_cons (ps_if (pt_cmpR op_ge (pv 6) (pv 4) (nomark _))
(pss_one ps_break)
pss_nil)
(pss_cons (ps_if (pt_cmpR op_le (pv 7) (pv 5) (nomark _))
(pss_one ps_continue)
pss_nil)
(pss_cons (ps_if (pt_cmpR op_lt (pv 5) (pv 6) (nomark _))
(pss_one (ps_expr (pe_bm PySem.F.plainAttrs_list PySem.F.slot_list_append PySem.F.type_list_append mt_append (pv 2) (pa_cons (pe_tup (pa_cons (pv 5) (pa_cons (pv 6) pa_nil))) pa_nil))))
pss_nil)
(pss_one (ps_set (i := 5) nd rfl (Or.inl rfl) (pv 7)))))))
(pss_one (ps_if (pt_cmpR op_lt (pv 5) (pv 4) (nomark _))
(pss_one (ps_expr (pe_bm PySem.F.plainAttrs_list PySem.F.slot_list_append PySem.F.type_list_append mt_append (pv 2) (pa_cons (pe_tup (pa_cons (pv 5) (pa_cons (pv 4) pa_nil))) pa_nil))))
pss_nil)))))
(pss_one (ps_ret (pv 2))))), ?_⟩
  dsimp only [cxOf, Cx.nox, Cx.wish]
  k_clsL
  k_places
  rename_i l nl H1 hS1 hL1
  k_clsL
  refine for_l (xs := xs) RunV rs (fun r σ H2 => ∃ ys done v1 v2 v3 v4 v5, σ = [some (.ref a), some (.ref b), some (.ref l), v1, v2, v3, v4, v5] ∧ Same H H2 ∧ H2 l = some (.lst ys) ∧ Runs H2 ys done ∧ done ++ cutO os r = cutO os rs) ?_ ?_ ?_ ?_
  · exact ⟨[], [], _, _, _, _, _, rfl, hS1, hL1, .nil, rfl⟩
  · rintro r σ H2 ⟨ys, done, v1, v2, v3, v4, v5, rfl, s1, _⟩
    exact ⟨s1.seq hS, hR.tk s1.tk⟩
  · rintro c r x σ H2 hc ⟨ys, done, v1, v2, v3, v4, v5, rfl, s1, hl2, hr2, e⟩ ⟨t, rfl, ht⟩
    rw [cutO_cons] at e
    k_clsL
    refine rd_cut (fun σ H3 => ∃ ys' done' at_ v4 v5, σ = [some (.ref a), some (.ref b), some (.ref l), some (.int c.1), some (.int c.2), some (.int at_), v4, v5] ∧ Same H H3 ∧ H3 l = some (.lst ys') ∧ Runs H3 ys' done' ∧
        done' ++ ((if at_ < c.2 then [(at_, c.2)] else []) ++ cutO os r) = cutO os rs) ?_ ?_
    · k_clsL
      refine for_l (xs := zs) RunV os (fun o σ H3 => ∃ ys' done' at_ v4 v5, σ = [some (.ref a), some (.ref b), some (.ref l), some (.int c.1), some (.int c.2), some (.int at_), v4, v5] ∧ Same H H3 ∧ H3 l = some (.lst ys') ∧ Runs H3 ys' done' ∧
        done' ++ ((cutO1 c.2 at_ o).1 ++ ((if (cutO1 c.2 at_ o).2 < c.2 then [((cutO1 c.2 at_ o).2, c.2)] else []) ++ cutO os r)) = cutO os rs) ?_ ?_ ?_ ?_
      · exact ⟨ys, done, c.1, _, _, rfl, s1, hl2, hr2, e⟩
      · rintro o σ H3 ⟨ys', done', at_, v4, v5, rfl, s3, _⟩
        exact ⟨s3.seq hZ, hO.tk s3.tk⟩
      · rintro o q x σ H3 ho ⟨ys', done', at_, v4, v5, rfl, s3, hl3, hr3, e3⟩ ⟨t', rfl, ht'⟩
        rw [cutO1_cons] at e3
        k_clsL
        refine ifd (fun h1 => ?_) (fun h1 => ?_)
        · k_clsL
          rw [if_pos h1] at e3
          exact hold ⟨ys', done', at_, _, _, rfl, s3, hl3, hr3, e3⟩
        · rw [if_neg h1] at e3
          k_clsL
          refine ifd (fun h2 => ?_) (fun h2 => ?_)
          · k_clsL
            rw [if_pos h2] at e3
            exact hold ⟨ys', done', at_, _, _, rfl, s3, hl3, hr3, e3⟩
          · rw [if_neg h2] at e3
            k_clsL
            refine ifd (fun h3 => ?_) (fun h3 => ?_)
            · rw [if_pos h3] at e3
              have hyz := sz hr3 e3
              k_clsL
              k_places
              rename_i p np H4 hS4 hp4
              k_clsL
              have tk : TK H4 (upd H4 l (.lst (ys' ++ [.ref p]))) := (TK.refl H4).lst (hS4.get hl3)
              exact hold ⟨_, done' ++ [(at_, o.1)], o.2, _, _, rfl, (s3.trans hS4).mut nl, upd_same, Paired.snoc (hr3.tk (hS4.tk.trans tk)) ⟨p, rfl, tk _ _ hp4⟩, by rw [← e3]; simp [List.append_assoc]⟩
            · rw [if_neg h3] at e3
              k_clsL
              exact hold ⟨ys', done', o.2, _, _, rfl, s3, hl3, hr3, e3⟩
      · rintro σ H3 ⟨ys', done', at_, v4, v5, rfl, s3, hl3, hr3, e3⟩
        rw [cutO1_nil] at e3
        exact hold ⟨ys', done', at_, _, _, rfl, s3, hl3, hr3, e3⟩
    · rintro σ H3 ⟨ys', done', at_, v4, v5, rfl, s3, hl3, hr3, e3⟩
      k_clsL
      refine ifd (fun h3 => ?_) (fun h3 => ?_)
      · rw [if_pos h3] at e3
        have hyz := sz hr3 e3
        k_clsL
        k_places
        rename_i p np H4 hS4 hp4
        k_clsL
        have tk : TK H4 (upd H4 l (.lst (ys' ++ [.ref p]))) := (TK.refl H4).lst (hS4.get hl3)
        exact hold ⟨_, done' ++ [(at_, c.2)], _, _, _, _, _, rfl, (s3.trans hS4).mut nl, upd_same, Paired.snoc (hr3.tk (hS4.tk.trans tk)) ⟨p, rfl, tk _ _ hp4⟩, by rw [← e3]; simp [List.append_assoc]⟩
      · rw [if_neg h3] at e3
        k_clsL
        exact hold ⟨ys', done', _, _, _, _, _, rfl, s3, hl3, hr3, e3⟩
  · rintro σ H2 ⟨ys, done, v1, v2, v3, v4, v5, rfl, s1, hl2, hr2, e⟩
    k_clsL
    rw [show cutO os [] = [] from rfl, List.append_nil] at e
    exact k l H2 ys s1 nl hl2 (e ▸ hr2)
end
end Cv
namespace Cv
open PySem PySem.Spec
open PyProof.Rows hiding St
open L2
/-! ### names, events, days, amounts: the mirror -/
def wh : V → Bool
  | .int _ => true
  | _ => false
abbrev lettersS : Str := "abcdefghijklmnopqrstuvwxyz"
def signsB (l : List Nat) : Bool := l.all fun c => decide (c ∈ lettersS.cps.toList)
def nameB (z : Str) : Bool := !(decide ((z.length : Int) < 1) || decide (8 < (z.length : Int))) && signsB z.cps.toList
def isNameV : V → Bool
  | .str z => nameB z
  | _ => false
def eventB (z : Str) : Bool := !decide (4 < ((Txt.split z ".").length : Int)) && (Txt.split z ".").all nameB
def isEventV : V → Bool
  | .str z => eventB z
  | _ => false
def rngB (lo hi : Int) : V → Bool
  | .int i => decide (lo ≤ i) && decide (i ≤ hi)
  | _ => false
theorem wh_int {x : V} (h : wh x = true) : ∃ i, x = .int i := by cases x <;> first | exact ⟨_, rfl⟩ | cases h
theorem rngB_no {x : V} {lo hi : Int} (h : wh x = false) : rngB lo hi x = false := by cases x <;> first | rfl | cases h
theorem rngB_int {x : V} {lo hi : Int} (h : rngB lo hi x = true) : ∃ i, x = .int i := by cases x <;> first | exact ⟨_, rfl⟩ | cases h
theorem rngB_le {x : V} {lo lo' hi : Int} (h : rngB lo hi x = false) (l : lo ≤ lo') : rngB lo' hi x = false := by
  cases x <;> first | rfl | skip
  simp [rngB] at h ⊢
  omega
abbrev isDayV : V → Bool := rngB 0 1000000
abbrev isAmtV : V → Bool := rngB 0 999999999999
def okLoss (n d e t c m : V) : Bool := rngB 0 1000000000 n && isDayV d && isEventV e && (isNameV t && isNameV c) && rngB 1 999999999999 m
def TxtOk (x : V) : Prop := ∀ z, x = .str z → z.length ≤ 1000 ∧ ∀ p ∈ Txt.split z ".", p.length ≤ 1000
section
variable {P : Program} {w : World} {K : PySem.W.Frag} {mg : Str → Option Value} {base : Heap}
def sp_is_whole (K : PySem.W.Frag) : Sp := fun vs H Q _ => ∃ x, vs = [x] ∧ Kd K H x ∧ Q (.bl (wh x)) H
theorem ok_is_whole (T : Txt K mg) : C8.Cal P w K mg base 1 "is_whole" (sp_is_whole K) [] := by
  refine cal T.D_is_whole T.g_is_whole sc_is_whole (fun _ _ _ _ _ _ us hl => match us, hl with | [_], _ => rfl) (fun vs H Q E h => ?_) (fun cdv A outer s H vs Q E hr h => ?_)
  · obtain ⟨x, rfl, _⟩ := h
    rfl
  obtain ⟨x, rfl, hk, k⟩ := h
  have nd := (sc_is_whole).nd
  refine ⟨_, (pss_one (ps_ret (pe_and (pe_callB call_isi (by rfl) T.f_isinstance Cv.bb_isinstance (pa_cons (pv 0) (pa_cons (pe_bltn (v := .ty "int") rfl T.f_int Cv.bt_int rfl) pa_nil))) (pe_one (pe_not (pe_callB call_isi (by rfl) T.f_isinstance Cv.bb_isinstance (pa_cons (pv 0) (pa_cons (pe_bltn (v := .ty "bool") rfl T.f_bool Cv.bt_bool rfl) pa_nil)))))))), ?_⟩
  dsimp only [cxOf, Cx.nox, Cx.wish]
  k_clsL
  cases x <;> first | exact k | exact iff k | (refine ift ?_; k_clsL; exact k)
def sp_law_whole (K : PySem.W.Frag) : Sp := sp_is_whole K
theorem ok_law_whole (T : Txt K mg) : C8.Cal P w K mg base 1 "_law_whole" (sp_law_whole K) [] := by
  refine cal T.D_law_whole T.g__law_whole sc_law_whole (fun _ _ _ _ _ _ us hl => match us, hl with | [_], _ => rfl) (fun vs H Q E h => ?_) (fun cdv A outer s H vs Q E hr h => ?_)
  · obtain ⟨x, rfl, _⟩ := h
    rfl
  obtain ⟨x, rfl, hk, k⟩ := h
  have nd := (sc_law_whole).nd
  refine ⟨_, (pss_one (ps_ret (pe_and (pe_callB call_isi (by rfl) T.f_isinstance Cv.bb_isinstance (pa_cons (pv 0) (pa_cons (pe_bltn (v := .ty "int") rfl T.f_int Cv.bt_int rfl) pa_nil))) (pe_one (pe_not (pe_callB call_isi (by rfl) T.f_isinstance Cv.bb_isinstance (pa_cons (pv 0) (pa_cons (pe_bltn (v := .ty "bool") rfl T.f_bool Cv.bt_bool rfl) pa_nil)))))))), ?_⟩
  dsimp only [cxOf, Cx.nox, Cx.wish]
  k_clsL
  cases x <;> first | exact k | exact iff k | (refine ift ?_; k_clsL; exact k)
def sp_is_name (K : PySem.W.Frag) : Sp := fun vs H Q _ => ∃ x, vs = [x] ∧ Kd K H x ∧ (∀ z, x = .str z → z.length ≤ 1000) ∧ Q (.bl (isNameV x)) H
theorem ok_is_name (T : Txt K mg) : C8.Cal P w K mg base 1 "is_name" (sp_is_name K) [] := by
  refine cal T.D_is_name T.g_is_name sc_is_name (fun _ _ _ _ _ _ us hl => match us, hl with | [_], _ => rfl) (fun vs H Q E h => ?_) (fun cdv A outer s H vs Q E hr h => ?_)
  · obtain ⟨x, rfl, _⟩ := h
    rfl
  obtain ⟨x, rfl, hk, hz, k⟩ := h
  have nd := (sc_is_name).nd
  refine ⟨_, (pss_cons (ps_if (pt_not (pt_val (pe_callB call_isi (by rfl) T.f_isinstance Cv.bb_isinstance (pa_cons (pv 0) (pa_cons (pe_bltn (v := .ty "str") rfl T.f_str Cv.bt_str rfl) pa_nil)))))
(pss_one (ps_ret pe_bl))
pss_nil)
(pss_cons (ps_if (PW.pt (pw_or (pt_cmpR op_lt (pe_callB call_len_str (by rfl) T.f_len Cv.bb_len (pa_cons (pv 0) pa_nil)) pe_int (nomark _)) (pw_or1 (pt_cmpR op_gt (pe_callB call_len_str (by rfl) T.f_len Cv.bb_len (pa_cons (pv 0) pa_nil)) pe_int (nomark _)))))
(pss_one (ps_ret pe_bl))
pss_nil)
(pss_cons (ps_for PassesOwn.never rfl (pi_str (pv 0)) (pg_name (i := 1) nd rfl (Or.inl rfl))
(pss_one (ps_if (pt_cmpR op_notIn_sign (pv 1) (C8.pe_gc rfl T.c_LETTERS) rfl)
(pss_one (ps_ret pe_bl))
pss_nil)))
(pss_one (ps_ret pe_bl))))), ?_⟩
  dsimp only [cxOf, Cx.nox, Cx.wish]
  k_clsL
  cases x with
  | str z =>
    have hz1 := hz z rfl
    have hzs : z.length ≤ sizeLine := Nat.le_trans hz1 (by decide)
    have k' : Q (.bl (!(decide ((z.length : Int) < 1) || decide (8 < (z.length : Int))) && signsB z.cps.toList)) H := k
    refine ifnt ?_
    k_clsL
    refine ifd (fun c1 => ?_) (fun c1 => ?_)
    · k_clsL
      rw [decide_eq_true c1] at k'
      exact k'
    rw [decide_eq_false c1] at k'
    k_clsL
    refine ifd (fun c2 => ?_) (fun c2 => ?_)
    · k_clsL
      rw [decide_eq_true c2] at k'
      exact k'
    rw [decide_eq_false c2] at k'
    k_clsL
    refine for_s (fun r σ H2 => ∃ v, σ = [some (.str z), v] ∧ H2 = H ∧ signsB z.cps.toList = signsB r) ?_ ?_ ?_
    · exact ⟨_, rfl, rfl, rfl⟩
    · rintro c r σ H2 ⟨v, rfl, rfl, e⟩
      have e2 : signsB (c :: r) = (decide (c ∈ lettersS.cps.toList) && signsB r) := rfl
      k_clsL
      refine ifnd (fun c3 => ?_) (fun c3 => ?_)
      · k_clsL
        rw [e, e2, decide_eq_false c3] at k'
        exact k'
      · k_clsL
        exact hold ⟨_, rfl, rfl, by rw [e, e2, decide_eq_true c3]; rfl⟩
    · rintro σ H2 ⟨v, rfl, rfl, e⟩
      k_clsL
      rw [e] at k'
      exact k'
  | non => refine ifnf ?_; k_clsL; exact k
  | bl b => refine ifnf ?_; k_clsL; exact k
  | int i => refine ifnf ?_; k_clsL; exact k
  | byt b => cases hk
  | flt b => cases hk
  | ref a => refine ifnf ?_; k_clsL; exact k
  | ty n => cases hk
def sp_is_event (K : PySem.W.Frag) : Sp := fun vs H Q _ => ∃ x, vs = [x] ∧ Kd K H x ∧ TxtOk x ∧ ∀ H', Same H H' → Q (.bl (isEventV x)) H'
theorem ok_is_event (T : Txt K mg) : C8.Cal P w K mg base 2 "is_event" (sp_is_event K) [] := by
  refine cal T.D_is_event T.g_is_event sc_is_event (fun _ _ _ _ _ _ us hl => match us, hl with | [_], _ => rfl) (fun vs H Q E h => ?_) (fun cdv A outer s H vs Q E hr h => ?_)
  · obtain ⟨x, rfl, _⟩ := h
    rfl
  obtain ⟨x, rfl, hk, hz, k⟩ := h
  have nd := (sc_is_event).nd
  refine ⟨_, (pss_cons (ps_if (pt_not (pt_val (pe_callB call_isi (by rfl) T.f_isinstance Cv.bb_isinstance (pa_cons (pv 0) (pa_cons (pe_bltn (v := .ty "str") rfl T.f_str Cv.bt_str rfl) pa_nil)))))
(pss_one (ps_ret pe_bl))
pss_nil)
(pss_cons (ps_set (i := 1) nd rfl (Or.inl rfl) (pe_split (pv 0) pe_str))
(pss_cons (ps_if (pt_cmpR op_gt (pe_callB call_len_seq (by rfl) T.f_len Cv.bb_len (pa_cons (pv 1) pa_nil)) pe_int (nomark _))
(pss_one (ps_ret pe_bl))
pss_nil)
(pss_cons (ps_for PassesOwn.never rfl (pi_list (pv 1)) (pg_name (i := 2) nd rfl (Or.inl rfl))
(pss_one (ps_if (pt_not (pt_val (C8.pe_c (ok_is_name T) hr (by decide) rfl (pa_cons (pv 2) pa_nil))))
(pss_one (ps_ret pe_bl))
pss_nil)))
(pss_one (ps_ret pe_bl)))))), ?_⟩
  dsimp only [cxOf, Cx.nox, Cx.wish]
  k_clsL
  cases x with
  | str z =>
    obtain ⟨hz1, hz2⟩ := hz z rfl
    have hz3 : z.length + 2 ≤ sizeLine := sz_lit' (by omega)
    refine ifnt ?_
    k_clsL
    k_places
    rename_i l nl H1 hS1 hL1
    k_clsL
    have k' : ∀ H', Same H H' → Q (.bl (!decide (4 < ((Txt.split z ".").length : Int)) && (Txt.split z ".").all nameB)) H' := k
    rw [List.length_map]
    refine ifd (fun c1 => ?_) (fun c1 => ?_)
    · k_clsL
      rw [decide_eq_true c1] at k'
      exact k' _ hS1
    rw [decide_eq_false c1] at k'
    k_clsL
    refine for_l (xs := (Txt.split z ".").map V.str) (fun _ v (p : Str) => v = .str p) (Txt.split z ".") (fun r σ H2 => ∃ v, σ = [some (.str z), some (.ref l), v] ∧ H2 = H1 ∧ (Txt.split z ".").all nameB = r.all nameB) ?_ ?_ ?_ ?_
    · exact ⟨_, rfl, rfl, rfl⟩
    · rintro r σ H2 ⟨v, rfl, rfl, _⟩
      exact ⟨SqL.of hL1, Pa.mapself V.str _⟩
    · rintro c r x σ H2 hc ⟨v, rfl, rfl, e⟩ rfl
      k_clsL
      refine ⟨_, rfl, .str c, fun z' e' => ?_, ?_⟩
      · cases e'
        exact hz2 c hc
      k_clsL
      rw [List.all_cons] at e
      refine ifnb (fun c3 => ?_) (fun c3 => ?_)
      · k_clsL
        have c3' : nameB c = false := c3
        rw [e, c3'] at k'
        exact k' _ hS1
      · have c3' : nameB c = true := c3
        k_clsL
        exact hold ⟨_, rfl, rfl, by rw [e, c3']; rfl⟩
    · rintro σ H2 ⟨v, rfl, rfl, e⟩
      k_clsL
      rw [e] at k'
      exact k' _ hS1
  | non => refine ifnf ?_; k_clsL; exact k _ (Same.refl _)
  | bl b => refine ifnf ?_; k_clsL; exact k _ (Same.refl _)
  | int i => refine ifnf ?_; k_clsL; exact k _ (Same.refl _)
  | byt b => cases hk
  | flt b => cases hk
  | ref a => refine ifnf ?_; k_clsL; exact k _ (Same.refl _)
  | ty n => cases hk
def sp_is_day (K : PySem.W.Frag) : Sp := fun vs H Q _ => ∃ x, vs = [x] ∧ Kd K H x ∧ Q (.bl (isDayV x)) H
theorem ok_is_day (T : Txt K mg) : C8.Cal P w K mg base 2 "is_day" (sp_is_day K) [] := by
  refine cal T.D_is_day T.g_is_day sc_is_day (fun _ _ _ _ _ _ us hl => match us, hl with | [_], _ => rfl) (fun vs H Q E h => ?_) (fun cdv A outer s H vs Q E hr h => ?_)
  · obtain ⟨x, rfl, _⟩ := h
    rfl
  obtain ⟨x, rfl, hk, k⟩ := h
  have nd := (sc_is_day).nd
  refine ⟨_, (pss_one (ps_ret (pe_and (C8.pe_c (ok_is_whole T) hr (by decide) rfl (pa_cons (pv 0) pa_nil)) (pe_one (pe_chain op_le op_le pe_int (pv 0) (C8.pe_gc rfl T.c_LAST_DAY)))))), ?_⟩
  dsimp only [cxOf, Cx.nox, Cx.wish]
  k_clsL
  refine ⟨_, rfl, hk, ?_⟩
  k_clsL
  cases x <;> first | exact iff k | skip
  rename_i i
  refine ift ?_
  k_clsL
  have k' : Q (.bl (decide (0 ≤ i) && decide (i ≤ 1000000))) H := k
  refine ifd (fun c => ?_) (fun c => ?_)
  · rw [decide_eq_true c] at k'
    k_clsL
    exact k'
  · rw [decide_eq_false c] at k'
    exact k'
def sp_is_amount (K : PySem.W.Frag) : Sp := fun vs H Q _ => ∃ x, vs = [x] ∧ Kd K H x ∧ Q (.bl (isAmtV x)) H
theorem ok_is_amount (T : Txt K mg) : C8.Cal P w K mg base 2 "is_amount" (sp_is_amount K) [] := by
  refine cal T.D_is_amount T.g_is_amount sc_is_amount (fun _ _ _ _ _ _ us hl => match us, hl with | [_], _ => rfl) (fun vs H Q E h => ?_) (fun cdv A outer s H vs Q E hr h => ?_)
  · obtain ⟨x, rfl, _⟩ := h
    rfl
  obtain ⟨x, rfl, hk, k⟩ := h
  have nd := (sc_is_amount).nd
  refine ⟨_, (pss_one (ps_ret (pe_and (C8.pe_c (ok_is_whole T) hr (by decide) rfl (pa_cons (pv 0) pa_nil)) (pe_one (pe_chain op_le op_le pe_int (pv 0) (C8.pe_gc rfl T.c_MOST_CENTS)))))), ?_⟩
  dsimp only [cxOf, Cx.nox, Cx.wish]
  k_clsL
  refine ⟨_, rfl, hk, ?_⟩
  k_clsL
  cases x <;> first | exact iff k | skip
  rename_i i
  refine ift ?_
  k_clsL
  have k' : Q (.bl (decide (0 ≤ i) && decide (i ≤ 999999999999))) H := k
  refine ifd (fun c => ?_) (fun c => ?_)
  · rw [decide_eq_true c] at k'
    k_clsL
    exact k'
  · rw [decide_eq_false c] at k'
    exact k'
def sp_year_of : Sp := fun vs H Q _ => ∃ d : Int, vs = [.int d] ∧ Q (.int (d / 365)) H
theorem ok_year_of (T : Txt K mg) : C8.Cal P w K mg base 1 "year_of" sp_year_of [] := by
  refine cal T.D_year_of T.g_year_of sc_year_of (fun _ _ _ _ _ _ us hl => match us, hl with | [_], _ => rfl) (fun vs H Q E h => ?_) (fun cdv A outer s H vs Q E hr h => ?_)
  · obtain ⟨x, rfl, _⟩ := h
    rfl
  obtain ⟨d, rfl, k⟩ := h
  have nd := (sc_year_of).nd
  refine ⟨_, (pss_one (ps_ret (pe_op op_fdiv (pv 0) (C8.pe_gc rfl T.c_YEAR)))), ?_⟩
  k_clsL
  exact k
/-! ### loss_of: a loss's tuple, or NoEntry -/
def sp_loss_of (K : PySem.W.Frag) : Sp := fun vs H Q E => ∃ n d e t c m : V, vs = [n, d, e, t, c, m] ∧ Kd K H n ∧ Kd K H d ∧ Kd K H e ∧ Kd K H t ∧ Kd K H c ∧ Kd K H m ∧ TxtOk e ∧ (∀ z, t = .str z → z.length ≤ 1000) ∧ (∀ z, c = .str z → z.length ≤ 1000) ∧
  (okLoss n d e t c m = true → ∀ p H', Same H H' → H p = none → H' p = some (.tup [n, d, e, t, c, m]) → Q (.ref p) H') ∧
  (okLoss n d e t c m = false → ∀ H', Same H H' → E (.ref (He.ga K "NoEntry")) none H')
theorem Kd.mono {H H' : Hp} {x : V} (S : Same H H') (h : Kd K H x) : Kd K H' x := by
  cases h with
  | non => exact .non
  | bl b => exact .bl b
  | int i => exact .int i
  | str z => exact .str z
  | lst h => exact .lst (S _ _ h)
  | tup h => exact .tup (S _ _ h)
theorem ok_loss_of (T : Txt K mg) : CalX P w K mg base 3 "loss_of" (sp_loss_of K) := by
  refine calx T.D_loss_of T.g_loss_of sc_loss_of (fun _ _ _ _ _ _ us hl => match us, hl with | [_, _, _, _, _, _], _ => rfl) (fun vs H Q E h => ?_) (fun cdv A outer s H vs Q E hr h => ?_)
  · obtain ⟨n, d, e, t, c, m, rfl, _⟩ := h
    rfl
  obtain ⟨n, d, e, t, c, m, rfl, kn, kd, ke, kt, kc, km, ze, zt, zc, k1, k2⟩ := h
  have nd := (sc_loss_of).nd
  unfold okLoss at k1 k2
  refine ⟨_, (pss_cons (ps_if (PW.pt (pw_or (pt_not (pt_val (C8.pe_c (ok_is_whole T) hr (by decide) rfl (pa_cons (pv 0) pa_nil)))) (pw_or (pt_cmpR op_lt (pv 0) pe_int (nomark _)) (pw_or1 (pt_cmpR op_gt (pv 0) (C8.pe_gc rfl T.c_LAST_NUMBER) (nomark _))))))
(pss_one (ps_raise rfl (takes_of rfl rfl rfl rfl) (pmk_own PySem.F.excBase_ValueError T.xc_NoEntry T.g_NoEntry T.kp_NoEntry (raises_own T.sb_NoEntry T.tp_NoEntry) rfl)))
pss_nil)
(pss_cons (ps_if (pt_not (pt_val (C8.pe_c (ok_is_day T) hr (by decide) rfl (pa_cons (pv 1) pa_nil))))
(pss_one (ps_raise rfl (takes_of rfl rfl rfl rfl) (pmk_own PySem.F.excBase_ValueError T.xc_NoEntry T.g_NoEntry T.kp_NoEntry (raises_own T.sb_NoEntry T.tp_NoEntry) rfl)))
pss_nil)
(pss_cons (ps_if (pt_not (pt_val (C8.pe_c (ok_is_event T) hr (by decide) rfl (pa_cons (pv 2) pa_nil))))
(pss_one (ps_raise rfl (takes_of rfl rfl rfl rfl) (pmk_own PySem.F.excBase_ValueError T.xc_NoEntry T.g_NoEntry T.kp_NoEntry (raises_own T.sb_NoEntry T.tp_NoEntry) rfl)))
pss_nil)
(pss_cons (ps_if (PW.pt (pw_or (pt_not (pt_val (C8.pe_c (ok_is_name T) hr (by decide) rfl (pa_cons (pv 3) pa_nil)))) (pw_or1 (pt_not (pt_val (C8.pe_c (ok_is_name T) hr (by decide) rfl (pa_cons (pv 4) pa_nil)))))))
(pss_one (ps_raise rfl (takes_of rfl rfl rfl rfl) (pmk_own PySem.F.excBase_ValueError T.xc_NoEntry T.g_NoEntry T.kp_NoEntry (raises_own T.sb_NoEntry T.tp_NoEntry) rfl)))
pss_nil)
(pss_cons (ps_if (PW.pt (pw_or (pt_not (pt_val (C8.pe_c (ok_is_amount T) hr (by decide) rfl (pa_cons (pv 5) pa_nil)))) (pw_or1 (pt_cmpR op_lt (pv 5) pe_int (nomark _)))))
(pss_one (ps_raise rfl (takes_of rfl rfl rfl rfl) (pmk_own PySem.F.excBase_ValueError T.xc_NoEntry T.g_NoEntry T.kp_NoEntry (raises_own T.sb_NoEntry T.tp_NoEntry) rfl)))
pss_nil)
(pss_one (ps_ret (pe_tup (pa_cons (pv 0) (pa_cons (pv 1) (pa_cons (pv 2) (pa_cons (pv 3) (pa_cons (pv 4) (pa_cons (pv 5) pa_nil)))))))))))))), ?_⟩
  dsimp only [cxOf]
  k_clsL
  refine ⟨_, rfl, kn, ?_⟩
  k_clsL
  refine ifnb (fun c0 => ?_) (fun c0 => ?_)
  · refine ift ?_
    exact k2 (by rw [rngB_no c0]; rfl) _ (Same.refl _)
  obtain ⟨i, rfl⟩ := wh_int c0
  k_clsL
  refine ifd (fun c1 => ?_) (fun c1 => ?_)
  · refine ift ?_
    exact k2 (by rw [show rngB 0 1000000000 (.int i) = false from by simp [rngB]; omega]; rfl) _ (Same.refl _)
  k_clsL
  refine ifd (fun c2 => ?_) (fun c2 => ?_)
  · exact k2 (by rw [show rngB 0 1000000000 (.int i) = false from by simp [rngB]; omega]; rfl) _ (Same.refl _)
  rw [show rngB 0 1000000000 (.int i) = true from by simp [rngB]; omega, Bool.true_and] at k1 k2
  k_clsL
  refine ⟨_, rfl, kd, ?_⟩
  k_clsL
  refine ifnb (fun c3 => ?_) (fun c3 => ?_)
  · exact k2 (by rw [c3]; rfl) _ (Same.refl _)
  rw [c3, Bool.true_and] at k1 k2
  k_clsL
  refine ⟨_, rfl, ke, ze, fun H1 hS1 => ?_⟩
  k_clsL
  refine ifnb (fun c4 => ?_) (fun c4 => ?_)
  · exact k2 (by rw [c4]; rfl) _ hS1
  rw [c4, Bool.true_and] at k1 k2
  k_clsL
  refine ⟨_, rfl, kt.mono hS1, zt, ?_⟩
  k_clsL
  refine ifnb (fun c5 => ?_) (fun c5 => ?_)
  · refine ift ?_
    exact k2 (by rw [c5]; rfl) _ hS1
  k_clsL
  refine ⟨_, rfl, kc.mono hS1, zc, ?_⟩
  k_clsL
  refine ifnb (fun c6 => ?_) (fun c6 => ?_)
  · exact k2 (by rw [c5, c6]; rfl) _ hS1
  rw [c5, c6] at k1 k2
  rw [Bool.true_and, Bool.true_and] at k1 k2
  k_clsL
  refine ⟨_, rfl, km.mono hS1, ?_⟩
  k_clsL
  refine ifnb (fun c7 => ?_) (fun c7 => ?_)
  · refine ift ?_
    exact k2 (rngB_le c7 (by decide)) _ hS1
  obtain ⟨j, rfl⟩ := rngB_int c7
  k_clsL
  refine ifd (fun c8 => ?_) (fun c8 => ?_)
  · exact k2 (by simp [rngB]; omega) _ hS1
  k_clsL
  k_places
  rename_i p np H2 hS2 hp
  refine k1 ?_ p H2 (hS1.trans hS2) (hS1.free np) hp
  have c7' : (decide (0 ≤ j) && decide (j ≤ 999999999999)) = true := c7
  show (decide (1 ≤ j) && decide (j ≤ 999999999999)) = true
  simp at c7' ⊢
  omega
end
end Cv
namespace Cv
open PySem PySem.Spec
open PyProof.Rows hiding St
open L2
/-! ### nested data: equality, order -/
theorem canAll {α : Type} (enc : α → PyData) : ∀ (ls : List α), (∀ b ∈ ls, (enc b).canLay0 = true) → PyData.canLayAll0 (ls.map enc) = true
  | [], _ => by simp [PyData.canLayAll0]
  | b :: bs, h => by
    rw [List.map_cons, PyData.canLayAll0, h b List.mem_cons_self, canAll enc bs fun x hx => h x (List.mem_cons_of_mem _ hx)]
    rfl
theorem depAll {α : Type} (enc : α → PyData) (n : Nat) : ∀ (ls : List α), (∀ b ∈ ls, (enc b).depth ≤ n) → PyData.depthAll (ls.map enc) ≤ n
  | [], _ => by simp [PyData.depthAll]
  | b :: bs, h => by
    rw [List.map_cons, PyData.depthAll]
    exact Nat.max_le.mpr ⟨h b List.mem_cons_self, depAll enc n bs fun x hx => h x (List.mem_cons_of_mem _ hx)⟩
theorem shapedL {α : Type} (enc : α → PyData) (ls : List α) (h : ∀ b ∈ ls, (enc b).canLay0 = true) (hd : ∀ b ∈ ls, (enc b).depth ≤ 60) : PySem.SeqAt.shaped (.list (ls.map enc)) = true := by
  have h1 := canAll enc ls h
  have h2 := depAll enc 60 ls hd
  unfold PySem.SeqAt.shaped
  rw [Bool.and_eq_true]
  refine ⟨by rw [PyData.canLay0]; exact h1, decide_eq_true ?_⟩
  rw [PyData.depth]
  omega
theorem shaped_tup (ds : List PyData) (h : PyData.canLayAll0 ds = true) (hd : PyData.depthAll ds ≤ 60) : PySem.SeqAt.shaped (.tuple ds) = true := by
  unfold PySem.SeqAt.shaped
  rw [Bool.and_eq_true]
  refine ⟨by rw [PyData.canLay0]; exact h, decide_eq_true ?_⟩
  rw [PyData.depth]
  omega
theorem dpAll {α : Type} {K : PySem.W.Frag} {H : Hp} {S : V → α → Prop} (enc : α → PyData) (h : ∀ v b, S v b → Dp K H v (enc b)) : ∀ {vs : List V} {bs : List α}, Paired S vs bs → DpAll K H vs (bs.map enc)
  | _, _, .nil => .nil
  | _, _, .cons r t => .cons (h _ _ r) (dpAll enc h t)
theorem eqvAll_map {α : Type} [DecidableEq α] (enc : α → PyData) (h : ∀ x y, PyData.eqv (enc x) (enc y) = decide (x = y)) : ∀ (a b : List α), PyData.eqvAll (a.map enc) (b.map enc) = decide (a = b)
  | [], [] => by simp [PyData.eqvAll]
  | [], _ :: _ => by simp [PyData.eqvAll]
  | _ :: _, [] => by simp [PyData.eqvAll]
  | x :: xs, y :: ys => by
    rw [List.map_cons, List.map_cons, PyData.eqvAll, h x y, eqvAll_map enc h xs ys]
    by_cases e : x = y
    · by_cases e2 : xs = ys
      · simp [e, e2]
      · simp [e, e2]
    · simp [e]
def encT (r : Int × Int × Int) : PyData := .tuple [.int r.1, .int r.2.1, .int r.2.2]
theorem encT_can (r : Int × Int × Int) : (encT r).canLay0 = true := by simp [encT, PyData.canLay0, PyData.canLayAll0]
theorem encT_dep (r : Int × Int × Int) : (encT r).depth ≤ 60 := by simp [encT, PyData.depth, PyData.depthAll]
end Cv
namespace Cv
open PySem PySem.Spec
open PyProof.Rows hiding St
open L2
/-! ### len(set(xs)) of distinct texts -/
def hasT (ys : List Str) (x : Str) : Bool := ys.any (· == x)
section
variable {prog : Program} {w : World} {A : Around} {E : Value → Shared → Prop} {s : Shared}
/-- the built-in's loop: what lies ahead of turn i is in the set -/
theorem set_turns {R : Result → Shared → Prop} {it : Addr} {fp wr : List Addr} {G : Array GenState → Array GenState → Prop} {n : Nat} {Pv : Nat → Value → Prop} {St : Nat → Shared → Prop} (W : WalksS prog w A.in1 it fp wr G n Pv St) {d : Addr} (hd : d ∉ fp) {ys : List Str} (hy : ys.length = n) (nd : ys.Nodup) (few : n < 1000)
    (val : ∀ i v, Pv i v → ∃ t, v = .str (ys.getD i Str.empty) t)
    (s0 : Shared)
    (last : ∀ s', Moved (d :: wr) G s0 s' → s'.heap.SetOf (PySem.strKind prog w) d (hasT ys) n → R (.ok (.ret .none)) s') :
    ∀ (k i : Nat) (s : Shared), i + k = n → St i s → Moved (d :: wr) G s0 s → s.heap.SetOf (PySem.strKind prog w) d (hasT (ys.take i)) i → codeAny (model prog w) A (.builtin "set.update.loop" ⟨[.ref d, .ref it], []⟩) R s := by
  have dw : d ∉ wr := fun h => hd (W.sub _ h)
  have up : ∀ b ∈ wr, b ∈ d :: wr := fun b => List.mem_cons_of_mem _
  intro k
  induction k with
  | zero =>
    intro i s e st mv S
    obtain rfl : i = n := e
    refine codeAny_builtin PyProof.Rows.F.entry_set_update_loop ?_
    rw [Around.under_plainId PyProof.Rows.F.plain_set_update_loop _]
    refine wpAny_bind (W.done s _ _ st fun s' hm => wpAny_pure (last s' (Moved.trans W.gtrans mv (hm.mono up)) ?_))
    rw [← hy, List.take_length] at S
    rw [hy] at S
    obtain ⟨o, es, ep, t, ho, r⟩ := S
    exact ⟨o, es, ep, t, hm.heap d _ dw ho, r⟩
  | succ k ih =>
    intro i s e st mv S
    have lt : i < n := by omega
    refine codeAny_builtin PyProof.Rows.F.entry_set_update_loop ?_
    rw [Around.under_plainId PyProof.Rows.F.plain_set_update_loop _]
    refine wpAny_bind (W.item i s _ _ lt st fun v s1 hv st1 hm => ?_)
    obtain ⟨t, rfl⟩ := val i v hv
    have S1 : s1.heap.SetOf (PySem.strKind prog w) d (hasT (ys.take i)) i := by
      obtain ⟨o, es, ep, tb, ho, r⟩ := S
      exact ⟨o, es, ep, tb, hm.heap d _ dw ho, r⟩
    refine wpAny_bind (wpAny_holding (show wpAny _ _ (setAdd d (.str (ys.getD i Str.empty) t)) _ _ _ from ?_))
    unfold setAdd
    refine wpAny_holding (wpAny_bind ((PySem.strKind prog w).pyHash (k := ys.getD i Str.empty) (strKind_is _ _ _ _) ?_))
    refine wpAny_setAddHashed_of (knd := PySem.strKind prog w) (s := { s1 with toks := s1.toks + 1 }) (strKind_is _ _ _ _) rfl S1 (by unfold scanBound; omega) fun h2 sb S2 => ?_
    have hi : i < ys.length := by omega
    have eg : ys.getD i Str.empty = ys[i] := by simp [hi]
    have fresh : hasT (ys.take i) (ys.getD i Str.empty) = false := by
      unfold hasT
      rw [List.any_eq_false]
      intro x hx he
      rw [List.mem_take_iff_getElem] at hx
      obtain ⟨j, hj, rfl⟩ := hx
      have e2 : ys[j] = ys[i] := by rw [← eg]; simpa using he
      exact List.pairwise_iff_getElem.mp nd j i (by omega) hi (by omega) e2
    have S3 : h2.SetOf (PySem.strKind prog w) d (hasT (ys.take (i + 1))) (i + 1) := by
      refine SetOf_congr S2 (fun x => ?_) (by rw [fresh]; rfl)
      unfold hasT
      rw [List.take_succ_eq_append_getElem hi, List.any_append, eg]
      simp only [List.any_cons, List.any_nil, Bool.or_false]
      congr 1
      by_cases e2 : x = ys[i]
      · simp [e2]
      · simp [e2, Ne.symm e2]
    have keep : ∀ b o, b ≠ d → s1.heap.get? b = some o → h2.get? b = some o := fun b o hb q => (sb.2 b hb).trans q
    refine wpAny_pure ⟨plainId_quiet PyProof.Rows.F.plain_set_update_loop _, ih (i + 1) _ (by omega) (W.frame _ s1 _ _ st1 (Nat.le_succ _) fun b hb o q => keep b o (fun e => hd (e ▸ hb)) q) (Moved.trans W.gtrans mv ((hm.mono up).then_heap (Nat.le_succ _) fun b o hb q => keep b o (fun e => hb (by rw [e]; exact List.mem_cons_self)) q)) S3⟩
set_option maxHeartbeats 3200000 in
theorem set_of_texts {l : Addr} {its : Array Value} {ys : List Str} {Q : Value → Shared → Prop} (hh : A.handled = none) (hl : s.heap.IsList l its) (hi : StrsAre its.toList ys) (nd : ys.Nodup) (few : ys.length < 1000)
    (h : ∀ (h' : Heap) (tk : Nat), h'.SetOf (PySem.strKind prog w) s.heap.objs.size (hasT ys) its.size → (∀ b o, b < s.heap.objs.size → s.heap.get? b = some o → h'.get? b = some o) → Q (.ref s.heap.objs.size) { s with heap := h', toks := tk }) :
    wpAny (model prog w) A (call (.type "set") [.ref l]) Q E s := by
  have hy : ys.length = its.size := by rw [← StrsAre.len_eq hi, Array.length_toList]
  obtain ⟨c, tl, hmro⟩ := PySem.F.called_set.mro
  have f1 := PySem.F.called_set.made
  have f2 := PySem.F.called_set.sub
  have f3 := PySem.F.called_set.notType
  have f4 := PySem.F.called_set.canCreate
  have f5 := PySem.F.typeCall_set_1 (.ref l)
  refine wpAny_call (codeAny_of_tree ?_)
  show wpAny _ _ (callAny (.type "set") _) _ _ _
  refine wpAny_pure ⟨Code.quiet_builtin _ (by decide +kernel), codeAny_builtin PySem.F.entry_type_call ?_⟩
  rw [Around.under_plain (weight_type_call_type "set" [.ref l] []) rfl]
  repeat (any_goals (first | assumption | wp_step))
  clear f1 f3 f4 f5
  refine codeAny_mono (code_set_new_1 (.ref l) (E := E) (Q₁ := fun obj s₁ => ∃ led : Bool, obj = .ref s.heap.objs.size ∧ s₁ = { s with heap := s.heap.push { cls := .type "set", dict := none, data := .set #[] 0 (.fresh 0 0 led) } }) fun led => ⟨led, rfl, rfl⟩) fun r s1 hr => ?_
  match r, hr with
  | .error e, hr => exact hr
  | .ok (.ret obj), hr =>
    obtain ⟨led, rfl, rfl⟩ := hr
    generalize hh1 : s.heap.push { cls := .type "set", dict := none, data := .set #[] 0 (.fresh 0 0 led) } = h1
    have hS : h1.get? s.heap.objs.size = some { cls := .type "set", dict := none, data := .set #[] 0 (.fresh 0 0 led) } := by rw [← hh1]; exact Heap.get?_push_size _ rfl
    have hk : ∀ b o, s.heap.get? b = some o → h1.get? b = some o := fun b o e => by rw [← hh1]; exact Heap.get?_push_of_some _ e
    have hz : h1.objs.size = s.heap.objs.size + 1 := by rw [← hh1]; exact Heap.size_push _ _
    clear hh1
    have hT : Shared.TypeIs { s with heap := h1 } (.ref s.heap.objs.size) "set" := ⟨_, hS, rfl⟩
    have g1 := PySem.F.called_set.init.lookup
    have g2 := PySem.F.called_set.init.bind (.ref s.heap.objs.size)
    repeat (any_goals (first | assumption | wp_step))
    refine codeAny_mono (codeAny_call_builtin (R := wants (fun r s₂ => r = .none ∧ ∃ h' tk, s₂ = { s with heap := h', toks := tk } ∧ h'.SetOf (PySem.strKind prog w) s.heap.objs.size (hasT ys) its.size ∧
        (∀ b o, b < s.heap.objs.size → s.heap.get? b = some o → h'.get? b = some o)) E) PySem.F.called_set.init.plain PySem.F.entry_set_init (check_set_init_1 hT ?_)) fun r2 s2 hr2 => ?_
    · obtain ⟨⟨_, odict, _, oslots⟩, hol, rfl, nl, rfl⟩ := hl
      have hol1 := hk _ _ hol
      have hlt : l < s.heap.objs.size := Heap.lt_size hol
      have p1 := PySem.F.sub_list_set
      have p2 := PySem.F.sub_list_frozenset
      clear g1 g2 hT
      have p3 : (Value.type "list" == Value.type "dict") = false := by decide
      have hl1 : h1.IsList l its := ⟨_, hol1, rfl, nl, rfl⟩
      unfold Builtin.«set.__init__» noKeywords Builtin.Frozenset.updateFrom
      generalize hPI : pyIter = PI
      wp_walk
      subst hPI
      refine wpAny_pyIter_list hl1 (wpAny_bind (wpAny_runValue ?_))
      have hh3 : A.in1.in1.in1.handled = none := by simp [hh]
      have d1 : l ≠ h1.objs.size := by rw [hz]; exact Nat.ne_of_lt (Nat.lt_succ_of_lt hlt)
      have d2 : s.heap.objs.size ∉ [h1.objs.size, l] := by
        rw [hz]
        simp only [List.mem_cons, List.not_mem_nil, or_false, not_or]
        exact ⟨Nat.ne_of_lt (Nat.lt_succ_self _), Nat.ne_of_gt hlt⟩
      have W := (Walks.list (prog := prog) (w := w) hh3 _ l d1 its).toS
      refine set_turns W d2 hy nd (by omega) (fun i v hv => SS.strs_at hi i v (by rw [Array.getElem?_toList]; exact hv)) _ (fun s' hm S' => ?_) its.size 0 _ (by omega) ⟨⟨_, Heap.get?_push_size _ rfl, rfl, rfl⟩, hl1.push _⟩ ⟨fun _ _ _ e => e, W.grefl _, rfl, rfl, Nat.le_refl _⟩ ?_
      · obtain ⟨h', g', d', tk', os'⟩ := s'
        cases hm.gens
        cases hm.drawn
        cases hm.os
        refine wpAny_pure (wpAny_pure ⟨rfl, h', tk', rfl, S', fun b o hb e => ?_⟩)
        refine hm.heap b o ?_ (Heap.get?_push_of_some _ (hk b o e))
        rw [hz]
        simp only [List.mem_cons, List.not_mem_nil, or_false, not_or]
        exact ⟨Nat.ne_of_lt hb, Nat.ne_of_lt (Nat.lt_succ_of_lt hb)⟩
      · have hget := Heap.get?_push_of_some { cls := .type "list_iterator", data := .fields #[.ref l, .int 0 0] } hS
        exact SetOf_congr ((setObjOf_fresh (knd := PySem.strKind prog w) led).setOf hget (by unfold scanBound; omega)) (fun _ => rfl) rfl
    · match r2, hr2 with
      | .error e, hr2 => exact hr2
      | .ok (.ret u), hr2 =>
        obtain ⟨rfl, h', tk, rfl, S', k'⟩ := hr2
        repeat (any_goals (first | assumption | wp_step))
        exact h _ _ S' k'
end
/-- len(set(xs)), xs a list of distinct texts -/
def tLenSetN (K : PySem.W.Frag) (ta : TE) : TE := fun σ H Q => ta σ H fun x H1 => ∃ (l : Addr) (ys : List Str), x = .ref l ∧ SqL K H1 l (ys.map V.str) ∧ ys.Nodup ∧ ys.length < 1000 ∧ Q (.int (ys.length : Nat)) H1
theorem pe_lenSet {X : Cx} {a : Expr} {ta : TE} {p p2 q pos : Pos} (ha : PE X a ta) (hm : X.mg "len" = none) (hm2 : X.mg "set" = none) (hc : X.calm = true := by rfl) (hg : Gl X "len" := by rfl) (hg2 : Gl X "set" := by rfl)
    (na : starEach [a] X.env = (false, eval a X.env) :: starEach [] X.env := by rfl) : PE X (.Call (.Name "len" p) [.Call (.Name "set" p2) [a] [] q] [] pos) (tLenSetN X.K ta) := by
  refine ⟨fun pins s σ H Q I h => Call_ (ld_blt I hg hm PySem.boot_len ?_)⟩
  refine PyProof.Rows.callWith_builtin1 (PyProof.Rows.args_cons ?_ rfl) rfl rfl
  refine Call_ (ld_blt I hg2 hm2 PyProof.Rows.boot_set ?_)
  refine PyProof.Rows.callWith_type1 (PyProof.Rows.args_cons (thn (ha.run pins s σ H _ I h) fun v s1 ⟨x, H1, I1, r1, q1⟩ => PyProof.Rows.args_nil ?_) na) na rfl
  obtain ⟨l, ys, rfl, hq, nd, few, q1⟩ := q1
  cases r1
  obtain ⟨its, r, pl, hz⟩ := I1.list hq
  have hl : its.toArray.size = ys.length := by rw [List.size_toArray, ← r.length, List.length_map]
  refine set_of_texts (I1.ok.hd hc) pl.isList (by simpa using strsAre_of r) nd few fun h' tk S k => PyProof.Rows.args_nil ?_
  rw [hl] at S
  obtain ⟨o, es, ep, t, ho, hex, hd, _, _, _, hf, hn⟩ := S
  have I2 : Inv X pins σ H1 { s1 with heap := h', toks := tk } := I1.kept fun b o e => k b o (Heap.lt_size e) e
  exact call_len_set ho hex hd hf (by rw [hn] <;> omega) ⟨.int ys.length, H1, I2.tok _, ⟨_, by rw [hn]⟩, q1⟩
end Cv
namespace Cv
open PySem PySem.Spec
open PyProof.Rows hiding St
open L2
/-! ### sorted(xs) of tuples that read as data -/
section
variable {β : Type}
def rSortedX (K : PySem.W.Frag) (S : Hp → V → β → Prop) (enc : β → PyData) : List V → Hp → VK → Prop := fun vs H Q => ∃ (a : Addr) (xs : List V) (bs : List β), vs = [V.ref a] ∧ SqL K H a xs ∧ Paired (S H) xs bs ∧
  ∀ p ys, H p = none → Paired (S H) ys (bs.mergeSort (PySem.W.dataLe false enc)) → Q (.ref p) (upd H p (.lst ys))
theorem each_of {R : V → β → Prop} : ∀ {xs : List V} {us : List Value} {bs : List β}, Vals xs us → Paired R xs bs → PySem.W.EachIs (fun u b => ∃ v, RelV v u ∧ R v b) us bs
  | _, _, _, .nil, .nil => .nil
  | _, _, _, .cons r t, .cons q p => .cons ⟨_, r, q⟩ (each_of t p)
theorem of_each {R : V → β → Prop} : ∀ {us : List Value} {bs : List β}, PySem.W.EachIs (fun u b => ∃ v, RelV v u ∧ R v b) us bs → ∃ xs, Vals xs us ∧ Paired R xs bs
  | _, _, .nil => ⟨[], .nil, .nil⟩
  | _, _, .cons ⟨v, r, q⟩ t => by
    obtain ⟨xs, h1, h2⟩ := of_each t
    exact ⟨v :: xs, .cons r h1, .cons q h2⟩
theorem cr_sortedX {X : Cx} {S : Hp → V → β → Prop} {enc : β → PyData} (hu : X.A.units + 64 < cLine) (hS : ∀ H v b, S H v b → Dp X.K H v (enc b)) (al : ∀ b b', PySem.W.alike (enc b) (enc b') = true) (st : ∀ b, ∃ x r, enc b = .tuple (x :: r)) (dep : ∀ b, (enc b).depth ≤ 4) :
    CallR X (.builtin "sorted") (rSortedX X.K S enc) := by
  intro pins s σ H vs us Q I r h
  obtain ⟨a, xs, bs, rfl, hs, hp, q⟩ := h
  obtain ⟨its, rv, hl, hz⟩ := I.list hs
  rw [Vals.ref1 r]
  have e := each_of rv hp
  have hb : bs.length ≤ sizeLine := by rw [← hp.length]; exact hz
  refine PySem.W.sorted_data (R := fun u b => ∃ v, RelV v u ∧ S H v b) hl.isList e (e.mono fun u b ⟨v, r, q⟩ => (hS H v b q).reads I _ _ _ r) (PySem.W.AllAlike.of al) (PySem.W.Sortable.tuples st) hb (fun b _ => by have := dep b; omega) fun out ho eo => ?_
  obtain ⟨ys, ry, py⟩ := of_each eo
  obtain ⟨ep, he⟩ := PyProof.Rows.sortedAll_at s.heap its out.toArray
  refine ⟨.ref _, upd H (s.heap.objs.size + 1) (.lst ys), I.laid (t' := s.toks) (fun _ _ => PyProof.Rows.sortedAll_old) (Nat.le_succ _) ⟨?_, out, ep, ry, he⟩, rfl, q _ _ (I.hok.fresh (Nat.le_succ _)) py⟩
  rw [ry.length, ho]
  exact hb
end
end Cv
namespace Cv
open PySem PySem.Spec
open PyProof.Rows hiding St
open L2
/-! ### losses, clauses: the mirror and how they stand -/
structure LossM where
  n : Int
  d : Int
  e : Str
  t : Str
  c : Str
  m : Int
  deriving DecidableEq
def LossM.vs (l : LossM) : List V := [.int l.n, .int l.d, .str l.e, .str l.t, .str l.c, .int l.m]
def LossV (H : Hp) (v : V) (l : LossM) : Prop := ∃ a, v = .ref a ∧ H a = some (.tup [.int l.n, .int l.d, .str l.e, .str l.t, .str l.c, .int l.m])
theorem LossV.tk {H H' : Hp} {v : V} {r : LossM} (T : TK H H') (h : LossV H v r) : LossV H' v r := by
  obtain ⟨t, e, h⟩ := h
  exact ⟨t, e, T _ _ h⟩
/-- but for what stands at p all stays -/
def But (p : Addr) (H H' : Hp) : Prop := ∀ a o, H a = some o → a ≠ p → H' a = some o
theorem But.refl (p : Addr) (H : Hp) : But p H H := fun _ _ h _ => h
theorem But.trans {p : Addr} {H H1 H2 : Hp} (a : But p H H1) (b : But p H1 H2) : But p H H2 := fun x o h n => b x o (a x o h n) n
theorem _root_.L2.Same.but {p : Addr} {H H' : Hp} (S : Same H H') : But p H H' := fun a o h _ => S a o h
theorem But.mut {p : Addr} {H0 H : Hp} {o : HO} (B : But p H0 H) : But p H0 (upd H p o) := fun a u h n => by
  rw [upd_ne n]
  exact B a u h n
/-- what C(..) makes, once __init__ has run -/
theorem But.made {H H' : Hp} {x dx : Addr} {o u : HO} (hx : H x = none) (hd : H dx = none) (B : But x (upd (upd H dx o) x u) H') : Same H H' := fun a v h => by
  refine B a v ?_ (ne_of_none h hx)
  rw [upd_ne (ne_of_none h hx), upd_ne (ne_of_none h hd)]
  exact h
def waysL : List Str := ["event", "thing", "year", "loss"]
inductive ClM where
  | own (by_ : Str) (n : Int)
  | layer (by_ : Str) (lo hi : Int)
  | limit (by_ : Str) (n : Int)
  deriving DecidableEq
inductive Ck where
  | own | layer | limit
def ckA (K : PySem.W.Frag) : Ck → Addr
  | .own => He.ga K "Own"
  | .layer => He.ga K "Layer"
  | .limit => He.ga K "Limit"
def ClM.ck : ClM → Ck
  | .own _ _ => .own
  | .layer _ _ _ => .layer
  | .limit _ _ => .limit
def ClM.by_ : ClM → Str
  | .own b _ => b
  | .layer b _ _ => b
  | .limit b _ => b
def ClM.fs : ClM → List (Str × V)
  | .own b n => [("by", .str b), ("cents", .int n)]
  | .layer b lo hi => [("by", .str b), ("first", .int lo), ("upto", .int hi)]
  | .limit b n => [("by", .str b), ("most", .int n)]
/-- a clause that the program takes -/
def ClM.ok : ClM → Prop
  | .own b n => b ∈ waysL ∧ isAmtV (.int n) = true
  | .layer b lo hi => b ∈ waysL ∧ isAmtV (.int lo) = true ∧ isAmtV (.int hi) = true ∧ lo < hi
  | .limit b n => b ∈ waysL ∧ isAmtV (.int n) = true
def ClV (K : PySem.W.Frag) (H : Hp) (v : V) (c : ClM) : Prop := ∃ a dx, v = .ref a ∧ H a = some (.ins (ckA K c.ck) dx c.fs)
theorem ClV.same {K : PySem.W.Frag} {H H' : Hp} {v : V} {c : ClM} (S : Same H H') (h : ClV K H v c) : ClV K H' v c := by
  obtain ⟨a, dx, e, h⟩ := h
  exact ⟨a, dx, e, S _ _ h⟩
def keyM (b : Str) (l : LossM) : Key := if V.str b = .str "event" then .inr l.e else if V.str b = .str "thing" then .inr l.t else if V.str b = .str "year" then .inl (l.d / 365) else .inl l.n
def spanM (c : ClM) (count cents : Int) : Int × Int := match c with
  | .own _ n => (imin cents (imax 0 (n - count)), cents)
  | .layer _ lo hi => (imin cents (imax 0 (lo - count)), imax (imin cents (imax 0 (lo - count))) (imin cents (imax 0 (hi - count))))
  | .limit _ _ => (0, cents)
def roomM (c : ClM) (paid : Int) : V := match c with
  | .limit _ n => .int (imax 0 (n - paid))
  | _ => .non
section
variable {P : Program} {w : World} {K : PySem.W.Frag} {mg : Str → Option Value} {base : Heap}
def sp_need_amount (K : PySem.W.Frag) : Sp := fun vs H Q _ => ∃ i : Int, vs = [.int i] ∧ isAmtV (.int i) = true ∧ Q (.int i) H
theorem ok_need_amount (T : Txt K mg) : C8.Cal P w K mg base 3 "need_amount" (sp_need_amount K) [] := by
  refine cal T.D_need_amount T.g_need_amount sc_need_amount (fun _ _ _ _ _ _ us hl => match us, hl with | [_], _ => rfl) (fun vs H Q E h => ?_) (fun cdv A outer s H vs Q E hr h => ?_)
  · obtain ⟨x, rfl, _⟩ := h
    rfl
  obtain ⟨i, rfl, hi, k⟩ := h
  have nd := (sc_need_amount).nd
  refine ⟨_, (pss_cons (ps_if (pt_not (pt_val (C8.pe_c (ok_is_amount T) hr (by decide) rfl (pa_cons (pv 0) pa_nil))))
(pss_one ps_never)
pss_nil)
(pss_one (ps_ret (pv 0)))), ?_⟩
  try dsimp only [cxOf, Cx.nox, Cx.wish]
  k_clsL
  refine ⟨_, rfl, .int i, ?_⟩
  rw [hi]
  k_clsL
  exact k
/-! ### __init__ -/
def sp_Clause_init (K : PySem.W.Frag) : Sp := fun vs H Q _ => ∃ (a C dx : Addr) (b : Str), vs = [.ref a, .str b] ∧ H a = some (.ins C dx []) ∧ Cls K C ∧ NoAttr K C "by" ∧ b ∈ waysL ∧ Q .non (upd H a (.ins C dx [("by", .str b)]))
theorem fn_Clause_init (T : Txt K mg) : ∃ fd, FnOk P w K mg base C8.CX0 1 (He.ma K (He.ga K "Clause") "__init__") fd ["self", "by"] (sp_Clause_init K) ∧ Binds K fd ["self", "by"] [] := by
  obtain ⟨fd, F⟩ := T.D_Clause_init
  refine ⟨fd, F.ok sc_Clause_init (fun vs H Q E h => ?_) (fun cdv A outer s H vs Q E hr h => ?_), F.bindsN (fun _ _ _ _ _ _ us hl => match us, hl with | [_, _], _ => rfl)⟩
  · obtain ⟨a, C, dx, b, rfl, _⟩ := h
    rfl
  obtain ⟨a, C, dx, b, rfl, ha, hc, hn, hb, k⟩ := h
  have nd := (sc_Clause_init).nd
  refine ⟨_, PSs.nox (pss_cons (ps_if (pt_cmpR op_notIn_seq (pv 1) (C8.pe_gc rfl T.c_WAYS) rfl)
(pss_one ps_never)
pss_nil)
(pss_one (ps_fld (pv 0) (pv 1) rfl))), ?_⟩
  try dsimp only [cxOf, Cx.nox, Cx.wish]
  k_clsL
  refine ⟨_, _, rfl, .inr (He.tupB_ok T.ways H), rfl, rfl, ?_⟩
  refine ⟨_, rfl, ?_⟩
  have : inV (.str b) (List.map (He.Dv.v K) [.str "event", .str "thing", .str "year", .str "loss"]) = true := by
    rcases List.mem_cons.mp hb with rfl | hb
    · rfl
    rcases List.mem_cons.mp hb with rfl | hb
    · rfl
    rcases List.mem_cons.mp hb with rfl | hb
    · rfl
    rcases List.mem_cons.mp hb with rfl | hb
    · rfl
    cases hb
  rw [this]
  refine iff ?_
  k_clsL
  exact k
theorem pe_cinit_Clause {X : Cx} {pl : Sem Bool} {j : Nat} {p1 p2 pos : Pos} {e : Expr} {es : List Expr} {t : TA} (T : Txt X.K X.mg) (hr : Room j X.A) (hg : Gl X "Clause") (hk : 1 ≤ j) (ha : PA X (e :: es) t)
    (hc : eval (.Call (.Attribute (.Name "Clause" p1) "__init__" p2) (e :: es) [] pos) X.env = (do
      let ov ← eval (.Name "Clause" p1) X.env
      standAt p2.atName
      let (f, first) ← holding [ov] (getMethod ov "__init__" pl)
      callWith pos f first (backTo pos (starEach (e :: es) X.env)) (backToKw pos (keywordEach [] X.env))) := by rfl)
    (he : starEach (e :: es) X.env = (false, eval e X.env) :: starEach es X.env := by rfl) (hpl : (backTo pos (starEach es X.env)).any (·.1) = false := by rfl) :
    PE X (.Call (.Attribute (.Name "Clause" p1) "__init__" p2) (e :: es) [] pos) (tCall (sp_Clause_init X.K) [] C8.E0 t) := by
  obtain ⟨fd, F, b⟩ := fn_Clause_init (P := X.prog) (w := X.w) (base := X.base) T
  exact pe_cinit (pl := pl) T.rr_Clause T.rg_Clause T.ri_Clause T.kclause F b hr hk hg T.g_Clause ha (by decide) hc he hpl
def sp_Own_init (K : PySem.W.Frag) : Sp := fun vs H Q _ => ∃ (a dx : Addr) (b : Str) (n : Int), vs = [.ref a, .str b, .int n] ∧ H a = some (.ins (He.ga K "Own") dx []) ∧ (ClM.own b n).ok ∧ ∀ H', But a H H' → H' a = some (.ins (He.ga K "Own") dx (ClM.own b n).fs) → Q .non H'
theorem mk_Own (T : Txt K mg) : C8.Mak P w K mg base 4 "Own" (He.ga K "Own") (sp_Own_init K) [] := by
  refine mak T.D_Own_init T.g_Own T.k_Own sc_Own_init (fun _ _ _ _ _ _ us hl => match us, hl with | [_, _, _], _ => rfl) (fun vs H Q E h => ?_) (fun cdv A outer s H vs Q E hr h => ?_)
  · obtain ⟨a, dx, b, n, rfl, _⟩ := h
    rfl
  obtain ⟨a, dx, b, n, rfl, ha, ⟨hb, hn⟩, k⟩ := h
  have nd := (sc_Own_init).nd
  refine ⟨_, (pss_cons (ps_expr (Cv.pe_cinit_Clause T hr rfl (by decide) (pa_cons (pv 0) (pa_cons (pv 1) pa_nil))))
(pss_one (ps_fld (pv 0) (C8.pe_c (ok_need_amount T) hr (by decide) rfl (pa_cons (pv 2) pa_nil)) rfl))), ?_⟩
  try dsimp only [cxOf, Cx.nox, Cx.wish]
  k_clsL
  refine ⟨_, _, _, _, rfl, ha, T.cl_Own, T.no_Own_by, hb, ?_⟩
  k_clsL
  refine ⟨_, rfl, hn, ?_⟩
  have hS := upd_same (H := H) (a := a) (o := .ins (He.ga K "Own") dx [("by", V.str b)])
  have hC := T.cl_Own
  have hN := T.no_Own_cents
  k_clsL
  exact k _ (But.refl _ _).mut.mut upd_same
def sp_Layer_init (K : PySem.W.Frag) : Sp := fun vs H Q _ => ∃ (a dx : Addr) (b : Str) (n m : Int), vs = [.ref a, .str b, .int n, .int m] ∧ H a = some (.ins (He.ga K "Layer") dx []) ∧ (ClM.layer b n m).ok ∧ ∀ H', But a H H' → H' a = some (.ins (He.ga K "Layer") dx (ClM.layer b n m).fs) → Q .non H'
theorem mk_Layer (T : Txt K mg) : C8.Mak P w K mg base 4 "Layer" (He.ga K "Layer") (sp_Layer_init K) [] := by
  refine mak T.D_Layer_init T.g_Layer T.k_Layer sc_Layer_init (fun _ _ _ _ _ _ us hl => match us, hl with | [_, _, _, _], _ => rfl) (fun vs H Q E h => ?_) (fun cdv A outer s H vs Q E hr h => ?_)
  · obtain ⟨a, dx, b, n, m, rfl, _⟩ := h
    rfl
  obtain ⟨a, dx, b, n, m, rfl, ha, ⟨hb, hn, hm, hlt⟩, k⟩ := h
  have nd := (sc_Layer_init).nd
  refine ⟨_, (pss_cons (ps_expr (Cv.pe_cinit_Clause T hr rfl (by decide) (pa_cons (pv 0) (pa_cons (pv 1) pa_nil))))
(pss_cons (ps_fld (pv 0) (C8.pe_c (ok_need_amount T) hr (by decide) rfl (pa_cons (pv 2) pa_nil)) rfl)
(pss_cons (ps_fld (pv 0) (C8.pe_c (ok_need_amount T) hr (by decide) rfl (pa_cons (pv 3) pa_nil)) rfl)
(pss_one (ps_if (pt_cmpR op_ge (pv 2) (pv 3) (nomark _))
(pss_one ps_never)
pss_nil))))), ?_⟩
  try dsimp only [cxOf, Cx.nox, Cx.wish]
  k_clsL
  refine ⟨_, _, _, _, rfl, ha, T.cl_Layer, T.no_Layer_by, hb, ?_⟩
  k_clsL
  refine ⟨_, rfl, hn, ?_⟩
  have hS := upd_same (H := H) (a := a) (o := .ins (He.ga K "Layer") dx [("by", V.str b)])
  have hC := T.cl_Layer
  have hN := T.no_Layer_first
  k_clsL
  refine ⟨_, rfl, hm, ?_⟩
  have hS2 := upd_same (H := upd H a (.ins (He.ga K "Layer") dx [("by", V.str b)])) (a := a) (o := .ins (He.ga K "Layer") dx (putF "first" (V.int n) [("by", V.str b)]))
  have hN2 := T.no_Layer_upto
  k_clsL
  refine ifd (fun c => absurd hlt (by omega)) (fun c => ?_)
  k_clsL
  exact k _ (But.refl _ _).mut.mut.mut upd_same
def sp_Limit_init (K : PySem.W.Frag) : Sp := fun vs H Q _ => ∃ (a dx : Addr) (b : Str) (n : Int), vs = [.ref a, .str b, .int n] ∧ H a = some (.ins (He.ga K "Limit") dx []) ∧ (ClM.limit b n).ok ∧ ∀ H', But a H H' → H' a = some (.ins (He.ga K "Limit") dx (ClM.limit b n).fs) → Q .non H'
theorem mk_Limit (T : Txt K mg) : C8.Mak P w K mg base 4 "Limit" (He.ga K "Limit") (sp_Limit_init K) [] := by
  refine mak T.D_Limit_init T.g_Limit T.k_Limit sc_Limit_init (fun _ _ _ _ _ _ us hl => match us, hl with | [_, _, _], _ => rfl) (fun vs H Q E h => ?_) (fun cdv A outer s H vs Q E hr h => ?_)
  · obtain ⟨a, dx, b, n, rfl, _⟩ := h
    rfl
  obtain ⟨a, dx, b, n, rfl, ha, ⟨hb, hn⟩, k⟩ := h
  have nd := (sc_Limit_init).nd
  refine ⟨_, (pss_cons (ps_expr (Cv.pe_cinit_Clause T hr rfl (by decide) (pa_cons (pv 0) (pa_cons (pv 1) pa_nil))))
(pss_one (ps_fld (pv 0) (C8.pe_c (ok_need_amount T) hr (by decide) rfl (pa_cons (pv 2) pa_nil)) rfl))), ?_⟩
  try dsimp only [cxOf, Cx.nox, Cx.wish]
  k_clsL
  refine ⟨_, _, _, _, rfl, ha, T.cl_Limit, T.no_Limit_by, hb, ?_⟩
  k_clsL
  refine ⟨_, rfl, hn, ?_⟩
  have hS := upd_same (H := H) (a := a) (o := .ins (He.ga K "Limit") dx [("by", V.str b)])
  have hC := T.cl_Limit
  have hN := T.no_Limit_most
  k_clsL
  exact k _ (But.refl _ _).mut.mut upd_same
/-! ### key -/
def sp_key (K : PySem.W.Frag) (i : Ck) : Sp := fun vs H Q _ => ∃ (v lv : V) (c : ClM) (l : LossM), vs = [v, lv] ∧ c.ck = i ∧ ClV K H v c ∧ LossV H lv l ∧ Q (kV (keyM c.by_ l)) H
def sp_key0 (K : PySem.W.Frag) (C : Addr) : Sp := fun vs H Q _ => ∃ (a dx : Addr) (fs : List (Str × V)) (b : Str) (lv : V) (l : LossM), vs = [.ref a, lv] ∧ H a = some (.ins C dx fs) ∧ fs.lookup ("by" : Str) = some (.str b) ∧ LossV H lv l ∧ Q (kV (keyM b l)) H
theorem me_key0 (T : Txt K mg) {C f : Addr} (F : ∃ fd, FunD K "key" d_Clause_key.qual d_Clause_key.params d_Clause_key.body d_Clause_key.scope [] [] f fd) (cl : Cls K C) (m : Meth K C "key" f) (na : NoAttr K C "by") : C8.Met P w K mg base 2 C "key" (sp_key0 K C) [] := by
  refine met F cl m sc_Clause_key (fun _ _ _ _ _ _ us hl => match us, hl with | [_, _], _ => rfl) (fun vs H Q E h => ?_) (fun cdv A outer s H vs Q E hr h => ?_)
  · obtain ⟨a, dx, fs, b, lv, l, rfl, _⟩ := h
    rfl
  obtain ⟨a, dx, fs, b, lv, l, rfl, ha, hf, ⟨p, rfl, hl⟩, k⟩ := h
  have nd := (sc_Clause_key).nd
  unfold keyM at k
  refine ⟨_, (pss_cons (ps_if (pt_cmpR op_eq (pe_fld (pv 0) rfl) pe_str (nomark _))
(pss_one (ps_ret (pe_ix ix_tup (pv 1) pe_int (fun _ _ => rfl))))
pss_nil)
(pss_cons (ps_if (pt_cmpR op_eq (pe_fld (pv 0) rfl) pe_str (nomark _))
(pss_one (ps_ret (pe_ix ix_tup (pv 1) pe_int (fun _ _ => rfl))))
pss_nil)
(pss_cons (ps_if (pt_cmpR op_eq (pe_fld (pv 0) rfl) pe_str (nomark _))
(pss_one (ps_ret (C8.pe_c (ok_year_of T) hr (by decide) rfl (pa_cons (pe_ix ix_tup (pv 1) pe_int (fun _ _ => rfl)) pa_nil))))
pss_nil)
(pss_one (ps_ret (pe_ix ix_tup (pv 1) pe_int (fun _ _ => rfl))))))), ?_⟩
  try dsimp only [cxOf, Cx.nox, Cx.wish]
  k_clsL
  refine ifd (fun c => ?_) (fun c => ?_)
  · rw [if_pos c] at k
    k_clsL
    exact k
  rw [if_neg c] at k
  k_clsL
  refine ifd (fun c => ?_) (fun c => ?_)
  · rw [if_pos c] at k
    k_clsL
    exact k
  rw [if_neg c] at k
  k_clsL
  refine ifd (fun c => ?_) (fun c => ?_)
  · rw [if_pos c] at k
    k_clsL
    refine ⟨_, rfl, k⟩
  rw [if_neg c] at k
  k_clsL
  exact k
/-- any one of some readings -/
def tAny {ι : Type} (t : ι → TE) : TE := fun σ H Q => ∃ i, t i σ H Q
theorem pe_any {X : Cx} {ι : Type} {e : Expr} {t : ι → TE} (h : ∀ i, PE X e (t i)) : PE X e (tAny t) := ⟨fun pins s σ H Q I ⟨i, q⟩ => (h i).run pins s σ H Q I q⟩
theorem rd_any {ι : Type} {t : ι → TE} {σ : St} {H : Hp} {Q : VK} (i : ι) (h : t i σ H Q) : tAny t σ H Q := ⟨i, h⟩
theorem me_key (T : Txt K mg) (i : Ck) : C8.Met P w K mg base 2 (ckA K i) "key" (sp_key0 K (ckA K i)) [] := by
  cases i
  · exact me_key0 T T.D_Own_key T.cl_Own T.m_Own_key T.no_Own_by
  · exact me_key0 T T.D_Layer_key T.cl_Layer T.m_Layer_key T.no_Layer_by
  · exact me_key0 T T.D_Limit_key T.cl_Limit T.m_Limit_key T.no_Limit_by
/-- clause.key(loss) -/
def tKey (K : PySem.W.Frag) (ta : TE) (t : TA) : TE := tAny fun i => tMeth (ckA K i) "key" (sp_key0 K (ckA K i)) [] C8.E0 ta t
theorem pe_key {X : Cx} {j : Nat} {o : Expr} {apos pos : Pos} {e : Expr} {es : List Expr} {ta : TE} {t : TA} {pl : Sem Bool} (T : Txt X.K X.mg) (hr : Room j X.A) (hk : 2 ≤ j) (he : PE X o ta) (ha : PA X (e :: es) t)
    (hst : starEach (e :: es) X.env = (false, eval e X.env) :: starEach es X.env := by rfl) (hpl : (backTo pos (starEach es X.env)).any (·.1) = false := by rfl)
    (ht : eval (.Call (.Attribute o "key" apos) (e :: es) [] pos) X.env = (do
      let ov ← eval o X.env
      standAt apos.atName
      let (f, first) ← holding [ov] (getMethod ov "key" pl)
      callWith pos f first (backTo pos (starEach (e :: es) X.env)) (backToKw pos (keywordEach [] X.env))) := by rfl) :
    PE X (.Call (.Attribute o "key" apos) (e :: es) [] pos) (tKey X.K ta t) := pe_any fun i => C8.pe_mt (pl := pl) (me_key T i) hr hk he ha hst hpl ht
theorem ClM.nokey (c : ClM) : c.fs.lookup ("key" : Str) = none := by cases c <;> rfl
theorem ClM.nospan (c : ClM) : c.fs.lookup ("span" : Str) = none := by cases c <;> rfl
theorem ClM.noroom (c : ClM) : c.fs.lookup ("room" : Str) = none := by cases c <;> rfl
theorem ClM.hby (c : ClM) : c.fs.lookup ("by" : Str) = some (.str c.by_) := by cases c <;> rfl
/-! ### span, room -/
def sp_span (K : PySem.W.Frag) (i : Ck) : Sp := fun vs H Q _ => ∃ (a dx : Addr) (c : ClM) (n m : Int), vs = [.ref a, .int n, .int m] ∧ c.ck = i ∧ H a = some (.ins (ckA K i) dx c.fs) ∧
  ∀ p H', Same H H' → H p = none → H' p = some (.tup [.int (spanM c n m).1, .int (spanM c n m).2]) → Q (.ref p) H'
theorem me_span (T : Txt K mg) (i : Ck) : C8.Met P w K mg base 1 (ckA K i) "span" (sp_span K i) [] := by
  cases i
  · refine met T.D_Own_span T.cl_Own T.m_Own_span sc_Own_span (fun _ _ _ _ _ _ us hl => match us, hl with | [_, _, _], _ => rfl) (fun vs H Q E h => ?_) (fun cdv A outer s H vs Q E hr h => ?_)
    · obtain ⟨a, dx, c, n, m, rfl, _⟩ := h
      rfl
    obtain ⟨a, dx, c, n, m, rfl, hc, ha, k⟩ := h
    cases c <;> cases hc
    have nd := (sc_Own_span).nd
    have hC := T.cl_Own
    have hN := T.no_Own_cents
    refine ⟨_, (pss_one (ps_ret (pe_tup (pa_cons (pe_callB (call_min2 rfl) (by rfl) T.f_min Cv.bb_min (pa_cons (pv 2) (pa_cons (pe_callB (call_max2 rfl) (by rfl) T.f_max Cv.bb_max (pa_cons pe_int (pa_cons (pe_op op_sub (pe_fld (pv 0) rfl) (pv 1)) pa_nil))) pa_nil))) (pa_cons (pv 2) pa_nil))))), ?_⟩
    try dsimp only [cxOf, Cx.nox, Cx.wish]
    k_clsL
    k_places
    rename_i p np H' hS hN
    exact k p H' hS np hN
  · refine met T.D_Layer_span T.cl_Layer T.m_Layer_span sc_Layer_span (fun _ _ _ _ _ _ us hl => match us, hl with | [_, _, _], _ => rfl) (fun vs H Q E h => ?_) (fun cdv A outer s H vs Q E hr h => ?_)
    · obtain ⟨a, dx, c, n, m, rfl, _⟩ := h
      rfl
    obtain ⟨a, dx, c, n, m, rfl, hc, ha, k⟩ := h
    cases c <;> cases hc
    have nd := (sc_Layer_span).nd
    have hC := T.cl_Layer
    have hN := T.no_Layer_first
    have hN2 := T.no_Layer_upto
    refine ⟨_, (pss_cons (ps_set (i := 3) nd rfl (Or.inl rfl) (pe_callB (call_min2 rfl) (by rfl) T.f_min Cv.bb_min (pa_cons (pv 2) (pa_cons (pe_callB (call_max2 rfl) (by rfl) T.f_max Cv.bb_max (pa_cons pe_int (pa_cons (pe_op op_sub (pe_fld (pv 0) rfl) (pv 1)) pa_nil))) pa_nil))))
(pss_one (ps_ret (pe_tup (pa_cons (pv 3) (pa_cons (pe_callB (call_max2 rfl) (by rfl) T.f_max Cv.bb_max (pa_cons (pv 3) (pa_cons (pe_callB (call_min2 rfl) (by rfl) T.f_min Cv.bb_min (pa_cons (pv 2) (pa_cons (pe_callB (call_max2 rfl) (by rfl) T.f_max Cv.bb_max (pa_cons pe_int (pa_cons (pe_op op_sub (pe_fld (pv 0) rfl) (pv 1)) pa_nil))) pa_nil))) pa_nil))) pa_nil)))))), ?_⟩
    try dsimp only [cxOf, Cx.nox, Cx.wish]
    k_clsL
    k_places
    rename_i p np H' hS hN
    exact k p H' hS np hN
  · refine met T.D_Limit_span T.cl_Limit T.m_Limit_span sc_Clause_span (fun _ _ _ _ _ _ us hl => match us, hl with | [_, _, _], _ => rfl) (fun vs H Q E h => ?_) (fun cdv A outer s H vs Q E hr h => ?_)
    · obtain ⟨a, dx, c, n, m, rfl, _⟩ := h
      rfl
    obtain ⟨a, dx, c, n, m, rfl, hc, ha, k⟩ := h
    cases c <;> cases hc
    have nd := (sc_Clause_span).nd
    refine ⟨_, (pss_one (ps_ret (pe_tup (pa_cons pe_int (pa_cons (pv 2) pa_nil))))), ?_⟩
    try dsimp only [cxOf, Cx.nox, Cx.wish]
    k_clsL
    k_places
    rename_i p np H' hS hN
    exact k p H' hS np hN
def sp_room (K : PySem.W.Frag) (i : Ck) : Sp := fun vs H Q _ => ∃ (a dx : Addr) (c : ClM) (n : Int), vs = [.ref a, .int n] ∧ c.ck = i ∧ H a = some (.ins (ckA K i) dx c.fs) ∧ Q (roomM c n) H
theorem me_room0 (T : Txt K mg) {C f : Addr} {i : Ck} (F : ∃ fd, FunD K "room" d_Clause_room.qual d_Clause_room.params d_Clause_room.body d_Clause_room.scope [] [] f fd) (cl : Cls K (ckA K i)) (m : Meth K (ckA K i) "room" f) (hi : ∀ c n, c.ck = i → roomM c n = .non) : C8.Met P w K mg base 1 (ckA K i) "room" (sp_room K i) [] := by
  refine met F cl m sc_Clause_room (fun _ _ _ _ _ _ us hl => match us, hl with | [_, _], _ => rfl) (fun vs H Q E h => ?_) (fun cdv A outer s H vs Q E hr h => ?_)
  · obtain ⟨a, dx, c, n, rfl, _⟩ := h
    rfl
  obtain ⟨a, dx, c, n, rfl, hc, ha, k⟩ := h
  rw [hi c n hc] at k
  have nd := (sc_Clause_room).nd
  refine ⟨_, (pss_one (ps_ret pe_non)), ?_⟩
  k_clsL
  exact k
theorem me_room (T : Txt K mg) (i : Ck) : C8.Met P w K mg base 1 (ckA K i) "room" (sp_room K i) [] := by
  cases i
  · exact me_room0 (i := .own) (C := He.ga K "Own") T T.D_Own_room T.cl_Own T.m_Own_room (fun c n h => by cases c <;> first | rfl | cases h)
  · exact me_room0 (i := .layer) (C := He.ga K "Layer") T T.D_Layer_room T.cl_Layer T.m_Layer_room (fun c n h => by cases c <;> first | rfl | cases h)
  · refine met T.D_Limit_room T.cl_Limit T.m_Limit_room sc_Limit_room (fun _ _ _ _ _ _ us hl => match us, hl with | [_, _], _ => rfl) (fun vs H Q E h => ?_) (fun cdv A outer s H vs Q E hr h => ?_)
    · obtain ⟨a, dx, c, n, rfl, _⟩ := h
      rfl
    obtain ⟨a, dx, c, n, rfl, hc, ha, k⟩ := h
    cases c <;> cases hc
    have nd := (sc_Limit_room).nd
    have hC := T.cl_Limit
    have hN := T.no_Limit_most
    refine ⟨_, (pss_one (ps_ret (pe_callB (call_max2 rfl) (by rfl) T.f_max Cv.bb_max (pa_cons pe_int (pa_cons (pe_op op_sub (pe_fld (pv 0) rfl) (pv 1)) pa_nil))))), ?_⟩
    try dsimp only [cxOf, Cx.nox, Cx.wish]
    k_clsL
    exact k
def tSpan (K : PySem.W.Frag) (ta : TE) (t : TA) : TE := tAny fun i => tMeth (ckA K i) "span" (sp_span K i) [] C8.E0 ta t
def tRoom (K : PySem.W.Frag) (ta : TE) (t : TA) : TE := tAny fun i => tMeth (ckA K i) "room" (sp_room K i) [] C8.E0 ta t
section
variable {X : Cx} {j : Nat} {o : Expr} {apos pos : Pos} {e : Expr} {es : List Expr} {ta : TE} {t : TA} {pl : Sem Bool}
theorem pe_span (T : Txt X.K X.mg) (hr : Room j X.A) (hk : 1 ≤ j) (he : PE X o ta) (ha : PA X (e :: es) t)
    (hst : starEach (e :: es) X.env = (false, eval e X.env) :: starEach es X.env := by rfl) (hpl : (backTo pos (starEach es X.env)).any (·.1) = false := by rfl)
    (ht : eval (.Call (.Attribute o "span" apos) (e :: es) [] pos) X.env = (do
      let ov ← eval o X.env
      standAt apos.atName
      let (f, first) ← holding [ov] (getMethod ov "span" pl)
      callWith pos f first (backTo pos (starEach (e :: es) X.env)) (backToKw pos (keywordEach [] X.env))) := by rfl) :
    PE X (.Call (.Attribute o "span" apos) (e :: es) [] pos) (tSpan X.K ta t) := pe_any fun i => C8.pe_mt (pl := pl) (me_span T i) hr hk he ha hst hpl ht
theorem pe_room (T : Txt X.K X.mg) (hr : Room j X.A) (hk : 1 ≤ j) (he : PE X o ta) (ha : PA X (e :: es) t)
    (hst : starEach (e :: es) X.env = (false, eval e X.env) :: starEach es X.env := by rfl) (hpl : (backTo pos (starEach es X.env)).any (·.1) = false := by rfl)
    (ht : eval (.Call (.Attribute o "room" apos) (e :: es) [] pos) X.env = (do
      let ov ← eval o X.env
      standAt apos.atName
      let (f, first) ← holding [ov] (getMethod ov "room" pl)
      callWith pos f first (backTo pos (starEach (e :: es) X.env)) (backToKw pos (keywordEach [] X.env))) := by rfl) :
    PE X (.Call (.Attribute o "room" apos) (e :: es) [] pos) (tRoom X.K ta t) := pe_any fun i => C8.pe_mt (pl := pl) (me_room T i) hr hk he ha hst hpl ht
end
end
end Cv
namespace Cv
open PySem PySem.Spec
open PyProof.Rows hiding St
open L2
/-! ### sorted(xs, key=f), f a def that gives a tuple of its parameter's items -/
section
variable {prog : Program} {w : World} {A : Around} {E : Value → Shared → Prop} {s : Shared} {env : Env} {x : Str} {m : Str → Option Value} {a : Addr} {its : Array Value}
/-- x[i] within the def -/
theorem item_ok {i : Int} {k : Nat} {p p2 p3 : Pos} {Q : Value → Shared → Prop} {j : Nat} {u : Value} (hk : env.scope.kind = .function) (hl : env.kindOf x = some .local) (hn : s.heap.Ns env.locals m) (hx : m x = some (.ref a)) (hd : (x == ("__debug__" : Str)) = false)
    (ht : IsTup s.heap a its) (h1 : -(2 ^ 63) ≤ i) (h2 : i < 2 ^ 63) (hj : seqIndex? i its.size = some j) (hu : its[j]? = some u) (q : ∀ t, Q u { s with toks := t }) :
    wpAny (model prog w) A (eval (.Subscript (.Name x p) (.Constant (.int i) k p2) p3) env) Q E s := by
  refine Subscript_ (wpAny_Name (wpAny_loadName_local hk hl hn hx ?_) hd)
  refine wpAny_Constant_int ?_
  have tt : Shared.TypeIs { s with toks := s.toks + 1 } (.ref a) "tuple" := by
    obtain ⟨o, e, c, _⟩ := ht
    exact ⟨o, e, c⟩
  exact subscriptTail_builtinR (x := u) tt slot_tuple_getitem.lookup (getItem_tuple (s := { s with toks := s.toks + 1 }) (j := j) (Q := fun r s' => r = u ∧ Q r s') ht h1 h2 hj hu ⟨rfl, q _⟩) rfl
inductive SubsOf (x : Str) : List Int → List Expr → Prop where
  | nil : SubsOf x [] []
  | cons {i : Int} {is : List Int} {es : List Expr} (k : Nat) (p p2 p3 : Pos) (h : SubsOf x is es) : SubsOf x (i :: is) (.Subscript (.Name x p) (.Constant (.int i) k p2) p3 :: es)
def Pick (its : Array Value) : List Int → List Value → Prop := Paired fun i u => -(2 ^ 63) ≤ i ∧ i < 2 ^ 63 ∧ ∃ j, seqIndex? i its.size = some j ∧ its[j]? = some u
theorem items_ok {pos : Pos} (hk : env.scope.kind = .function) (hl : env.kindOf x = some .local) (hx : m x = some (.ref a)) (hd : (x == ("__debug__" : Str)) = false) : ∀ {is : List Int} {es : List Expr} {us : List Value} (s : Shared) {Q : List Value → Shared → Prop}, SubsOf x is es → Pick its is us → s.heap.Ns env.locals m → IsTup s.heap a its → (∀ t, Q us { s with toks := t }) →
    wpAny (model prog w) A (spliced (backTo pos (starEach es env))) Q E s
  | _, _, _, s, Q, .nil, .nil, hn, ht, q => Calls.spliced_nil (q s.toks)
  | _, _, _, s, Q, .cons k p p2 p3 h, .cons ⟨h1, h2, j, h3, h4⟩ hp, hn, ht, q => by
    show wpAny _ _ (spliced ((false, eval _ env) :: backTo pos (starEach _ env))) _ _ s
    refine Calls.spliced_cons (item_ok hk hl hn hx hd ht h1 h2 h3 h4 fun t => ?_)
    exact items_ok hk hl hx hd { s with toks := t } h hp hn ht fun t2 => q t2
/-- f(v) keeps all and gives the items as a new tuple -/
theorem key_call {K : PySem.W.Frag} {name qual : Str} {params : Arguments} {scope : Scope} {f : Addr} {fd : FuncData} {is : List Int} {es : List Expr} {kk : Nat} {tp rp : Pos} {N : List Str} {us : List Value} {d : PyData}
    (F : FunD K name qual params [.Return (some (.Tuple es kk tp)) rp] scope [] [] f fd) (b : Binds K fd [x] []) (S : FnScope N [x] scope) (hx : scope.names.lookup x = some .local) (hd : (x == ("__debug__" : Str)) = false) (dp : A.depth < recursionLimit) (hin : K.In s.heap) (lim : s.heap.NoLimit)
    (hs : SubsOf x is es) (hp : Pick its is us) (ht : IsTup s.heap a its) (hz : us.length ≤ sizeLine) (rd : ∀ h : Heap, ∃ ds, d = .tuple ds ∧ ReadsAll h us ds []) :
    wpAny (model prog w) A (call (.ref f) [.ref a]) (PySem.W.KeyPure d s) E s := by
  obtain ⟨oc, od, dV, kV, doc, pm, an, cdv, ct, osl, rfl, lk, hcd, _, _⟩ := F.ex
  have hkind : ∀ y ∈ [x].zip [Value.ref a], scope.names.lookup y.1 = some .local ∨ (scope.names.lookup y.1 = some .cell ∧ ((cellsFrom (s.heap.objs.size + 1) scope.names []).lookup y.1).isSome = true) := fun y hy => by
    simp only [List.zip_cons_cons, List.zip_nil_right, List.mem_singleton] at hy
    subst hy
    exact .inl hx
  have kL : ∀ e : Env, e.scope = scope → e.kindOf x = some .local := fun e h => by
    unfold Env.kindOf
    rw [h]
    exact hx
  refine wpAny_call (codeAny_call_function (R := fun r s' => match r with | .ok (.ret v) => PySem.W.KeyPure d s v s' | .ok _ => False | .error e => E e s') dp (hin _ _ lk) rfl S.co S.gen rfl (PySem.W.codeRec_of hin hcd) (b s [.ref a] hin rfl _ _ _ _ ?_))
  refine wpAny_newFunctionEnv_cells S.kind hkind fun env he s1 xx => ?_
  subst he
  refine ⟨lim.keeps xx.toInCall.keep, codeAny_func ?_⟩
  obtain ⟨h1, t1, rfl, k1⟩ := xx.done
  have ht1 : IsTup h1 a its := by
    obtain ⟨o, e, r⟩ := ht
    exact ⟨o, k1 _ _ e, r⟩
  refine wpAny_execs_cons (wpAny_Return_some (wpAny_Tuple_spliced ?_))
  refine items_ok S.kind ?_ ?_ hd { s with heap := h1, toks := t1 } hs hp xx.toInCall.ns ht1 fun t => ⟨hz, ?_⟩
  · exact hx
  · show bindL _ [(x, Value.ref a)] (fun _ => none) x = _
    unfold bindL bindL
    rw [if_pos (kL _ rfl)]
    exact if_pos rfl
  · obtain ⟨ds, rfl, r⟩ := rd (h1.push { cls := .type "tuple", data := .seq us.toArray })
    refine ⟨_, _, rfl, fun b o e => Heap.get?_push_of_some _ (k1 b o e), ?_⟩
    exact .tuple (Heap.get?_push_size _ rfl) rfl rfl (by simpa using r)
end
/-! ### the rule -/
section
variable {β : Type}
/-- sorted(xs, key=f), f at F0 -/
def rSortedKey (K : PySem.W.Frag) (F0 : Addr) (S : Hp → V → β → Prop) (key : β → PyData) : List V → List V → Hp → VK → Prop := fun vs zs H Q => zs = [V.ref F0] ∧ ∃ (a : Addr) (xs : List V) (bs : List β), vs = [V.ref a] ∧ SqL K H a xs ∧ Paired (S H) xs bs ∧
  ∀ p ys, H p = none → Paired (S H) ys (bs.mergeSort (PySem.W.dataLe false key)) → Q (.ref p) (upd H p (.lst ys))
theorem cr_sortedKey {X : Cx} {S : Hp → V → β → Prop} {key : β → PyData} {x name qual : Str} {params : Arguments} {scope : Scope} {f : Addr} {is : List Int} {es : List Expr} {kk : Nat} {tp rp : Pos} {N : List Str} {j : Nat}
    (F : ∃ fd, FunD X.K name qual params [.Return (some (.Tuple es kk tp)) rp] scope [] [] f fd) (bd : ∀ (kV doc pm : Value) (an : Option Addr) (cdv ct : Value) (us : List Value), us.length = [x].length → bindArgs (PySem.W.fnOf name qual params [.Return (some (.Tuple es kk tp)) rp] scope .none kV doc pm an cdv ct) ⟨us, []⟩ = pure ([x].zip us))
    (Sc : FnScope N [x] scope) (hx : scope.names.lookup x = some .local) (hs : SubsOf x is es) (hr : Room j X.A) (hS : ∀ H v b, S H v b → ∃ t xs ws ds, v = .ref t ∧ H t = some (.tup xs) ∧ Paired (fun i u => -(2 ^ 63) ≤ i ∧ i < 2 ^ 63 ∧ ∃ j, seqIndex? i xs.length = some j ∧ xs[j]? = some u) is ws ∧ ws.length ≤ 100 ∧ key b = .tuple ds ∧ Paired (fun u d => ∃ i, u = .int i ∧ d = .int i) ws ds)
    (al : ∀ b b', PySem.W.alike (key b) (key b') = true) (st : ∀ b, ∃ x r, key b = .tuple (x :: r)) (dep : ∀ b, (key b).depth ≤ 4) (hd : (x == ("__debug__" : Str)) = false := by decide) :
    CallRK X (.builtin "sorted") [Str.ofString "key"] (rSortedKey X.K f S key) := by
  intro pins s σ H xs zs us ws Q I r rz h
  obtain ⟨rfl, a, ys, bs, rfl, hsq, hp, q⟩ := h
  obtain ⟨fd, F⟩ := F
  have b := F.bindsN bd
  obtain ⟨its, rv, hl, hz⟩ := I.list hsq
  rw [Vals.ref1 r]
  have ew : ws = [Value.ref f] := by
    cases rz with
    | cons h t =>
      cases t
      rw [show _ = Value.ref f from h]
  subst ew
  have e := each_of rv hp
  have hb : bs.length ≤ sizeLine := by rw [← hp.length]; exact hz
  have KX := I.kIn
  have hu := hr.units
  refine PySem.W.sorted_key_data (R := fun u b => ∃ v, RelV v u ∧ S H v b) (b := false) key hl.isList e (PySem.W.AllAlike.of al) (PySem.W.Sortable.tuples st) hb (fun b _ => by have := dep b; omega) (PyProof.Rows.ksk_s1 _ _) (fun _ => PyProof.Rows.ksk_l1 _ _) (fun _ => PyProof.Rows.ksk_t1 _ _) (fun v x0 hR _ h tk kp => ?_) (fun out c h' tk kp n1 n2 ho eo => ?_)
  · obtain ⟨v0, rv0, sv⟩ := hR
    obtain ⟨t, xs0, ws0, ds, rfl, ht, hpk, hw, hk, hd2⟩ := hS _ _ _ sv
    cases (show v = Value.ref t from rv0)
    obtain ⟨z, its0, rvt, o0, ho0, hc0, n0, hd0⟩ := (show ObjOk X.prog X.w H s.heap t (.tup xs0) from I.hok t _ ht)
    have hlen : its0.length = xs0.length := rvt.length.symm
    have hws : ∃ us, Pick its0.toArray is us ∧ us.length = ws0.length ∧ ∀ h, ReadsAll h us ds [] := by
      clear hk hw hS hs
      rw [← hlen] at hpk
      induction hpk generalizing ds with
      | nil =>
        cases hd2
        exact ⟨[], .nil, rfl, fun h => .nil⟩
      | cons h t ih =>
        cases hd2 with
        | cons g gs =>
          obtain ⟨us, i1, i2, i3⟩ := ih _ gs
          obtain ⟨n1, rfl, rfl⟩ := g
          obtain ⟨h1, h2, j1, h3, h4⟩ := h
          obtain ⟨u, hu1, t1, rfl⟩ := rvt.get h4
          exact ⟨.int n1 t1 :: us, .cons ⟨h1, h2, j1, by simpa using h3, by simpa using hu1⟩ i1, by simp [i2], fun h => .cons (.int _ _) (i3 h)⟩
    obtain ⟨us, p1, p2, p3⟩ := hws
    refine key_call (s := { s with heap := h, toks := tk }) F b Sc hx hd (by have := hr.dp; exact (show X.A.depth < recursionLimit by omega)) (KX.keeps kp) ((I.mod.nolimit.keeps I.bk).keeps kp) hs p1 ⟨o0, kp _ _ ho0, hc0, n0, hd0⟩ (sz_lit' (by omega)) fun h' => ⟨ds, hk, p3 h'⟩
  · obtain ⟨zs2, ry, py⟩ := of_each eo
    refine ⟨.ref _, upd H (s.heap.objs.size + 1) (.lst zs2), I.laid (t' := tk) kp (Nat.le_succ _) ⟨?_, out, c, ry, n2⟩, rfl, q _ _ (I.hok.fresh (Nat.le_succ _)) py⟩
    rw [ry.length, ho]
    exact hb
end
end Cv
namespace Cv
open PySem PySem.Spec
open PyProof.Rows hiding St
open L2
/-! ### weights [1] alone: a wheel of one turn -/
section
variable {P : Program} {w : World} {K : PySem.W.Frag} {mg : Str → Option Value} {base : Heap}
def sp_total_of (K : PySem.W.Frag) : Sp := fun vs H Q _ => ∃ a : Addr, vs = [.ref a] ∧ H a = some (.lst [.int 1]) ∧ Q (.int 1) H
theorem ok_total_of (T : Txt K mg) : C8.Cal P w K mg base 2 "total_of" (sp_total_of K) [] := by
  refine cal T.D_total_of T.g_total_of sc_total_of (fun _ _ _ _ _ _ us hl => match us, hl with | [_], _ => rfl) (fun vs H Q E h => ?_) (fun cdv A outer s H vs Q E hr h => ?_)
  · obtain ⟨a, rfl, _⟩ := h
    rfl
  obtain ⟨a, rfl, ha, k⟩ := h
  have nd := (sc_total_of).nd
  refine ⟨_, (pss_cons (ps_if (pt_not (pt_val (pe_callB call_isi (by rfl) T.f_isinstance Cv.bb_isinstance (pa_cons (pv 0) (pa_cons (pe_bltn (v := .ty "list") rfl T.f_list Cv.bt_list rfl) pa_nil)))))
(pss_one ps_never)
pss_nil)
(pss_cons (ps_if (PW.pt (pw_or (pt_cmpR op_lt (pe_callB call_len_seq (by rfl) T.f_len Cv.bb_len (pa_cons (pv 0) pa_nil)) pe_int (nomark _)) (pw_or1 (pt_cmpR op_gt (pe_callB call_len_seq (by rfl) T.f_len Cv.bb_len (pa_cons (pv 0) pa_nil)) (C8.pe_gc rfl T.c_MOST_PLACES) (nomark _)))))
(pss_one ps_never)
pss_nil)
(pss_cons (ps_for PassesOwn.never rfl (pi_list (pv 0)) (pg_name (i := 1) nd rfl (Or.inl rfl))
(pss_one (ps_if (PW.pt (pw_or (pt_not (pt_val (C8.pe_c (ok_is_whole T) hr (by decide) rfl (pa_cons (pv 1) pa_nil)))) (pw_or1 (pt_cmpR op_lt (pv 1) pe_int (nomark _)))))
(pss_one ps_never)
pss_nil)))
(pss_cons (ps_set (i := 2) nd rfl (Or.inl rfl) (pe_callB (cr_sum rfl) (by rfl) T.f_sum Cv.bb_sum (pa_cons (pv 0) pa_nil)))
(pss_cons (ps_if (pt_cmpR op_gt (pv 2) (C8.pe_gc rfl T.c_MOST_TURNS) (nomark _))
(pss_one ps_never)
pss_nil)
(pss_one (ps_ret (pv 2)))))))), ?_⟩
  try dsimp only [cxOf, Cx.nox, Cx.wish]
  k_clsL
  refine ifdf (by decide) ?_
  k_clsL
  refine ifdf (by decide) ?_
  k_clsL
  refine for_l (xs := [.int 1]) (fun _ v (i : Int) => v = .int i) [1] (fun r σ H2 => ∃ v1 v2, σ = [some (.ref a), v1, v2] ∧ H2 = H ∧ ∀ i ∈ r, i = 1) ?_ ?_ ?_ ?_
  · exact ⟨_, _, rfl, rfl, by simp⟩
  · rintro r σ H2 ⟨v1, v2, rfl, rfl, _⟩
    exact ⟨SqL.of ha, .cons rfl .nil⟩
  · rintro c r x σ H2 hc ⟨v1, v2, rfl, rfl, e⟩ rfl
    obtain rfl := e c List.mem_cons_self
    k_clsL
    refine ⟨_, rfl, .int 1, ?_⟩
    rw [show wh (.int 1) = true from rfl]
    k_clsL
    refine ifdf (by decide) ?_
    k_clsL
    exact hold ⟨_, _, rfl, rfl, fun i hi => e i (List.mem_cons_of_mem _ hi)⟩
  · rintro σ H2 ⟨v1, v2, rfl, rfl, e⟩
    k_clsL
    refine ⟨a, [1], rfl, SqL.of ha, ?_⟩
    k_clsL
    refine ifdf (by decide) ?_
    k_clsL
    exact k
def sp_due_by (K : PySem.W.Frag) : Sp := fun vs H Q _ => ∃ i : Int, vs = [.int i, .int 1, .int 1] ∧ Q (.int (i + 1)) H
theorem ok_due_by (T : Txt K mg) : C8.Cal P w K mg base 1 "due_by" (sp_due_by K) [] := by
  refine cal T.D_due_by T.g_due_by sc_due_by (fun _ _ _ _ _ _ us hl => match us, hl with | [_, _, _], _ => rfl) (fun vs H Q E h => ?_) (fun cdv A outer s H vs Q E hr h => ?_)
  · obtain ⟨a, rfl, _⟩ := h
    rfl
  obtain ⟨i, rfl, k⟩ := h
  have nd := (sc_due_by).nd
  refine ⟨_, (pss_one (ps_ret (pe_un un_neg (pe_op op_fdiv (pe_op op_mul (pe_un un_neg (pe_op op_add (pv 0) pe_int)) (pv 2)) (pv 1))))), ?_⟩
  try dsimp only [cxOf, Cx.nox, Cx.wish]
  k_clsL
  have e : -(-(i + 1) * 1 / 1) = i + 1 := by omega
  rw [e]
  exact k
def sp_next_place (K : PySem.W.Frag) : Sp := fun vs H Q _ => ∃ a b : Addr, vs = [.ref a, .ref b, .int 1, .int 0] ∧ H a = some (.lst [.int 1]) ∧ H b = some (.lst [.int 0]) ∧ Q (.int 0) H
theorem ok_next_place (T : Txt K mg) : C8.Cal P w K mg base 2 "next_place" (sp_next_place K) [] := by
  refine cal T.D_next_place T.g_next_place sc_next_place (fun _ _ _ _ _ _ us hl => match us, hl with | [_, _, _, _], _ => rfl) (fun vs H Q E h => ?_) (fun cdv A outer s H vs Q E hr h => ?_)
  · obtain ⟨a, b, rfl, _⟩ := h
    rfl
  obtain ⟨a, b, rfl, ha, hb, k⟩ := h
  have nd := (sc_next_place).nd
  refine ⟨_, (pss_cons (ps_set (i := 4) nd rfl (Or.inl rfl) pe_non)
(pss_cons (ps_set (i := 5) nd rfl (Or.inl rfl) pe_int)
(pss_cons (ps_for PassesOwn.never rfl (pi_range1 rfl T.f_range (pa_cons (pe_callB call_len_seq (by rfl) T.f_len Cv.bb_len (pa_cons (pv 0) pa_nil)) pa_nil)) (pg_name (i := 6) nd rfl (Or.inl rfl))
(pss_one (ps_if (pt_cmpR op_lt (pe_op op_mul (pe_ix ix_list (pv 1) (pv 6) (fun _ _ => rfl)) (pv 2)) (pe_op op_mul (pe_ix ix_list (pv 0) (pv 6) (fun _ _ => rfl)) (pe_op op_add (pv 3) pe_int)) (nomark _))
(pss_cons (ps_set (i := 7) nd rfl (Or.inl rfl) (C8.pe_c (ok_due_by T) hr (by decide) rfl (pa_cons (pe_ix ix_list (pv 1) (pv 6) (fun _ _ => rfl)) (pa_cons (pe_ix ix_list (pv 0) (pv 6) (fun _ _ => rfl)) (pa_cons (pv 2) pa_nil)))))
(pss_one (ps_if (PW.pt (pw_or (pt_cmpR op_isN (pv 4) pe_non (nomark _)) (pw_or1 (pt_cmpR op_lt (pv 7) (pv 5) (nomark _)))))
(pss_cons (ps_set (i := 4) nd rfl (Or.inl rfl) (pv 6))
(pss_one (ps_set (i := 5) nd rfl (Or.inl rfl) (pv 7))))
pss_nil)))
pss_nil)))
(pss_one (ps_ret (pv 4)))))), ?_⟩
  try dsimp only [cxOf, Cx.nox, Cx.wish]
  k_clsL
  refine for_r (m := 1) (fun i σ H2 => H2 = H ∧ ∃ v6 v7, (i = 0 ∧ σ = [some (.ref a), some (.ref b), some (.int 1), some (.int 0), some .non, some (.int 0), v6, v7]) ∨ (i = 1 ∧ ∃ v5, σ = [some (.ref a), some (.ref b), some (.int 1), some (.int 0), some (.int 0), v5, v6, v7])) ?_ ?_ ?_
  · exact ⟨rfl, _, _, .inl ⟨rfl, rfl⟩⟩
  · rintro i σ H2 hi ⟨rfl, v6, v7, h⟩
    obtain rfl : i = 0 := by omega
    rcases h with ⟨_, rfl⟩ | ⟨h, _⟩
    · k_clsL
      refine ifdt (by decide) ?_
      k_clsL
      refine ⟨0, rfl, ?_⟩
      k_clsL
      refine ifdt rfl ?_
      k_clsL
      exact hold ⟨rfl, _, _, .inr ⟨rfl, _, rfl⟩⟩
    · cases h
  · rintro σ H2 ⟨rfl, v6, v7, h⟩
    rcases h with ⟨h, _⟩ | ⟨_, v5, rfl⟩
    · cases h
    · k_clsL
      exact k
theorem nl' {H H' : Hp} {l : Addr} (h : H' l = none) (S : Same H H') : H l = none := S.free h
def sp_turns (K : PySem.W.Frag) : Sp := fun vs H Q _ => ∃ a : Addr, vs = [.ref a] ∧ H a = some (.lst [.int 1]) ∧ ∀ p H', Same H H' → H p = none → H' p = some (.lst [.int 0]) → Q (.ref p) H'
theorem ok_turns (T : Txt K mg) : C8.Cal P w K mg base 3 "turns" (sp_turns K) [] := by
  refine cal T.D_turns T.g_turns sc_turns (fun _ _ _ _ _ _ us hl => match us, hl with | [_], _ => rfl) (fun vs H Q E h => ?_) (fun cdv A outer s H vs Q E hr h => ?_)
  · obtain ⟨a, rfl, _⟩ := h
    rfl
  obtain ⟨a, rfl, ha, k⟩ := h
  have nd := (sc_turns).nd
  refine ⟨_, (pss_cons (ps_set (i := 1) nd rfl (Or.inl rfl) (C8.pe_c (ok_total_of T) hr (by decide) rfl (pa_cons (pv 0) pa_nil)))
(pss_cons (ps_setLc (i := 2) (own := [("weight", 3)]) (g := (gName 3)) (tt := tYes) rfl nd rfl rfl (sw_true rfl rfl rfl (by decide +kernel)) (pi_list (pv 0)) (blkOk_by (own := [("weight", 3)]) (N := N_turns) (sc := defScope s_turns) (by decide +kernel)) (fun _ _ _ _ _ => (pg_name (i := 3) nd rfl (Or.inl rfl))) (fun _ _ _ _ _ => pts_nil) (fun _ _ _ _ _ => pe_int))
(pss_cons (ps_set (i := 4) nd rfl (Or.inl rfl) (pe_lst pa_nil))
(pss_cons (ps_for PassesOwn.never rfl (pi_range1 rfl T.f_range (pa_cons (pv 1) pa_nil)) (pg_name (i := 5) nd rfl (Or.inl rfl))
(pss_cons (ps_set (i := 6) nd rfl (Or.inl rfl) (C8.pe_c (ok_next_place T) hr (by decide) rfl (pa_cons (pv 0) (pa_cons (pv 2) (pa_cons (pv 1) (pa_cons (pv 5) pa_nil))))))
(pss_cons (ps_asg (pe_op op_add (pe_ix ix_list (pv 2) (pv 6) (fun _ _ => rfl)) pe_int) (pg_sub (pv 2) (pv 6) set_list))
(pss_one (ps_expr (pe_bm PySem.F.plainAttrs_list PySem.F.slot_list_append PySem.F.type_list_append mt_append (pv 4) (pa_cons (pv 6) pa_nil)))))))
(pss_one (ps_ret (pv 4))))))), ?_⟩
  try dsimp only [cxOf, Cx.nox, Cx.wish]
  k_clsL
  refine ⟨a, rfl, ha, ?_⟩
  k_clsL
  refine lcg_l (xs := [.int 1]) (fun _ v (i : Int) => v = .int i) [1] (fun _ v (i : Int) => v = .int i) (fun _ => some 0) (fun _ h => h) (SqL.of ha) (fun _ _ => .cons rfl .nil) (by decide) (fun i c x D H1 acc K1 K0 e1 nD hS hD hx k1 k0 => ?_) (fun D H1 ys nD hS hD hP => ?_)
  · k_clsL
    exact k1 _ 0 _ rfl (Same.refl _) rfl
  obtain rfl : ys = [.int 0] := Pa.of_ints hP
  k_clsL
  k_places
  rename_i l nl H2 hS2 hl
  have hDl : D ≠ l := ne_of_none hD nl
  k_clsL
  refine for_r (m := 1) (fun i σ H3 => (∃ v5 v6, i = 0 ∧ H3 = H2 ∧ σ = [some (.ref a), some (.int 1), some (.ref D), none, some (.ref l), v5, v6]) ∨ (i = 1 ∧ ∃ v5 v6, Same H H3 ∧ H3 l = some (.lst [.int 0]) ∧ σ = [some (.ref a), some (.int 1), some (.ref D), none, some (.ref l), v5, v6])) ?_ ?_ ?_
  · exact .inl ⟨_, _, rfl, rfl, rfl⟩
  · rintro i σ H3 hi h
    obtain rfl : i = 0 := by omega
    rcases h with ⟨v5, v6, _, rfl, rfl⟩ | ⟨h, _⟩
    · k_clsL
      have ha3 := (hS.trans hS2).get ha
      have hD3 := hS2.get hD
      refine ⟨a, D, rfl, ha3, hD3, ?_⟩
      k_clsL
      have hl3 : upd H3 D (.lst ([V.int 0].set (Int.toNat 0) (.int (0 + 1)))) l = some (.lst []) := by
        rw [upd_ne hDl.symm]
        exact hl
      k_clsL
      exact hold (.inr ⟨rfl, _, _, ((hS.trans hS2).mut nD).mut (nl' nl hS), upd_same, rfl⟩)
    · cases h
  · rintro σ H3 h
    rcases h with ⟨v5, v6, h, _⟩ | ⟨_, v5, v6, hS3, hl3, rfl⟩
    · cases h
    · k_clsL
      exact k l H3 hS3 (nl' nl hS) hl3
def sp_Deal_init (K : PySem.W.Frag) : Sp := fun vs H Q _ => ∃ (a dx b : Addr), vs = [.ref a, .ref b] ∧ H a = some (.ins (He.ga K "Deal") dx []) ∧ H b = some (.lst [.int 1]) ∧ ∀ H', But a H H' → Q .non H'
theorem mk_Deal (T : Txt K mg) : C8.Mak P w K mg base 4 "Deal" (He.ga K "Deal") (sp_Deal_init K) [] := by
  refine mak T.D_Deal_init T.g_Deal T.k_Deal sc_Deal_init (fun _ _ _ _ _ _ us hl => match us, hl with | [_, _], _ => rfl) (fun vs H Q E h => ?_) (fun cdv A outer s H vs Q E hr h => ?_)
  · obtain ⟨a, dx, b, rfl, _⟩ := h
    rfl
  obtain ⟨a, dx, b, rfl, ha, hb, k⟩ := h
  have nd := (sc_Deal_init).nd
  have hC := T.cl_Deal
  have hN0 := T.no_Deal_wheel
  have hN1 := T.no_Deal_weights
  have hab : b ≠ a := ne_of hb ha (fun e => nomatch e)
  refine ⟨_, (pss_cons (ps_fld (pv 0) (C8.pe_c (ok_turns T) hr (by decide) rfl (pa_cons (pv 1) pa_nil)) rfl)
(pss_one (ps_fld (pv 0) (pe_callTy call_list_of (by rfl) T.f_list Cv.bt_list (pa_cons (pv 1) pa_nil)) rfl))), ?_⟩
  try dsimp only [cxOf, Cx.nox, Cx.wish]
  k_clsL
  refine ⟨b, rfl, hb, fun p H1 hS1 np hp => ?_⟩
  k_clsL
  have ha1 := hS1.get ha
  have hb1 := hS1.get hb
  generalize hU : upd H1 a _ = H2
  have ha2 : H2 a = some _ := new_at hU
  have hb2 : H2 b = some (.lst [.int 1]) := by
    rw [← hU, upd_ne hab]
    exact hb1
  k_clsL
  k_places
  rename_i q nq H3 hS3 hq3
  k_clsL
  refine k _ ((But.trans (But.trans hS1.but ?_) hS3.but).mut)
  rw [← hU]
  exact (But.refl _ _).mut
end
end Cv
namespace Cv
open PySem PySem.Spec
open PyProof.Rows hiding St
open L2
/-! ### conditions -/
inductive LfM where
  | always
  | cause (x : Str)
  | thing (x : Str)
  | days (a b : Int)
  | over (n : Int)
  deriving DecidableEq
inductive Lk where
  | always | cause | thing | days | over
def lkA (K : PySem.W.Frag) : Lk → Addr
  | .always => He.ga K "Condition"
  | .cause => He.ga K "CauseIs"
  | .thing => He.ga K "ThingIs"
  | .days => He.ga K "DaysIn"
  | .over => He.ga K "Over"
def LfM.lk : LfM → Lk
  | .always => .always
  | .cause _ => .cause
  | .thing _ => .thing
  | .days _ _ => .days
  | .over _ => .over
def LfM.fs : LfM → List (Str × V)
  | .always => []
  | .cause x => [("name", .str x)]
  | .thing x => [("name", .str x)]
  | .days a b => [("first", .int a), ("last", .int b)]
  | .over n => [("cents", .int n)]
def LfM.hold (l : LossM) : LfM → Bool
  | .always => true
  | .cause x => decide (V.str l.c = .str x)
  | .thing x => decide (V.str l.t = .str x)
  | .days a b => decide (a ≤ l.d) && decide (l.d ≤ b)
  | .over n => decide (l.m > n)
inductive CoX where
  | leaf (l : LfM)
  | all (ls : List LfM)
  | some (ls : List LfM)
  | nall (ls : List LfM)
  deriving DecidableEq
inductive Xk where
  | leaf (k : Lk) | all | some | nall
def CoX.xk : CoX → Xk
  | .leaf l => .leaf l.lk
  | .all _ => .all
  | .some _ => .some
  | .nall _ => .nall
def xkA (K : PySem.W.Frag) : Xk → Addr
  | .leaf k => lkA K k
  | .all => He.ga K "All"
  | .some => He.ga K "Some"
  | .nall => He.ga K "Not"
def CoX.hold (l : LossM) : CoX → Bool
  | .leaf f => f.hold l
  | .all ls => ls.all (LfM.hold l)
  | .some ls => ls.any (LfM.hold l)
  | .nall ls => !ls.all (LfM.hold l)
def LfV (K : PySem.W.Frag) (H : Hp) (v : V) (c : LfM) : Prop := ∃ a dx, v = .ref a ∧ H a = some (.ins (lkA K c.lk) dx c.fs)
theorem LfV.same {K : PySem.W.Frag} {H H' : Hp} {v : V} {c : LfM} (S : Same H H') (h : LfV K H v c) : LfV K H' v c := by
  obtain ⟨a, dx, e, h⟩ := h
  exact ⟨a, dx, e, S _ _ h⟩
def SevV (K : PySem.W.Frag) (H : Hp) (C : Addr) (a : Addr) (ls : List LfM) : Prop := ∃ dx p xs, H a = some (.ins C dx [("several", .ref p)]) ∧ H p = some (.lst xs) ∧ Paired (LfV K H) xs ls
theorem SevV.same {K : PySem.W.Frag} {H H' : Hp} {C a : Addr} {ls : List LfM} (S : Same H H') (h : SevV K H C a ls) : SevV K H' C a ls := by
  obtain ⟨dx, p, xs, h1, h2, h3⟩ := h
  exact ⟨dx, p, xs, S _ _ h1, S _ _ h2, Paired.mapP h3 fun _ _ q => q.same S⟩
def CoV (K : PySem.W.Frag) (H : Hp) (v : V) : CoX → Prop
  | .leaf l => LfV K H v l
  | .all ls => ∃ a, v = .ref a ∧ SevV K H (He.ga K "All") a ls
  | .some ls => ∃ a, v = .ref a ∧ SevV K H (He.ga K "Some") a ls
  | .nall ls => ∃ a dx b, v = .ref a ∧ H a = some (.ins (He.ga K "Not") dx [("part", .ref b)]) ∧ SevV K H (He.ga K "All") b ls
theorem CoV.same {K : PySem.W.Frag} {H H' : Hp} {v : V} {c : CoX} (S : Same H H') (h : CoV K H v c) : CoV K H' v c := by
  cases c with
  | leaf l => exact LfV.same S h
  | all ls =>
    obtain ⟨a, e, h⟩ := h
    exact ⟨a, e, h.same S⟩
  | some ls =>
    obtain ⟨a, e, h⟩ := h
    exact ⟨a, e, h.same S⟩
  | nall ls =>
    obtain ⟨a, dx, b, e, h, h2⟩ := h
    exact ⟨a, dx, b, e, S _ _ h, h2.same S⟩
section
variable {P : Program} {w : World} {K : PySem.W.Frag} {mg : Str → Option Value} {base : Heap}
/-! ### __init__ -/
def sp_CauseIs_init (K : PySem.W.Frag) : Sp := fun vs H Q _ => ∃ (a dx : Addr) (x : Str), vs = [.ref a, .str x] ∧ H a = some (.ins (He.ga K "CauseIs") dx []) ∧ Q .non (upd H a (.ins (He.ga K "CauseIs") dx [("name", .str x)]))
theorem mk_CauseIs (T : Txt K mg) : C8.Mak P w K mg base 1 "CauseIs" (He.ga K "CauseIs") (sp_CauseIs_init K) [] := by
  refine mak T.D_CauseIs_init T.g_CauseIs T.k_CauseIs sc_CauseIs_init (fun _ _ _ _ _ _ us hl => match us, hl with | [_, _], _ => rfl) (fun vs H Q E h => ?_) (fun cdv A outer s H vs Q E hr h => ?_)
  · obtain ⟨a, dx, x, rfl, _⟩ := h
    rfl
  obtain ⟨a, dx, x, rfl, ha, k⟩ := h
  have nd := (sc_CauseIs_init).nd
  have hC := T.cl_CauseIs
  have hN0 := T.no_CauseIs_name
  refine ⟨_, (pss_one (ps_fld (pv 0) (pv 1) rfl)), ?_⟩
  try dsimp only [cxOf, Cx.nox, Cx.wish]
  k_clsL
  exact k
def sp_ThingIs_init (K : PySem.W.Frag) : Sp := fun vs H Q _ => ∃ (a dx : Addr) (x : Str), vs = [.ref a, .str x] ∧ H a = some (.ins (He.ga K "ThingIs") dx []) ∧ Q .non (upd H a (.ins (He.ga K "ThingIs") dx [("name", .str x)]))
theorem mk_ThingIs (T : Txt K mg) : C8.Mak P w K mg base 1 "ThingIs" (He.ga K "ThingIs") (sp_ThingIs_init K) [] := by
  refine mak T.D_ThingIs_init T.g_ThingIs T.k_ThingIs sc_ThingIs_init (fun _ _ _ _ _ _ us hl => match us, hl with | [_, _], _ => rfl) (fun vs H Q E h => ?_) (fun cdv A outer s H vs Q E hr h => ?_)
  · obtain ⟨a, dx, x, rfl, _⟩ := h
    rfl
  obtain ⟨a, dx, x, rfl, ha, k⟩ := h
  have nd := (sc_ThingIs_init).nd
  have hC := T.cl_ThingIs
  have hN0 := T.no_ThingIs_name
  refine ⟨_, (pss_one (ps_fld (pv 0) (pv 1) rfl)), ?_⟩
  try dsimp only [cxOf, Cx.nox, Cx.wish]
  k_clsL
  exact k
def sp_DaysIn_init (K : PySem.W.Frag) : Sp := fun vs H Q _ => ∃ (a dx : Addr) (i : Int) (j : Int), vs = [.ref a, .int i, .int j] ∧ H a = some (.ins (He.ga K "DaysIn") dx []) ∧ Q .non (upd H a (.ins (He.ga K "DaysIn") dx [("first", .int i), ("last", .int j)]))
theorem mk_DaysIn (T : Txt K mg) : C8.Mak P w K mg base 1 "DaysIn" (He.ga K "DaysIn") (sp_DaysIn_init K) [] := by
  refine mak T.D_DaysIn_init T.g_DaysIn T.k_DaysIn sc_DaysIn_init (fun _ _ _ _ _ _ us hl => match us, hl with | [_, _, _], _ => rfl) (fun vs H Q E h => ?_) (fun cdv A outer s H vs Q E hr h => ?_)
  · obtain ⟨a, dx, i, j, rfl, _⟩ := h
    rfl
  obtain ⟨a, dx, i, j, rfl, ha, k⟩ := h
  have nd := (sc_DaysIn_init).nd
  have hC := T.cl_DaysIn
  have hN0 := T.no_DaysIn_first
  have hN1 := T.no_DaysIn_last
  refine ⟨_, (pss_cons (ps_fld (pv 0) (pv 1) rfl)
(pss_one (ps_fld (pv 0) (pv 2) rfl))), ?_⟩
  try dsimp only [cxOf, Cx.nox, Cx.wish]
  k_clsL
  have h2 := upd_same (H := H) (a := a) (o := .ins (He.ga K "DaysIn") dx (putF "first" (.int i) []))
  k_clsL
  have e : upd (upd H a (.ins (He.ga K "DaysIn") dx (putF "first" (.int i) []))) a (.ins (He.ga K "DaysIn") dx [("first", .int i), ("last", .int j)]) = upd H a (.ins (He.ga K "DaysIn") dx [("first", .int i), ("last", .int j)]) := upd_upd
  rw [← e] at k
  exact k
def sp_Over_init (K : PySem.W.Frag) : Sp := fun vs H Q _ => ∃ (a dx : Addr) (n : Int), vs = [.ref a, .int n] ∧ H a = some (.ins (He.ga K "Over") dx []) ∧ Q .non (upd H a (.ins (He.ga K "Over") dx [("cents", .int n)]))
theorem mk_Over (T : Txt K mg) : C8.Mak P w K mg base 1 "Over" (He.ga K "Over") (sp_Over_init K) [] := by
  refine mak T.D_Over_init T.g_Over T.k_Over sc_Over_init (fun _ _ _ _ _ _ us hl => match us, hl with | [_, _], _ => rfl) (fun vs H Q E h => ?_) (fun cdv A outer s H vs Q E hr h => ?_)
  · obtain ⟨a, dx, n, rfl, _⟩ := h
    rfl
  obtain ⟨a, dx, n, rfl, ha, k⟩ := h
  have nd := (sc_Over_init).nd
  have hC := T.cl_Over
  have hN0 := T.no_Over_cents
  refine ⟨_, (pss_one (ps_fld (pv 0) (pv 1) rfl)), ?_⟩
  try dsimp only [cxOf, Cx.nox, Cx.wish]
  k_clsL
  exact k
def sp_Not_init (K : PySem.W.Frag) : Sp := fun vs H Q _ => ∃ (a dx : Addr) (b : Addr), vs = [.ref a, .ref b] ∧ H a = some (.ins (He.ga K "Not") dx []) ∧ Q .non (upd H a (.ins (He.ga K "Not") dx [("part", .ref b)]))
theorem mk_Not (T : Txt K mg) : C8.Mak P w K mg base 1 "Not" (He.ga K "Not") (sp_Not_init K) [] := by
  refine mak T.D_Not_init T.g_Not T.k_Not sc_Not_init (fun _ _ _ _ _ _ us hl => match us, hl with | [_, _], _ => rfl) (fun vs H Q E h => ?_) (fun cdv A outer s H vs Q E hr h => ?_)
  · obtain ⟨a, dx, b, rfl, _⟩ := h
    rfl
  obtain ⟨a, dx, b, rfl, ha, k⟩ := h
  have nd := (sc_Not_init).nd
  have hC := T.cl_Not
  have hN0 := T.no_Not_part
  refine ⟨_, (pss_one (ps_fld (pv 0) (pv 1) rfl)), ?_⟩
  try dsimp only [cxOf, Cx.nox, Cx.wish]
  k_clsL
  exact k
def sp_All_init (K : PySem.W.Frag) : Sp := fun vs H Q _ => ∃ (a dx p : Addr) (xs : List V), vs = [.ref a, .ref p] ∧ H a = some (.ins (He.ga K "All") dx []) ∧ SqL K H p xs ∧
  ∀ q H', H q = none → But a H H' → H' q = some (.lst xs) → H' a = some (.ins (He.ga K "All") dx [("several", .ref q)]) → Q .non H'
theorem mk_All (T : Txt K mg) : C8.Mak P w K mg base 1 "All" (He.ga K "All") (sp_All_init K) [] := by
  refine mak T.D_All_init T.g_All T.k_All sc_All_init (fun _ _ _ _ _ _ us hl => match us, hl with | [_, _], _ => rfl) (fun vs H Q E h => ?_) (fun cdv A outer s H vs Q E hr h => ?_)
  · obtain ⟨a, dx, p, xs, rfl, _⟩ := h
    rfl
  obtain ⟨a, dx, p, xs, rfl, ha, hp, k⟩ := h
  have nd := (sc_All_init).nd
  have hC := T.cl_All
  have hN0 := T.no_All_several
  refine ⟨_, (pss_one (ps_fld (pv 0) (pe_callTy call_list_of (by rfl) T.f_list Cv.bt_list (pa_cons (pv 1) pa_nil)) rfl)), ?_⟩
  try dsimp only [cxOf, Cx.nox, Cx.wish]
  k_clsL
  k_places
  rename_i q nq H1 hS hN
  k_clsL
  exact k q _ nq hS.but.mut (by rw [upd_ne (ne_of_none ha nq).symm]; exact hN) upd_same
def sp_Some_init (K : PySem.W.Frag) : Sp := fun vs H Q _ => ∃ (a dx p : Addr) (xs : List V), vs = [.ref a, .ref p] ∧ H a = some (.ins (He.ga K "Some") dx []) ∧ SqL K H p xs ∧
  ∀ q H', H q = none → But a H H' → H' q = some (.lst xs) → H' a = some (.ins (He.ga K "Some") dx [("several", .ref q)]) → Q .non H'
theorem mk_Some (T : Txt K mg) : C8.Mak P w K mg base 1 "Some" (He.ga K "Some") (sp_Some_init K) [] := by
  refine mak T.D_Some_init T.g_Some T.k_Some sc_Some_init (fun _ _ _ _ _ _ us hl => match us, hl with | [_, _], _ => rfl) (fun vs H Q E h => ?_) (fun cdv A outer s H vs Q E hr h => ?_)
  · obtain ⟨a, dx, p, xs, rfl, _⟩ := h
    rfl
  obtain ⟨a, dx, p, xs, rfl, ha, hp, k⟩ := h
  have nd := (sc_Some_init).nd
  have hC := T.cl_Some
  have hN0 := T.no_Some_several
  refine ⟨_, (pss_one (ps_fld (pv 0) (pe_callTy call_list_of (by rfl) T.f_list Cv.bt_list (pa_cons (pv 1) pa_nil)) rfl)), ?_⟩
  try dsimp only [cxOf, Cx.nox, Cx.wish]
  k_clsL
  k_places
  rename_i q nq H1 hS hN
  k_clsL
  exact k q _ nq hS.but.mut (by rw [upd_ne (ne_of_none ha nq).symm]; exact hN) upd_same
/-! ### holds -/
def sp_hleaf (K : PySem.W.Frag) (i : Lk) : Sp := fun vs H Q _ => ∃ (a dx : Addr) (lv : V) (c : LfM) (l : LossM), vs = [.ref a, lv] ∧ c.lk = i ∧ H a = some (.ins (lkA K i) dx c.fs) ∧ LossV H lv l ∧ Q (.bl (c.hold l)) H
theorem me_hleaf (T : Txt K mg) (i : Lk) : C8.Met P w K mg base 1 (lkA K i) "holds" (sp_hleaf K i) [] := by
  cases i
  · refine met T.D_Condition_holds T.cl_Condition T.m_Condition_holds sc_Condition_holds (fun _ _ _ _ _ _ us hl => match us, hl with | [_, _], _ => rfl) (fun vs H Q E h => ?_) (fun cdv A outer s H vs Q E hr h => ?_)
    · obtain ⟨a, dx, lv, c, l, rfl, _⟩ := h
      rfl
    obtain ⟨a, dx, lv, c, l, rfl, hc, ha, ⟨p, rfl, hl⟩, k⟩ := h
    cases c <;> cases hc
    have nd := (sc_Condition_holds).nd
    have hC := T.cl_Condition
    refine ⟨_, (pss_one (ps_ret pe_bl)), ?_⟩
    try dsimp only [cxOf, Cx.nox, Cx.wish]
    k_clsL
    exact k
  · refine met T.D_CauseIs_holds T.cl_CauseIs T.m_CauseIs_holds sc_CauseIs_holds (fun _ _ _ _ _ _ us hl => match us, hl with | [_, _], _ => rfl) (fun vs H Q E h => ?_) (fun cdv A outer s H vs Q E hr h => ?_)
    · obtain ⟨a, dx, lv, c, l, rfl, _⟩ := h
      rfl
    obtain ⟨a, dx, lv, c, l, rfl, hc, ha, ⟨p, rfl, hl⟩, k⟩ := h
    cases c <;> cases hc
    have nd := (sc_CauseIs_holds).nd
    have hC := T.cl_CauseIs
    have hN0 := T.no_CauseIs_name
    refine ⟨_, (pss_one (ps_ret (pe_cmpR op_eq (pe_ix ix_tup (pv 1) pe_int (fun _ _ => rfl)) (pe_fld (pv 0) rfl) (nomark _)))), ?_⟩
    try dsimp only [cxOf, Cx.nox, Cx.wish]
    k_clsL
    exact k
  · refine met T.D_ThingIs_holds T.cl_ThingIs T.m_ThingIs_holds sc_ThingIs_holds (fun _ _ _ _ _ _ us hl => match us, hl with | [_, _], _ => rfl) (fun vs H Q E h => ?_) (fun cdv A outer s H vs Q E hr h => ?_)
    · obtain ⟨a, dx, lv, c, l, rfl, _⟩ := h
      rfl
    obtain ⟨a, dx, lv, c, l, rfl, hc, ha, ⟨p, rfl, hl⟩, k⟩ := h
    cases c <;> cases hc
    have nd := (sc_ThingIs_holds).nd
    have hC := T.cl_ThingIs
    have hN0 := T.no_ThingIs_name
    refine ⟨_, (pss_one (ps_ret (pe_cmpR op_eq (pe_ix ix_tup (pv 1) pe_int (fun _ _ => rfl)) (pe_fld (pv 0) rfl) (nomark _)))), ?_⟩
    try dsimp only [cxOf, Cx.nox, Cx.wish]
    k_clsL
    exact k
  · refine met T.D_DaysIn_holds T.cl_DaysIn T.m_DaysIn_holds sc_DaysIn_holds (fun _ _ _ _ _ _ us hl => match us, hl with | [_, _], _ => rfl) (fun vs H Q E h => ?_) (fun cdv A outer s H vs Q E hr h => ?_)
    · obtain ⟨a, dx, lv, c, l, rfl, _⟩ := h
      rfl
    obtain ⟨a, dx, lv, c, l, rfl, hc, ha, ⟨p, rfl, hl⟩, k⟩ := h
    cases c <;> cases hc
    have nd := (sc_DaysIn_holds).nd
    have hC := T.cl_DaysIn
    have hN0 := T.no_DaysIn_first
    have hN1 := T.no_DaysIn_last
    refine ⟨_, (pss_one (ps_ret (pe_chain op_le op_le (pe_fld (pv 0) rfl) (pe_ix ix_tup (pv 1) pe_int (fun _ _ => rfl)) (pe_fld (pv 0) rfl)))), ?_⟩
    try dsimp only [cxOf, Cx.nox, Cx.wish]
    k_clsL
    rename_i i j
    have k' : Q (.bl (decide (i ≤ l.d) && decide (l.d ≤ j))) H := k
    refine ifd (fun c => ?_) (fun c => ?_)
    · rw [decide_eq_true c] at k'
      k_clsL
      exact k'
    · rw [decide_eq_false c] at k'
      exact k' 
  · refine met T.D_Over_holds T.cl_Over T.m_Over_holds sc_Over_holds (fun _ _ _ _ _ _ us hl => match us, hl with | [_, _], _ => rfl) (fun vs H Q E h => ?_) (fun cdv A outer s H vs Q E hr h => ?_)
    · obtain ⟨a, dx, lv, c, l, rfl, _⟩ := h
      rfl
    obtain ⟨a, dx, lv, c, l, rfl, hc, ha, ⟨p, rfl, hl⟩, k⟩ := h
    cases c <;> cases hc
    have nd := (sc_Over_holds).nd
    have hC := T.cl_Over
    have hN0 := T.no_Over_cents
    refine ⟨_, (pss_one (ps_ret (pe_cmpR op_gt (pe_ix ix_tup (pv 1) pe_int (fun _ _ => rfl)) (pe_fld (pv 0) rfl) (nomark _)))), ?_⟩
    try dsimp only [cxOf, Cx.nox, Cx.wish]
    k_clsL
    exact k
theorem LfM.nohold (c : LfM) : c.fs.lookup ("holds" : Str) = none := by cases c <;> rfl
def tHleaf (K : PySem.W.Frag) (ta : TE) (t : TA) : TE := tAny fun i => tMeth (lkA K i) "holds" (sp_hleaf K i) [] C8.E0 ta t
section
variable {X : Cx} {j : Nat} {o : Expr} {apos pos : Pos} {e : Expr} {es : List Expr} {ta : TE} {t : TA} {pl : Sem Bool}
theorem pe_hleaf (T : Txt X.K X.mg) (hr : Room j X.A) (hk : 1 ≤ j) (he : PE X o ta) (ha : PA X (e :: es) t)
    (hst : starEach (e :: es) X.env = (false, eval e X.env) :: starEach es X.env := by rfl) (hpl : (backTo pos (starEach es X.env)).any (·.1) = false := by rfl)
    (ht : eval (.Call (.Attribute o "holds" apos) (e :: es) [] pos) X.env = (do
      let ov ← eval o X.env
      standAt apos.atName
      let (f, first) ← holding [ov] (getMethod ov "holds" pl)
      callWith pos f first (backTo pos (starEach (e :: es) X.env)) (backToKw pos (keywordEach [] X.env))) := by rfl) :
    PE X (.Call (.Attribute o "holds" apos) (e :: es) [] pos) (tHleaf X.K ta t) := pe_any fun i => C8.pe_mt (pl := pl) (me_hleaf T i) hr hk he ha hst hpl ht
end
theorem rd_hleaf {σ : St} {H : Hp} {Q : VK} {i j : Nat} {v lv : V} (c : LfM) (l : LossM) (hv : σ[i]? = some (some v)) (hj : σ[j]? = some (some lv)) (hc : LfV K H v c) (hl : LossV H lv l) (q : Q (.bl (c.hold l)) H) : tHleaf K (tVar i) (tCons (tVar j) tNil) σ H Q := by
  obtain ⟨a, dx, rfl, ha⟩ := hc
  refine ⟨c.lk, _, hv, a, dx, c.fs, rfl, ha, c.nohold, _, hj, ?_⟩
  exact ⟨a, dx, lv, c, l, rfl, rfl, ha, hl, q⟩
def sp_All_holds (K : PySem.W.Frag) : Sp := fun vs H Q _ => ∃ (a : Addr) (lv : V) (ls : List LfM) (l : LossM), vs = [.ref a, lv] ∧ SevV K H (He.ga K "All") a ls ∧ LossV H lv l ∧ Q (.bl (ls.all (LfM.hold l))) H
theorem me_All_holds (T : Txt K mg) : C8.Met P w K mg base 2 (He.ga K "All") "holds" (sp_All_holds K) [] := by
  refine met T.D_All_holds T.cl_All T.m_All_holds sc_All_holds (fun _ _ _ _ _ _ us hl => match us, hl with | [_, _], _ => rfl) (fun vs H Q E h => ?_) (fun cdv A outer s H vs Q E hr h => ?_)
  · obtain ⟨a, lv, ls, l, rfl, _⟩ := h
    rfl
  obtain ⟨a, lv, ls, l, rfl, ⟨dx, p, xs, ha, hp, hxs⟩, hl, k⟩ := h
  have nd := (sc_All_holds).nd
  have hC := T.cl_All
  have hN0 := T.no_All_several
  refine ⟨_, (pss_cons (ps_for PassesOwn.never rfl (pi_list (pe_fld (pv 0) rfl)) (pg_name (i := 2) nd rfl (Or.inl rfl))
(pss_one (ps_if (pt_not (pt_val (Cv.pe_hleaf T hr (by decide) (pv 2) (pa_cons (pv 1) pa_nil))))
(pss_one (ps_ret pe_bl))
pss_nil)))
(pss_one (ps_ret pe_bl))), ?_⟩
  try dsimp only [cxOf, Cx.nox, Cx.wish]
  k_clsL
  refine for_l (xs := xs) (LfV K) ls (fun r σ H2 => ∃ v, σ = [some (.ref a), some lv, v] ∧ H2 = H ∧ ls.all (LfM.hold l) = r.all (LfM.hold l)) ?_ ?_ ?_ ?_
  · exact ⟨_, rfl, rfl, rfl⟩
  · rintro r σ H2 ⟨v, rfl, rfl, _⟩
    exact ⟨SqL.of hp, hxs⟩
  · rintro c r x σ H2 hc ⟨v, rfl, rfl, e⟩ hx
    rw [List.all_cons] at e
    k_clsL
    refine rd_hleaf c l rfl rfl hx hl ?_
    k_clsL
    refine ifnb (fun c3 => ?_) (fun c3 => ?_)
    · k_clsL
      rw [e, c3] at k
      exact k
    · k_clsL
      exact hold ⟨_, rfl, rfl, by rw [e, c3]; rfl⟩
  · rintro σ H2 ⟨v, rfl, rfl, e⟩
    k_clsL
    rw [e] at k
    exact k
def sp_Some_holds (K : PySem.W.Frag) : Sp := fun vs H Q _ => ∃ (a : Addr) (lv : V) (ls : List LfM) (l : LossM), vs = [.ref a, lv] ∧ SevV K H (He.ga K "Some") a ls ∧ LossV H lv l ∧ Q (.bl (ls.any (LfM.hold l))) H
theorem me_Some_holds (T : Txt K mg) : C8.Met P w K mg base 2 (He.ga K "Some") "holds" (sp_Some_holds K) [] := by
  refine met T.D_Some_holds T.cl_Some T.m_Some_holds sc_Some_holds (fun _ _ _ _ _ _ us hl => match us, hl with | [_, _], _ => rfl) (fun vs H Q E h => ?_) (fun cdv A outer s H vs Q E hr h => ?_)
  · obtain ⟨a, lv, ls, l, rfl, _⟩ := h
    rfl
  obtain ⟨a, lv, ls, l, rfl, ⟨dx, p, xs, ha, hp, hxs⟩, hl, k⟩ := h
  have nd := (sc_Some_holds).nd
  have hC := T.cl_Some
  have hN0 := T.no_Some_several
  refine ⟨_, (pss_cons (ps_for PassesOwn.never rfl (pi_list (pe_fld (pv 0) rfl)) (pg_name (i := 2) nd rfl (Or.inl rfl))
(pss_one (ps_if (pt_val (Cv.pe_hleaf T hr (by decide) (pv 2) (pa_cons (pv 1) pa_nil)))
(pss_one (ps_ret pe_bl))
pss_nil)))
(pss_one (ps_ret pe_bl))), ?_⟩
  try dsimp only [cxOf, Cx.nox, Cx.wish]
  k_clsL
  refine for_l (xs := xs) (LfV K) ls (fun r σ H2 => ∃ v, σ = [some (.ref a), some lv, v] ∧ H2 = H ∧ ls.any (LfM.hold l) = r.any (LfM.hold l)) ?_ ?_ ?_ ?_
  · exact ⟨_, rfl, rfl, rfl⟩
  · rintro r σ H2 ⟨v, rfl, rfl, _⟩
    exact ⟨SqL.of hp, hxs⟩
  · rintro c r x σ H2 hc ⟨v, rfl, rfl, e⟩ hx
    rw [List.any_cons] at e
    k_clsL
    refine rd_hleaf c l rfl rfl hx hl ?_
    k_clsL
    refine ifb (fun c3 => ?_) (fun c3 => ?_)
    · k_clsL
      rw [e, c3] at k
      exact k
    · k_clsL
      exact hold ⟨_, rfl, rfl, by rw [e, c3]; rfl⟩
  · rintro σ H2 ⟨v, rfl, rfl, e⟩
    k_clsL
    rw [e] at k
    exact k
def sp_Not_holds (K : PySem.W.Frag) : Sp := fun vs H Q _ => ∃ (a dx b : Addr) (lv : V) (ls : List LfM) (l : LossM), vs = [.ref a, lv] ∧ H a = some (.ins (He.ga K "Not") dx [("part", .ref b)]) ∧ SevV K H (He.ga K "All") b ls ∧ LossV H lv l ∧ Q (.bl (!ls.all (LfM.hold l))) H
theorem me_Not_holds (T : Txt K mg) : C8.Met P w K mg base 3 (He.ga K "Not") "holds" (sp_Not_holds K) [] := by
  refine met T.D_Not_holds T.cl_Not T.m_Not_holds sc_Not_holds (fun _ _ _ _ _ _ us hl => match us, hl with | [_, _], _ => rfl) (fun vs H Q E h => ?_) (fun cdv A outer s H vs Q E hr h => ?_)
  · obtain ⟨a, dx, b, lv, ls, l, rfl, _⟩ := h
    rfl
  obtain ⟨a, dx, b, lv, ls, l, rfl, ha, hb, hl, k⟩ := h
  have nd := (sc_Not_holds).nd
  have hC := T.cl_Not
  have hN0 := T.no_Not_part
  have hb' := hb
  obtain ⟨dx2, p, xs, hb1, hb2, hb3⟩ := hb'
  refine ⟨_, (pss_one (ps_ret (pe_not (C8.pe_mt (me_All_holds T) hr (by decide) (pe_fld (pv 0) rfl) (pa_cons (pv 1) pa_nil))))), ?_⟩
  try dsimp only [cxOf, Cx.nox, Cx.wish]
  k_clsL
  refine ⟨b, lv, ls, l, rfl, hb, hl, ?_⟩
  k_clsL
  exact k
def sp_holds (K : PySem.W.Frag) (i : Xk) : Sp := match i with
  | .leaf k => sp_hleaf K k
  | .all => sp_All_holds K
  | .some => sp_Some_holds K
  | .nall => sp_Not_holds K
def tHolds (K : PySem.W.Frag) (ta : TE) (t : TA) : TE := tAny fun i => tMeth (xkA K i) "holds" (sp_holds K i) [] C8.E0 ta t
section
variable {X : Cx} {j : Nat} {o : Expr} {apos pos : Pos} {e : Expr} {es : List Expr} {ta : TE} {t : TA} {pl : Sem Bool}
theorem pe_holds (T : Txt X.K X.mg) (hr : Room j X.A) (hk : 3 ≤ j) (he : PE X o ta) (ha : PA X (e :: es) t)
    (hst : starEach (e :: es) X.env = (false, eval e X.env) :: starEach es X.env := by rfl) (hpl : (backTo pos (starEach es X.env)).any (·.1) = false := by rfl)
    (ht : eval (.Call (.Attribute o "holds" apos) (e :: es) [] pos) X.env = (do
      let ov ← eval o X.env
      standAt apos.atName
      let (f, first) ← holding [ov] (getMethod ov "holds" pl)
      callWith pos f first (backTo pos (starEach (e :: es) X.env)) (backToKw pos (keywordEach [] X.env))) := by rfl) :
    PE X (.Call (.Attribute o "holds" apos) (e :: es) [] pos) (tHolds X.K ta t) := pe_any fun i => match i with
  | .leaf k => C8.pe_mt (pl := pl) (me_hleaf T k) hr (by omega) he ha hst hpl ht
  | .all => C8.pe_mt (pl := pl) (me_All_holds T) hr (by omega) he ha hst hpl ht
  | .some => C8.pe_mt (pl := pl) (me_Some_holds T) hr (by omega) he ha hst hpl ht
  | .nall => C8.pe_mt (pl := pl) (me_Not_holds T) hr (by omega) he ha hst hpl ht
end
theorem rd_holds {σ : St} {H : Hp} {Q : VK} {ta : TE} {j : Nat} {v lv : V} (c : CoX) (l : LossM) (hv : ∀ R : VK, R v H → ta σ H R) (hj : σ[j]? = some (some lv)) (hc : CoV K H v c) (hl : LossV H lv l) (q : Q (.bl (c.hold l)) H) : tHolds K ta (tCons (tVar j) tNil) σ H Q := by
  cases c with
  | leaf f =>
    obtain ⟨a, dx, rfl, ha⟩ := hc
    exact ⟨.leaf f.lk, hv _ ⟨a, dx, f.fs, rfl, ha, f.nohold, _, hj, ⟨a, dx, lv, f, l, rfl, rfl, ha, hl, q⟩⟩⟩
  | all ls =>
    obtain ⟨a, rfl, h⟩ := hc
    have h' := h
    obtain ⟨dx, p, xs, h1, h2, h3⟩ := h'
    exact ⟨.all, hv _ ⟨a, dx, _, rfl, h1, rfl, _, hj, ⟨a, lv, ls, l, rfl, h, hl, q⟩⟩⟩
  | some ls =>
    obtain ⟨a, rfl, h⟩ := hc
    have h' := h
    obtain ⟨dx, p, xs, h1, h2, h3⟩ := h'
    exact ⟨.some, hv _ ⟨a, dx, _, rfl, h1, rfl, _, hj, ⟨a, lv, ls, l, rfl, h, hl, q⟩⟩⟩
  | nall ls =>
    obtain ⟨a, dx, b, rfl, h1, h2⟩ := hc
    exact ⟨.nall, hv _ ⟨a, dx, _, rfl, h1, rfl, _, hj, ⟨a, dx, b, lv, ls, l, rfl, h1, h2, hl, q⟩⟩⟩
end
end Cv
namespace Cv
open PySem PySem.Spec
open PyProof.Rows hiding St
open L2
/-! ### d.setdefault(k, v), k a tuple -/
section
variable {X : Cx} {pins : List (Addr × Obj)} {σ : St} {H : Hp} {s : Shared} {a b : Addr} {r : Value} {d : V} {k : List Key} {A : Around} {E : Value → Shared → Prop}
theorem d_setdT {kvs : List (List Key × V)} {Q : Value → Shared → Prop} (hu : A.units + 1 < cLine) (I : Inv X pins σ H s) (e : H a = some (.dT kvs)) (eb : H b = some (.tup (k.map kV))) (rd : RelV d r) (hl : kvs.length < sizeLine)
    (h1 : ∀ v, valV kvs k = some v → ∀ (w' : Value) (s' : Shared), Inv X pins σ H s' → RelV v w' → Q w' s') (h2 : valV kvs k = none → ∀ (w' : Value) (s' : Shared), Inv X pins σ (upd H a (.dT (putK kvs k d))) s' → RelV d w' → Q w' s') :
    wpAny (model X.prog X.w) A (call (.builtin "dict.setdefault") [.ref a, .ref b, r]) Q E s := by
  obtain ⟨z, hd, xs, rel, dd⟩ := dt_of I.hok e
  have hz : xs.length ≤ sizeLine := by rw [← Paired.length rel]; exact z
  have hl2 : (putK kvs k d).length ≤ sizeLine := by have := length_putK kvs k d; omega
  refine call_setdefault_heap (hsz := hz) (tupleKind_room_in1 hu) (key_of I.hok eb) hd dd (fun p hp => ?_) (fun hn h' dd' hs => ?_)
  · have q := rel.val k
    rw [hp] at q
    cases q0 : valV kvs k with
    | none =>
      rw [q0] at q
      exact (show False from q).elim
    | some v0 =>
      rw [q0] at q
      exact h1 v0 q0 _ _ (I.tok _) q
  · have q := rel.val k
    rw [hn] at q
    cases q0 : valV kvs k with
    | some v0 =>
      rw [q0] at q
      exact (show False from q).elim
    | none =>
      obtain ⟨q, es, ep, hq, g2, g3, g4, _, g5⟩ := dd'
      refine h2 q0 _ _ (d_write I (by rw [e]; exact True.intro) hs ⟨q, hq⟩ ⟨hl2, hd, _, (rel.put k eb rd).keeps fun c ys ec => ?_, q, es, ep, hq, g2, g3, g4, g5⟩) rd
      rw [upd_ne (ne_of ec e (fun z => nomatch z))]
      exact ec
end
section
variable {X : Cx} {o e f : Expr} {td ty tx : TE} {apos cpos : Pos}
theorem pe_dsetT (hu : X.A.units + 1 < cLine) (ho : PE X o td) (he : PE X e ty) (hf : PE X f tx) (m : M2 X o "setdefault" apos e f cpos) : PE X (.Call (.Attribute o "setdefault" apos) [e, f] [] cpos) (tDSetT td ty tx) := by
  refine ⟨fun pins s σ H Q I h => ?_⟩
  refine wpAny_Call_method m.base m.few m.line PySem.F.plainAttrs_dict PySem.F.slot_dict_setdefault PySem.F.type_dict_setdefault (thn (ho.run pins s σ H _ I h) fun u s1 ⟨x, H1, I1, rx, a, ex, d, q1⟩ => ?_)
  subst ex
  obtain rfl : u = Value.ref a := rx
  obtain ⟨t1, t2, _⟩ := isD_at I1 d
  refine ⟨t1, t2, ?_⟩
  rw [m.trees]
  refine Calls.callWith_builtin rfl (Calls.evalArgs_plain (Calls.spliced_cons (thn (he.run pins s1 σ H1 _ I1 q1) fun iv s2 ⟨y, H2, I2, ry, q2⟩ =>
    Calls.spliced_cons (thn (hf.run pins s2 σ H2 _ I2 q2) fun fv s3 ⟨z, H3, I3, rz, kvs, k, b, ea, ey, eb, hl, q3, q4⟩ => Calls.spliced_nil ?_))))
  subst ey
  obtain rfl : iv = Value.ref b := ry
  exact d_setdT hu I3 ea eb rz hl (fun v hv w' s4 I4 rw' => ⟨v, _, I4, rw', q3 v hv⟩) fun hn w' s4 I4 rw' => ⟨z, _, I4, rw', q4 hn⟩
end
/-! ### the counts -/
abbrev CF := List Key → Key → Int
def addM (f : CF) (nk : List Key) (key : Key) (c : Int) : CF := fun nk' key' => if nk' = nk ∧ key' = key then f nk key + c else f nk' key'
/-- the heap but for the addresses of M -/
noncomputable def OffS (M : Addr → Prop) (H : Hp) : Hp := fun a => open Classical in if M a then none else H a
theorem OffS.at {M : Addr → Prop} {H : Hp} {a : Addr} {o : HO} (h : H a = some o) (n : ¬ M a) : OffS M H a = some o := by
  unfold OffS
  rw [if_neg n]
  exact h
theorem OffS.same (M : Addr → Prop) (H : Hp) : Same (OffS M H) H := fun a o h => by
  unfold OffS at h
  by_cases c : M a
  · rw [if_pos c] at h; cases h
  · rw [if_neg c] at h; exact h
theorem OffS.none {M : Addr → Prop} {H : Hp} {a : Addr} (h : M a) : OffS M H a = Option.none := by
  unfold OffS
  rw [if_pos h]
theorem OffS.of {M : Addr → Prop} {G H : Hp} (S : Same G H) (d : ∀ a, M a → G a = Option.none) : Same G (OffS M H) := fun a o h => OffS.at (S a o h) fun m => by rw [d a m] at h; cases h
def CntV (K : PySem.W.Frag) (H : Hp) (a : Addr) (f : CF) (n : Nat) (M : Addr → Prop) : Prop := ∃ dx d kvs, H a = some (.ins (He.ga K "Counts") dx [("held", .ref d)]) ∧ H d = some (.dT kvs) ∧ kvs.length ≤ n ∧
  (∀ nk v, valV kvs nk = some v → ∃ p es, v = .ref p ∧ H p = some (.dK es) ∧ es.length ≤ n ∧ ∀ key, (valV es key).getD (.int 0) = .int (f nk key)) ∧ (∀ nk, valV kvs nk = none → ∀ key, f nk key = 0) ∧
  (∀ nk nk' p, valV kvs nk = some (.ref p) → valV kvs nk' = some (.ref p) → nk = nk') ∧ ∀ x, M x ↔ x = a ∨ x = d ∨ ∃ nk, valV kvs nk = some (.ref x)
theorem CntV.keep {K : PySem.W.Frag} {H H' : Hp} {a : Addr} {f : CF} {n : Nat} {M : Addr → Prop} (c : CntV K H a f n M) (k : ∀ x o, M x → H x = some o → H' x = some o) : CntV K H' a f n M := by
  obtain ⟨dx, d, kvs, h1, h2, h3, h4, h5, h6, h7⟩ := c
  refine ⟨dx, d, kvs, k _ _ ((h7 _).mpr (.inl rfl)) h1, k _ _ ((h7 _).mpr (.inr (.inl rfl))) h2, h3, fun nk v e => ?_, h5, h6, h7⟩
  obtain ⟨p, es, rfl, g1, g2⟩ := h4 nk v e
  exact ⟨p, es, rfl, k _ _ ((h7 _).mpr (.inr (.inr ⟨nk, e⟩))) g1, g2⟩
theorem CntV.same {K : PySem.W.Frag} {H H' : Hp} {a : Addr} {f : CF} {n : Nat} {M : Addr → Prop} (c : CntV K H a f n M) (S : Same H H') : CntV K H' a f n M := c.keep fun x o _ h => S x o h
theorem CntV.there {K : PySem.W.Frag} {H : Hp} {a : Addr} {f : CF} {n : Nat} {M : Addr → Prop} (c : CntV K H a f n M) {x : Addr} (m : M x) : H x ≠ none := by
  obtain ⟨dx, d, kvs, h1, h2, h3, h4, h5, h6, h7⟩ := c
  rcases (h7 x).mp m with rfl | rfl | ⟨nk, e⟩
  · rw [h1]; exact fun e => nomatch e
  · rw [h2]; exact fun e => nomatch e
  · obtain ⟨p, es, e2, g1, g2⟩ := h4 nk _ e
    cases e2
    rw [g1]; exact fun e => nomatch e
section
variable {P : Program} {w : World} {K : PySem.W.Frag} {mg : Str → Option Value} {base : Heap}
def sp_Counts_init (K : PySem.W.Frag) : Sp := fun vs H Q _ => ∃ (a dx : Addr), vs = [.ref a] ∧ H a = some (.ins (He.ga K "Counts") dx []) ∧ ∀ d H', H d = none → But a H H' → CntV K H' a (fun _ _ => 0) 0 (fun x => x = a ∨ x = d) → Q .non H'
theorem mk_Counts (T : Txt K mg) : C8.Mak P w K mg base 1 "Counts" (He.ga K "Counts") (sp_Counts_init K) [] := by
  refine mak T.D_Counts_init T.g_Counts T.k_Counts sc_Counts_init (fun _ _ _ _ _ _ us hl => match us, hl with | [_], _ => rfl) (fun vs H Q E h => ?_) (fun cdv A outer s H vs Q E hr h => ?_)
  · obtain ⟨a, dx, rfl, _⟩ := h
    rfl
  obtain ⟨a, dx, rfl, ha, k⟩ := h
  have nd := (sc_Counts_init).nd
  have hC := T.cl_Counts
  have hN0 := T.no_Counts_held
  refine ⟨_, (pss_one (ps_fld (pv 0) pe_dnewT rfl)), ?_⟩
  try dsimp only [cxOf, Cx.nox, Cx.wish]
  k_clsL
  k_places
  rename_i d nd2 H1 hS1 hd1
  k_clsL
  refine k d _ nd2 hS1.but.mut ?_
  have had : a ≠ d := ne_of_none ha nd2
  refine ⟨dx, d, ([] : List (List Key × V)), upd_same, by rw [upd_ne had.symm]; exact hd1, Nat.le_refl _, (fun nk v e => by cases e), (fun _ _ _ => rfl), (fun nk _ p e => by cases e), fun x => ?_⟩
  constructor
  · rintro (h | h)
    · exact .inl h
    · exact .inr (.inl h)
  · rintro (h | h | ⟨nk, e⟩)
    · exact .inl h
    · exact .inr h
    · cases e
def sp_have (K : PySem.W.Frag) : Sp := fun vs H Q _ => ∃ (a : Addr) (x : Str) (k : Int) (key : Key) (f : CF) (n : Nat) (M : Addr → Prop), vs = [.ref a, .str x, .int k, kV key] ∧ CntV K H a f n M ∧ ∀ H', Same H H' → Q (.int (f [.inr x, .inl k] key)) H'
theorem me_Counts_have (T : Txt K mg) : C8.Met P w K mg base 1 (He.ga K "Counts") "have" (sp_have K) [] := by
  refine met T.D_Counts_have T.cl_Counts T.m_Counts_have sc_Counts_have (fun _ _ _ _ _ _ us hl => match us, hl with | [_, _, _, _], _ => rfl) (fun vs H Q E h => ?_) (fun cdv A outer s H vs Q E hr h => ?_)
  · obtain ⟨a, x, k, key, f, n, M, rfl, _⟩ := h
    rfl
  obtain ⟨a, x, k, key, f, n, M, rfl, ⟨dx, d, kvs, h1, h2, h3, h4, h5, h6, h7⟩, q⟩ := h
  have nd := (sc_Counts_have).nd
  have hu := hu_of hr
  have hC := T.cl_Counts
  have hN0 := T.no_Counts_held
  refine ⟨_, (pss_one (ps_ret (pe_dget2 hu (pe_dget2 hu (pe_fld (pv 0) rfl) (pe_tup (pa_cons (pv 1) (pa_cons (pv 2) pa_nil))) pe_dnewK ⟨rfl, rfl, rfl, rfl⟩) (pv 3) pe_int ⟨rfl, rfl, rfl, rfl⟩))), ?_⟩
  try dsimp only [cxOf, Cx.nox, Cx.wish]
  k_clsL
  k_places
  rename_i t nt H1 hS1 ht
  k_clsL
  k_places
  rename_i e ne H2 hS2 he
  have hS := hS1.trans hS2
  have ht2 : H2 t = some (.tup ([Sum.inr x, Sum.inl k].map kV)) := hS2.get ht
  k_clsL
  refine ⟨DGet.t (hS.get h2) ht2, ?_⟩
  cases e1 : valV kvs [.inr x, .inl k] with
  | none =>
    rw [h5 _ e1] at q
    k_clsL
    refine ⟨DGet.k he, ?_⟩
    exact q _ hS
  | some v =>
    obtain ⟨p, es, rfl, g1, g2, g3⟩ := h4 _ _ e1
    have g1' := hS.get g1
    k_clsL
    refine ⟨DGet.k g1', ?_⟩
    rw [g3]
    exact q _ hS
def sp_add (K : PySem.W.Frag) : Sp := fun vs H Q _ => ∃ (a : Addr) (x : Str) (k : Int) (key : Key) (c : Int) (f : CF) (n : Nat) (M : Addr → Prop), vs = [.ref a, .str x, .int k, kV key, .int c] ∧ CntV K H a f n M ∧ n < 100000 ∧
  ∀ H' M', Same (OffS M H) H' → (∀ y, M' y → M y ∨ H y = none) → CntV K H' a (addM f [.inr x, .inl k] key c) (n + 1) M' → Q .non H'
theorem me_Counts_add (T : Txt K mg) : C8.Met P w K mg base 1 (He.ga K "Counts") "add" (sp_add K) [] := by
  refine met T.D_Counts_add T.cl_Counts T.m_Counts_add sc_Counts_add (fun _ _ _ _ _ _ us hl => match us, hl with | [_, _, _, _, _], _ => rfl) (fun vs H Q E h => ?_) (fun cdv A outer s H vs Q E hr h => ?_)
  · obtain ⟨a, x, k, key, c, f, n, M, rfl, _⟩ := h
    rfl
  obtain ⟨a, x, k, key, c, f, n, M, rfl, hcv, hn, q⟩ := h
  have nd := (sc_Counts_add).nd
  have hu := hu_of hr
  have hC := T.cl_Counts
  have hN0 := T.no_Counts_held
  obtain ⟨dx, d, kvs, h1, h2, h3, h4, h5, h6, h7⟩ := hcv
  refine ⟨_, (pss_cons (ps_set (i := 5) nd rfl (Or.inl rfl) (Cv.pe_dsetT hu (pe_fld (pv 0) rfl) (pe_tup (pa_cons (pv 1) (pa_cons (pv 2) pa_nil))) pe_dnewK ⟨rfl, rfl, rfl, rfl⟩))
(pss_one (ps_dput hu (pv 5) (pv 3) (pe_op op_add (pe_dget2 hu (pv 5) (pv 3) pe_int ⟨rfl, rfl, rfl, rfl⟩) (pv 4)) rfl))), ?_⟩
  try dsimp only [cxOf, Cx.nox, Cx.wish]
  k_clsL
  k_places
  rename_i t nt H1 hS1 ht
  k_clsL
  k_places
  rename_i e ne H2 hS2 he
  have hS := hS1.trans hS2
  have ht2 : H2 t = some (.tup ([Sum.inr x, Sum.inl k].map kV)) := hS2.get ht
  have nde : H e = none := hS1.free ne
  k_clsL
  have hd2 := hS.get h2
  refine ⟨sz_lt (by omega), fun v hv => ?_, fun hv => ?_⟩
  · obtain ⟨p, es, rfl, g1, g2, g3⟩ := h4 _ _ hv
    have g1' := hS.get g1
    have pM : M p := (h7 p).mpr (.inr (.inr ⟨_, hv⟩))
    k_clsL
    refine ⟨DGet.k g1', ?_⟩
    rw [g3]
    k_clsL
    refine ⟨DPut.k g1' (sz_lt (by omega)), ?_⟩
    refine q _ M (fun y o hy => ?_) (fun y hy => .inl hy) ⟨dx, d, kvs, ?_, ?_, by omega, fun nk v e => ?_, fun nk e key' => ?_, h6, h7⟩
    · have hy' := OffS.same _ _ _ _ hy
      have : y ≠ p := fun e => by
        rw [e, OffS.none pM] at hy
        cases hy
      rw [upd_ne this]
      exact hS.get hy'
    · rw [upd_ne (ne_of (hS.get h1) g1' (fun e => nomatch e))]
      exact hS.get h1
    · rw [upd_ne (ne_of hd2 g1' (fun e => nomatch e))]
      exact hd2
    · obtain ⟨p', es', rfl, i1, i2, i3⟩ := h4 _ _ e
      by_cases hp : p' = p
      · subst hp
        obtain rfl := h6 _ _ _ e hv
        rw [g1] at i1
        cases i1
        refine ⟨p', _, rfl, upd_same, Nat.le_trans (length_putK _ _ _) (by omega), fun key' => ?_⟩
        rw [valV_put]
        unfold addM
        by_cases ek : key' = key
        · rw [if_pos ek, if_pos ⟨rfl, ek⟩]
          rfl
        · rw [if_neg ek, if_neg (fun h => ek h.2)]
          exact g3 key'
      · refine ⟨p', es', rfl, by rw [upd_ne hp]; exact hS.get i1, by omega, fun key' => ?_⟩
        have : nk ≠ [.inr x, .inl k] := fun en => by
          rw [en, hv] at e
          cases e
          exact hp rfl
        unfold addM
        rw [if_neg (fun h => this h.1)]
        exact i3 key'
    · have : nk ≠ [.inr x, .inl k] := fun en => by
        rw [en, hv] at e
        cases e
      unfold addM
      rw [if_neg (fun h => this h.1)]
      exact h5 _ e key'
  · generalize hU : upd H2 d _ = H3
    have hd3 : H3 d = some _ := new_at hU
    have hed : e ≠ d := ne_of he hd2 (fun e => nomatch e)
    have he3 : H3 e = some (.dK []) := by
      rw [← hU, upd_ne hed]
      exact he
    k_clsL
    refine ⟨DGet.k he3, ?_⟩
    rw [show (valV ([] : List (Key × V)) key).getD (.int 0) = .int 0 from rfl]
    k_clsL
    refine ⟨DPut.k he3 (sz_lt (by decide)), ?_⟩
    have had : a ≠ d := ne_of h1 h2 (fun e => nomatch e)
    have hae : a ≠ e := ne_of_none h1 nde
    have olde : ∀ nk, valV kvs nk ≠ some (.ref e) := fun nk h => by
      obtain ⟨p, es, e1, i1, _⟩ := h4 _ _ h
      cases e1
      rw [nde] at i1
      cases i1
    have old : ∀ {y o}, H y = some o → y ≠ d → upd H3 e (.dK (putK [] key (.int (0 + c)))) y = some o := fun {y o} hy hyd => by
      rw [upd_ne (ne_of_none hy nde), ← hU, upd_ne hyd]
      exact hS.get hy
    refine q _ (fun y => M y ∨ y = e) (fun y o hy => ?_) (fun y hy => ?_) ⟨dx, d, putK kvs [.inr x, .inl k] (.ref e), old h1 had, ?_, Nat.le_trans (length_putK _ _ _) (by omega), fun nk v ev => ?_, fun nk ev key' => ?_, fun nk nk' p e1 e2 => ?_, fun y => ?_⟩
    · have hy' := OffS.same _ _ _ _ hy
      refine old hy' fun e1 => ?_
      rw [e1, OffS.none ((h7 d).mpr (.inr (.inl rfl)))] at hy
      cases hy
    · rcases hy with h | rfl
      · exact .inl h
      · exact .inr nde
    · rw [upd_ne hed.symm]
      exact hd3
    · rw [valV_put] at ev
      by_cases en : nk = [.inr x, .inl k]
      · rw [if_pos en] at ev
        cases ev
        refine ⟨e, _, rfl, upd_same, Nat.le_trans (length_putK _ _ _) (by simp), fun key' => ?_⟩
        rw [valV_put]
        unfold addM
        by_cases ek : key' = key
        · rw [if_pos ek, if_pos ⟨en, ek⟩, h5 _ hv]
          rfl
        · rw [if_neg ek, if_neg (fun h => ek h.2), en, h5 _ hv]
          rfl
      · rw [if_neg en] at ev
        obtain ⟨p, es, rfl, i1, i2, i3⟩ := h4 _ _ ev
        refine ⟨p, es, rfl, old i1 (ne_of i1 h2 (fun e => nomatch e)), by omega, fun key' => ?_⟩
        unfold addM
        rw [if_neg (fun h => en h.1)]
        exact i3 key'
    · rw [valV_put] at ev
      by_cases en : nk = [.inr x, .inl k]
      · rw [if_pos en] at ev
        cases ev
      · rw [if_neg en] at ev
        unfold addM
        rw [if_neg (fun h => en h.1)]
        exact h5 _ ev key'
    · rw [valV_put] at e1 e2
      by_cases en : nk = [.inr x, .inl k]
      · by_cases en' : nk' = [.inr x, .inl k]
        · rw [en, en']
        · rw [if_pos en] at e1
          rw [if_neg en'] at e2
          cases e1
          exact absurd e2 (olde _)
      · rw [if_neg en] at e1
        by_cases en' : nk' = [.inr x, .inl k]
        · rw [if_pos en'] at e2
          cases e2
          exact absurd e1 (olde _)
        · rw [if_neg en'] at e2
          exact h6 _ _ _ e1 e2
    · show M y ∨ y = e ↔ _
      rw [h7 y]
      constructor
      · rintro ((h | h | ⟨nk, h⟩) | h)
        · exact .inl h
        · exact .inr (.inl h)
        · refine .inr (.inr ⟨nk, ?_⟩)
          rw [valV_put, if_neg]
          · exact h
          · intro en
            rw [en, hv] at h
            cases h
        · exact .inr (.inr ⟨[.inr x, .inl k], by rw [valV_put, if_pos rfl, h]⟩)
      · rintro (h | h | ⟨nk, h⟩)
        · exact .inl (.inl h)
        · exact .inl (.inr (.inl h))
        · rw [valV_put] at h
          by_cases en : nk = [.inr x, .inl k]
          · rw [if_pos en] at h
            cases h
            exact .inr rfl
          · rw [if_neg en] at h
            exact .inl (.inr (.inr ⟨nk, h⟩))
end
end Cv
namespace Cv
open PySem PySem.Spec
open PyProof.Rows hiding St
open L2
/-! ### covers: the mirror -/
structure CovM where
  name : Str
  cond : CoX
  cls : List ClM
  waits : Bool
  deriving DecidableEq
def CovV (K : PySem.W.Frag) (H : Hp) (v : V) (c : CovM) : Prop := ∃ a dx pc p xs hv dv, v = .ref a ∧ H a = some (.ins (He.ga K "Cover") dx [("name", .str c.name), ("condition", pc), ("clauses", .ref p), ("houses", hv), ("deal", dv), ("waits", .bl c.waits)]) ∧
  H p = some (.lst xs) ∧ Paired (ClV K H) xs c.cls ∧ CoV K H pc c.cond ∧ c.cls.length ≤ 8
theorem CovV.same {K : PySem.W.Frag} {H H' : Hp} {v : V} {c : CovM} (S : Same H H') (h : CovV K H v c) : CovV K H' v c := by
  obtain ⟨a, dx, pc, p, xs, hv, dv, e, h1, h2, h3, h4, h5⟩ := h
  exact ⟨a, dx, pc, p, xs, hv, dv, e, S _ _ h1, S _ _ h2, Paired.mapP h3 fun _ _ q => q.same S, h4.same S, h5⟩
def spansM (cls : List ClM) (ns : List Int) (cents : Int) : List Run := cls.zipIdx.filterMap fun p => some (spanM p.1 (ns.getD p.2 0) cents)
theorem spansM_len (cls : List ClM) (ns : List Int) (cents : Int) : (spansM cls ns cents).length ≤ cls.length := by
  unfold spansM
  have := List.length_filterMap_le (fun p : ClM × Nat => some (spanM p.1 (ns.getD p.2 0) cents)) cls.zipIdx
  rwa [List.length_zipIdx] at this
def winM : List Run → Int → Int → Int × Int
  | [], lo, hi => (lo, imax lo hi)
  | r :: rs, lo, hi => winM rs (imax lo r.1) (imin hi r.2)
def leftM (at_ : Int) : List Run → Nat → Int
  | [], _ => -1
  | r :: rs, k => if at_ < r.1 ∨ at_ ≥ r.2 then (k : Int) else leftM at_ rs (k + 1)
def restS (k : Int) (v : V) (best : Option (Int × Int)) : Option (Int × Int) := match v with
  | .int r => (match best with
    | none => some (r, k)
    | some b => if r < b.1 then some (r, k) else some b)
  | _ => best
def restM (ns : List Int) : List ClM → Nat → Option (Int × Int) → Option (Int × Int)
  | [], _, best => best
  | c :: cs, k, best => restM ns cs (k + 1) (restS k (roomM c (ns.getD k 0)) best)
def RestV (H : Hp) (v : V) : Option (Int × Int) → Prop
  | none => v = .non
  | some b => RunV H v b
theorem RestV.tk {H H' : Hp} {v : V} {b : Option (Int × Int)} (T : TK H H') (h : RestV H v b) : RestV H' v b := by
  cases b with
  | none => exact h
  | some b => exact RunV.tk T h
abbrev Trip := Int × Int × Int
def TripV (H : Hp) (v : V) (r : Trip) : Prop := ∃ t, v = .ref t ∧ H t = some (.tup [.int r.1, .int r.2.1, .int r.2.2])
theorem TripV.tk {H H' : Hp} {v : V} {r : Trip} (T : TK H H') (h : TripV H v r) : TripV H' v r := by
  obtain ⟨t, e, h⟩ := h
  exact ⟨t, e, T _ _ h⟩
section
variable {P : Program} {w : World} {K : PySem.W.Frag} {mg : Str → Option Value} {base : Heap}
theorem getI {ns : List Int} {k : Nat} (h : k < ns.length) : atI (ns.map V.int) (k : Nat) = some (.int (ns.getD k 0)) := by
  unfold atI ixN
  rw [if_pos (by omega), if_pos (by rw [List.length_map]; omega)]
  simp [h]
/-! ### need_houses, left_out -/
def sp_need_houses (K : PySem.W.Frag) : Sp := fun vs H Q _ => ∃ (a t : Addr) (x : Str), vs = [.ref a] ∧ H a = some (.lst [.ref t]) ∧ H t = some (.tup [.str x, .int 1]) ∧ nameB x = true ∧ x.length ≤ 1000 ∧ ∀ p H', Same H H' → H p = none → Q (.ref p) H'
theorem ok_need_houses (T : Txt K mg) : C8.Cal P w K mg base 2 "need_houses" (sp_need_houses K) [] := by
  refine cal T.D_need_houses T.g_need_houses sc_need_houses (fun _ _ _ _ _ _ us hl => match us, hl with | [_], _ => rfl) (fun vs H Q E h => ?_) (fun cdv A outer s H vs Q E hr h => ?_)
  · obtain ⟨a, t, x, rfl, _⟩ := h
    rfl
  obtain ⟨a, t, x, rfl, ha, ht, hx, hxl, k⟩ := h
  have nd := (sc_need_houses).nd
  refine ⟨_, (pss_cons (ps_set (i := 1) nd rfl (Or.inl rfl) (pe_lst pa_nil))
(pss_cons (ps_for PassesOwn.never rfl (pi_list (pv 0)) (pg_tup rfl (pgs_cons (pg_name (i := 2) nd rfl (Or.inl rfl)) (pgs_cons (pg_name (i := 3) nd rfl (Or.inl rfl)) pgs_nil)))
(pss_cons (ps_if (PW.pt (pw_or (pt_not (pt_val (C8.pe_c (ok_is_name T) hr (by decide) rfl (pa_cons (pv 2) pa_nil)))) (pw_or1 (pt_cmpR op_in_seq (pv 2) (pv 1) rfl))))
(pss_one ps_never)
pss_nil)
(pss_one (ps_expr (pe_bm PySem.F.plainAttrs_list PySem.F.slot_list_append PySem.F.type_list_append mt_append (pv 1) (pa_cons (pv 2) pa_nil))))))
(pss_one (ps_ret (pv 1))))), ?_⟩
  try dsimp only [cxOf, Cx.nox, Cx.wish]
  k_clsL
  k_places
  rename_i l nl H1 hS1 hl1
  k_clsL
  refine for_l (xs := [.ref t]) (fun _ v (i : Nat) => v = .ref t) [0] (fun r σ H2 => ∃ ys v2 v3, σ = [some (.ref a), some (.ref l), v2, v3] ∧ Same H H2 ∧ H2 l = some (.lst ys) ∧ (r ≠ [] → ys = [] ∧ r = [0])) ?_ ?_ ?_ ?_
  · exact ⟨_, _, _, rfl, hS1, hl1, fun _ => ⟨rfl, rfl⟩⟩
  · rintro r σ H2 ⟨ys, v2, v3, rfl, s1, _⟩
    exact ⟨s1.seq (SqL.of ha), .cons rfl .nil⟩
  · rintro c r v σ H2 hc ⟨ys, v2, v3, rfl, s1, hl2, he⟩ rfl
    obtain ⟨rfl, er⟩ := he (by simp)
    obtain rfl : r = [] := by simpa using congrArg List.tail er
    k_clsL
    refine ⟨_, rfl, .str x, fun z e => by cases e; exact hxl, ?_⟩
    rw [show isNameV (.str x) = true from hx]
    k_clsL
    refine ⟨l, [], rfl, .inl (SqL.of hl2), rfl, rfl, ?_⟩
    refine ⟨_, rfl, ?_⟩
    refine iff ?_
    k_clsL
    exact hold ⟨_, _, _, rfl, s1.mut nl, upd_same, fun h => absurd rfl h⟩
  · rintro σ H2 ⟨ys, v2, v3, rfl, s1, hl2, _⟩
    k_clsL
    exact k l H2 s1 nl
def sp_left_out (K : PySem.W.Frag) : Sp := fun vs H Q _ => ∃ (a : Addr) (i : Int) (xs : List V) (rs : List Run), vs = [.ref a, .int i] ∧ SqL K H a xs ∧ Runs H xs rs ∧ ∀ H', Same H H' → Q (.int (leftM i rs 0)) H'
theorem ok_left_out (T : Txt K mg) : C8.Cal P w K mg base 1 "left_out" (sp_left_out K) [] := by
  refine cal T.D_left_out T.g_left_out sc_left_out (fun _ _ _ _ _ _ us hl => match us, hl with | [_, _], _ => rfl) (fun vs H Q E h => ?_) (fun cdv A outer s H vs Q E hr h => ?_)
  · obtain ⟨a, i, xs, rs, rfl, _⟩ := h
    rfl
  obtain ⟨a, i, xs, rs, rfl, hS, hR, k⟩ := h
  have nd := (sc_left_out).nd
  refine ⟨_, (pss_cons (ps_for PassesOwn.never rfl (pi_enum (by rfl) T.f_enumerate (pa_cons (pv 0) pa_nil)) (pg_tup rfl (pgs_cons (pg_name (i := 2) nd rfl (Or.inl rfl)) (pgs_cons (pg_tup rfl (pgs_cons (pg_name (i := 3) nd rfl (Or.inl rfl)) (pgs_cons (pg_name (i := 4) nd rfl (Or.inl rfl)) pgs_nil))) pgs_nil)))
(pss_one (ps_if (PW.pt (pw_or (pt_cmpR op_lt (pv 1) (pv 3) (nomark _)) (pw_or1 (pt_cmpR op_ge (pv 1) (pv 4) (nomark _)))))
(pss_one (ps_ret (pv 2)))
pss_nil)))
(pss_one (ps_ret (C8.pe_gc rfl T.c_PAID_covers)))), ?_⟩
  try dsimp only [cxOf, Cx.nox, Cx.wish]
  k_clsL
  refine for_e (xs := xs) RunV rs (fun n r σ H2 => ∃ v2 v3 v4, σ = [some (.ref a), some (.int i), v2, v3, v4] ∧ Same H H2 ∧ leftM i rs 0 = leftM i r n) ?_ ?_ ?_ ?_
  · exact ⟨_, _, _, rfl, Same.refl _, rfl⟩
  · rintro n r σ H2 ⟨v2, v3, v4, rfl, s1, _⟩
    exact ⟨s1.seq hS, hR.tk s1.tk⟩
  · rintro n c r x t σ H2 H3 hc hd ⟨v2, v3, v4, rfl, s1, e⟩ ⟨u, rfl, hu⟩ nt s2 ht _
    have hu3 := s2.get hu
    have e2 : leftM i (c :: r) n = if i < c.1 ∨ i ≥ c.2 then (n : Int) else leftM i r (n + 1) := rfl
    k_clsL
    refine ifd (fun c1 => ?_) (fun c1 => ?_)
    · k_clsL
      rw [e, e2, if_pos (.inl c1)] at k
      exact k _ (s1.trans s2)
    · k_clsL
      refine ifd (fun c2 => ?_) (fun c2 => ?_)
      · k_clsL
        rw [e, e2, if_pos (.inr c2)] at k
        exact k _ (s1.trans s2)
      · k_clsL
        refine hold ⟨_, _, _, rfl, s1.trans s2, ?_⟩
        rw [e, e2, if_neg]
        rintro (h | h)
        · exact c1 h
        · exact c2 h
  · rintro σ H2 ⟨v2, v3, v4, rfl, s1, e⟩
    k_clsL
    rw [e] at k
    exact k _ s1
/-! ### asks, spans, window, rest -/
def sp_asks (K : PySem.W.Frag) : Sp := fun vs H Q _ => ∃ (v lv : V) (c : CovM) (l : LossM), vs = [v, lv] ∧ CovV K H v c ∧ LossV H lv l ∧ Q (.bl (c.cond.hold l)) H
theorem me_Cover_asks (T : Txt K mg) : C8.Met P w K mg base 4 (He.ga K "Cover") "asks" (sp_asks K) [] := by
  refine met T.D_Cover_asks T.cl_Cover T.m_Cover_asks sc_Cover_asks (fun _ _ _ _ _ _ us hl => match us, hl with | [_, _], _ => rfl) (fun vs H Q E h => ?_) (fun cdv A outer s H vs Q E hr h => ?_)
  · obtain ⟨v, lv, c, l, rfl, _⟩ := h
    rfl
  obtain ⟨v, lv, c, l, rfl, ⟨a, dx, pc, p, xs, hv, dv, rfl, h1, h2, h3, h4, h5⟩, hl, k⟩ := h
  have nd := (sc_Cover_asks).nd
  have hC := T.cl_Cover
  have hN := T.no_Cover_condition
  refine ⟨_, (pss_one (ps_ret (Cv.pe_holds T hr (by decide) (pe_fld (pv 0) rfl) (pa_cons (pv 1) pa_nil)))), ?_⟩
  try dsimp only [cxOf, Cx.nox, Cx.wish]
  k_clsL
  refine rd_holds c.cond l (fun R q => ?_) rfl h4 hl ?_
  · k_clsL
    exact q
  exact k
def sp_spans (K : PySem.W.Frag) : Sp := fun vs H Q _ => ∃ (v : V) (a : Addr) (cents : Int) (c : CovM) (ns : List Int), vs = [v, .ref a, .int cents] ∧ CovV K H v c ∧ SqL K H a (ns.map V.int) ∧ ns.length = c.cls.length ∧
  ∀ p H' ys, Same H H' → H p = none → H' p = some (.lst ys) → Runs H' ys (spansM c.cls ns cents) → Q (.ref p) H'
theorem me_Cover_spans (T : Txt K mg) : C8.Met P w K mg base 2 (He.ga K "Cover") "spans" (sp_spans K) [] := by
  refine met T.D_Cover_spans T.cl_Cover T.m_Cover_spans sc_Cover_spans (fun _ _ _ _ _ _ us hl => match us, hl with | [_, _, _], _ => rfl) (fun vs H Q E h => ?_) (fun cdv A outer s H vs Q E hr h => ?_)
  · obtain ⟨v, a, cents, c, ns, rfl, _⟩ := h
    rfl
  obtain ⟨v, a0, cents, c, ns, rfl, ⟨a, dx, pc, p, xs, hv, dv, rfl, h1, h2, h3, h4, h5⟩, hns, hnl, k⟩ := h
  have nd := (sc_Cover_spans).nd
  have hC := T.cl_Cover
  have hN := T.no_Cover_clauses
  refine ⟨_, (pss_one (ps_ret (pe_lc (own := [("k", 3), ("clause", 4)]) (g := (gTup K 2 (gCons (gName 3) (gCons (gName 4) gNil)))) (tt := tYes) (te := tSpan K (tVar 4) (tCons (tOp (rIxL K) (tVar 1) (tVar 3)) (tCons (tVar 2) tNil))) rfl nd (pi_enum (by rfl) T.f_enumerate (pa_cons (pe_fld (pv 0) rfl) pa_nil)) (blkOk_by (own := [("k", 3), ("clause", 4)]) (N := N_Cover_spans) (sc := defScope s_Cover_spans) (by decide +kernel)) (fun _ _ _ _ _ => (pg_tup rfl (pgs_cons (pg_name (i := 3) nd rfl (Or.inl rfl)) (pgs_cons (pg_name (i := 4) nd rfl (Or.inl rfl)) pgs_nil)))) (fun _ _ _ _ _ => pts_nil) (fun _ _ _ _ _ => (Cv.pe_span T hr (by decide) (pv 4) (pa_cons (pe_ix ix_list (pv 1) (pv 3) (fun _ _ => rfl)) (pa_cons (pv 2) pa_nil))))))), ?_⟩
  try dsimp only [cxOf, Cx.nox, Cx.wish]
  k_clsL
  refine lcg_e (xs := xs) (ClV K) c.cls RunV (fun k c => some (spanM c (ns.getD k 0) cents)) (fun S r => r.tk S.tk) (SqL.of h2) (fun H1 hS => Paired.mapP h3 fun _ _ q => q.same hS) (sz_lt (by omega)) (fun i cl x t D H1 acc K1 K0 e1 nD hS hD hx ht k1 k0 => ?_) (fun D H1 ys nD hS hD hP => ?_)
  · obtain ⟨b, db, rfl, hb⟩ := hx
    have hi : i < ns.length := by
      rw [hnl]
      exact (List.getElem?_eq_some_iff.mp e1).1
    have ge := getI hi
    k_clsL
    refine rd_any cl.ck ?_
    have hno := cl.nospan
    k_clsL
    refine ⟨b, db, cl, _, _, rfl, rfl, hb, fun q H2 hS2 nq hq => ?_⟩
    exact k1 _ _ H2 rfl hS2 ⟨q, rfl, Off.at hq (ne_of_none hD nq).symm⟩
  · exact k D H1 ys hS nD hD hP
def sp_window (K : PySem.W.Frag) : Sp := fun vs H Q _ => ∃ (v : V) (a : Addr) (cents : Int) (c : CovM) (ns : List Int), vs = [v, .ref a, .int cents] ∧ CovV K H v c ∧ SqL K H a (ns.map V.int) ∧ ns.length = c.cls.length ∧
  ∀ p H', Same H H' → H p = none → H' p = some (.tup [.int (winM (spansM c.cls ns cents) 0 cents).1, .int (winM (spansM c.cls ns cents) 0 cents).2]) → Q (.ref p) H'
theorem me_Cover_window (T : Txt K mg) : C8.Met P w K mg base 3 (He.ga K "Cover") "window" (sp_window K) [] := by
  refine met T.D_Cover_window T.cl_Cover T.m_Cover_window sc_Cover_window (fun _ _ _ _ _ _ us hl => match us, hl with | [_, _, _], _ => rfl) (fun vs H Q E h => ?_) (fun cdv A outer s H vs Q E hr h => ?_)
  · obtain ⟨v, a, cents, c, ns, rfl, _⟩ := h
    rfl
  obtain ⟨v, a0, cents, c, ns, rfl, hcv, hns, hnl, k⟩ := h
  have hcv' := hcv
  obtain ⟨a, dx, pc, p, xs, hv, dv, rfl, h1, h2, h3, h4, h5⟩ := hcv'
  have nd := (sc_Cover_window).nd
  refine ⟨_, (pss_cons (ps_set (i := 3) nd rfl (Or.inl rfl) pe_int)
(pss_cons (ps_set (i := 4) nd rfl (Or.inl rfl) (pv 2))
(pss_cons (ps_for PassesOwn.never rfl (pi_list (C8.pe_mt (me_Cover_spans T) hr (by decide) (pv 0) (pa_cons (pv 1) (pa_cons (pv 2) pa_nil)))) (pg_tup rfl (pgs_cons (pg_name (i := 5) nd rfl (Or.inl rfl)) (pgs_cons (pg_name (i := 6) nd rfl (Or.inl rfl)) pgs_nil)))
(pss_cons (ps_set (i := 3) nd rfl (Or.inl rfl) (pe_callB (call_max2 rfl) (by rfl) T.f_max Cv.bb_max (pa_cons (pv 3) (pa_cons (pv 5) pa_nil))))
(pss_one (ps_set (i := 4) nd rfl (Or.inl rfl) (pe_callB (call_min2 rfl) (by rfl) T.f_min Cv.bb_min (pa_cons (pv 4) (pa_cons (pv 6) pa_nil)))))))
(pss_one (ps_ret (pe_tup (pa_cons (pv 3) (pa_cons (pe_callB (call_max2 rfl) (by rfl) T.f_max Cv.bb_max (pa_cons (pv 3) (pa_cons (pv 4) pa_nil))) pa_nil)))))))), ?_⟩
  try dsimp only [cxOf, Cx.nox, Cx.wish]
  k_clsL
  refine ⟨_, a0, cents, c, ns, rfl, hcv, hns, hnl, fun p1 H1 ys hS1 np1 hp1 hR1 => ?_⟩
  k_clsL
  refine for_l (xs := ys) RunV (spansM c.cls ns cents) (fun r σ H2 => ∃ lo hi v5 v6, σ = [some (.ref a), some (.ref a0), some (.int cents), some (.int lo), some (.int hi), v5, v6] ∧ Same H1 H2 ∧ winM r lo hi = winM (spansM c.cls ns cents) 0 cents) ?_ ?_ ?_ ?_
  · exact ⟨_, _, _, _, rfl, Same.refl _, rfl⟩
  · rintro r σ H2 ⟨lo, hi, v5, v6, rfl, s1, _⟩
    exact ⟨s1.seq (SqL.of hp1), hR1.tk s1.tk⟩
  · rintro c r x σ H2 hc ⟨lo, hi, v5, v6, rfl, s1, e⟩ ⟨t, rfl, ht⟩
    k_clsL
    exact hold ⟨_, _, _, _, rfl, s1, e⟩
  · rintro σ H2 ⟨lo, hi, v5, v6, rfl, s1, e⟩
    k_clsL
    k_places
    rename_i q nq H3 hS3 hq
    refine k q H3 ((hS1.trans s1).trans hS3) ((hS1.trans s1).free nq) ?_
    rw [← e]
    exact hq
def sp_rest (K : PySem.W.Frag) : Sp := fun vs H Q _ => ∃ (v : V) (a : Addr) (c : CovM) (ns : List Int), vs = [v, .ref a] ∧ CovV K H v c ∧ SqL K H a (ns.map V.int) ∧ ns.length = c.cls.length ∧
  ∀ u H', Same H H' → RestV H' u (restM ns c.cls 0 none) → Q u H'
theorem me_Cover_rest (T : Txt K mg) : C8.Met P w K mg base 2 (He.ga K "Cover") "rest" (sp_rest K) [] := by
  refine met T.D_Cover_rest T.cl_Cover T.m_Cover_rest sc_Cover_rest (fun _ _ _ _ _ _ us hl => match us, hl with | [_, _], _ => rfl) (fun vs H Q E h => ?_) (fun cdv A outer s H vs Q E hr h => ?_)
  · obtain ⟨v, a, c, ns, rfl, _⟩ := h
    rfl
  obtain ⟨v, a0, c, ns, rfl, ⟨a, dx, pc, p, xs, hv, dv, rfl, h1, h2, h3, h4, h5⟩, hns, hnl, k⟩ := h
  have nd := (sc_Cover_rest).nd
  have hC := T.cl_Cover
  have hN := T.no_Cover_clauses
  refine ⟨_, (pss_cons (ps_set (i := 2) nd rfl (Or.inl rfl) pe_non)
(pss_cons (ps_for PassesOwn.never rfl (pi_enum (by rfl) T.f_enumerate (pa_cons (pe_fld (pv 0) rfl) pa_nil)) (pg_tup rfl (pgs_cons (pg_name (i := 3) nd rfl (Or.inl rfl)) (pgs_cons (pg_name (i := 4) nd rfl (Or.inl rfl)) pgs_nil)))
(pss_cons (ps_set (i := 5) nd rfl (Or.inl rfl) (Cv.pe_room T hr (by decide) (pv 4) (pa_cons (pe_ix ix_list (pv 1) (pv 3) (fun _ _ => rfl)) pa_nil)))
(pss_one (ps_if (PW.pt (pw_and (pt_cmpR op_notN (pv 5) pe_non (nomark _)) (pw_and1 (PW.pt (pw_or (pt_cmpR op_isN (pv 2) pe_non (nomark _)) (pw_or1 (pt_cmpR op_lt (pv 5) (pe_ix ix_tup (pv 2) pe_int (fun _ _ => rfl)) (nomark _))))))))
(pss_one (ps_set (i := 2) nd rfl (Or.inl rfl) (pe_tup (pa_cons (pv 5) (pa_cons (pv 3) pa_nil)))))
pss_nil))))
(pss_one (ps_ret (pv 2))))), ?_⟩
  try dsimp only [cxOf, Cx.nox, Cx.wish]
  k_clsL
  refine for_e (xs := xs) (ClV K) c.cls (fun n r σ H2 => ∃ u best v3 v4 v5, σ = [some (.ref a), some (.ref a0), some u, v3, v4, v5] ∧ Same H H2 ∧ RestV H2 u best ∧ restM ns r n best = restM ns c.cls 0 none) ?_ ?_ ?_ ?_
  · exact ⟨_, none, _, _, _, rfl, Same.refl _, rfl, rfl⟩
  · rintro n r σ H2 ⟨u, best, v3, v4, v5, rfl, s1, _⟩
    exact ⟨s1.seq (SqL.of h2), Paired.mapP h3 fun _ _ q => q.same s1⟩
  · rintro n cl r x t σ H2 H3 hc hd ⟨u, best, v3, v4, v5, rfl, s1, hb, e⟩ ⟨b, db, rfl, hbl⟩ nt s2 ht _
    have hi : n < ns.length := by
      rw [hnl]
      exact (List.getElem?_eq_some_iff.mp hc).1
    have ge := getI hi
    have hns3 := (s1.trans s2).seq hns
    have hb3 := hb.tk s2.tk
    have hbl3 := s2.get hbl
    k_clsL
    refine rd_any cl.ck ?_
    have hno := cl.noroom
    k_clsL
    refine ⟨b, db, cl, _, rfl, rfl, hbl3, ?_⟩
    have e2 : restM ns (cl :: r) n best = restM ns r (n + 1) (restS n (roomM cl (ns.getD n 0)) best) := rfl
    rw [e2] at e
    have hcase : roomM cl (ns.getD n 0) = .non ∨ ∃ i, roomM cl (ns.getD n 0) = .int i := by
      cases cl
      · exact .inl rfl
      · exact .inl rfl
      · exact .inr ⟨_, rfl⟩
    rcases hcase with hr0 | ⟨i, hr0⟩
    · rw [hr0] at e ⊢
      k_clsL
      refine iff ?_
      k_clsL
      exact hold ⟨u, best, _, _, _, rfl, s1.trans s2, hb3, e⟩
    · rw [hr0] at e ⊢
      k_clsL
      refine ift ?_
      cases best with
      | none =>
        have hb3 : u = .non := hb3
        subst hb3
        k_clsL
        refine ift ?_
        k_clsL
        k_places
        rename_i q nq H4 hS4 hq
        k_clsL
        exact hold ⟨_, some (i, (n : Int)), _, _, _, rfl, (s1.trans s2).trans hS4, ⟨q, rfl, hq⟩, e⟩
      | some bb =>
        obtain ⟨tb, rfl, htb⟩ := hb3
        k_clsL
        refine iff ?_
        k_clsL
        refine ifd (fun c1 => ?_) (fun c1 => ?_)
        · k_clsL
          k_places
          rename_i q nq H4 hS4 hq
          k_clsL
          refine hold ⟨_, some (i, (n : Int)), _, _, _, rfl, (s1.trans s2).trans hS4, ⟨q, rfl, hq⟩, ?_⟩
          rw [← e]
          congr 1
          exact (if_pos c1).symm
        · k_clsL
          refine hold ⟨_, some bb, _, _, _, rfl, s1.trans s2, ⟨tb, rfl, htb⟩, ?_⟩
          rw [← e]
          congr 1
          exact (if_neg c1).symm
  · rintro σ H2 ⟨u, best, v3, v4, v5, rfl, s1, hb, e⟩
    k_clsL
    refine k u H2 s1 ?_
    rw [← e]
    exact hb
/-! ### parts -/
def flatR : List Run → List Int
  | [] => []
  | r :: rs => r.1 :: r.2 :: flatR rs
theorem flatR_len : ∀ rs, (flatR rs).length = 2 * rs.length
  | [] => rfl
  | r :: rs => by
    have := flatR_len rs
    simp [flatR]
    omega
def stepP (sp : List Run) (found : List Trip) (r : Run) : List Trip :=
  if r.1 < r.2 ∧ found ≠ [] ∧ (found.getLast?.map (·.2.2)) = some (leftM r.1 sp 0) then found.set (found.length - 1) ((found.getD (found.length - 1) (0, 0, 0)).1, r.2, leftM r.1 sp 0)
  else if r.1 < r.2 then found ++ [(r.1, r.2, leftM r.1 sp 0)] else found
def foldP (sp : List Run) : List Run → List Trip → List Trip
  | [], found => found
  | r :: rs, found => foldP sp rs (stepP sp found r)
def endsM (sp : List Run) (cents : Int) : List Int := ([0, cents] ++ flatR sp).mergeSort
def partsM (sp : List Run) (cents : Int) : List Trip := foldP sp ((endsM sp cents).zip (endsM sp cents).tail) []
theorem stepP_len (sp : List Run) (found : List Trip) (r : Run) : (stepP sp found r).length ≤ found.length + 1 := by
  unfold stepP
  split
  · rw [List.length_set]; omega
  · split
    · simp
    · omega
theorem foldP_len (sp : List Run) : ∀ (rs : List Run) (found : List Trip), (foldP sp rs found).length ≤ found.length + rs.length
  | [], found => Nat.le_refl _
  | r :: rs, found => by
    have h1 := foldP_len sp rs (stepP sp found r)
    have h2 := stepP_len sp found r
    unfold foldP
    rw [List.length_cons]
    omega
theorem endsM_len (sp : List Run) (cents : Int) : (endsM sp cents).length = 2 + 2 * sp.length := by
  unfold endsM
  rw [List.length_mergeSort, List.length_append, flatR_len]
  rfl
theorem partsM_len (sp : List Run) (cents : Int) : (partsM sp cents).length ≤ 2 + 2 * sp.length := by
  unfold partsM
  have h := foldP_len sp ((endsM sp cents).zip (endsM sp cents).tail) []
  rw [List.length_zip, endsM_len] at h
  simp at h
  omega
theorem sorted_uniq {a b c : List Int} (h1 : a.Perm c) (h2 : a.Pairwise (· ≤ ·)) (h3 : b.Perm c) (h4 : b.Pairwise (· ≤ ·)) : a = b :=
  (h1.trans h3.symm).eq_of_pairwise (fun x y _ _ h h' => Int.le_antisymm h h') h2 h4
theorem endsM_eq (sp : List Run) (cents : Int) {ns : List Int} (h1 : ns.Perm ([0, cents] ++ flatR sp)) (h2 : ns.Pairwise (· ≤ ·)) : ns = endsM sp cents := by
  refine sorted_uniq h1 h2 (List.mergeSort_perm _ _) ?_
  have := List.pairwise_mergeSort (le := fun a b : Int => decide (a ≤ b)) (by simp; omega) (by simp; omega) ([0, cents] ++ flatR sp)
  exact this.imp fun h => by simpa using h
theorem cr_sorted_ends {X : Cx} : CallR X (.builtin "sorted") (rSortedI X.K) := cr_sortedI
theorem cut_init (xs : List V) : cutV xs none (some (-1)) = xs.dropLast := by
  unfold cutV HT.sIx
  rw [List.dropLast_eq_take]
  simp
  omega
theorem cut_tail (xs : List V) : cutV xs (some 1) none = xs.tail := by
  unfold cutV HT.sIx
  cases xs with
  | nil => simp
  | cons x r =>
    simp
theorem last_at {α : Type} {xs : List α} {x : α} (h : xs ≠ []) (e : xs[xs.length - 1]? = some x) : atI xs (-1) = some x := by
  have : 0 < xs.length := List.length_pos_iff.mpr h
  unfold atI ixN
  rw [if_neg (by decide), if_pos (by omega)]
  show xs[((xs.length : Int) + -1).toNat]? = _
  rw [← e]
  congr 1
  omega
theorem last_ix {α : Type} {xs : List α} (h : xs ≠ []) : ixN xs.length (-1) = some (xs.length - 1) := by
  have : 0 < xs.length := List.length_pos_iff.mpr h
  unfold ixN
  rw [if_neg (by decide), if_pos (by omega)]
  congr 1
  omega
theorem Pa.set {α β : Type} {F : α → β → Prop} {x : α} {y : β} (r : F x y) : ∀ {l : List α} {m : List β} (i : Nat), Paired F l m → Paired F (l.set i x) (m.set i y)
  | _, _, _, .nil => .nil
  | _, _, 0, .cons _ t => .cons r t
  | _, _, i + 1, .cons q t => .cons q (Pa.set r i t)
theorem zip_at {es : List Int} {i : Nat} {r : Run} {x y : V} (hc : (es.zip es.tail)[i]? = some r) (hx : (es.map V.int).dropLast[i]? = some x) (hy : (es.map V.int).tail[i]? = some y) : x = .int r.1 ∧ y = .int r.2 := by
  rw [List.getElem?_zip_eq_some] at hc
  obtain ⟨h1, h2⟩ := hc
  rw [List.getElem?_dropLast] at hx
  split at hx
  · rw [List.getElem?_map, h1] at hx
    rw [← List.map_tail, List.getElem?_map, h2] at hy
    exact ⟨(Option.some.inj hx).symm, (Option.some.inj hy).symm⟩
  · cases hx
theorem sql_upd {H : Hp} {a l : Addr} {xs : List V} {o u : HO} (h : SqL K H a xs) (hl : H l = some u) (n : a ≠ l) : SqL K (upd H l o) a xs := by
  rcases h with h | h
  · rcases h with h | ⟨ob, h⟩
    · exact .inl (.inl (by rw [upd_ne n]; exact h))
    · exact .inl (.inr ⟨ob, by rw [upd_ne n]; exact h⟩)
  · exact .inr h
def sp_parts (K : PySem.W.Frag) : Sp := fun vs H Q _ => ∃ (v : V) (a : Addr) (cents : Int) (c : CovM) (ns : List Int), vs = [v, .ref a, .int cents] ∧ CovV K H v c ∧ SqL K H a (ns.map V.int) ∧ ns.length = c.cls.length ∧
  ∀ p H' ys, Same H H' → H p = none → H' p = some (.lst ys) → Paired (TripV H') ys (partsM (spansM c.cls ns cents) cents) → Q (.ref p) H'
theorem me_Cover_parts (T : Txt K mg) : C8.Met P w K mg base 3 (He.ga K "Cover") "parts" (sp_parts K) [] := by
  refine met T.D_Cover_parts T.cl_Cover T.m_Cover_parts sc_Cover_parts (fun _ _ _ _ _ _ us hl => match us, hl with | [_, _, _], _ => rfl) (fun vs H Q E h => ?_) (fun cdv A outer s H vs Q E hr h => ?_)
  · obtain ⟨v, a, cents, c, ns, rfl, _⟩ := h
    rfl
  obtain ⟨v, a0, cents, c, ns, rfl, hcv, hns, hnl, k⟩ := h
  have hcv' := hcv
  obtain ⟨a, dx, pc, p, xs, hv, dv, rfl, h1, h2, h3, h4, h5⟩ := hcv'
  have nd := (sc_Cover_parts).nd
  have hsl := spansM_len c.cls ns cents
  have hel := endsM_len (spansM c.cls ns cents) cents
  generalize hsp : spansM c.cls ns cents = sp at *
  refine ⟨_, (pss_cons (ps_set (i := 3) nd rfl (Or.inl rfl) (C8.pe_mt (me_Cover_spans T) hr (by decide) (pv 0) (pa_cons (pv 1) (pa_cons (pv 2) pa_nil))))
(pss_cons (ps_set (i := 4) nd rfl (Or.inl rfl) (pe_lst (pa_cons pe_int (pa_cons (pv 2) pa_nil))))
(pss_cons (ps_for PassesOwn.never rfl (pi_list (pv 3)) (pg_tup rfl (pgs_cons (pg_name (i := 5) nd rfl (Or.inl rfl)) (pgs_cons (pg_name (i := 6) nd rfl (Or.inl rfl)) pgs_nil)))
(pss_one (ps_expr (pe_bm PySem.F.plainAttrs_list PySem.F.slot_list_extend PySem.F.type_list_extend mt_extend (pv 4) (pa_cons (pe_lst (pa_cons (pv 5) (pa_cons (pv 6) pa_nil))) pa_nil)))))
(pss_cons (ps_set (i := 4) nd rfl (Or.inl rfl) (pe_callB Cv.cr_sorted_ends (by rfl) T.f_sorted Cv.bb_sorted (pa_cons (pv 4) pa_nil)))
(pss_cons (ps_set (i := 7) nd rfl (Or.inl rfl) (pe_lst pa_nil))
(pss_cons (ps_for PassesOwn.never rfl (pi_zip (by rfl) T.f_zip (pa_cons (pe_slice sl_list (pv 4) po_none (po_some (pe_un un_neg pe_int))) (pa_cons (pe_slice sl_list (pv 4) (po_some pe_int) po_none) pa_nil))) (pg_tup rfl (pgs_cons (pg_name (i := 8) nd rfl (Or.inl rfl)) (pgs_cons (pg_name (i := 9) nd rfl (Or.inl rfl)) pgs_nil)))
(pss_cons (ps_set (i := 10) nd rfl (Or.inl rfl) (C8.pe_c (ok_left_out T) hr (by decide) rfl (pa_cons (pv 3) (pa_cons (pv 8) pa_nil))))
(pss_one (ps_if (PW.pt (pw_and (pt_cmpR op_lt (pv 8) (pv 9) (nomark _)) (pw_and (pt_cmpR (op_neD hr.units) (pv 7) (pe_lst pa_nil) (nomark _)) (pw_and1 (pt_cmpR op_eq (pe_ix ix_tup (pe_ix ix_list (pv 7) (pe_un un_neg pe_int) (fun _ _ => rfl)) pe_int (fun _ _ => rfl)) (pv 10) (nomark _))))))
(pss_one (ps_asg (pe_tup (pa_cons (pe_ix ix_tup (pe_ix ix_list (pv 7) (pe_un un_neg pe_int) (fun _ _ => rfl)) pe_int (fun _ _ => rfl)) (pa_cons (pv 9) (pa_cons (pv 10) pa_nil)))) (pg_sub (pv 7) (pe_un un_neg pe_int) set_list)))
(pss_one (ps_if (pt_cmpR op_lt (pv 8) (pv 9) (nomark _))
(pss_one (ps_expr (pe_bm PySem.F.plainAttrs_list PySem.F.slot_list_append PySem.F.type_list_append mt_append (pv 7) (pa_cons (pe_tup (pa_cons (pv 8) (pa_cons (pv 9) (pa_cons (pv 10) pa_nil)))) pa_nil))))
pss_nil))))))
(pss_one (ps_ret (pv 7))))))))), ?_⟩
  try dsimp only [cxOf, Cx.nox, Cx.wish]
  k_clsL
  refine ⟨_, a0, cents, c, ns, rfl, hcv, hns, hnl, fun p1 H1 ys hS1 np1 hp1 hR1 => ?_⟩
  rw [hsp] at hR1
  k_clsL
  k_places
  rename_i p2 np2 H2 hS2 hp2
  k_clsL
  have hS12 := hS1.trans hS2
  have np2' : H p2 = none := hS1.free np2
  refine for_l (xs := ys) RunV sp (fun r σ H3 => ∃ done v5 v6, σ = [some (.ref a), some (.ref a0), some (.int cents), some (.ref p1), some (.ref p2), v5, v6, none, none, none, none] ∧ Same H1 H3 ∧ H3 p2 = some (.lst (done.map V.int)) ∧ done ++ flatR r = [0, cents] ++ flatR sp) ?_ ?_ ?_ ?_
  · exact ⟨[0, cents], _, _, rfl, hS2, hp2, rfl⟩
  · rintro r σ H3 ⟨done, v5, v6, rfl, s1, _⟩
    exact ⟨s1.seq (SqL.of hp1), hR1.tk s1.tk⟩
  · rintro r rs x σ H3 hc ⟨done, v5, v6, rfl, s1, hd, e⟩ ⟨t, rfl, ht⟩
    have hz : done.length < 1000 := by
      have := congrArg List.length e
      simp only [List.length_append, flatR_len] at this
      simp at this
      omega
    have hz2 : (done.map V.int).length < 1000 := by rw [List.length_map]; exact hz
    k_clsL
    k_places
    rename_i q nq H4 hS4 hq
    have hz3 : (done.map V.int).length + [V.int r.1, V.int r.2].length ≤ sizeLine := sz_lit' (by simp only [List.length_map, List.length_cons, List.length_nil]; omega)
    k_clsL
    exact hold ⟨done ++ [r.1, r.2], _, _, rfl, (s1.trans hS4).mut np2, by rw [List.map_append]; exact upd_same, by rw [← e]; simp [flatR]⟩
  · rintro σ H3 ⟨done, v5, v6, rfl, s1, hd, e⟩
    have hS3 := hS1.trans s1
    rw [show flatR [] = [] from rfl, List.append_nil] at e
    k_clsL
    refine ⟨p2, done, rfl, SqL.of hd, fun ns' q hpm hpw nq => ?_⟩
    rw [e] at hpm
    obtain rfl := endsM_eq sp cents hpm hpw
    generalize hU : upd H3 q _ = H4
    have hS4 : Same H3 H4 := new_same nq hU
    have hq4 := new_at hU
    k_clsL
    k_places
    rename_i l nl H5 hS5 hl5
    k_clsL
    rw [cut_init]
    k_places
    rename_i q1 nq1 H6 hS6 hq6
    k_clsL
    rw [cut_tail]
    k_places
    rename_i q2 nq2 H7 hS7 hq7
    k_clsL
    have hl7 := hS7.get (hS6.get hl5)
    have hlen : ((endsM sp cents).zip (endsM sp cents).tail).length = min ((endsM sp cents).map V.int).dropLast.length ((endsM sp cents).map V.int).tail.length := by
      simp
    have nlS : Same H1 H7 := ((s1.trans hS4).trans hS5).trans (hS6.trans hS7)
    have nl1 : H1 l = none := (s1.trans hS4).free nl
    have nql1 : q1 ≠ l := fun e => by rw [e, hl5] at nq1; cases nq1
    have nql2 : q2 ≠ l := fun e => by rw [e, hS6.get hl5] at nq2; cases nq2
    refine for_z ((endsM sp cents).zip (endsM sp cents).tail) hlen (fun r σ H8 => ∃ zs done v8 v9 v10, σ = [some (.ref a), some (.ref a0), some (.int cents), some (.ref p1), some (.ref q), v5, v6, some (.ref l), v8, v9, v10] ∧ Same H1 H8 ∧ SqL K H8 q1 ((endsM sp cents).map V.int).dropLast ∧ SqL K H8 q2 ((endsM sp cents).map V.int).tail ∧ H8 l = some (.lst zs) ∧ Paired (TripV H8) zs done ∧ foldP sp r done = partsM sp cents ∧ done.length + r.length ≤ 1000) ?_ ?_ ?_ ?_
    · refine ⟨[], [], _, _, _, rfl, nlS, hS7.seq (SqL.of hq6), SqL.of hq7, hl7, .nil, rfl, ?_⟩
      rw [List.length_zip, endsM_len]
      simp
      omega
    · rintro r σ H8 ⟨zs, done, v8, v9, v10, rfl, s8, g1, g2, _⟩
      exact ⟨g1, g2⟩
    · rintro i r rs x y t σ H8 H9 hc ⟨zs, done, v8, v9, v10, rfl, s8, g1, g2, g3, g4, g5, g6⟩ hx hy hS9 nt ht
      have hz : zs.length = done.length := g4.length
      obtain ⟨hx', hy'⟩ := zip_at hc hx hy
      subst hx' hy'
      have e5 : foldP sp (r :: rs) done = foldP sp rs (stepP sp done r) := rfl
      rw [e5] at g5
      have hlen2 : (stepP sp done r).length + rs.length ≤ 1000 := by
        have := stepP_len sp done r
        rw [List.length_cons] at g6
        omega
      rw [List.length_cons] at g6
      have hzz : zs.length < 1000 := by omega
      k_clsL
      refine ⟨p1, r.1, ys, sp, rfl, (s8.trans hS9).seq (SqL.of hp1), hR1.tk (s8.trans hS9).tk, fun H10 hS10 => ?_⟩
      have hl10 := hS10.get (hS9.get g3)
      have hS810 := hS9.trans hS10
      k_clsL
      refine ifd (fun c1 => ?_) (fun c1 => ?_)
      · k_clsL
        k_places
        rename_i m nm H11 hS11 hm
        have hl11 := hS11.get hl10
        have hS811 := hS810.trans hS11
        refine ⟨.list (done.map encT), .list [], .lst (SqL.of hl11) (dpAll (S := TripV H8) encT (fun v b hv => ?_) g4), .lst (SqL.of hm) .nil, shapedL encT done (fun b _ => encT_can b) (fun b _ => encT_dep b), by decide, ?_⟩
        · obtain ⟨t', rfl, ht'⟩ := hv
          exact .tup (SqT.of (hS811.get ht')) (.cons (.int _) (.cons (.int _) (.cons (.int _) .nil)))
        k_clsL
        by_cases hd0 : done = []
        · subst hd0
          cases g4
          rw [show PyData.eqv (.list (List.map encT [])) (.list []) = true from by simp [PyData.eqv, PyData.eqvAll]]
          k_clsL
          refine ifdt c1 ?_
          k_clsL
          k_places
          rename_i m2 nm2 H12 hS12 hm2
          k_clsL
          have es : stepP sp [] r = [] ++ [(r.1, r.2, leftM r.1 sp 0)] := by
            unfold stepP
            rw [if_neg (fun h => h.2.1 rfl), if_pos c1]
          rw [es] at g5 hlen2
          refine hold ⟨_, _, _, _, _, rfl, ((s8.trans hS811).trans hS12).mut nl1, ?_, ?_, upd_same, ?_, g5, hlen2⟩
          · exact sql_upd (hS12.seq (hS811.seq g1)) (hS12.get hl11) nql1
          · exact sql_upd (hS12.seq (hS811.seq g2)) (hS12.get hl11) nql2
          · exact Paired.snoc .nil ⟨m2, rfl, ((TK.refl _).lst (hS12.get hl11)) _ _ hm2⟩
        · have hne : PyData.eqv (.list (List.map encT done)) (.list []) = false := by
            cases done with
            | nil => exact absurd rfl hd0
            | cons d ds => simp [PyData.eqv, PyData.eqvAll]
          rw [hne]
          have hzne : zs ≠ [] := fun e => hd0 (by rw [e] at hz; exact List.length_eq_zero_iff.mp hz.symm)
          have hpos : 0 < done.length := List.length_pos_iff.mpr hd0
          have eL : done[done.length - 1]? = some (done.getD (done.length - 1) (0, 0, 0)) := by
            rw [List.getD_eq_getElem?_getD, List.getElem?_eq_getElem (by omega)]
            rfl
          generalize hz0 : done.getD (done.length - 1) (0, 0, 0) = z at *
          obtain ⟨vz, hvz, tz, rfl, htz⟩ := Pa.right g4 eL
          rw [← hz] at hvz
          have hat := last_at hzne hvz
          have htz11 := hS811.get htz
          have eG : done.getLast?.map (·.2.2) = some z.2.2 := by rw [List.getLast?_eq_getElem?, eL]; rfl
          k_clsL
          refine ifd (fun c2 => ?_) (fun c2 => ?_)
          · have c2' : z.2.2 = leftM r.1 sp 0 := by injection c2
            k_clsL
            k_places
            rename_i m2 nm2 H12 hS12 hm2
            have hl12 := hS12.get hl11
            have hix := last_ix hzne
            k_clsL
            have es : stepP sp done r = done.set (done.length - 1) (z.1, r.2, leftM r.1 sp 0) := by
              unfold stepP
              rw [if_pos ⟨c1, hd0, by rw [eG, c2']⟩, hz0]
            rw [es] at g5 hlen2
            refine hold ⟨_, _, _, _, _, rfl, ((s8.trans hS811).trans hS12).mut nl1, ?_, ?_, upd_same, ?_, g5, hlen2⟩
            · exact sql_upd (hS12.seq (hS811.seq g1)) hl12 nql1
            · exact sql_upd (hS12.seq (hS811.seq g2)) hl12 nql2
            · have tk := (TK.refl H12).lst (o := .lst (zs.set (zs.length - 1) (.ref m2))) hl12
              rw [← hz]
              exact Pa.set ⟨m2, rfl, tk _ _ hm2⟩ _ (Paired.mapP g4 fun _ _ q => q.tk ((hS811.trans hS12).tk.trans tk))
          · have c2' : z.2.2 ≠ leftM r.1 sp 0 := fun e => c2 (by rw [e])
            k_clsL
            refine ifdt c1 ?_
            k_clsL
            k_places
            rename_i m2 nm2 H12 hS12 hm2
            have hl12 := hS12.get hl11
            k_clsL
            have es : stepP sp done r = done ++ [(r.1, r.2, leftM r.1 sp 0)] := by
              unfold stepP
              rw [if_neg (fun h => c2' (by have := h.2.2; rw [eG] at this; injection this)), if_pos c1]
            rw [es] at g5 hlen2
            refine hold ⟨_, _, _, _, _, rfl, ((s8.trans hS811).trans hS12).mut nl1, ?_, ?_, upd_same, ?_, g5, hlen2⟩
            · exact sql_upd (hS12.seq (hS811.seq g1)) hl12 nql1
            · exact sql_upd (hS12.seq (hS811.seq g2)) hl12 nql2
            · have tk := (TK.refl H12).lst (o := .lst (zs ++ [.ref m2])) hl12
              exact Paired.snoc (Paired.mapP g4 fun _ _ q => q.tk ((hS811.trans hS12).tk.trans tk)) ⟨m2, rfl, tk _ _ hm2⟩
      · k_clsL
        refine ifdf c1 ?_
        k_clsL
        have es : stepP sp done r = done := by
          unfold stepP
          rw [if_neg (fun h => c1 h.1), if_neg c1]
        rw [es] at g5 hlen2
        exact hold ⟨zs, done, _, _, _, rfl, s8.trans hS810, hS810.seq g1, hS810.seq g2, hl10, Paired.mapP g4 fun _ _ q => q.tk hS810.tk, g5, hlen2⟩
    · rintro σ H8 ⟨zs, done, v8, v9, v10, rfl, s8, g1, g2, g3, g4, g5, g6⟩
      k_clsL
      refine k l H8 zs (hS1.trans s8) (hS1.free nl1) g3 ?_
      rw [← g5]
      exact g4
/-! ### Cover(..) -/
def sp_Cover_init (K : PySem.W.Frag) : Sp := fun vs H Q _ => ∃ (a dx : Addr) (nm : Str) (pc : V) (pcl : Addr) (xs : List V) (ph t : Addr) (hs : Str) (wt : Bool) (cls : List ClM) (cond : CoX), vs = [.ref a, .str nm, pc, .ref pcl, .ref ph, .bl wt] ∧
  H a = some (.ins (He.ga K "Cover") dx []) ∧ H pcl = some (.lst xs) ∧ Paired (ClV K H) xs cls ∧ CoV K H pc cond ∧ cls.length ≤ 8 ∧ H ph = some (.lst [.ref t]) ∧ H t = some (.tup [.str hs, .int 1]) ∧ nameB nm = true ∧ nm ≠ "self" ∧ nm.length ≤ 1000 ∧ nameB hs = true ∧ hs.length ≤ 1000 ∧
  ∃ H0, H0 a = none ∧ Same H0 H ∧ CoV K H0 pc cond ∧ Paired (ClV K H0) xs cls ∧ ∀ H', But a H H' → (∀ H2, Same H0 H2 → H2 a = H' a → (∀ b o, H b = none → H' b = some o → H2 b = some o) → CovV K H2 (.ref a) ⟨nm, cond, cls, wt⟩) → Q .non H'
theorem upd_but {H H' : Hp} {p : Addr} {o : HO} (e : upd H p o = H') : But p H H' := by
  rw [← e]
  exact (But.refl p H).mut
theorem But.from {p : Addr} {H0 H H' : Hp} (n : H0 p = none) (S : Same H0 H) (B : But p H H') : Same H0 H' := fun a o h => B a o (S a o h) (ne_of_none h n)
theorem mk_Cover (T : Txt K mg) : C8.Mak P w K mg base 6 "Cover" (He.ga K "Cover") (sp_Cover_init K) [] := by
  obtain ⟨fd, F⟩ := T.D_Cover_init
  have hb : ∃ ds, Vals ([] : List V) ds ∧ Binds K fd ["self", "name", "condition", "clauses", "houses", "waits"] ds := FunD.binds1 F 6 3 (by simp [He.DefD.dvs, d_Cover_init]) (by rfl)
    (fun T0 kV doc pm an cdv ct us its h1 h2 => match us, its, h1, h2 with | [_, _, _, _, _, _], [_, _, _], _, _ => ⟨_, rfl, rfl⟩)
  obtain ⟨ds, rd, hb⟩ := hb
  cases rd
  refine ⟨_, fd, _, [], T.k_Cover, F.ok sc_Cover_init (fun vs H Q E h => ?_) (fun cdv A outer s H vs Q E hr h => ?_), T.g_Cover, hb, .nil⟩
  · obtain ⟨a, dx, nm, pc, pcl, xs, ph, t, hs, wt, cls, cond, rfl, _⟩ := h
    rfl
  obtain ⟨a, dx, nm, pc, pcl, xs, ph, t, hs, wt, cls, cond, rfl, ha, hcl, hclv, hco, hcn, hph, ht, nmB, nmS, nmL, hsB, hsL, H0, n0, S0, co0, cl0, k⟩ := h
  have nd := (sc_Cover_init).nd
  have hC := T.cl_Cover
  have hN0 := T.no_Cover_name
  have hN1 := T.no_Cover_condition
  have hN2 := T.no_Cover_clauses
  have hN3 := T.no_Cover_houses
  have hN4 := T.no_Cover_deal
  have hN5 := T.no_Cover_waits
  have d1 : pcl ≠ a := ne_of hcl ha (fun e => nomatch e)
  have d2 : ph ≠ a := ne_of hph ha (fun e => nomatch e)
  have d3 : t ≠ a := ne_of ht ha (fun e => nomatch e)
  refine ⟨_, PSs.nox (pss_cons (ps_if (PW.pt (pw_or (pt_not (pt_val (C8.pe_c (ok_is_name T) hr (by decide) rfl (pa_cons (pv 1) pa_nil)))) (pw_or1 (pt_cmpR op_eq (pv 1) pe_str (nomark _)))))
(pss_one ps_never)
pss_nil)
(pss_cons (ps_fld (pv 0) (pv 1) rfl)
(pss_cons (ps_fld (pv 0) (pv 2) rfl)
(pss_cons (ps_fld (pv 0) (pe_lst pa_nil) rfl)
(pss_cons (ps_if (pt_cmpR op_notN (pv 3) pe_non (nomark _))
(pss_one (ps_fld (pv 0) (pe_callTy call_list_of (by rfl) T.f_list Cv.bt_list (pa_cons (pv 3) pa_nil)) rfl))
pss_nil)
(pss_cons (ps_if (pt_cmpR op_gt (pe_callB call_len_seq (by rfl) T.f_len Cv.bb_len (pa_cons (pe_fld (pv 0) rfl) pa_nil)) (C8.pe_gc rfl T.c_MOST_CLAUSES) (nomark _))
(pss_one ps_never)
pss_nil)
(pss_cons (ps_set (i := 6) nd rfl (Or.inl rfl) (pe_lst (pa_cons (pe_tup (pa_cons (pv 1) (pa_cons pe_int pa_nil))) pa_nil)))
(pss_cons (ps_if (pt_cmpR op_notN (pv 4) pe_non (nomark _))
(pss_one (ps_set (i := 6) nd rfl (Or.inl rfl) (pv 4)))
pss_nil)
(pss_cons (ps_fld (pv 0) (C8.pe_c (ok_need_houses T) hr (by decide) rfl (pa_cons (pv 6) pa_nil)) rfl)
(pss_cons (ps_fld (pv 0) (C8.pe_mk (mk_Deal T) hr (by decide) rfl (pa_cons (pe_lc (own := [("house", 7), ("weight", 8)]) (g := (gTup K 2 (gCons (gName 7) (gCons (gName 8) gNil)))) (tt := tYes) rfl nd (pi_list (pv 6)) (blkOk_by (own := [("house", 7), ("weight", 8)]) (N := N_Cover_init) (sc := defScope s_Cover_init) (by decide +kernel)) (fun _ _ _ _ _ => (pg_tup rfl (pgs_cons (pg_name (i := 7) nd rfl (Or.inl rfl)) (pgs_cons (pg_name (i := 8) nd rfl (Or.inl rfl)) pgs_nil)))) (fun _ _ _ _ _ => pts_nil) (fun _ _ _ _ _ => (pv 8))) pa_nil)) rfl)
(pss_one (ps_fld (pv 0) (pv 5) rfl)))))))))))), ?_⟩
  try dsimp only [cxOf, Cx.nox, Cx.wish]
  k_clsL
  refine ⟨_, rfl, .str nm, fun z e => by cases e; exact nmL, ?_⟩
  rw [show isNameV (.str nm) = true from nmB]
  k_clsL
  refine ifdf (fun e => nmS (by injection e)) ?_
  k_clsL
  k_places
  rename_i l nl H1 hS1 hl1
  have ha1 := hS1.get (upd_same (H := upd H a (.ins (He.ga K "Cover") dx (putF "name" (.str nm) []))) (a := a) (o := .ins (He.ga K "Cover") dx (putF "condition" pc (putF "name" (.str nm) []))))
  have B1 : But a H H1 := ((But.refl a H).mut.mut).trans hS1.but
  k_clsL
  generalize hU2 : upd H1 a _ = H2
  have ha2 := new_at hU2
  have B2 : But a H H2 := B1.trans (upd_but hU2)
  have hcl2 := B2 _ _ hcl d1
  refine ifnd (fun _ => ?_) (fun e => nomatch e)
  k_clsL
  k_places
  rename_i l3 nl3 H3 hS3 hl3
  have ha3 := hS3.get ha2
  k_clsL
  generalize hU4 : upd H3 a _ = H4
  have ha4 := new_at hU4
  have B4 : But a H H4 := (B2.trans hS3.but).trans (upd_but hU4)
  have hl4 : H4 l3 = some (.lst xs) := upd_but hU4 _ _ hl3 (ne_of hl3 ha3 (fun e => nomatch e))
  have hxl := hclv.length
  k_clsL
  refine ifdf (by omega) ?_
  k_clsL
  k_places
  rename_i t5 nt5 H5 hS5 ht5
  k_clsL
  k_places
  rename_i l6 nl6 H6 hS6 hl6
  k_clsL
  have B6 : But a H H6 := (B4.trans hS5.but).trans hS6.but
  have ha6 := (hS5.trans hS6).get ha4
  have hph6 := B6 _ _ hph d2
  have ht6 := B6 _ _ ht d3
  refine ifnd (fun _ => ?_) (fun e => nomatch e)
  k_clsL
  refine ⟨ph, t, hs, rfl, hph6, ht6, hsB, hsL, fun q H7 hS7 nq => ?_⟩
  have ha7 := hS7.get ha6
  k_clsL
  generalize hU8 : upd H7 a _ = H8
  have ha8 := new_at hU8
  have B8 : But a H H8 := (B6.trans hS7.but).trans (upd_but hU8)
  have hl8 : H8 l3 = some (.lst xs) := upd_but hU8 _ _ (hS7.get (hS6.get (hS5.get hl4))) (ne_of hl3 ha3 (fun e => nomatch e))
  have hph8 := B8 _ _ hph d2
  have ht8 := B8 _ _ ht d3
  k_clsL
  refine lcg_l (xs := [.ref t]) (fun H v (i : Nat) => v = .ref t) [0] (fun _ v (i : Int) => v = .int i) (fun _ => some 1) (fun _ h => h) (SqL.of hph8) (fun _ _ => .cons rfl .nil) (by decide) (fun i c x D H9 acc K1 K0 e1 nD hS9 hD hx k1 k0 => ?_) (fun D H9 ys nD hS9 hD hP => ?_)
  · subst hx
    have ht9 := hS9.get ht8
    k_clsL
    exact k1 _ 1 _ rfl (Same.refl _) rfl
  obtain rfl : ys = [.int 1] := Pa.of_ints hP
  k_clsL
  intro dl ddx ndl nddx dne
  k_clsL
  refine ⟨dl, ddx, D, rfl, upd_same, ?_, fun H10 hB10 => ?_⟩
  · rw [upd_ne (ne_of_none hD ndl), upd_ne (ne_of_none hD nddx)]
    exact hD
  have hS10 : Same H9 H10 := But.made ndl nddx hB10
  have ha10 := (hS9.trans hS10).get ha8
  refine ⟨rfl, ?_⟩
  k_clsL
  generalize hU11 : upd H10 a _ = H11
  have ha11 := new_at hU11
  k_clsL
  generalize hU12 : upd H11 a _ = H12
  have ha12 := new_at hU12
  have B12 : But a H H12 := ((((B8.trans hS9.but).trans hS10.but).trans (upd_but hU11))).trans (upd_but hU12)
  have nel : l3 ≠ a := ne_of hl3 ha3 (fun e => nomatch e)
  have nl3H : H l3 = none := by
    cases q : H l3 with
    | none => rfl
    | some u =>
      have q2 := B2 l3 u q nel
      rw [nl3] at q2
      cases q2
  exact k H12 B12 fun HX SX hXa hXn => ⟨a, dx, pc, l3, xs, _, _, rfl, hXa.trans ha12, hXn _ _ nl3H (upd_but hU12 _ _ (upd_but hU11 _ _ ((hS9.trans hS10).get hl8) nel) nel), Paired.mapP cl0 fun _ _ q => q.same SX, co0.same SX, hcn⟩
end
end Cv
namespace Cv
open PySem PySem.Spec
open PyProof.Rows hiding St
open L2
/-! ### books -/
def firmM (cs : List CovM) : List CovM := cs.filterMap fun c => if c.waits = true then none else some c
def waitM (cs : List CovM) : List CovM := cs.filterMap fun c => if c.waits = true then some c else none
def askM (cs : List CovM) : List CovM := firmM cs ++ waitM cs
theorem askM_len (cs : List CovM) : (askM cs).length ≤ 2 * cs.length := by
  have h1 := List.length_filterMap_le (fun c : CovM => if c.waits = true then none else some c) cs
  have h2 := List.length_filterMap_le (fun c : CovM => if c.waits = true then some c else none) cs
  unfold askM firmM waitM
  rw [List.length_append]
  omega
def BookV (K : PySem.W.Frag) (H : Hp) (v : V) (cs : List CovM) : Prop := ∃ a dx p hv xs, v = .ref a ∧ H a = some (.ins (He.ga K "Book") dx [("covers", hv), ("asking", .ref p)]) ∧ H p = some (.lst xs) ∧ Paired (CovV K H) xs cs
theorem BookV.same {K : PySem.W.Frag} {H H' : Hp} {v : V} {cs : List CovM} (S : Same H H') (h : BookV K H v cs) : BookV K H' v cs := by
  obtain ⟨a, dx, p, hv, xs, e, h1, h2, h3⟩ := h
  exact ⟨a, dx, p, hv, xs, e, S _ _ h1, S _ _ h2, Paired.mapP h3 fun _ _ q => q.same S⟩
theorem strs_of : ∀ {vs : List V} {ns : List Str}, Paired (fun v (n : Str) => v = V.str n) vs ns → vs = ns.map V.str
  | _, _, .nil => rfl
  | _, _, .cons h t => by rw [h, strs_of t]; rfl
section
variable {P : Program} {w : World} {K : PySem.W.Frag} {mg : Str → Option Value} {base : Heap}
def sp_Book_init (K : PySem.W.Frag) : Sp := fun vs H Q _ => ∃ (a dx p : Addr) (xs : List V) (cs : List CovM), vs = [.ref a, .ref p] ∧ H a = some (.ins (He.ga K "Book") dx []) ∧ H p = some (.lst xs) ∧ Paired (CovV K H) xs cs ∧ cs.length ≤ 8 ∧ (cs.map CovM.name).Nodup ∧
  (∃ H0, H0 a = none ∧ Same H0 H ∧ Paired (CovV K H0) xs cs) ∧ ∀ H', But a H H' → BookV K H' (.ref a) (askM cs) → Q .non H'
theorem mk_Book (T : Txt K mg) : C8.Mak P w K mg base 1 "Book" (He.ga K "Book") (sp_Book_init K) [] := by
  refine mak T.D_Book_init T.g_Book T.k_Book sc_Book_init (fun _ _ _ _ _ _ us hl => match us, hl with | [_, _], _ => rfl) (fun vs H Q E h => ?_) (fun cdv A outer s H vs Q E hr h => ?_)
  · obtain ⟨a, dx, p, xs, cs, rfl, _⟩ := h
    rfl
  obtain ⟨a, dx, p, xs, cs, rfl, ha, hp, hP, hc, hnd, ⟨H0, n0, S0, hP0⟩, k⟩ := h
  have nd := (sc_Book_init).nd
  have hC := T.cl_Book
  have hN0 := T.no_Book_covers
  have hN1 := T.no_Book_asking
  have hCv := T.cl_Cover
  have hCn := T.no_Cover_name
  have hCw := T.no_Cover_waits
  have hpa : p ≠ a := ne_of hp ha (fun e => nomatch e)
  have hxl := hP.length
  refine ⟨_, (pss_cons (ps_if (pt_cmpR op_gt (pe_callB call_len_seq (by rfl) T.f_len Cv.bb_len (pa_cons (pv 1) pa_nil)) (C8.pe_gc rfl T.c_MOST_COVERS) (nomark _))
(pss_one ps_never)
pss_nil)
(pss_cons (ps_if (pt_cmpR op_lt (Cv.pe_lenSet (pe_lc (own := [("cover", 2)]) (g := (gName 2)) (tt := tYes) (te := tFld K (tVar 2) "name") rfl nd (pi_list (pv 1)) (blkOk_by (own := [("cover", 2)]) (N := N_Book_init) (sc := defScope s_Book_init) (by decide +kernel)) (fun _ _ _ _ _ => (pg_name (i := 2) nd rfl (Or.inl rfl))) (fun _ _ _ _ _ => pts_nil) (fun _ _ _ _ _ => (pe_fld (pv 2) rfl))) T.f_len T.f_set) (pe_callB call_len_seq (by rfl) T.f_len Cv.bb_len (pa_cons (pv 1) pa_nil)) (nomark _))
(pss_one ps_never)
pss_nil)
(pss_cons (ps_fld (pv 0) (pe_callTy call_list_of (by rfl) T.f_list Cv.bt_list (pa_cons (pv 1) pa_nil)) rfl)
(pss_cons (ps_setLc (i := 3) (own := [("cover", 2)]) (g := (gName 2)) (tt := tNot (tB (tFld K (tVar 2) "waits"))) rfl nd rfl rfl (sw_true rfl rfl rfl (by decide +kernel)) (pi_list (pv 1)) (blkOk_by (own := [("cover", 2)]) (N := N_Book_init) (sc := defScope s_Book_init) (by decide +kernel)) (fun _ _ _ _ _ => (pg_name (i := 2) nd rfl (Or.inl rfl))) (fun _ _ _ _ _ => (pts_one (pt_not (pt_val (pe_fld (pv 2) rfl))))) (fun _ _ _ _ _ => (pv 2)))
(pss_one (ps_fld (pv 0) (pe_op op_cat (pv 3) (pe_lc (own := [("cover", 2)]) (g := (gName 2)) (tt := tB (tFld K (tVar 2) "waits")) rfl nd (pi_list (pv 1)) (blkOk_by (own := [("cover", 2)]) (N := N_Book_init) (sc := defScope s_Book_init) (by decide +kernel)) (fun _ _ _ _ _ => (pg_name (i := 2) nd rfl (Or.inl rfl))) (fun _ _ _ _ _ => (pts_one (pt_val (pe_fld (pv 2) rfl)))) (fun _ _ _ _ _ => (pv 2)))) rfl)))))), ?_⟩
  try dsimp only [cxOf, Cx.nox, Cx.wish]
  k_clsL
  refine ifdf (by omega) ?_
  unfold tLenSetN
  k_clsL
  refine lcg_l (xs := xs) (CovV K) cs (fun _ v (y : Str) => v = .str y) (fun c => some c.name) (fun _ h => h) (SqL.of hp) (fun H1 hS => Paired.mapP hP fun _ _ q => q.same hS) (sz_lt (by omega)) (fun i c x D H1 acc K1 K0 e1 nD hS hD hx k1 k0 => ?_) (fun D H1 ys nD hS hD hPy => ?_)
  · obtain ⟨b, db, pc, pl, xl, hv, dv, rfl, hb, _⟩ := hx
    k_clsL
    exact k1 _ _ _ rfl (Same.refl _) rfl
  have hnm : cs.filterMap (fun c => some c.name) = cs.map CovM.name := by
    induction cs with
    | nil => rfl
    | cons c r ih => simp
  rw [hnm] at hPy
  have hys : ys = (cs.map CovM.name).map V.str := strs_of hPy
  subst hys
  k_clsL
  refine ⟨by rw [List.length_map]; omega, ?_⟩
  have hp1 := hS.get hp
  k_clsL
  refine ifdf (by rw [List.length_map]; omega) ?_
  k_clsL
  k_places
  rename_i q nq H2 hS2 hq
  have ha2 := (hS.trans hS2).get ha
  k_clsL
  generalize hU3 : upd H2 a _ = H3
  have ha3 := new_at hU3
  have B3 : But a H H3 := (hS.trans hS2).but.trans (upd_but hU3)
  have hp3 := B3 _ _ hp hpa
  have S03 : Same H0 H3 := B3.from n0 S0
  k_clsL
  refine lcg_l (xs := xs) (fun _ => CovV K H0) cs (fun _ => CovV K H0) (fun c => if c.waits = true then none else some c) (fun _ h => h) (SqL.of hp3) (fun _ _ => hP0) (sz_lt (by omega)) (fun i c x D4 H4 acc K1 K0 e1 nD4 hS4 hD4 hx k1 k0 => ?_) (fun D4 H4 ys4 nD4 hS4 hD4 hP4 => ?_)
  · have hx4 := hx.same (S03.trans hS4)
    have hx' := hx4
    obtain ⟨b, db, pc, pl, xl, hv, dv, rfl, hb, _⟩ := hx'
    k_clsL
    refine ifnb (fun cw => ?_) (fun cw => ?_)
    · k_clsL
      exact k1 _ c _ (if_neg (by rw [cw]; decide)) (Same.refl _) hx
    · exact k0 _ (if_pos cw) (Same.refl _)
  have hp4 := hS4.get hp3
  have S04 := S03.trans hS4
  k_clsL
  refine lcg_l (xs := xs) (fun _ => CovV K H0) cs (fun _ => CovV K H0) (fun c => if c.waits = true then some c else none) (fun _ h => h) (SqL.of hp4) (fun _ _ => hP0) (sz_lt (by omega)) (fun i c x D5 H5 acc K1 K0 e1 nD5 hS5 hD5 hx k1 k0 => ?_) (fun D5 H5 ys5 nD5 hS5 hD5 hP5 => ?_)
  · have hx5 := hx.same (S04.trans hS5)
    have hx' := hx5
    obtain ⟨b, db, pc, pl, xl, hv, dv, rfl, hb, _⟩ := hx'
    k_clsL
    refine ifb (fun cw => ?_) (fun cw => ?_)
    · k_clsL
      exact k1 _ c _ (if_pos cw) (Same.refl _) hx
    · exact k0 _ (if_neg (by rw [cw]; decide)) (Same.refl _)
  have hD45 := hS5.get hD4
  have l4 := hP4.length
  have l5 := hP5.length
  have hal := askM_len cs
  have hz : ys4.length + ys5.length ≤ sizeLine := sz_lit' (by
    rw [l4, l5]
    unfold askM firmM waitM at hal
    rw [List.length_append] at hal
    omega)
  k_clsL
  k_places
  rename_i r nr H6 hS6 hr6
  have ha6 := (hS5.trans hS6).get (hS4.get ha3)
  k_clsL
  refine k _ ((((B3.trans hS4.but).trans hS5.but).trans hS6.but).mut) ⟨a, dx, r, _, ys4 ++ ys5, rfl, upd_same, ?_, ?_⟩
  · rw [upd_ne (ne_of hr6 ha6 (fun e => nomatch e))]
    exact hr6
  · have S07 : Same H0 (upd H6 a (.ins (He.ga K "Book") dx (putF "asking" (.ref r) (putF "covers" (.ref q) [])))) := ((S04.trans hS5).trans hS6).mut n0
    exact Paired.mapP (Pa.append hP4 hP5) fun _ _ q => q.same S07
end
end Cv
namespace Cv
open PySem PySem.Spec
open PyProof.Rows hiding St
open L2
/-! ### settling: the mirror -/
def numbersM (c : CovM) (f : CF) (l : LossM) : List Int := c.cls.zipIdx.filterMap fun p => some (f [.inr c.name, .inl (p.2 : Int)] (keyM p.1.by_ l))
theorem numbersM_len (c : CovM) (f : CF) (l : LossM) : (numbersM c f l).length = c.cls.length := by
  unfold numbersM
  rw [show (fun p : ClM × Nat => some (f [.inr c.name, .inl (p.2 : Int)] (keyM p.1.by_ l))) = (some ∘ fun p : ClM × Nat => f [.inr c.name, .inl (p.2 : Int)] (keyM p.1.by_ l)) from rfl, List.filterMap_eq_map, List.length_map, List.length_zipIdx]
def paidM (c : CovM) (ns : List Int) (cents : Int) (free : List Run) : List Run :=
  let w := winM (spansM c.cls ns cents) 0 cents
  match restM ns c.cls 0 none with
  | none => cutW w.1 w.2 free
  | some b => lowW b.1 (cutW w.1 w.2 free)
abbrev Strip := Int × Int × Str × Int
def StripV (H : Hp) (v : V) (r : Strip) : Prop := ∃ t, v = .ref t ∧ H t = some (.tup [.int r.1, .int r.2.1, .str r.2.2.1, .int r.2.2.2])
theorem StripV.tk {H H' : Hp} {v : V} {r : Strip} (T : TK H H') (h : StripV H v r) : StripV H' v r := by
  obtain ⟨t, e, h⟩ := h
  exact ⟨t, e, T _ _ h⟩
theorem paidM_len (c : CovM) (ns : List Int) (cents : Int) (free : List Run) : (paidM c ns cents free).length ≤ free.length := by
  unfold paidM
  have h1 := cutW_len (winM (spansM c.cls ns cents) 0 cents).1 (winM (spansM c.cls ns cents) 0 cents).2 free
  dsimp only
  split
  · exact h1
  · exact Nat.le_trans (lowW_len _ _) h1
section
variable {P : Program} {w : World} {K : PySem.W.Frag} {mg : Str → Option Value} {base : Heap}
def sp_numbers_of (K : PySem.W.Frag) : Sp := fun vs H Q _ => ∃ (v : V) (a : Addr) (lv : V) (c : CovM) (l : LossM) (f : CF) (n : Nat) (M : Addr → Prop), vs = [v, .ref a, lv] ∧ CovV K H v c ∧ CntV K H a f n M ∧ LossV H lv l ∧
  ∀ p H', Same H H' → H p = none → H' p = some (.lst ((numbersM c f l).map V.int)) → Q (.ref p) H'
theorem ok_numbers_of (T : Txt K mg) : C8.Cal P w K mg base 3 "numbers_of" (sp_numbers_of K) [] := by
  refine cal T.D_numbers_of T.g_numbers_of sc_numbers_of (fun _ _ _ _ _ _ us hl => match us, hl with | [_, _, _], _ => rfl) (fun vs H Q E h => ?_) (fun cdv A outer s H vs Q E hr h => ?_)
  · obtain ⟨v, a, lv, c, l, f, n, M, rfl, _⟩ := h
    rfl
  obtain ⟨v, a0, lv, c, l, f, n, M, rfl, ⟨a, dx, pc, p, xs, hv, dv, rfl, h1, h2, h3, h4, h5⟩, hcn, hl, k⟩ := h
  have nd := (sc_numbers_of).nd
  have hC := T.cl_Cover
  have hN := T.no_Cover_clauses
  have hN2 := T.no_Cover_name
  have hCC := T.cl_Counts
  have hcn' := hcn
  obtain ⟨dx2, d2, kvs2, i1, _⟩ := hcn'
  refine ⟨_, (pss_one (ps_ret (pe_lc (own := [("k", 3), ("clause", 4)]) (g := (gTup K 2 (gCons (gName 3) (gCons (gName 4) gNil)))) (tt := tYes) (te := tMeth (He.ga K "Counts") "have" (sp_have K) [] C8.E0 (tVar 1) (tCons (tFld K (tVar 0) "name") (tCons (tVar 3) (tCons (tKey K (tVar 4) (tCons (tVar 2) tNil)) tNil)))) rfl nd (pi_enum (by rfl) T.f_enumerate (pa_cons (pe_fld (pv 0) rfl) pa_nil)) (blkOk_by (own := [("k", 3), ("clause", 4)]) (N := N_numbers_of) (sc := defScope s_numbers_of) (by decide +kernel)) (fun _ _ _ _ _ => (pg_tup rfl (pgs_cons (pg_name (i := 3) nd rfl (Or.inl rfl)) (pgs_cons (pg_name (i := 4) nd rfl (Or.inl rfl)) pgs_nil)))) (fun _ _ _ _ _ => pts_nil) (fun _ _ _ _ _ => (C8.pe_mt (me_Counts_have T) hr (by decide) (pv 1) (pa_cons (pe_fld (pv 0) rfl) (pa_cons (pv 3) (pa_cons (Cv.pe_key T hr (by decide) (pv 4) (pa_cons (pv 2) pa_nil)) pa_nil)))))))), ?_⟩
  try dsimp only [cxOf, Cx.nox, Cx.wish]
  k_clsL
  refine lcg_e (xs := xs) (ClV K) c.cls (fun _ v (i : Int) => v = .int i) (fun k cl => some (f [.inr c.name, .inl (k : Int)] (keyM cl.by_ l))) (fun _ h => h) (SqL.of h2) (fun H1 hS => Paired.mapP h3 fun _ _ q => q.same hS) (sz_lt (by omega)) (fun i cl x t D H1 acc K1 K0 e1 nD hS hD hx ht k1 k0 => ?_) (fun D H1 ys nD hS hD hP => ?_)
  · have i1' := hS.get i1
    have hl1 := hl.tk hS.tk
    have h1' := hS.get h1
    obtain ⟨b, db, rfl, hb⟩ := hx
    k_clsL
    refine rd_any cl.ck ?_
    have hno := cl.nokey
    k_clsL
    refine ⟨b, db, cl.fs, cl.by_, lv, l, rfl, hb, cl.hby, hl1, ?_⟩
    k_clsL
    refine ⟨a0, c.name, i, _, f, n, M, rfl, hcn.same hS, fun H2 hS2 => ?_⟩
    exact k1 _ _ H2 rfl hS2 rfl
  · obtain rfl := Pa.of_ints hP
    exact k D H1 hS nD hD
def sp_paid_by (K : PySem.W.Frag) : Sp := fun vs H Q _ => ∃ (v : V) (a b : Addr) (cents : Int) (c : CovM) (ns : List Int) (xs : List V) (free : List Run), vs = [v, .ref a, .int cents, .ref b] ∧ CovV K H v c ∧ SqL K H a (ns.map V.int) ∧ ns.length = c.cls.length ∧ SqL K H b xs ∧ Runs H xs free ∧ free.length < 100000 ∧
  ∀ p H' ys, Same H H' → H p = none → H' p = some (.lst ys) → Runs H' ys (paidM c ns cents free) → Q (.ref p) H'
theorem ok_paid_by (T : Txt K mg) : C8.Cal P w K mg base 4 "paid_by" (sp_paid_by K) [] := by
  refine cal T.D_paid_by T.g_paid_by sc_paid_by (fun _ _ _ _ _ _ us hl => match us, hl with | [_, _, _, _], _ => rfl) (fun vs H Q E h => ?_) (fun cdv A outer s H vs Q E hr h => ?_)
  · obtain ⟨v, a, b, cents, c, ns, xs, free, rfl, _⟩ := h
    rfl
  obtain ⟨v, a0, b0, cents, c, ns, xs, free, rfl, hcv, hns, hnl, hfr, hfR, hfl, k⟩ := h
  have hcv' := hcv
  obtain ⟨a, dx, pc, p, zs, hv, dv, rfl, h1, _⟩ := hcv'
  have nd := (sc_paid_by).nd
  unfold paidM at k
  dsimp only at k
  refine ⟨_, (pss_cons (ps_asg (C8.pe_mt (me_Cover_window T) hr (by decide) (pv 0) (pa_cons (pv 1) (pa_cons (pv 2) pa_nil))) (pg_tup rfl (pgs_cons (pg_name (i := 4) nd rfl (Or.inl rfl)) (pgs_cons (pg_name (i := 5) nd rfl (Or.inl rfl)) pgs_nil))))
(pss_cons (ps_set (i := 6) nd rfl (Or.inl rfl) (C8.pe_c (ok_cut_within T) hr (by decide) rfl (pa_cons (pv 3) (pa_cons (pv 4) (pa_cons (pv 5) pa_nil)))))
(pss_cons (ps_set (i := 7) nd rfl (Or.inl rfl) (C8.pe_mt (me_Cover_rest T) hr (by decide) (pv 0) (pa_cons (pv 1) pa_nil)))
(pss_cons (ps_if (pt_cmpR op_isN (pv 7) pe_non (nomark _))
(pss_one (ps_ret (pv 6)))
pss_nil)
(pss_one (ps_ret (C8.pe_c (ok_lowest_of T) hr (by decide) rfl (pa_cons (pv 6) (pa_cons (pe_ix ix_tup (pv 7) pe_int (fun _ _ => rfl)) pa_nil))))))))), ?_⟩
  try dsimp only [cxOf, Cx.nox, Cx.wish]
  k_clsL
  refine ⟨_, a0, cents, c, ns, rfl, hcv, hns, hnl, fun p1 H1 hS1 np1 hp1 => ?_⟩
  k_clsL
  generalize winM (spansM c.cls ns cents) 0 cents = w at *
  refine ⟨b0, w.1, w.2, xs, free, rfl, hS1.seq hfr, hfR.tk hS1.tk, hfl, fun p2 H2 ys2 hS2 np2 hp2 hR2 => ?_⟩
  have hS12 := hS1.trans hS2
  have h1' := hS12.get h1
  k_clsL
  refine ⟨_, a0, c, ns, rfl, hcv.same hS12, hS12.seq hns, hnl, fun u H3 hS3 hu3 => ?_⟩
  have np2' := hS1.free np2
  have np2'' : H p2 = none := np2'
  have hcl := cutW_len w.1 w.2 free
  k_clsL
  cases hre : restM ns c.cls 0 none with
  | none =>
    rw [hre] at hu3 k
    have hu3 : u = .non := hu3
    subst hu3
    refine ifdt rfl ?_
    k_clsL
    exact k p2 H3 ys2 (hS12.trans hS3) np2'' (hS3.get hp2) (hR2.tk hS3.tk)
  | some bb =>
    rw [hre] at hu3 k
    obtain ⟨tb, rfl, htb⟩ := hu3
    refine ifdf (fun e => nomatch e) ?_
    k_clsL
    refine ⟨p2, bb.1, ys2, _, rfl, SqL.of (hS3.get hp2), hR2.tk hS3.tk, by omega, fun p4 H4 ys4 hS4 np4 hp4 hR4 => ?_⟩
    exact k p4 H4 ys4 ((hS12.trans hS3).trans hS4) ((hS12.trans hS3).free np4) hp4 hR4
/-! ### unpaid_by -/
def unpK (c : CovM) (ns : List Int) (k : Int) : Int := if k = -1 then (match restM ns c.cls 0 none with | none => k | some b => b.2) else k
def unpT (c : CovM) (ns : List Int) (free : List Run) (t : Trip) : List Strip := (cutW t.1 t.2.1 free).map fun r => (r.1, r.2, c.name, unpK c ns t.2.2)
def unpL (c : CovM) (ns : List Int) (free : List Run) : List Trip → List Strip
  | [] => []
  | t :: ts => unpT c ns free t ++ unpL c ns free ts
def unpaidM (c : CovM) (ns : List Int) (cents : Int) (free : List Run) : List Strip := unpL c ns free (partsM (spansM c.cls ns cents) cents)
theorem unpL_len (c : CovM) (ns : List Int) (free : List Run) : ∀ ts, (unpL c ns free ts).length ≤ ts.length * free.length
  | [] => by simp [unpL]
  | t :: ts => by
    have h1 := unpL_len c ns free ts
    have h2 := cutW_len t.1 t.2.1 free
    unfold unpL unpT
    rw [List.length_append, List.length_map, List.length_cons, Nat.succ_mul]
    omega
theorem unpaidM_len (c : CovM) (ns : List Int) (cents : Int) (free : List Run) (h : c.cls.length ≤ 8) : (unpaidM c ns cents free).length ≤ 18 * free.length := by
  have h1 := unpL_len c ns free (partsM (spansM c.cls ns cents) cents)
  have h2 := partsM_len (spansM c.cls ns cents) cents
  have h3 := spansM_len c.cls ns cents
  have h4 : (partsM (spansM c.cls ns cents) cents).length * free.length ≤ 18 * free.length := Nat.mul_le_mul_right _ (by omega)
  exact Nat.le_trans h1 h4
def unpI (K : PySem.W.Frag) (H : Hp) (a a0 b0 l p2 : Addr) (cents : Int) (c : CovM) (ns : List Int) (free : List Run) (ys2 : List V) (r : List Trip) (σ : St) (H3 : Hp) : Prop :=
  ∃ zs done v5 v6 v7 v8 v9 v10, σ = [some (.ref a), some (.ref a0), some (.int cents), some (.ref b0), some (.ref l), v5, v6, v7, v8, v9, v10] ∧ Same H H3 ∧ SqL K H3 p2 ys2 ∧ Paired (TripV H3) ys2 (partsM (spansM c.cls ns cents) cents) ∧ H3 l = some (.lst zs) ∧ Paired (StripV H3) zs done ∧ done ++ unpL c ns free r = unpaidM c ns cents free
def sp_unpaid_by (K : PySem.W.Frag) : Sp := fun vs H Q _ => ∃ (v : V) (a b : Addr) (cents : Int) (c : CovM) (ns : List Int) (xs : List V) (free : List Run), vs = [v, .ref a, .int cents, .ref b] ∧ CovV K H v c ∧ SqL K H a (ns.map V.int) ∧ ns.length = c.cls.length ∧ SqL K H b xs ∧ Runs H xs free ∧ free.length ≤ 2000 ∧
  ∀ p H' ys, Same H H' → H p = none → H' p = some (.lst ys) → Paired (StripV H') ys (unpaidM c ns cents free) → Q (.ref p) H'
theorem ok_unpaid_by (T : Txt K mg) : C8.Cal P w K mg base 4 "unpaid_by" (sp_unpaid_by K) [] := by
  refine cal T.D_unpaid_by T.g_unpaid_by sc_unpaid_by (fun _ _ _ _ _ _ us hl => match us, hl with | [_, _, _, _], _ => rfl) (fun vs H Q E h => ?_) (fun cdv A outer s H vs Q E hr h => ?_)
  · obtain ⟨v, a, b, cents, c, ns, xs, free, rfl, _⟩ := h
    rfl
  obtain ⟨v, a0, b0, cents, c, ns, xs, free, rfl, hcv, hns, hnl, hfr, hfR, hfl, k⟩ := h
  have hcv' := hcv
  obtain ⟨a, dx, pc, p, zs, hv, dv, rfl, h1, _, _, _, hc8⟩ := hcv'
  have hul := unpaidM_len c ns cents free hc8
  have nd := (sc_unpaid_by).nd
  have hC := T.cl_Cover
  have hN := T.no_Cover_name
  refine ⟨_, (pss_cons (ps_set (i := 4) nd rfl (Or.inl rfl) (pe_lst pa_nil))
(pss_cons (ps_for PassesOwn.never rfl (pi_list (C8.pe_mt (me_Cover_parts T) hr (by decide) (pv 0) (pa_cons (pv 1) (pa_cons (pv 2) pa_nil)))) (pg_tup rfl (pgs_cons (pg_name (i := 5) nd rfl (Or.inl rfl)) (pgs_cons (pg_name (i := 6) nd rfl (Or.inl rfl)) (pgs_cons (pg_name (i := 7) nd rfl (Or.inl rfl)) pgs_nil))))
(pss_cons (ps_if (pt_cmpR op_eq (pv 7) (C8.pe_gc rfl T.c_PAID_settling) (nomark _))
(pss_cons (ps_set (i := 8) nd rfl (Or.inl rfl) (C8.pe_mt (me_Cover_rest T) hr (by decide) (pv 0) (pa_cons (pv 1) pa_nil)))
(pss_one (ps_if (pt_cmpR op_notN (pv 8) pe_non (nomark _))
(pss_one (ps_set (i := 7) nd rfl (Or.inl rfl) (pe_ix ix_tup (pv 8) pe_int (fun _ _ => rfl))))
pss_nil)))
pss_nil)
(pss_one (ps_for PassesOwn.never rfl (pi_list (C8.pe_c (ok_cut_within T) hr (by decide) rfl (pa_cons (pv 3) (pa_cons (pv 5) (pa_cons (pv 6) pa_nil))))) (pg_tup rfl (pgs_cons (pg_name (i := 9) nd rfl (Or.inl rfl)) (pgs_cons (pg_name (i := 10) nd rfl (Or.inl rfl)) pgs_nil)))
(pss_one (ps_expr (pe_bm PySem.F.plainAttrs_list PySem.F.slot_list_append PySem.F.type_list_append mt_append (pv 4) (pa_cons (pe_tup (pa_cons (pv 9) (pa_cons (pv 10) (pa_cons (pe_fld (pv 0) rfl) (pa_cons (pv 7) pa_nil))))) pa_nil))))))))
(pss_one (ps_ret (pv 4))))), ?_⟩
  try dsimp only [cxOf, Cx.nox, Cx.wish]
  k_clsL
  k_places
  rename_i l nl H1 hS1 hl1
  k_clsL
  refine ⟨_, a0, cents, c, ns, rfl, hcv.same hS1, hS1.seq hns, hnl, fun p2 H2 ys2 hS2 np2 hp2 hP2 => ?_⟩
  have hS12 := hS1.trans hS2
  have hl2 := hS2.get hl1
  k_clsL
  have nlp : p2 ≠ l := fun e => by rw [e, hl1] at np2; cases np2
  refine for_l (xs := ys2) (TripV) (partsM (spansM c.cls ns cents) cents) (unpI K H a a0 b0 l p2 cents c ns free ys2) ?_ ?_ ?_ ?_
  · exact ⟨[], [], _, _, _, _, _, _, rfl, hS12, SqL.of hp2, hP2, hl2, .nil, rfl⟩
  · rintro r σ H3 ⟨zs, done, v5, v6, v7, v8, v9, v10, rfl, s3, g1, g2, _⟩
    exact ⟨g1, g2⟩
  · rintro t r x σ H3 hc ⟨zs, done, v5, v6, v7, v8, v9, v10, rfl, s3, g1, g2, g3, g4, g5⟩ ⟨at_, rfl, hat⟩
    have e5 : unpL c ns free (t :: r) = unpT c ns free t ++ unpL c ns free r := rfl
    rw [e5] at g5
    have hcl := cutW_len t.1 t.2.1 free
    have turn : ∀ (D : Ends) (v8 : Option V) (k7 : Int) (H4 : Hp), D.nx = (fun s h => Hold (unpI K H a a0 b0 l p2 cents c ns free ys2 r s h)) → k7 = unpK c ns t.2.2 → Same H3 H4 → (tFor (iList K (tCall (sp_cut_within K) [] C8.E0 (tCons (tVar 3) (tCons (tVar 5) (tCons (tVar 6) tNil))))) (gTup K 2 (gCons (gName 9) (gCons (gName 10) gNil))) (tDrop (tBM K "list" rAppend (tVar 4) (tCons (tTup (tCons (tVar 9) (tCons (tVar 10) (tCons (tFld K (tVar 0) "name") (tCons (tVar 7) tNil))))) tNil))))
        D [some (.ref a), some (.ref a0), some (.int cents), some (.ref b0), some (.ref l), some (.int t.1), some (.int t.2.1), some (.int k7), v8, v9, v10] H4 := by
      rintro D v8 k7 H4 hD rfl hS4
      k_clsL
      refine ⟨b0, t.1, t.2.1, xs, free, rfl, (s3.trans hS4).seq hfr, hfR.tk (s3.trans hS4).tk, by omega, fun p5 H5 ys5 hS5 np5 hp5 hR5 => ?_⟩
      have hS45 := hS4.trans hS5
      have hl5 := hS45.get g3
      have nlp5 : p5 ≠ l := fun e => by rw [e, hS4.get g3] at np5; cases np5
      k_clsL
      refine for_l (xs := ys5) RunV (cutW t.1 t.2.1 free) (fun q σ H6 => ∃ zs6 d6 w9 w10, σ = [some (.ref a), some (.ref a0), some (.int cents), some (.ref b0), some (.ref l), some (.int t.1), some (.int t.2.1), some (.int (unpK c ns t.2.2)), v8, w9, w10] ∧ Same H H6 ∧ SqL K H6 p2 ys2 ∧ Paired (TripV H6) ys2 (partsM (spansM c.cls ns cents) cents) ∧ SqL K H6 p5 ys5 ∧ Runs H6 ys5 (cutW t.1 t.2.1 free) ∧ H6 l = some (.lst zs6) ∧ Paired (StripV H6) zs6 d6 ∧ d6 ++ (q.map (fun r => (r.1, r.2, c.name, unpK c ns t.2.2)) ++ unpL c ns free r) = unpaidM c ns cents free) ?_ ?_ ?_ ?_
      · exact ⟨zs, done, _, _, rfl, (s3.trans hS4).trans hS5, hS45.seq g1, Paired.mapP g2 fun _ _ q => q.tk hS45.tk, SqL.of hp5, hR5, hl5, Paired.mapP g4 fun _ _ q => q.tk hS45.tk, g5⟩
      · rintro q σ H6 ⟨zs6, d6, w9, w10, rfl, s6, i1, i2, i3, i4, _⟩
        exact ⟨i3, i4⟩
      · rintro q qs x σ H6 hq ⟨zs6, d6, w9, w10, rfl, s6, i1, i2, i3, i4, i5, i6, i7⟩ ⟨tq, rfl, htq⟩
        have h16 := s6.get h1
        have hz6 : zs6.length < 100000 := by
          have e1 := i6.length
          have e2 := congrArg List.length i7
          rw [List.length_append] at e2
          omega
        k_clsL
        k_places
        rename_i p7 np7 H7 hS7 hp7
        have hl7 := hS7.get i5
        k_clsL
        have tk : TK H7 (upd H7 l (.lst (zs6 ++ [.ref p7]))) := (TK.refl H7).lst hl7
        refine hold ⟨_, d6 ++ [(q.1, q.2, c.name, unpK c ns t.2.2)], _, _, rfl, (s6.trans hS7).mut nl, sql_upd (hS7.seq i1) hl7 nlp, Paired.mapP i2 fun _ _ q => q.tk (hS7.tk.trans tk), sql_upd (hS7.seq i3) hl7 nlp5, i4.tk (hS7.tk.trans tk), upd_same, ?_, by rw [← i7]; simp [List.append_assoc]⟩
        exact Paired.snoc (Paired.mapP i6 fun _ _ q => q.tk (hS7.tk.trans tk)) ⟨p7, rfl, tk _ _ hp7⟩
      · rintro σ H6 ⟨zs6, d6, w9, w10, rfl, s6, i1, i2, i3, i4, i5, i6, i7⟩
        rw [hD]
        exact hold ⟨zs6, d6, _, _, _, _, _, _, rfl, s6, i1, i2, i5, i6, by simpa using i7⟩
    k_clsL
    refine ifd (fun c1 => ?_) (fun c1 => ?_)
    · have c1' : t.2.2 = -1 := by injection c1
      k_clsL
      refine ⟨_, a0, c, ns, rfl, hcv.same s3, s3.seq hns, hnl, fun u H4 hS4 hu4 => ?_⟩
      k_clsL
      cases hre : restM ns c.cls 0 none with
      | none =>
        rw [hre] at hu4
        have hu4 : u = .non := hu4
        subst hu4
        refine iff ?_
        k_offL
        refine turn _ _ _ H4 ?_ ?_ hS4
        · rfl
        · unfold unpK
          rw [if_pos c1', hre]
      | some bb =>
        rw [hre] at hu4
        obtain ⟨tb, rfl, htb⟩ := hu4
        refine ift ?_
        k_offL
        refine turn _ _ _ H4 ?_ ?_ hS4
        · rfl
        · unfold unpK
          rw [if_pos c1', hre]
    · have c1' : ¬ t.2.2 = -1 := fun e => c1 (by rw [e])
      k_offL
      refine turn _ _ _ H3 ?_ ?_ (Same.refl _)
      · rfl
      · unfold unpK
        rw [if_neg c1']
  · rintro σ H3 ⟨zs, done, v5, v6, v7, v8, v9, v10, rfl, s3, g1, g2, g3, g4, g5⟩
    rw [show unpL c ns free [] = [] from rfl, List.append_nil] at g5
    k_clsL
    exact k l H3 zs s3 nl g3 (g5 ▸ g4)
/-! ### paid_in -/
def paidIn (name : Str) (ss : List Strip) : Int := (ss.filterMap fun s => if V.str s.2.2.1 = .str name ∧ V.int s.2.2.2 = .int (-1) then some (s.2.1 - s.1) else none).sum
def sp_paid_in (K : PySem.W.Frag) : Sp := fun vs H Q _ => ∃ (a : Addr) (name : Str) (xs : List V) (ss : List Strip), vs = [.ref a, .str name] ∧ SqL K H a xs ∧ Paired (StripV H) xs ss ∧ ss.length < 100000 ∧ ∀ H', Same H H' → Q (.int (paidIn name ss)) H'
theorem ok_paid_in (T : Txt K mg) : C8.Cal P w K mg base 1 "paid_in" (sp_paid_in K) [] := by
  refine cal T.D_paid_in T.g_paid_in sc_paid_in (fun _ _ _ _ _ _ us hl => match us, hl with | [_, _], _ => rfl) (fun vs H Q E h => ?_) (fun cdv A outer s H vs Q E hr h => ?_)
  · obtain ⟨a, name, xs, ss, rfl, _⟩ := h
    rfl
  obtain ⟨a, name, xs, ss, rfl, ha, hP, hz, k⟩ := h
  have nd := (sc_paid_in).nd
  refine ⟨_, (pss_one (ps_ret (pe_callB (cr_sum rfl) (by rfl) T.f_sum Cv.bb_sum (pa_cons (pe_lc (own := [("lo", 2), ("hi", 3), ("who", 4), ("k", 5)]) (g := (gTup K 4 (gCons (gName 2) (gCons (gName 3) (gCons (gName 4) (gCons (gName 5) gNil)))))) rfl nd (pi_list (pv 0)) (blkOk_by (own := [("lo", 2), ("hi", 3), ("who", 4), ("k", 5)]) (N := N_paid_in) (sc := defScope s_paid_in) (by decide +kernel)) (fun _ _ _ _ _ => (pg_tup rfl (pgs_cons (pg_name (i := 2) nd rfl (Or.inl rfl)) (pgs_cons (pg_name (i := 3) nd rfl (Or.inl rfl)) (pgs_cons (pg_name (i := 4) nd rfl (Or.inl rfl)) (pgs_cons (pg_name (i := 5) nd rfl (Or.inl rfl)) pgs_nil)))))) (fun _ _ _ _ _ => (pts_one (PW.pt (pw_and (pt_cmpR op_eq (pv 4) (pv 1) (nomark _)) (pw_and1 (pt_cmpR op_eq (pv 5) (C8.pe_gc rfl T.c_PAID_settling) (nomark _))))))) (fun _ _ _ _ _ => (pe_op op_sub (pv 3) (pv 2)))) pa_nil)))), ?_⟩
  try dsimp only [cxOf, Cx.nox, Cx.wish]
  k_clsL
  refine lcg_l (xs := xs) StripV ss (fun _ v (i : Int) => v = .int i) (fun s => if V.str s.2.2.1 = .str name ∧ V.int s.2.2.2 = .int (-1) then some (s.2.1 - s.1) else none) (fun _ h => h) ha (fun H1 hS => Paired.mapP hP fun _ _ q => q.tk hS.tk) (sz_lt hz) (fun i c x D H1 acc K1 K0 e1 nD hS hD hx k1 k0 => ?_) (fun D H1 ys nD hS hD hPy => ?_)
  · obtain ⟨t, rfl, ht⟩ := hx
    k_clsL
    refine ifd (fun c1 => ?_) (fun c1 => ?_)
    · k_clsL
      refine ifd (fun c2 => ?_) (fun c2 => ?_)
      · k_clsL
        exact k1 _ _ _ (if_pos ⟨c1, c2⟩) (Same.refl _) rfl
      · exact k0 _ (if_neg (fun h => c2 h.2)) (Same.refl _)
    · exact k0 _ (if_neg (fun h => c1 h.1)) (Same.refl _)
  obtain rfl := Pa.of_ints hPy
  k_clsL
  exact ⟨D, _, rfl, SqL.of hD, k H1 hS⟩
/-! ### strips_of -/
def encS (r : Strip) : PyData := .tuple [.int r.1, .int r.2.1, .str r.2.2.1, .int r.2.2.2]
def sortS (ss : List Strip) : List Strip := ss.mergeSort (PySem.W.dataLe false encS)
theorem cr_sorted_strips {X : Cx} (hu : X.A.units + 64 < cLine) : CallR X (.builtin "sorted") (rSortedX X.K StripV encS) :=
  cr_sortedX hu (fun H v b h => by
    obtain ⟨t, rfl, ht⟩ := h
    exact .tup (SqT.of ht) (.cons (.int _) (.cons (.int _) (.cons (.str _) (.cons (.int _) .nil)))))
    (fun b b' => by simp [encS, PySem.W.alike, PySem.W.alikeAll]) (fun b => ⟨_, _, rfl⟩) (fun b => by simp [encS, PyData.depth, PyData.depthAll])
structure StM where
  free : List Run
  strips : List Strip
  first : Option CovM
def stStep (f : CF) (l : LossM) (st : StM) (c : CovM) : StM := if c.cond.hold l = true then ⟨cutO (paidM c (numbersM c f l) l.m st.free) st.free, st.strips ++ (paidM c (numbersM c f l) l.m st.free).map (fun r => (r.1, r.2, c.name, -1)), some (st.first.getD c)⟩ else st
def stFold (f : CF) (l : LossM) : List CovM → StM → StM
  | [], st => st
  | c :: cs, st => stFold f l cs (stStep f l st c)
def stripsM (cs : List CovM) (f : CF) (l : LossM) : List Strip :=
  match (stFold f l cs ⟨[(0, l.m)], [], none⟩).first with
  | none => [(0, l.m, "", 0)]
  | some c => sortS ((stFold f l cs ⟨[(0, l.m)], [], none⟩).strips ++ unpaidM c (numbersM c f l) l.m (stFold f l cs ⟨[(0, l.m)], [], none⟩).free)
def bnd : Nat → Nat
  | 0 => 1
  | n + 1 => bnd n * (bnd n + 1)
theorem bnd_mono (n : Nat) : bnd n ≤ bnd (n + 1) := by
  show bnd n ≤ bnd n * (bnd n + 1)
  exact Nat.le_mul_of_pos_right _ (Nat.succ_pos _)
theorem bnd_le {n : Nat} (h : n ≤ 4) : bnd n ≤ 1806 := by
  have : n = 0 ∨ n = 1 ∨ n = 2 ∨ n = 3 ∨ n = 4 := by omega
  rcases this with rfl | rfl | rfl | rfl | rfl <;> decide
theorem bnd_le3 {n : Nat} (h : n ≤ 3) : bnd n ≤ 42 := by
  have : n = 0 ∨ n = 1 ∨ n = 2 ∨ n = 3 := by omega
  rcases this with rfl | rfl | rfl | rfl <;> decide
theorem stStep_bnd (f : CF) (l : LossM) (st : StM) (c : CovM) (i : Nat) (hi : i ≤ 3) (h1 : st.free.length ≤ bnd i) (h2 : st.strips.length ≤ 2000 * i) : (stStep f l st c).free.length ≤ bnd (i + 1) ∧ (stStep f l st c).strips.length ≤ 2000 * (i + 1) := by
  unfold stStep
  split
  · have hp := paidM_len c (numbersM c f l) l.m st.free
    have hb := bnd_le3 hi
    constructor
    · refine Nat.le_trans (cutO_len _ _) ?_
      show _ ≤ bnd i * (bnd i + 1)
      exact Nat.mul_le_mul h1 (by omega)
    · simp only [List.length_append, List.length_map]
      omega
  · exact ⟨Nat.le_trans h1 (bnd_mono i), by omega⟩
def FirstV (K : PySem.W.Frag) (H : Hp) (u : V) : Option CovM → Prop
  | none => u = .non
  | some c => CovV K H u c
def sp_strips_of (K : PySem.W.Frag) : Sp := fun vs H Q _ => ∃ (bv : V) (a : Addr) (lv : V) (cs : List CovM) (l : LossM) (f : CF) (n : Nat) (M : Addr → Prop), vs = [bv, .ref a, lv] ∧ BookV K H bv cs ∧ cs.length ≤ 4 ∧ CntV K H a f n M ∧ LossV H lv l ∧
  ∀ p H' ys, Same H H' → H p = none → H' p = some (.lst ys) → Paired (StripV H') ys (stripsM cs f l) → Q (.ref p) H'
theorem ok_strips_of (T : Txt K mg) : C8.Cal P w K mg base 5 "strips_of" (sp_strips_of K) [] := by
  refine cal T.D_strips_of T.g_strips_of sc_strips_of (fun _ _ _ _ _ _ us hl => match us, hl with | [_, _, _], _ => rfl) (fun vs H Q E h => ?_) (fun cdv A outer s H vs Q E hr h => ?_)
  · obtain ⟨bv, a, lv, cs, l, f, n, M, rfl, _⟩ := h
    rfl
  obtain ⟨bv, a0, lv, cs, l, f, n, M, rfl, ⟨ab, dxb, pb, hvb, xs, rfl, hb1, hb2, hb3⟩, h4, hcn, hlv, k⟩ := h
  have hl := hlv
  obtain ⟨la, rfl, hla⟩ := hl
  have nd := (sc_strips_of).nd
  have hCB := T.cl_Book
  have hNB := T.no_Book_asking
  have hC := T.cl_Cover
  have hN := T.no_Cover_name
  unfold stripsM at k
  refine ⟨_, (pss_cons (ps_set (i := 3) nd rfl (Or.inl rfl) (pe_ix ix_tup (pv 2) pe_int (fun _ _ => rfl)))
(pss_cons (ps_set (i := 4) nd rfl (Or.inl rfl) (pe_lst (pa_cons (pe_tup (pa_cons pe_int (pa_cons (pv 3) pa_nil))) pa_nil)))
(pss_cons (ps_set (i := 5) nd rfl (Or.inl rfl) (pe_lst pa_nil))
(pss_cons (ps_set (i := 6) nd rfl (Or.inl rfl) pe_non)
(pss_cons (ps_for PassesOwn.never rfl (pi_list (pe_fld (pv 0) rfl)) (pg_name (i := 7) nd rfl (Or.inr rfl))
(pss_cons (ps_if (pt_not (pt_val (C8.pe_mt (me_Cover_asks T) hr (by decide) (pv 7) (pa_cons (pv 2) pa_nil))))
(pss_one ps_continue)
pss_nil)
(pss_cons (ps_if (pt_cmpR op_isN (pv 6) pe_non (nomark _))
(pss_one (ps_set (i := 6) nd rfl (Or.inl rfl) (pv 7)))
pss_nil)
(pss_cons (ps_set (i := 8) nd rfl (Or.inl rfl) (C8.pe_c (ok_paid_by T) hr (by decide) rfl (pa_cons (pv 7) (pa_cons (C8.pe_c (ok_numbers_of T) hr (by decide) rfl (pa_cons (pv 7) (pa_cons (pv 1) (pa_cons (pv 2) pa_nil)))) (pa_cons (pv 3) (pa_cons (pv 4) pa_nil))))))
(pss_cons (ps_expr (pe_bm PySem.F.plainAttrs_list PySem.F.slot_list_extend PySem.F.type_list_extend mt_extend (pv 5) (pa_cons (pe_lc (own := [("lo", 9), ("hi", 10)]) (g := (gTup K 2 (gCons (gName 9) (gCons (gName 10) gNil)))) (tt := tYes) (te := tTup (tCons (tVar 9) (tCons (tVar 10) (tCons (tFld K (tVar 7) "name") (tCons (tC (.int (-1))) tNil))))) rfl nd (pi_list (pv 8)) (blkOk_by (own := [("lo", 9), ("hi", 10)]) (N := N_strips_of) (sc := defScope s_strips_of) (by decide +kernel)) (fun _ _ _ _ _ => (pg_tup rfl (pgs_cons (pg_name (i := 9) nd rfl (Or.inl rfl)) (pgs_cons (pg_name (i := 10) nd rfl (Or.inl rfl)) pgs_nil)))) (fun _ _ _ _ _ => pts_nil) (fun _ _ _ _ _ => (pe_tup (pa_cons (pv 9) (pa_cons (pv 10) (pa_cons (pe_fld (pv 7) rfl) (pa_cons (C8.pe_gc rfl T.c_PAID_settling) pa_nil))))))) pa_nil)))
(pss_one (ps_set (i := 4) nd rfl (Or.inl rfl) (C8.pe_c (ok_cut_out T) hr (by decide) rfl (pa_cons (pv 4) (pa_cons (pv 8) pa_nil))))))))))
(pss_cons (ps_if (pt_cmpR op_isN (pv 6) pe_non (nomark _))
(pss_one (ps_ret (pe_lst (pa_cons (pe_tup (pa_cons pe_int (pa_cons (pv 3) (pa_cons pe_str (pa_cons pe_int pa_nil))))) pa_nil))))
pss_nil)
(pss_cons (ps_expr (pe_bm PySem.F.plainAttrs_list PySem.F.slot_list_extend PySem.F.type_list_extend mt_extend (pv 5) (pa_cons (C8.pe_c (ok_unpaid_by T) hr (by decide) rfl (pa_cons (pv 6) (pa_cons (C8.pe_c (ok_numbers_of T) hr (by decide) rfl (pa_cons (pv 6) (pa_cons (pv 1) (pa_cons (pv 2) pa_nil)))) (pa_cons (pv 3) (pa_cons (pv 4) pa_nil))))) pa_nil)))
(pss_one (ps_ret (pe_callB (Cv.cr_sorted_strips hr.units) (by rfl) T.f_sorted Cv.bb_sorted (pa_cons (pv 5) pa_nil))))))))))), ?_⟩
  try dsimp only [cxOf, Cx.nox, Cx.wish]
  k_clsL
  k_places
  rename_i t1 nt1 H1 hS1 ht1
  k_clsL
  k_places
  rename_i p2 np2 H2 hS2 hp2
  k_clsL
  k_places
  rename_i q3 nq3 H3 hS3 hq3
  have hS13 := (hS1.trans hS2).trans hS3
  k_clsL
  have nq3H : H q3 = none := (hS1.trans hS2).free nq3
  refine for_l (xs := xs) (fun _ => CovV K H) cs (fun r σ H4 => ∃ p u st v7 v8 i xf zs, σ = [some (.ref ab), some (.ref a0), some (.ref la), some (.int l.m), some (.ref p), some (.ref q3), some u, v7, v8, none, none] ∧ Same H H4 ∧ H p = none ∧ p ≠ q3 ∧ H4 p = some (.lst xf) ∧ Runs H4 xf st.free ∧ H4 q3 = some (.lst zs) ∧ Paired (StripV H4) zs st.strips ∧ FirstV K H u st.first ∧
    stFold f l r st = stFold f l cs ⟨[(0, l.m)], [], none⟩ ∧ i + r.length ≤ 4 ∧ st.free.length ≤ bnd i ∧ st.strips.length ≤ 2000 * i) ?_ ?_ ?_ ?_
  · exact ⟨p2, .non, ⟨[(0, l.m)], [], none⟩, _, _, 0, _, _, rfl, hS13, hS1.free np2, ne_of_none hp2 nq3, hS3.get hp2, .cons ⟨t1, rfl, hS3.get (hS2.get ht1)⟩ .nil, hq3, .nil, rfl, rfl, by omega, Nat.le_refl _, Nat.le_refl _⟩
  · rintro r σ H4 ⟨p, u, st, v7, v8, i, xf, zs, rfl, s4, _⟩
    exact ⟨s4.seq (SqL.of hb2), hb3⟩
  · rintro c r x σ H4 hc ⟨p, u, st, v7, v8, i, xf, zs, rfl, s4, np, npq, g1, g2, g3, g4, g5, g6, g7, g8, g9⟩ hx
    have hx' := hx
    obtain ⟨ca, cdx, pc, pcl, cxs, chv, cdl, rfl, hc1, _⟩ := hx'
    have e0 : stFold f l (c :: r) st = stFold f l r (stStep f l st c) := rfl
    rw [e0] at g6
    rw [List.length_cons] at g7
    have hc4 := s4.get hc1
    have hx4 := hx.same s4
    have hl4 := hlv.tk s4.tk
    k_clsL
    refine ⟨_, _, c, l, rfl, hx4, hl4, ?_⟩
    k_clsL
    refine ifnb (fun cw => ?_) (fun cw => ?_)
    · have es : stStep f l st c = st := by unfold stStep; rw [if_neg (by rw [cw]; decide)]
      rw [es] at g6
      k_clsL
      exact hold ⟨p, u, st, _, _, i, xf, zs, rfl, s4, np, npq, g1, g2, g3, g4, g5, g6, by omega, g8, g9⟩
    have es : stStep f l st c = ⟨cutO (paidM c (numbersM c f l) l.m st.free) st.free, st.strips ++ (paidM c (numbersM c f l) l.m st.free).map (fun r => (r.1, r.2, c.name, -1)), some (st.first.getD c)⟩ := by unfold stStep; rw [if_pos cw]
    have hbd := stStep_bnd f l st c i (by omega) g8 g9
    rw [es] at g6 hbd
    have hpl := paidM_len c (numbersM c f l) l.m st.free
    have hb42 := bnd_le3 (n := i) (by omega)
    have hfl : st.free.length * ((paidM c (numbersM c f l) l.m st.free).length + 1) < 100000 := by
      have : st.free.length * ((paidM c (numbersM c f l) l.m st.free).length + 1) ≤ 42 * 43 := Nat.mul_le_mul (by omega) (by omega)
      omega
    k_clsL
    cases hfs : st.first with
    | none =>
      rw [hfs] at g5 g6 hbd
      have hg5 : u = .non := g5
      subst hg5
      refine ifdt rfl ?_
      k_clsL
      have hfu : CovV K H (.ref ca) (Option.getD none c) := hx
      refine ⟨_, a0, _, c, l, f, n, M, rfl, hx4, hcn.same s4, hl4, fun p5 H5 hS5 np5 hp5 => ?_⟩
      k_clsL
      refine ⟨_, p5, p, l.m, c, numbersM c f l, xf, st.free, rfl, hx4.same hS5, SqL.of hp5, numbersM_len c f l, SqL.of (hS5.get g1), g2.tk hS5.tk, by omega, fun p6 H6 ys6 hS6 np6 hp6 hR6 => ?_⟩
      have hS56 := hS5.trans hS6
      have hc6 := hS56.get hc4
      k_clsL
      refine lcg_l (xs := ys6) RunV (paidM c (numbersM c f l) l.m st.free) StripV (fun r => some (r.1, r.2, c.name, -1)) (fun S q => q.tk S.tk) (SqL.of hp6) (fun H hS => hR6.tk hS.tk) (sz_lt (by omega)) (fun j cr x D H7 acc K1 K0 e1 nD hS7 hD hx7 k1 k0 => ?_) (fun D H7 ys7 nD hS7 hD hP7 => ?_)
      · obtain ⟨t7, rfl, ht7⟩ := hx7
        have hc7 := hS7.get hc6
        k_clsL
        k_places
        rename_i t8 nt8 H8 hS8 ht8
        exact k1 _ _ H8 rfl hS8 ⟨t8, rfl, Off.at ht8 (ne_of_none hD nt8).symm⟩
      have hS57 := hS56.trans hS7
      have hz7 := hS57.get g3
      have hfm : (paidM c (numbersM c f l) l.m st.free).filterMap (fun r => some (r.1, r.2, c.name, (-1 : Int))) = (paidM c (numbersM c f l) l.m st.free).map (fun r => (r.1, r.2, c.name, (-1 : Int))) := List.filterMap_eq_map (f := fun r : Run => ((r.1, r.2, c.name, (-1 : Int)) : Strip)) ▸ rfl
      rw [hfm] at hP7
      have hzl := g4.length
      have hzl7 := hP7.length
      rw [List.length_map] at hzl7
      have hzz : zs.length + ys7.length ≤ sizeLine := sz_lit' (by omega)
      k_clsL
      generalize hU : upd H7 q3 _ = H8
      have hz8 := new_at hU
      have tk8 : TK H7 H8 := by
        rw [← hU]
        exact (TK.refl H7).lst hz7
      have np6q : p6 ≠ q3 := fun e => by rw [e, hS5.get g3] at np6; cases np6
      have hxf8 : H8 p = some (.lst xf) := by rw [← hU, upd_ne npq]; exact hS57.get g1
      have hp68 : H8 p6 = some (.lst ys6) := by rw [← hU, upd_ne np6q]; exact hS7.get hp6
      have hS8 : Same H H8 := by rw [← hU]; exact (s4.trans hS57).mut nq3H
      k_clsL
      refine ⟨p, p6, xf, ys6, st.free, paidM c (numbersM c f l) l.m st.free, rfl, SqL.of hxf8, g2.tk (hS57.tk.trans tk8), SqL.of hp68, hR6.tk (hS7.tk.trans tk8), hfl, fun p9 H9 ys9 hS9 np9 hp9 hR9 => ?_⟩
      k_clsL
      refine hold ⟨p9, _, StM.mk _ _ (some _), _, _, i + 1, ys9, zs ++ ys7, rfl, hS8.trans hS9, hS8.free np9, (ne_of_none hz8 np9).symm, hp9, hR9, hS9.get hz8, ?_, hfu, g6, by omega, hbd.1, hbd.2⟩
      exact Paired.mapP (Pa.append (Paired.mapP g4 fun _ _ q => q.tk hS57.tk) hP7) fun _ _ q => q.tk (tk8.trans hS9.tk)
    | some c0 =>
      rw [hfs] at g5 g6 hbd
      have hg5 : CovV K H u c0 := g5
      have hfu : CovV K H u (Option.getD (some c0) c) := g5
      obtain ⟨ua, _, _, _, _, _, _, rfl, _⟩ := hg5
      refine ifdf (fun e => nomatch e) ?_
      k_clsL
      refine ⟨_, a0, _, c, l, f, n, M, rfl, hx4, hcn.same s4, hl4, fun p5 H5 hS5 np5 hp5 => ?_⟩
      k_clsL
      refine ⟨_, p5, p, l.m, c, numbersM c f l, xf, st.free, rfl, hx4.same hS5, SqL.of hp5, numbersM_len c f l, SqL.of (hS5.get g1), g2.tk hS5.tk, by omega, fun p6 H6 ys6 hS6 np6 hp6 hR6 => ?_⟩
      have hS56 := hS5.trans hS6
      have hc6 := hS56.get hc4
      k_clsL
      refine lcg_l (xs := ys6) RunV (paidM c (numbersM c f l) l.m st.free) StripV (fun r => some (r.1, r.2, c.name, -1)) (fun S q => q.tk S.tk) (SqL.of hp6) (fun H hS => hR6.tk hS.tk) (sz_lt (by omega)) (fun j cr x D H7 acc K1 K0 e1 nD hS7 hD hx7 k1 k0 => ?_) (fun D H7 ys7 nD hS7 hD hP7 => ?_)
      · obtain ⟨t7, rfl, ht7⟩ := hx7
        have hc7 := hS7.get hc6
        k_clsL
        k_places
        rename_i t8 nt8 H8 hS8 ht8
        exact k1 _ _ H8 rfl hS8 ⟨t8, rfl, Off.at ht8 (ne_of_none hD nt8).symm⟩
      have hS57 := hS56.trans hS7
      have hz7 := hS57.get g3
      have hfm : (paidM c (numbersM c f l) l.m st.free).filterMap (fun r => some (r.1, r.2, c.name, (-1 : Int))) = (paidM c (numbersM c f l) l.m st.free).map (fun r => (r.1, r.2, c.name, (-1 : Int))) := List.filterMap_eq_map (f := fun r : Run => ((r.1, r.2, c.name, (-1 : Int)) : Strip)) ▸ rfl
      rw [hfm] at hP7
      have hzl := g4.length
      have hzl7 := hP7.length
      rw [List.length_map] at hzl7
      have hzz : zs.length + ys7.length ≤ sizeLine := sz_lit' (by omega)
      k_clsL
      generalize hU : upd H7 q3 _ = H8
      have hz8 := new_at hU
      have tk8 : TK H7 H8 := by
        rw [← hU]
        exact (TK.refl H7).lst hz7
      have np6q : p6 ≠ q3 := fun e => by rw [e, hS5.get g3] at np6; cases np6
      have hxf8 : H8 p = some (.lst xf) := by rw [← hU, upd_ne npq]; exact hS57.get g1
      have hp68 : H8 p6 = some (.lst ys6) := by rw [← hU, upd_ne np6q]; exact hS7.get hp6
      have hS8 : Same H H8 := by rw [← hU]; exact (s4.trans hS57).mut nq3H
      k_clsL
      refine ⟨p, p6, xf, ys6, st.free, paidM c (numbersM c f l) l.m st.free, rfl, SqL.of hxf8, g2.tk (hS57.tk.trans tk8), SqL.of hp68, hR6.tk (hS7.tk.trans tk8), hfl, fun p9 H9 ys9 hS9 np9 hp9 hR9 => ?_⟩
      k_clsL
      refine hold ⟨p9, _, StM.mk _ _ (some _), _, _, i + 1, ys9, zs ++ ys7, rfl, hS8.trans hS9, hS8.free np9, (ne_of_none hz8 np9).symm, hp9, hR9, hS9.get hz8, ?_, hfu, g6, by omega, hbd.1, hbd.2⟩
      exact Paired.mapP (Pa.append (Paired.mapP g4 fun _ _ q => q.tk hS57.tk) hP7) fun _ _ q => q.tk (tk8.trans hS9.tk)
  · rintro σ H4 ⟨p, u, st, v7, v8, i, xf, zs, rfl, s4, np, npq, g1, g2, g3, g4, g5, g6, g7, g8, g9⟩
    rw [show stFold f l [] st = st from rfl] at g6
    rw [← g6] at k
    have hb2 := bnd_le (n := i) (by simpa using g7)
    k_clsL
    cases hfs : st.first with
    | none =>
      rw [hfs] at g5 k
      have hg5 : u = .non := g5
      subst hg5
      refine ifdt rfl ?_
      k_clsL
      k_places
      rename_i t5 nt5 H5 hS5 ht5
      k_clsL
      k_places
      rename_i p6 np6 H6 hS6 hp6
      exact k p6 H6 _ ((s4.trans hS5).trans hS6) ((s4.trans hS5).free np6) hp6 (.cons ⟨t5, rfl, hS6.get ht5⟩ .nil)
    | some c0 =>
      rw [hfs] at g5 k
      have hg5 : CovV K H u c0 := g5
      have hg5' := hg5
      obtain ⟨ua, _, _, _, _, _, _, rfl, _, _, _, _, hc8⟩ := hg5'
      have hul := unpaidM_len c0 (numbersM c0 f l) l.m st.free hc8
      refine ifdf (fun e => nomatch e) ?_
      k_clsL
      refine ⟨_, a0, _, c0, l, f, n, M, rfl, hg5.same s4, hcn.same s4, hlv.tk s4.tk, fun p5 H5 hS5 np5 hp5 => ?_⟩
      k_clsL
      refine ⟨_, p5, p, l.m, c0, numbersM c0 f l, xf, st.free, rfl, hg5.same (s4.trans hS5), SqL.of hp5, numbersM_len c0 f l, SqL.of (hS5.get g1), g2.tk hS5.tk, by omega, fun p6 H6 ys6 hS6 np6 hp6 hP6 => ?_⟩
      have hS56 := hS5.trans hS6
      have hz6 := hS56.get g3
      have hzl := g4.length
      have hzl6 := hP6.length
      have hi4 : i ≤ 4 := by simpa using g7
      have hzz : zs.length + ys6.length ≤ sizeLine := sz_lit' (by omega)
      k_clsL
      generalize hU : upd H6 q3 _ = H7
      have hz7 := new_at hU
      have tk7 : TK H6 H7 := by
        rw [← hU]
        exact (TK.refl H6).lst hz6
      have hS7 : Same H H7 := by rw [← hU]; exact (s4.trans hS56).mut nq3H
      have hP7 : Paired (StripV H7) (zs ++ ys6) (st.strips ++ unpaidM c0 (numbersM c0 f l) l.m st.free) := Paired.mapP (Pa.append (Paired.mapP g4 fun _ _ q => q.tk hS56.tk) hP6) fun _ _ q => q.tk tk7
      k_clsL
      refine ⟨q3, _, _, rfl, SqL.of hz7, hP7, fun p8 ys8 np8 hP8 => ?_⟩
      refine k p8 _ ys8 (hS7.trans (new_same np8 rfl)) (hS7.free np8) upd_same (Paired.mapP hP8 fun _ _ q => q.tk (new_same np8 rfl).tk)
end
end Cv
namespace Cv
open PySem PySem.Spec
open PyProof.Rows hiding St
open L2
/-! ### settle: the counts grow -/
def limB : ClM → Bool
  | .limit _ _ => true
  | _ => false
def addC (name : Str) (paid : Int) (l : LossM) : List ClM → Nat → CF → CF
  | [], _, f => f
  | cl :: r, k, f => addC name paid l r (k + 1) (addM f [.inr name, .inl (k : Int)] (keyM cl.by_ l) (if limB cl = true then paid else l.m))
def setStep (ss : List Strip) (l : LossM) (c : CovM) (f : CF) : CF := if c.cond.hold l = true then addC c.name (paidIn c.name ss) l c.cls 0 f else f
def setFold (ss : List Strip) (l : LossM) : List CovM → CF → CF
  | [], f => f
  | c :: cs, f => setFold ss l cs (setStep ss l c f)
def settleF (cs : List CovM) (f : CF) (l : LossM) : CF := setFold (stripsM cs f l) l cs f
theorem CntV.tk {K : PySem.W.Frag} {H H' : Hp} {a : Addr} {f : CF} {n : Nat} {M : Addr → Prop} (c : CntV K H a f n M) (S : Same (OffS M H) H') : TK H H' := fun x ys h => by
  refine S x _ (OffS.at h fun m => ?_)
  obtain ⟨dx, d, kvs, h1, h2, h3, h4, h5, h6, h7⟩ := c
  rcases (h7 x).mp m with rfl | rfl | ⟨nk, e⟩
  · rw [h1] at h; cases h
  · rw [h2] at h; cases h
  · obtain ⟨p, es, e2, g1, g2⟩ := h4 nk _ e
    cases e2
    rw [g1] at h; cases h
theorem offs_trans {M M2 : Addr → Prop} {H H2 H3 : Hp} (a : Same (OffS M H) H2) (b : Same (OffS M2 H2) H3) (s : ∀ x, M2 x → M x ∨ H x = none) : Same (OffS M H) H3 := fun x o h => by
  refine b x o (OffS.at (a x o h) fun m => ?_)
  rcases s x m with h2 | h2
  · rw [OffS.none h2] at h; cases h
  · have := OffS.same M H x o h
    rw [h2] at this; cases this
theorem ground {G H H' : Hp} {M : Addr → Prop} (S : Same G H) (b : Same (OffS M H) H') (d : ∀ x, M x → G x = none) : Same G H' := fun x o h => b x o (OffS.of S d x o h)
theorem new_old {M : Addr → Prop} {H H2 H3 : Hp} (a : Same (OffS M H) H2) (b : Same H2 H3) {y : Addr} (h : H3 y = none) : M y ∨ H y = none := by
  by_cases m : M y
  · exact .inl m
  · refine .inr ?_
    cases q : H y with
    | none => rfl
    | some o =>
      have := b y o (a y o (OffS.at q m))
      rw [h] at this; cases this
theorem stFold_bnd (f : CF) (l : LossM) : ∀ (cs : List CovM) (st : StM) (i : Nat), i + cs.length ≤ 4 → st.free.length ≤ bnd i → st.strips.length ≤ 2000 * i → (∀ c, st.first = some c → c.cls.length ≤ 8) → (∀ c ∈ cs, c.cls.length ≤ 8) →
    (stFold f l cs st).free.length ≤ 1806 ∧ (stFold f l cs st).strips.length ≤ 8000 ∧ ∀ c, (stFold f l cs st).first = some c → c.cls.length ≤ 8
  | [], st, i, hi, h1, h2, h3, _ => ⟨Nat.le_trans h1 (bnd_le (by simpa using hi)), by simp at hi; show st.strips.length ≤ 8000; omega, h3⟩
  | c :: cs, st, i, hi, h1, h2, h3, h4 => by
    rw [List.length_cons] at hi
    have hb := stStep_bnd f l st c i (by omega) h1 h2
    refine stFold_bnd f l cs (stStep f l st c) (i + 1) (by omega) hb.1 hb.2 (fun c' e => ?_) fun c' hc => h4 c' (List.mem_cons_of_mem _ hc)
    unfold stStep at e
    split at e
    · cases hf : st.first with
      | none =>
        rw [hf] at e
        cases e
        exact h4 _ List.mem_cons_self
      | some c0 =>
        rw [hf] at e
        cases e
        exact h3 _ hf
    · exact h3 c' e
theorem stripsM_len (cs : List CovM) (f : CF) (l : LossM) (h : cs.length ≤ 4) (h8 : ∀ c ∈ cs, c.cls.length ≤ 8) : (stripsM cs f l).length < 100000 := by
  have hb := stFold_bnd f l cs ⟨[(0, l.m)], [], none⟩ 0 (by omega) (Nat.le_refl _) (Nat.le_refl _) (fun c e => nomatch e) h8
  unfold stripsM
  split
  · simp
  · rename_i c hc
    have hu := unpaidM_len c (numbersM c f l) l.m (stFold f l cs ⟨[(0, l.m)], [], none⟩).free (hb.2.2 c hc)
    unfold sortS
    rw [List.length_mergeSort, List.length_append]
    have h1 := hb.1
    have h2 := hb.2.1
    omega
section
variable {P : Program} {w : World} {K : PySem.W.Frag} {mg : Str → Option Value} {base : Heap}
theorem isi_lim (T : Txt K mg) {H : Hp} {a dx : Addr} {cl : ClM} {Q : VK} (h : H a = some (.ins (ckA K cl.ck) dx cl.fs)) (q : Q (.bl (limB cl)) H) : rIsi K [.ref a, .ref (He.ga K "Limit")] H Q := by
  cases cl with
  | own b n => exact ⟨_, _, _, _, false, rfl, .own _, .base (.ins h T.cl_Own T.ia_Own T.oc T.ot T.im_Own), T.ik_Own, q⟩
  | layer b n m => exact ⟨_, _, _, _, false, rfl, .own _, .base (.ins h T.cl_Layer T.ia_Layer T.oc T.ot T.im_Layer), T.ik_Layer, q⟩
  | limit b n => exact ⟨_, _, _, _, true, rfl, .own _, .base (.ins h T.cl_Limit T.ia_Limit T.oc T.ot T.im_Limit), T.ik_Limit, q⟩
def sp_settle (K : PySem.W.Frag) : Sp := fun vs H Q _ => ∃ (bv : V) (a : Addr) (lv : V) (cs : List CovM) (l : LossM) (f : CF) (n : Nat) (M : Addr → Prop) (G : Hp), vs = [bv, .ref a, lv] ∧ cs.length ≤ 4 ∧ CntV K H a f n M ∧ n ≤ 50000 ∧ Same G H ∧ (∀ x, M x → G x = none) ∧ BookV K G bv cs ∧ LossV G lv l ∧
  ∀ p H' ys M' n', Same G H' → Same (OffS M H) H' → (∀ x, M' x → M x ∨ H x = none) → (∀ x, M' x → G x = none) → ¬ M' p → H p = none → H' p = some (.lst ys) → Paired (StripV H') ys (stripsM cs f l) → CntV K H' a (settleF cs f l) n' M' → n' ≤ n + 32 → Q (.ref p) H'
theorem ok_settle (T : Txt K mg) : C8.Cal P w K mg base 6 "settle" (sp_settle K) [] := by
  refine cal T.D_settle T.g_settle sc_settle (fun _ _ _ _ _ _ us hl => match us, hl with | [_, _, _], _ => rfl) (fun vs H Q E h => ?_) (fun cdv A outer s H vs Q E hr h => ?_)
  · obtain ⟨bv, a, lv, cs, l, f, n, M, G, rfl, _⟩ := h
    rfl
  obtain ⟨bv, a0, lv, cs, l, f, n, M, G, rfl, h4, hcn, hn, hG, hMG, hbv, hlv, k⟩ := h
  have hbv' := hbv
  obtain ⟨ab, dxb, pb, hvb, xs, rfl, hb1, hb2, hb3⟩ := hbv'
  have hl := hlv
  obtain ⟨la, rfl, hla⟩ := hl
  have nd := (sc_settle).nd
  have hCB := T.cl_Book
  have hNB := T.no_Book_asking
  have hC := T.cl_Cover
  have hN := T.no_Cover_name
  have hNc := T.no_Cover_clauses
  have hCC := T.cl_Counts
  unfold settleF at k
  refine ⟨_, (pss_cons (ps_set (i := 3) nd rfl (Or.inl rfl) (C8.pe_c (ok_strips_of T) hr (by decide) rfl (pa_cons (pv 0) (pa_cons (pv 1) (pa_cons (pv 2) pa_nil)))))
(pss_cons (ps_for PassesOwn.never rfl (pi_list (pe_fld (pv 0) rfl)) (pg_name (i := 4) nd rfl (Or.inl rfl))
(pss_one (ps_if (pt_val (C8.pe_mt (me_Cover_asks T) hr (by decide) (pv 4) (pa_cons (pv 2) pa_nil)))
(pss_cons (ps_set (i := 5) nd rfl (Or.inl rfl) (C8.pe_c (ok_paid_in T) hr (by decide) rfl (pa_cons (pv 3) (pa_cons (pe_fld (pv 4) rfl) pa_nil))))
(pss_one (ps_for PassesOwn.never rfl (pi_enum (by rfl) T.f_enumerate (pa_cons (pe_fld (pv 4) rfl) pa_nil)) (pg_tup rfl (pgs_cons (pg_name (i := 6) nd rfl (Or.inl rfl)) (pgs_cons (pg_name (i := 7) nd rfl (Or.inl rfl)) pgs_nil)))
(pss_cons (ps_set (i := 8) nd rfl (Or.inl rfl) (pe_ix ix_tup (pv 2) pe_int (fun _ _ => rfl)))
(pss_cons (ps_if (pt_val (pe_callB call_isi (by rfl) T.f_isinstance Cv.bb_isinstance (pa_cons (pv 7) (pa_cons (C8.pe_gc rfl T.c_Limit) pa_nil))))
(pss_one (ps_set (i := 8) nd rfl (Or.inl rfl) (pv 5)))
pss_nil)
(pss_one (ps_expr (C8.pe_mt (me_Counts_add T) hr (by decide) (pv 1) (pa_cons (pe_fld (pv 4) rfl) (pa_cons (pv 6) (pa_cons (Cv.pe_key T hr (by decide) (pv 7) (pa_cons (pv 2) pa_nil)) (pa_cons (pv 8) pa_nil))))))))))))
pss_nil)))
(pss_one (ps_ret (pv 3))))), ?_⟩
  try dsimp only [cxOf, Cx.nox, Cx.wish]
  k_clsL
  refine ⟨_, a0, _, cs, l, f, n, M, rfl, hbv.same hG, h4, hcn, hlv.tk hG.tk, fun p H1 ys hS1 np hp hP => ?_⟩
  have hss : (stripsM cs f l).length < 100000 := stripsM_len cs f l h4 fun c hc => by
    obtain ⟨i, hi, e⟩ := List.mem_iff_getElem.mp hc
    obtain ⟨x, _, _, _, _, _, _, _, _, _, _, _, _, _, h8⟩ := Pa.right hb3 (i := i) (y := c) (by rw [List.getElem?_eq_getElem hi, e])
    exact h8
  generalize stripsM cs f l = ss at *
  have nMp : ¬ M p := fun m => hcn.there m np
  have hG1 := hG.trans hS1
  have hb11 := hG1.get hb1
  k_clsL
  refine for_l (xs := xs) (fun _ => CovV K G) cs (fun r σ H2 => ∃ f2 n2 M2 v4 v5 v6 v7 v8, σ = [some (.ref ab), some (.ref a0), some (.ref la), some (.ref p), v4, v5, v6, v7, v8] ∧ Same G H2 ∧ (∀ x, M2 x → G x = none) ∧ Same (OffS M H) H2 ∧ (∀ x, M2 x → M x ∨ H x = none) ∧ ¬ M2 p ∧ H2 p = some (.lst ys) ∧ Paired (StripV H2) ys ss ∧ CntV K H2 a0 f2 n2 M2 ∧ setFold ss l r f2 = setFold ss l cs f ∧ n2 + 8 * r.length ≤ n + 32) ?_ ?_ ?_ ?_
  · exact ⟨f, n, M, _, _, _, _, _, rfl, hG1, hMG, (OffS.same M H).trans hS1, fun x m => .inl m, nMp, hp, hP, hcn.same hS1, rfl, by omega⟩
  · rintro r σ H2 ⟨f2, n2, M2, v4, v5, v6, v7, v8, rfl, i1, _⟩
    exact ⟨i1.seq (SqL.of hb2), hb3⟩
  · rintro c r x σ H2 hc ⟨f2, n2, M2, v4, v5, v6, v7, v8, rfl, i1, i2, i3, i4, i5, i6, i7, i8, i9, i10⟩ hx
    have hx' := hx
    obtain ⟨ca, cdx, pc, pcl, cxs, chv, cdl, rfl, hc1, hc2, hc3, hc5, hc8⟩ := hx'
    have e0 : setFold ss l (c :: r) f2 = setFold ss l r (setStep ss l c f2) := rfl
    rw [e0] at i9
    rw [List.length_cons] at i10
    have hc12 := i1.get hc1
    k_clsL
    refine ⟨_, _, c, l, rfl, hx.same i1, hlv.tk i1.tk, ?_⟩
    k_clsL
    refine ifb (fun cw => ?_) (fun cw => ?_)
    · have es : setStep ss l c f2 = addC c.name (paidIn c.name ss) l c.cls 0 f2 := by unfold setStep; rw [if_pos cw]
      rw [es] at i9
      generalize hpd : paidIn c.name ss = paid at *
      k_clsL
      refine ⟨p, c.name, ys, ss, rfl, SqL.of i6, i7, hss, fun H3 hS3 => ?_⟩
      rw [hpd]
      have hc13 := hS3.get hc12
      have hc23 := (i1.trans hS3).get hc2
      k_clsL
      refine for_e (xs := cxs) (fun _ => ClV K G) c.cls (fun j q σ H4 => ∃ f3 n3 M3 v6 v7 v8, σ = [some (.ref ab), some (.ref a0), some (.ref la), some (.ref p), some (.ref ca), some (.int paid), v6, v7, v8] ∧ Same G H4 ∧ (∀ x, M3 x → G x = none) ∧ Same (OffS M H) H4 ∧ (∀ x, M3 x → M x ∨ H x = none) ∧ ¬ M3 p ∧ H4 p = some (.lst ys) ∧ Paired (StripV H4) ys ss ∧ CntV K H4 a0 f3 n3 M3 ∧ addC c.name paid l q j f3 = addC c.name paid l c.cls 0 f2 ∧ n3 + q.length ≤ n2 + 8) ?_ ?_ ?_ ?_
      · exact ⟨f2, n2, M2, _, _, _, rfl, i1.trans hS3, i2, i3.trans hS3, i4, i5, hS3.get i6, Paired.mapP i7 fun _ _ q => q.tk hS3.tk, i8.same hS3, rfl, by omega⟩
      · rintro j q σ H4 ⟨f3, n3, M3, v6, v7, v8, rfl, j1, _⟩
        exact ⟨j1.seq (SqL.of hc2), hc3⟩
      · rintro j cl q x t σ H4 H5 hcl hdr ⟨f3, n3, M3, v6, v7, v8, rfl, j1, j2, j3, j4, j5, j6, j7, j8, j9, j10⟩ hxc nt hS5 ht _
        have hxc' := hxc
        obtain ⟨b, db, rfl, hb⟩ := hxc'
        rw [List.length_cons] at j10
        have hSG5 := j1.trans hS5
        have hb5 := hSG5.get hb
        have hla5 := hSG5.get hla
        have hlv5 := hlv.tk hSG5.tk
        have hc15 := hSG5.get hc1
        have hcn5 := j8.same hS5
        have hcn5' := hcn5
        obtain ⟨dx9, d9, kvs9, u1, _⟩ := hcn5'
        have hno := cl.nokey
        k_clsL
        refine isi_lim T hb5 ?_
        k_clsL
        refine ifb (fun hlm => ?_) (fun hlm => ?_)
        · k_clsL
          refine rd_any cl.ck ?_
          k_clsL
          refine ⟨b, db, cl.fs, cl.by_, _, l, rfl, hb5, cl.hby, hlv5, ?_⟩
          k_clsL
          refine ⟨a0, c.name, (j : Int), _, paid, f3, n3, M3, rfl, hcn5, by omega, fun H6 M6 hS6 hM6 hc6 => ?_⟩
          k_clsL
          have nM6p : ¬ M6 p := fun h => by
            rcases hM6 p h with h | h
            · exact j5 h
            · rw [hS5.get j6] at h; cases h
          have tk6 := hcn5.tk hS6
          refine hold ⟨_, n3 + 1, M6, _, _, _, rfl, ground hSG5 hS6 j2, fun y hy => ?_, offs_trans (j3.trans hS5) hS6 j4, fun y hy => ?_, nM6p, hS6 _ _ (OffS.at (hS5.get j6) j5), Paired.mapP j7 fun _ _ q => q.tk (hS5.tk.trans tk6), hc6, ?_, by omega⟩
          · rcases hM6 y hy with h | h
            · exact j2 y h
            · exact hSG5.free h
          · rcases hM6 y hy with h | h
            · exact j4 y h
            · exact new_old j3 hS5 h
          · rw [← j9]
            show _ = addC c.name paid l q (j + 1) (addM f3 [.inr c.name, .inl (j : Int)] (keyM cl.by_ l) (if limB cl = true then paid else l.m))
            rw [hlm]
            rfl
        · k_clsL
          refine rd_any cl.ck ?_
          k_clsL
          refine ⟨b, db, cl.fs, cl.by_, _, l, rfl, hb5, cl.hby, hlv5, ?_⟩
          k_clsL
          refine ⟨a0, c.name, (j : Int), _, l.m, f3, n3, M3, rfl, hcn5, by omega, fun H6 M6 hS6 hM6 hc6 => ?_⟩
          k_clsL
          have nM6p : ¬ M6 p := fun h => by
            rcases hM6 p h with h | h
            · exact j5 h
            · rw [hS5.get j6] at h; cases h
          have tk6 := hcn5.tk hS6
          refine hold ⟨_, n3 + 1, M6, _, _, _, rfl, ground hSG5 hS6 j2, fun y hy => ?_, offs_trans (j3.trans hS5) hS6 j4, fun y hy => ?_, nM6p, hS6 _ _ (OffS.at (hS5.get j6) j5), Paired.mapP j7 fun _ _ q => q.tk (hS5.tk.trans tk6), hc6, ?_, by omega⟩
          · rcases hM6 y hy with h | h
            · exact j2 y h
            · exact hSG5.free h
          · rcases hM6 y hy with h | h
            · exact j4 y h
            · exact new_old j3 hS5 h
          · rw [← j9]
            show _ = addC c.name paid l q (j + 1) (addM f3 [.inr c.name, .inl (j : Int)] (keyM cl.by_ l) (if limB cl = true then paid else l.m))
            rw [hlm]
            rfl
      · rintro σ H4 ⟨f3, n3, M3, v6, v7, v8, rfl, j1, j2, j3, j4, j5, j6, j7, j8, j9, j10⟩
        rw [show addC c.name paid l [] c.cls.length f3 = f3 from rfl] at j9
        rw [← j9] at i9
        exact hold ⟨f3, n3, M3, _, _, _, _, _, rfl, j1, j2, j3, j4, j5, j6, j7, j8, i9, by simp at j10; omega⟩
    · have es : setStep ss l c f2 = f2 := by unfold setStep; rw [if_neg (by rw [cw]; decide)]
      rw [es] at i9
      k_clsL
      exact hold ⟨f2, n2, M2, _, _, _, _, _, rfl, i1, i2, i3, i4, i5, i6, i7, i8, i9, by omega⟩
  · rintro σ H2 ⟨f2, n2, M2, v4, v5, v6, v7, v8, rfl, i1, i2, i3, i4, i5, i6, i7, i8, i9, i10⟩
    rw [show setFold ss l [] f2 = f2 from rfl] at i9
    rw [i9] at i8
    k_clsL
    exact k p H2 ys M2 n2 i1 i3 i4 i2 i5 np i6 i7 i8 (by simp at i10; omega)
end
end Cv
namespace Cv
open PySem PySem.Spec
open PyProof.Rows hiding St
open L2
/-! ### days -/
def RowV (H : Hp) (v : V) (l : LossM) : Prop := ∃ t lv, v = .ref t ∧ H t = some (.tup [.int l.d, .int 0, .int l.n, lv]) ∧ LossV H lv l
theorem RowV.tk {H H' : Hp} {v : V} {r : LossM} (T : TK H H') (h : RowV H v r) : RowV H' v r := by
  obtain ⟨t, lv, e, h, q⟩ := h
  exact ⟨t, lv, e, T _ _ h, q.tk T⟩
def keyRow (l : LossM) : PyData := .tuple [.int l.d, .int 0, .int l.n]
def keyTurn (l : LossM) : PyData := .tuple [.int l.d, .int l.n]
def sortRow (ls : List LossM) : List LossM := ls.mergeSort (PySem.W.dataLe false keyRow)
def DaysV (K : PySem.W.Frag) (H : Hp) (a : Addr) (ws : List LossM) (kn : Int → Bool) (n : Nat) (M : Addr → Prop) : Prop := ∃ dx w d xs kvs, H a = some (.ins (He.ga K "Days") dx [("waiting", .ref w), ("known", .ref d)]) ∧ H w = some (.lst xs) ∧ Paired (RowV H) xs ws ∧ H d = some (.dK kvs) ∧
  (∀ i : Int, (valV kvs (.inl i)).isSome = kn i) ∧ kvs.length ≤ n ∧ ws.length ≤ n ∧ ∀ x, M x ↔ x = a ∨ x = w ∨ x = d
theorem DaysV.tk {K : PySem.W.Frag} {H H' : Hp} {a : Addr} {ws : List LossM} {kn : Int → Bool} {n : Nat} {M : Addr → Prop} (c : DaysV K H a ws kn n M) (S : Same (OffS M H) H') : TK H H' := fun x ys h => by
  refine S x _ (OffS.at h fun m => ?_)
  obtain ⟨dx, w, d, xs, kvs, h1, h2, h3, h4, h5, h6, h7, h8⟩ := c
  rcases (h8 x).mp m with rfl | rfl | rfl
  · rw [h1] at h; cases h
  · rw [h2] at h; cases h
  · rw [h4] at h; cases h
theorem DaysV.keep {K : PySem.W.Frag} {H H' : Hp} {a : Addr} {ws : List LossM} {kn : Int → Bool} {n : Nat} {M : Addr → Prop} (c : DaysV K H a ws kn n M) (T : TK H H') (k : ∀ x o, M x → H x = some o → H' x = some o) : DaysV K H' a ws kn n M := by
  obtain ⟨dx, w, d, xs, kvs, h1, h2, h3, h4, h5, h6, h7, h8⟩ := c
  exact ⟨dx, w, d, xs, kvs, k _ _ ((h8 _).mpr (.inl rfl)) h1, k _ _ ((h8 _).mpr (.inr (.inl rfl))) h2, Paired.mapP h3 fun _ _ q => q.tk T, k _ _ ((h8 _).mpr (.inr (.inr rfl))) h4, h5, h6, h7, h8⟩
theorem DaysV.same {K : PySem.W.Frag} {H H' : Hp} {a : Addr} {ws : List LossM} {kn : Int → Bool} {n : Nat} {M : Addr → Prop} (c : DaysV K H a ws kn n M) (S : Same H H') : DaysV K H' a ws kn n M := c.keep S.tk fun x o _ h => S x o h
theorem DaysV.there {K : PySem.W.Frag} {H : Hp} {a : Addr} {ws : List LossM} {kn : Int → Bool} {n : Nat} {M : Addr → Prop} (c : DaysV K H a ws kn n M) {x : Addr} (m : M x) : H x ≠ none := by
  obtain ⟨dx, w, d, xs, kvs, h1, h2, h3, h4, h5, h6, h7, h8⟩ := c
  rcases (h8 x).mp m with rfl | rfl | rfl
  · rw [h1]; exact fun e => nomatch e
  · rw [h2]; exact fun e => nomatch e
  · rw [h4]; exact fun e => nomatch e
section
variable {P : Program} {w : World} {K : PySem.W.Frag} {mg : Str → Option Value} {base : Heap}
theorem row_key {H : Hp} {v : V} {l : LossM} (h : RowV H v l) : ∃ t xs ws ds, v = .ref t ∧ H t = some (.tup xs) ∧ Paired (fun i u => -(2 ^ 63) ≤ i ∧ i < 2 ^ 63 ∧ ∃ j, seqIndex? i xs.length = some j ∧ xs[j]? = some u) [0, 1, 2] ws ∧ ws.length ≤ 100 ∧ keyRow l = .tuple ds ∧ Paired (fun u d => ∃ i, u = V.int i ∧ d = PyData.int i) ws ds := by
  obtain ⟨t, lv, rfl, ht, _⟩ := h
  exact ⟨t, _, [.int l.d, .int 0, .int l.n], _, rfl, ht, .cons ⟨by decide, by decide, 0, rfl, rfl⟩ (.cons ⟨by decide, by decide, 1, rfl, rfl⟩ (.cons ⟨by decide, by decide, 2, rfl, rfl⟩ .nil)), Nat.le_of_ble_eq_true rfl, rfl, .cons ⟨_, rfl, rfl⟩ (.cons ⟨_, rfl, rfl⟩ (.cons ⟨_, rfl, rfl⟩ .nil))⟩
theorem pe_sorted_turn_of {X : Cx} {j : Nat} {e : Expr} {ta : TE} {p p2 kp pos : Pos} (T : Txt X.K X.mg) (hr : Room j X.A) (ha : PE X e ta) (hg : Gl X "sorted" := by rfl) (hg2 : Gl X "turn_of" := by rfl)
    (hst : starEach [e] X.env = (false, eval e X.env) :: starEach [] X.env := by rfl)
    (he : backTo pos (starEach [e] X.env) = (false, eval e X.env) :: backTo pos (starEach [] X.env) := by rfl) (hpl : (backTo pos (starEach [e] X.env)).any (·.1) = false := by rfl)
    (hall : (backToKw pos (keywordEach [⟨some "key", .Name "turn_of" p2, kp⟩] X.env)).all (·.1.isSome) = true := by rfl) (hnone : (backToKw pos (keywordEach [⟨some "key", .Name "turn_of" p2, kp⟩] X.env)).any (·.1.isNone) = false := by rfl) (hks : (backToKw pos (keywordEach [⟨some "key", .Name "turn_of" p2, kp⟩] X.env)).filterMap (·.1) = [Str.ofString "key"] := by rfl) :
    PE X (.Call (.Name "sorted" p) [e] [⟨some "key", .Name "turn_of" p2, kp⟩] pos) (tCKw (rSortedKey X.K (He.ga X.K "turn_of") RowV keyRow) (tCons ta tNil) (tCons (tC (.ref (He.ga X.K "turn_of"))) tNil)) :=
  pe_callBK (cr_sortedKey (is := [0, 1, 2]) T.D_turn_of (fun _ _ _ _ _ _ us hl => match us, hl with | [_], _ => rfl) sc_turn_of rfl (.cons _ _ _ _ (.cons _ _ _ _ (.cons _ _ _ _ .nil))) hr (fun H v b h => row_key h) (fun b b' => by simp [keyRow, PySem.W.alike, PySem.W.alikeAll]) (fun b => ⟨_, _, rfl⟩) (fun b => by simp [keyRow, PyData.depth, PyData.depthAll]))
    hg T.f_sorted Cv.bb_sorted (pa_cons ha pa_nil hst) (pk_cons (C8.pe_gc hg2 T.c_turn_of) pk_nil) (by decide) (by decide) he hpl hall hnone hks
def sp_Days_init (K : PySem.W.Frag) : Sp := fun vs H Q _ => ∃ (a dx : Addr), vs = [.ref a] ∧ H a = some (.ins (He.ga K "Days") dx []) ∧ ∀ H' M, But a H H' → (∀ x, M x → x = a ∨ H x = none) → DaysV K H' a [] (fun _ => false) 0 M → Q .non H'
theorem mk_Days (T : Txt K mg) : C8.Mak P w K mg base 1 "Days" (He.ga K "Days") (sp_Days_init K) [] := by
  refine mak T.D_Days_init T.g_Days T.k_Days sc_Days_init (fun _ _ _ _ _ _ us hl => match us, hl with | [_], _ => rfl) (fun vs H Q E h => ?_) (fun cdv A outer s H vs Q E hr h => ?_)
  · obtain ⟨a, dx, rfl, _⟩ := h
    rfl
  obtain ⟨a, dx, rfl, ha, k⟩ := h
  have nd := (sc_Days_init).nd
  have hC := T.cl_Days
  have hN0 := T.no_Days_waiting
  have hN1 := T.no_Days_known
  refine ⟨_, (pss_cons (ps_fld (pv 0) (pe_lst pa_nil) rfl)
(pss_one (ps_fld (pv 0) pe_dnewK rfl))), ?_⟩
  try dsimp only [cxOf, Cx.nox, Cx.wish]
  k_clsL
  k_places
  rename_i w nw H1 hS1 hw1
  have ha1 := hS1.get ha
  k_clsL
  generalize hU2 : upd H1 a _ = H2
  have ha2 := new_at hU2
  have B2 : But a H H2 := hS1.but.trans (upd_but hU2)
  have hw2 : H2 w = some (.lst []) := upd_but hU2 _ _ hw1 (ne_of hw1 ha1 (fun e => nomatch e))
  k_places
  rename_i d nd3 H3 hS3 hd3
  have ha3 := hS3.get ha2
  k_clsL
  refine k _ (fun x => x = a ∨ x = w ∨ x = d) (B2.trans hS3.but).mut (fun x m => ?_) ⟨dx, w, d, [], ([] : List (Key × V)), upd_same, ?_, .nil, ?_, fun _ => rfl, Nat.le_refl _, Nat.le_refl _, fun x => Iff.rfl⟩
  · rcases m with rfl | rfl | rfl
    · exact .inl rfl
    · exact .inr nw
    · refine .inr ?_
      cases q : H x with
      | none => rfl
      | some o =>
        have := B2 _ _ q (fun e => by rw [e, ha2] at nd3; cases nd3)
        rw [nd3] at this
        cases this
  · rw [upd_ne (ne_of (hS3.get hw2) ha3 (fun e => nomatch e))]
    exact hS3.get hw2
  · rw [upd_ne (ne_of hd3 ha3 (fun e => nomatch e))]
    exact hd3
def sp_put (K : PySem.W.Frag) : Sp := fun vs H Q _ => ∃ (a : Addr) (lv : V) (l : LossM) (ws : List LossM) (kn : Int → Bool) (n : Nat) (M : Addr → Prop), vs = [.ref a, .int l.d, .int 0, .int l.n, lv] ∧ DaysV K H a ws kn n M ∧ n < 50000 ∧ LossV H lv l ∧
  ∀ H', Same (OffS M H) H' → DaysV K H' a (ws ++ [l]) (fun i => kn i || decide (i = l.n)) (n + 1) M → Q .non H'
theorem me_Days_put (T : Txt K mg) : C8.Met P w K mg base 1 (He.ga K "Days") "put" (sp_put K) [] := by
  refine met T.D_Days_put T.cl_Days T.m_Days_put sc_Days_put (fun _ _ _ _ _ _ us hl => match us, hl with | [_, _, _, _, _], _ => rfl) (fun vs H Q E h => ?_) (fun cdv A outer s H vs Q E hr h => ?_)
  · obtain ⟨a, lv, l, ws, kn, n, M, rfl, _⟩ := h
    rfl
  obtain ⟨a, lv, l, ws, kn, n, M, rfl, ⟨dx, w, d, xs, kvs, h1, h2, h3, h4, h5, h6, h7, h8⟩, hn, hl, k⟩ := h
  have nd := (sc_Days_put).nd
  have hu := hu_of hr
  have hC := T.cl_Days
  have hN0 := T.no_Days_waiting
  have hN1 := T.no_Days_known
  refine ⟨_, (pss_cons (ps_expr (pe_bm PySem.F.plainAttrs_list PySem.F.slot_list_append PySem.F.type_list_append mt_append (pe_fld (pv 0) rfl) (pa_cons (pe_tup (pa_cons (pv 1) (pa_cons (pv 2) (pa_cons (pv 3) (pa_cons (pv 4) pa_nil))))) pa_nil)))
(pss_one (ps_dput hu (pe_fld (pv 0) rfl) (pv 3) pe_bl rfl))), ?_⟩
  try dsimp only [cxOf, Cx.nox, Cx.wish]
  k_clsL
  k_places
  rename_i t nt H1 hS1 ht
  have g1 := hS1.get h1
  have g2 := hS1.get h2
  have g4 := hS1.get h4
  have hxl := h3.length
  have hxz : xs.length < 100000 := by omega
  k_clsL
  generalize hU2 : upd H1 w _ = H2
  have B2 := upd_but hU2
  have hw2 := new_at hU2
  have haw : a ≠ w := ne_of h1 h2 (fun e => nomatch e)
  have hdw : d ≠ w := ne_of h4 h2 (fun e => nomatch e)
  have had : a ≠ d := ne_of h1 h4 (fun e => nomatch e)
  have ha2 := B2 _ _ g1 haw
  have hd2 := B2 _ _ g4 hdw
  k_clsL
  refine ⟨DPut.k (k := .inl l.n) hd2 (sz_lt (by omega)), ?_⟩
  have tk : TK H1 H2 := by
    rw [← hU2]
    exact (TK.refl H1).lst g2
  have tk3 : TK H2 (upd H2 d (.dK (putK kvs (.inl l.n) (.bl true)))) := (TK.refl H2).upd hd2 (fun _ e => nomatch e)
  have tkA := (hS1.tk.trans tk).trans tk3
  refine k _ (fun x o hx => ?_) ⟨dx, w, d, xs ++ [.ref t], _, ?_, ?_, Paired.snoc (Paired.mapP h3 fun _ _ q => q.tk tkA) ⟨t, lv, rfl, tk3 _ _ (tk _ _ ht), hl.tk tkA⟩, upd_same, fun i => ?_, ?_, ?_, h8⟩
  · have hx' := OffS.same _ _ _ _ hx
    have nm : ¬ M x := fun m => by rw [OffS.none m] at hx; cases hx
    have n1 : x ≠ d := fun e => nm ((h8 x).mpr (.inr (.inr e)))
    have n2 : x ≠ w := fun e => nm ((h8 x).mpr (.inr (.inl e)))
    rw [upd_ne n1]
    exact B2 _ _ (hS1.get hx') n2
  · rw [upd_ne had]
    exact ha2
  · rw [upd_ne hdw.symm]
    exact hw2
  · show _ = (kn i || decide (i = l.n))
    rw [valV_put]
    by_cases e : i = l.n
    · subst e
      rw [if_pos rfl, decide_eq_true rfl, Bool.or_true]
      rfl
    · rw [if_neg (fun h => e (by injection h)), decide_eq_false e, Bool.or_false]
      exact h5 i
  · exact Nat.le_trans (length_putK _ _ _) (by omega)
  · rw [List.length_append]
    exact Nat.succ_le_succ h7
def sp_has_number (K : PySem.W.Frag) : Sp := fun vs H Q _ => ∃ (a : Addr) (i : Int) (ws : List LossM) (kn : Int → Bool) (n : Nat) (M : Addr → Prop), vs = [.ref a, .int i] ∧ DaysV K H a ws kn n M ∧ Q (.bl (kn i)) H
theorem me_Days_has_number (T : Txt K mg) : C8.Met P w K mg base 1 (He.ga K "Days") "has_number" (sp_has_number K) [] := by
  refine met T.D_Days_has_number T.cl_Days T.m_Days_has_number sc_Days_has_number (fun _ _ _ _ _ _ us hl => match us, hl with | [_, _], _ => rfl) (fun vs H Q E h => ?_) (fun cdv A outer s H vs Q E hr h => ?_)
  · obtain ⟨a, i, ws, kn, n, M, rfl, _⟩ := h
    rfl
  obtain ⟨a, i, ws, kn, n, M, rfl, ⟨dx, w, d, xs, kvs, h1, h2, h3, h4, h5, h6, h7, h8⟩, k⟩ := h
  have nd := (sc_Days_has_number).nd
  have hu := hu_of hr
  have hC := T.cl_Days
  have hN1 := T.no_Days_known
  refine ⟨_, (pss_one (ps_ret (pe_cmp (pc_din hu (pv 1) (pe_fld (pv 0) rfl)) rfl))), ?_⟩
  try dsimp only [cxOf, Cx.nox, Cx.wish]
  k_clsL
  refine ⟨DGet.k (k := .inl i) h4, ?_⟩
  rw [h5]
  exact k
def sp_up_to (K : PySem.W.Frag) : Sp := fun vs H Q _ => ∃ (a : Addr) (day : Int) (ws : List LossM) (kn : Int → Bool) (n : Nat) (M : Addr → Prop), vs = [.ref a, .int day] ∧ DaysV K H a ws kn n M ∧ n < 50000 ∧
  ∀ p H' ys M', Same (OffS M H) H' → (∀ x, M' x → M x ∨ H x = none) → ¬ M' p → H p = none → H' p = some (.lst ys) → Paired (RowV H') ys (sortRow (ws.filter fun l => decide (l.d ≤ day))) → DaysV K H' a (ws.filter fun l => !decide (l.d ≤ day)) kn n M' → Q (.ref p) H'
theorem me_Days_up_to (T : Txt K mg) : C8.Met P w K mg base 1 (He.ga K "Days") "up_to" (sp_up_to K) [] := by
  refine met T.D_Days_up_to T.cl_Days T.m_Days_up_to sc_Days_up_to (fun _ _ _ _ _ _ us hl => match us, hl with | [_, _], _ => rfl) (fun vs H Q E h => ?_) (fun cdv A outer s H vs Q E hr h => ?_)
  · obtain ⟨a, day, ws, kn, n, M, rfl, _⟩ := h
    rfl
  obtain ⟨a, day, ws, kn, n, M, rfl, hdv, hn, k⟩ := h
  have hdv' := hdv
  obtain ⟨dx, w, d, xs, kvs, h1, h2, h3, h4, h5, h6, h7, h8⟩ := hdv'
  have nd := (sc_Days_up_to).nd
  have hC := T.cl_Days
  have hN0 := T.no_Days_waiting
  refine ⟨_, (pss_cons (ps_set (i := 2) nd rfl (Or.inl rfl) (pe_lst pa_nil))
(pss_cons (ps_set (i := 3) nd rfl (Or.inl rfl) (pe_lst pa_nil))
(pss_cons (ps_for PassesOwn.never rfl (pi_list (pe_fld (pv 0) rfl)) (pg_name (i := 4) nd rfl (Or.inl rfl))
(pss_one (ps_if (pt_cmpR op_le (pe_ix ix_tup (pv 4) pe_int (fun _ _ => rfl)) (pv 1) (nomark _))
(pss_one (ps_expr (pe_bm PySem.F.plainAttrs_list PySem.F.slot_list_append PySem.F.type_list_append mt_append (pv 2) (pa_cons (pv 4) pa_nil))))
(pss_one (ps_expr (pe_bm PySem.F.plainAttrs_list PySem.F.slot_list_append PySem.F.type_list_append mt_append (pv 3) (pa_cons (pv 4) pa_nil)))))))
(pss_cons (ps_fld (pv 0) (pv 3) rfl)
(pss_one (ps_ret (Cv.pe_sorted_turn_of T hr (pv 2)))))))), ?_⟩
  try dsimp only [cxOf, Cx.nox, Cx.wish]
  k_clsL
  k_places
  rename_i l1 nl1 H1 hS1 hl1
  k_clsL
  k_places
  rename_i l2 nl2 H2 hS2 hl2
  have hS12 := hS1.trans hS2
  have nl2H : H l2 = none := hS1.free nl2
  have n12 : l1 ≠ l2 := ne_of_none hl1 nl2
  k_clsL
  refine for_l (xs := xs) RowV ws (fun r σ H3 => ∃ y1 y2 d1 d2 v, σ = [some (.ref a), some (.int day), some (.ref l1), some (.ref l2), v] ∧ Same H H3 ∧ H3 l1 = some (.lst y1) ∧ H3 l2 = some (.lst y2) ∧ Paired (RowV H3) y1 d1 ∧ Paired (RowV H3) y2 d2 ∧
    d1 ++ r.filter (fun l => decide (l.d ≤ day)) = ws.filter (fun l => decide (l.d ≤ day)) ∧ d2 ++ r.filter (fun l => !decide (l.d ≤ day)) = ws.filter (fun l => !decide (l.d ≤ day))) ?_ ?_ ?_ ?_
  · exact ⟨[], [], [], [], _, rfl, hS12, hS2.get hl1, hl2, .nil, .nil, rfl, rfl⟩
  · rintro r σ H3 ⟨y1, y2, d1, d2, v, rfl, s3, _⟩
    exact ⟨s3.seq (SqL.of h2), Paired.mapP h3 fun _ _ q => q.tk s3.tk⟩
  · rintro c r x σ H3 hc ⟨y1, y2, d1, d2, v, rfl, s3, g1, g2, g3, g4, g5, g6⟩ hx
    have hx' := hx
    obtain ⟨t, lv, rfl, ht, hlv⟩ := hx'
    have e1 := g3.length
    have e2 := g4.length
    have f1 := congrArg List.length g5
    have f2 := congrArg List.length g6
    rw [List.length_append] at f1 f2
    have b1 := List.length_filter_le (fun l : LossM => decide (l.d ≤ day)) ws
    have b2 := List.length_filter_le (fun l : LossM => !decide (l.d ≤ day)) ws
    have z1 : y1.length < 100000 := by omega
    have z2 : y2.length < 100000 := by omega
    k_clsL
    refine ifd (fun c1 => ?_) (fun c1 => ?_)
    · k_clsL
      have tk : TK H3 (upd H3 l1 (.lst (y1 ++ [.ref t]))) := (TK.refl H3).lst g1
      refine hold ⟨_, y2, d1 ++ [c], d2, _, rfl, s3.mut nl1, upd_same, by rw [upd_ne n12.symm]; exact g2, Paired.snoc (Paired.mapP g3 fun _ _ q => q.tk tk) (hx.tk tk), Paired.mapP g4 fun _ _ q => q.tk tk, ?_, ?_⟩
      · rw [← g5, List.filter_cons_of_pos (by simpa using c1), List.append_assoc]
        rfl
      · rw [← g6, List.filter_cons_of_neg (by simpa using c1)]
    · k_clsL
      have tk : TK H3 (upd H3 l2 (.lst (y2 ++ [.ref t]))) := (TK.refl H3).lst g2
      refine hold ⟨y1, _, d1, d2 ++ [c], _, rfl, s3.mut nl2H, by rw [upd_ne n12]; exact g1, upd_same, Paired.mapP g3 fun _ _ q => q.tk tk, Paired.snoc (Paired.mapP g4 fun _ _ q => q.tk tk) (hx.tk tk), ?_, ?_⟩
      · rw [← g5, List.filter_cons_of_neg (by simpa using c1)]
      · rw [← g6, List.filter_cons_of_pos (by simpa using c1), List.append_assoc]
        rfl
  · rintro σ H3 ⟨y1, y2, d1, d2, v, rfl, s3, g1, g2, g3, g4, g5, g6⟩
    rw [List.filter_nil, List.append_nil] at g5 g6
    have ha3 := s3.get h1
    k_clsL
    generalize hU4 : upd H3 a _ = H4
    have B4 := upd_but hU4
    have ha4 := new_at hU4
    have nal1 : l1 ≠ a := ne_of g1 ha3 (fun e => nomatch e)
    have nal2 : l2 ≠ a := ne_of g2 ha3 (fun e => nomatch e)
    have nad : d ≠ a := ne_of h4 h1 (fun e => nomatch e)
    have hl14 := B4 _ _ g1 nal1
    have tk4 : TK H3 H4 := by
      rw [← hU4]
      exact (TK.refl H3).upd ha3 (fun _ e => nomatch e)
    refine ⟨_, rfl, ?_⟩
    k_clsL
    refine ⟨rfl, l1, y1, d1, rfl, SqL.of hl14, Paired.mapP g3 fun _ _ q => q.tk tk4, fun p ys np hP => ?_⟩
    have S5 : Same H4 (upd H4 p (.lst ys)) := new_same np rfl
    have npH : H p = none := by
      cases q : H p with
      | none => rfl
      | some o =>
        have := B4 _ _ (s3.get q) (fun e => by rw [e, ha4] at np; cases np)
        rw [np] at this
        cases this
    rw [g5] at hP
    refine k p _ ys (fun x => x = a ∨ x = l2 ∨ x = d) (fun x o hx => ?_) (fun x m => ?_) ?_ npH upd_same (Paired.mapP hP fun _ _ q => q.tk S5.tk) ⟨dx, l2, d, y2, kvs, S5.get ha4, S5.get (B4 _ _ g2 nal2), ?_, S5.get (B4 _ _ (s3.get h4) nad), h5, h6, ?_, fun x => Iff.rfl⟩
    · have hx' := OffS.same _ _ _ _ hx
      have nm : ¬ M x := fun m => by rw [OffS.none m] at hx; cases hx
      exact S5.get (B4 _ _ (s3.get hx') (fun e => nm ((h8 x).mpr (.inl e))))
    · rcases m with rfl | rfl | rfl
      · exact .inl ((h8 _).mpr (.inl rfl))
      · exact .inr nl2H
      · exact .inl ((h8 _).mpr (.inr (.inr rfl)))
    · rintro (rfl | rfl | rfl)
      · rw [ha4] at np; cases np
      · rw [B4 _ _ g2 nal2] at np; cases np
      · rw [B4 _ _ (s3.get h4) nad] at np; cases np
    · rw [← g6]
      exact Paired.mapP g4 fun _ _ q => q.tk (tk4.trans S5.tk)
    · exact Nat.le_trans (List.length_filter_le _ _) h7
end
end Cv
namespace Cv
open PySem PySem.Spec
open PyProof.Rows hiding St
open L2
/-! ### Twice, Late: their __init__ -/
section
variable {P : Program} {w : World} {K : PySem.W.Frag} {mg : Str → Option Value} {base : Heap}
theorem oex_Twice (T : Txt K mg) : OexC K (He.ga K "Twice") := ⟨oexB_ok T.ox_Twice, T.xs_Twice, T.sb_Twice, T.tp_Twice, T.kp_Twice⟩
theorem oex_Late (T : Txt K mg) : OexC K (He.ga K "Late") := ⟨oexB_ok T.ox_Late, T.xs_Late, T.sb_Late, T.tp_Late, T.kp_Late⟩
def sp_xinit (K : PySem.W.Frag) (C : Addr) (f : Str) : Sp := fun vs H Q _ => ∃ (a : Addr) (y : V), vs = [.ref a, y] ∧ H a = some (exo a C none) ∧ ∀ dx, H dx = none → dx ≠ a → Q .non (upd (upd H dx (exd dx [(f, y)])) a (exo a C (some dx)))
theorem fn_Twice_init (T : Txt K mg) : ∃ fd, FnOk P w K mg base C8.CX0 1 (He.ma K (He.ga K "Twice") "__init__") fd ["self", "number"] (sp_xinit K (He.ga K "Twice") "number") ∧ Binds K fd ["self", "number"] [] := by
  obtain ⟨fd, F⟩ := T.D_Twice_init
  refine ⟨fd, F.ok sc_Twice_init (fun vs H Q E h => ?_) (fun cdv A outer s H vs Q E hr h => ?_), F.bindsN (fun _ _ _ _ _ _ us hl => match us, hl with | [_, _], _ => rfl)⟩
  · obtain ⟨a, y, rfl, _⟩ := h
    rfl
  obtain ⟨a, y, rfl, ha, k⟩ := h
  have nd := (sc_Twice_init).nd
  refine ⟨_, PSs.nox (pss_cons (ps_expr (pe_ceinit T.rr_CoverError T.rg_CoverError T.ri_CoverError rfl T.g_CoverError (pa_cons (pv 0) (pa_cons pe_str pa_nil)))) (pss_one (ps_ost (pv 0) (pv 1)))), ?_⟩
  try dsimp only [cxOf, Cx.nox, Cx.wish]
  have hO := oex_Twice T
  have hF := T.xn_Twice
  k_clsL
  unfold tVeI
  k_clsL
  unfold tOst
  k_clsL
  refine .inl ⟨ha, fun dx n1 n2 => ?_⟩
  exact k dx n1 n2
theorem fn_Late_init (T : Txt K mg) : ∃ fd, FnOk P w K mg base C8.CX0 1 (He.ma K (He.ga K "Late") "__init__") fd ["self", "day"] (sp_xinit K (He.ga K "Late") "day") ∧ Binds K fd ["self", "day"] [] := by
  obtain ⟨fd, F⟩ := T.D_Late_init
  refine ⟨fd, F.ok sc_Late_init (fun vs H Q E h => ?_) (fun cdv A outer s H vs Q E hr h => ?_), F.bindsN (fun _ _ _ _ _ _ us hl => match us, hl with | [_, _], _ => rfl)⟩
  · obtain ⟨a, y, rfl, _⟩ := h
    rfl
  obtain ⟨a, y, rfl, ha, k⟩ := h
  have nd := (sc_Late_init).nd
  refine ⟨_, PSs.nox (pss_cons (ps_expr (pe_ceinit T.rr_CoverError T.rg_CoverError T.ri_CoverError rfl T.g_CoverError (pa_cons (pv 0) (pa_cons pe_str pa_nil)))) (pss_one (ps_ost (pv 0) (pv 1)))), ?_⟩
  try dsimp only [cxOf, Cx.nox, Cx.wish]
  have hO := oex_Late T
  have hF := T.xn_Late
  k_clsL
  unfold tVeI
  k_clsL
  unfold tOst
  k_clsL
  refine .inl ⟨ha, fun dx n1 n2 => ?_⟩
  exact k dx n1 n2
end
section
variable {X : Cx} {j : Nat} {e : Expr} {es : List Expr} {ta : TA} {p pos : Pos}
theorem pmk_Twice (T : Txt X.K X.mg) (hr : Room j X.A) (hg : Gl X "Twice") (ha : PA X (e :: es) ta) (hk : 2 ≤ j := by decide)
    (he : starEach (e :: es) X.env = (false, eval e X.env) :: starEach es X.env := by rfl) (hpl : (backTo pos (starEach es X.env)).any (·.1) = false := by rfl) :
    PMk X (.Call (.Name "Twice" p) (e :: es) [] pos) (tMkO (He.ga X.K "Twice") (sp_xinit X.K (He.ga X.K "Twice") "number") [] ta) := by
  obtain ⟨fd, F, b⟩ := fn_Twice_init (P := X.prog) (w := X.w) (base := X.base) T
  exact pmk_oex (oex_Twice T) T.xj_Twice T.xf_Twice F (hr.mono hk) b .nil C8.pass0 hg T.g_Twice ha (by decide) he hpl
theorem pmk_Late (T : Txt X.K X.mg) (hr : Room j X.A) (hg : Gl X "Late") (ha : PA X (e :: es) ta) (hk : 2 ≤ j := by decide)
    (he : starEach (e :: es) X.env = (false, eval e X.env) :: starEach es X.env := by rfl) (hpl : (backTo pos (starEach es X.env)).any (·.1) = false := by rfl) :
    PMk X (.Call (.Name "Late" p) (e :: es) [] pos) (tMkO (He.ga X.K "Late") (sp_xinit X.K (He.ga X.K "Late") "day") [] ta) := by
  obtain ⟨fd, F, b⟩ := fn_Late_init (P := X.prog) (w := X.w) (base := X.base) T
  exact pmk_oex (oex_Late T) T.xj_Late T.xf_Late F (hr.mono hk) b .nil C8.pass0 hg T.g_Late ha (by decide) he hpl
theorem mko_end {K : PySem.W.Frag} {C : Addr} {f : Str} {y : V} {H : Hp} {E E0 : XK} (h : ∀ d H', Same H H' → H d = none → H' d = some (.xd [(f, y)]) → E (.ref C) (some d) H') :
    [y].length ≤ 1000 ∧ ∀ a, H a = none → sp_xinit K C f (.ref a :: ([y] ++ [])) (upd H a (exo a C none)) (fun v H2 => v = .non ∧ ∃ (d : Addr) (fs : List (Str × V)), H2 a = some (exo a C (some d)) ∧ H2 d = some (exd d fs) ∧ H d = none ∧ E (.ref C) (some d) (upd (del H2 a) d (.xd fs))) E0 := by
  refine ⟨Nat.le_of_ble_eq_true rfl, fun a na => ⟨a, y, rfl, upd_same, fun dx nd ne => ⟨rfl, dx, [(f, y)], upd_same, ?_, ?_, ?_⟩⟩⟩
  · rw [upd_ne ne, upd_same]
  · rw [upd_ne ne] at nd
    exact nd
  · rw [upd_ne ne] at nd
    refine h dx _ (fun b o hb => ?_) nd upd_same
    have hba := ne_of_none hb na
    have hbd := ne_of_none hb nd
    rw [upd_ne hbd, del_ne hba, upd_ne hba, upd_ne hbd, upd_ne hba]
    exact hb
end
/-! ### what a roll is -/
structure RollM where
  cs : List CovM
  f : CF
  ws : List LossM
  kn : Int → Bool
  closed : Option Int
  order : List LossM
  held : Int → Option (List Strip)
def closedV : Option Int → V
  | none => .non
  | some c => .int c
def lateM (day : Int) : Option Int → Bool
  | none => false
  | some c => decide (day ≤ c)
/-- what is held by a number: a list of strips -/
def HeldV (H : Hp) (hvs : List (Key × V)) (held : Int → Option (List Strip)) : Prop := ∀ i : Int, match held i with
  | none => valV hvs (.inl i) = none
  | some ss => ∃ p ys, valV hvs (.inl i) = some (.ref p) ∧ H p = some (.lst ys) ∧ Paired (StripV H) ys ss
structure RollAt (K : PySem.W.Frag) (G H : Hp) (a : Addr) (r : RollM) (n : Nat) (M : Addr → Prop) (dx ac ad ao ah : Addr) (bv : V) (xs : List V) (hvs : List (Key × V)) (Mc Md : Addr → Prop) (nc : Nat) : Prop where
  obj : H a = some (.ins (He.ga K "Roll") dx [("book", bv), ("counts", .ref ac), ("days", .ref ad), ("closed", closedV r.closed), ("order", .ref ao), ("held", .ref ah)])
  book : BookV K G bv r.cs
  few : r.cs.length ≤ 4
  cnt : CntV K H ac r.f nc Mc
  days : DaysV K H ad r.ws r.kn n Md
  ord : H ao = some (.lst xs)
  ordV : Paired (LossV H) xs r.order
  hld : H ah = some (.dK hvs)
  hldV : HeldV H hvs r.held
  apart : (∀ x, Mc x → ¬ Md x ∧ x ≠ a ∧ x ≠ ao ∧ x ≠ ah ∧ ∀ i, valV hvs (.inl i) ≠ some (.ref x)) ∧ (∀ x, Md x → x ≠ a ∧ x ≠ ao ∧ x ≠ ah ∧ ∀ i, valV hvs (.inl i) ≠ some (.ref x)) ∧ ∀ i, valV hvs (.inl i) ≠ some (.ref ao)
  own : ∀ x, M x ↔ (x = a ∨ x = ao ∨ x = ah ∨ ∃ i, valV hvs (.inl i) = some (.ref x)) ∨ Mc x ∨ Md x
  off : ∀ x, M x → G x = none
  sub : Same G H
  size : r.ws.length + r.order.length ≤ n ∧ hvs.length ≤ r.order.length ∧ nc ≤ 32 * r.order.length
def RollV (K : PySem.W.Frag) (G H : Hp) (a : Addr) (r : RollM) (n : Nat) (M : Addr → Prop) : Prop := ∃ dx ac ad ao ah bv xs hvs Mc Md nc, RollAt K G H a r n M dx ac ad ao ah bv xs hvs Mc Md nc
end Cv
namespace Cv
open PySem PySem.Spec
open PyProof.Rows hiding St
open L2
theorem HeldV.keep {H H' : Hp} {hvs : List (Key × V)} {held : Int → Option (List Strip)} (h : HeldV H hvs held) (T : TK H H') (k : ∀ i x o, valV hvs (.inl i) = some (.ref x) → H x = some o → H' x = some o) : HeldV H' hvs held := fun i => by
  have q := h i
  revert q
  cases held i with
  | none => exact fun q => q
  | some ss =>
    rintro ⟨p, ys, e, g, hp⟩
    exact ⟨p, ys, e, k i p _ e g, Paired.mapP hp fun _ _ q => q.tk T⟩
section
variable {K : PySem.W.Frag} {G H H' : Hp} {a dx ac ad ao ah : Addr} {r : RollM} {n nc : Nat} {M Mc Md : Addr → Prop} {bv : V} {xs : List V} {hvs : List (Key × V)}
theorem RollAt.mc (R : RollAt K G H a r n M dx ac ad ao ah bv xs hvs Mc Md nc) {x : Addr} (m : Mc x) : M x := (R.own x).mpr (.inr (.inl m))
theorem RollAt.md (R : RollAt K G H a r n M dx ac ad ao ah bv xs hvs Mc Md nc) {x : Addr} (m : Md x) : M x := (R.own x).mpr (.inr (.inr m))
theorem RollAt.keep (R : RollAt K G H a r n M dx ac ad ao ah bv xs hvs Mc Md nc) (T : TK H H') (k : ∀ x o, M x → H x = some o → H' x = some o) (sG : Same G H') : RollAt K G H' a r n M dx ac ad ao ah bv xs hvs Mc Md nc where
  obj := k _ _ ((R.own _).mpr (.inl (.inl rfl))) R.obj
  book := R.book
  few := R.few
  cnt := R.cnt.keep fun x o m h => k x o (R.mc m) h
  days := R.days.keep T fun x o m h => k x o (R.md m) h
  ord := k _ _ ((R.own _).mpr (.inl (.inr (.inl rfl)))) R.ord
  ordV := Paired.mapP R.ordV fun _ _ q => q.tk T
  hld := k _ _ ((R.own _).mpr (.inl (.inr (.inr (.inl rfl))))) R.hld
  hldV := R.hldV.keep T fun i x o e h => k x o ((R.own _).mpr (.inl (.inr (.inr (.inr ⟨i, e⟩))))) h
  apart := R.apart
  own := R.own
  off := R.off
  sub := sG
  size := R.size
theorem RollV.same (h : RollV K G H a r n M) (S : Same H H') : RollV K G H' a r n M := by
  obtain ⟨dx, ac, ad, ao, ah, bv, xs, hvs, Mc, Md, nc, R⟩ := h
  exact ⟨dx, ac, ad, ao, ah, bv, xs, hvs, Mc, Md, nc, R.keep S.tk (fun x o _ h => S x o h) (R.sub.trans S)⟩
theorem RollV.keep (h : RollV K G H a r n M) (T : TK H H') (k : ∀ x o, M x → H x = some o → H' x = some o) (sG : Same G H') : RollV K G H' a r n M := by
  obtain ⟨dx, ac, ad, ao, ah, bv, xs, hvs, Mc, Md, nc, R⟩ := h
  exact ⟨dx, ac, ad, ao, ah, bv, xs, hvs, Mc, Md, nc, R.keep T k sG⟩
theorem RollAt.there (R : RollAt K G H a r n M dx ac ad ao ah bv xs hvs Mc Md nc) {x : Addr} (m : M x) : H x ≠ none := by
  rcases (R.own x).mp m with (rfl | rfl | rfl | ⟨i, e⟩) | m | m
  · rw [R.obj]; exact fun e => nomatch e
  · rw [R.ord]; exact fun e => nomatch e
  · rw [R.hld]; exact fun e => nomatch e
  · have q := R.hldV i
    cases hh : r.held i with
    | none => rw [hh] at q; rw [show valV hvs (.inl i) = none from q] at e; cases e
    | some ss =>
      rw [hh] at q
      obtain ⟨p, ys, e2, g, _⟩ := q
      rw [e] at e2
      cases e2
      rw [g]; exact fun e => nomatch e
  · exact R.cnt.there m
  · exact R.days.there m
/-- no tuple is a roll's own -/
theorem RollAt.notup (R : RollAt K G H a r n M dx ac ad ao ah bv xs hvs Mc Md nc) {x : Addr} {ys : List V} (h : H x = some (.tup ys)) : ¬ M x := fun m => by
  rcases (R.own x).mp m with (rfl | rfl | rfl | ⟨i, e⟩) | m | m
  · rw [R.obj] at h; cases h
  · rw [R.ord] at h; cases h
  · rw [R.hld] at h; cases h
  · have q := R.hldV i
    cases hh : r.held i with
    | none => rw [hh] at q; rw [show valV hvs (.inl i) = none from q] at e; cases e
    | some ss =>
      rw [hh] at q
      obtain ⟨p, zs, e2, g, _⟩ := q
      rw [e] at e2
      cases e2
      rw [g] at h; cases h
  · have := R.cnt.tk (Same.refl (OffS Mc H)) x ys h
    rw [OffS.none m] at this
    cases this
  · have := R.days.tk (Same.refl (OffS Md H)) x ys h
    rw [OffS.none m] at this
    cases this
theorem RollAt.tk (R : RollAt K G H a r n M dx ac ad ao ah bv xs hvs Mc Md nc) (S : Same (OffS M H) H') : TK H H' := fun x ys h => S x _ (OffS.at h (R.notup h))
end
theorem bn {a x : Addr} {H H' : Hp} {o : HO} (B : But a H H') (ha : H' a = some o) (n : H' x = none) : H x = none := by
  cases q : H x with
  | none => rfl
  | some u =>
    have := B x u q (fun e => by rw [e, ha] at n; cases n)
    rw [n] at this
    cases this
theorem but_ne {a x : Addr} {H H' : Hp} (B : But a H H') (h : H x ≠ none) (n : x ≠ a) : H' x ≠ none := by
  cases q : H x with
  | none => exact absurd q h
  | some u => rw [B x u q n]; exact fun e => nomatch e
theorem but_tk {a C dx : Addr} {fs : List (Str × V)} {H H' : Hp} (B : But a H H') (h : H a = some (.ins C dx fs)) : TK H H' := fun x ys q => B x _ q (ne_of q h (fun e => nomatch e))
section
variable {P : Program} {w : World} {K : PySem.W.Frag} {mg : Str → Option Value} {base : Heap}
def roll0 (cs : List CovM) : RollM := ⟨cs, fun _ _ => 0, [], fun _ => false, none, [], fun _ => none⟩
def sp_Roll_init (K : PySem.W.Frag) : Sp := fun vs H Q _ => ∃ (a dx : Addr) (bv : V) (cs : List CovM) (G : Hp), vs = [.ref a, bv] ∧ H a = some (.ins (He.ga K "Roll") dx []) ∧ BookV K G bv cs ∧ cs.length ≤ 4 ∧ Same G H ∧ G a = none ∧
  ∀ H' M, But a H H' → (∀ x, M x → x = a ∨ H x = none) → RollV K G H' a (roll0 cs) 0 M → Q .non H'
theorem mk_Roll (T : Txt K mg) : C8.Mak P w K mg base 3 "Roll" (He.ga K "Roll") (sp_Roll_init K) [] := by
  refine mak T.D_Roll_init T.g_Roll T.k_Roll sc_Roll_init (fun _ _ _ _ _ _ us hl => match us, hl with | [_, _], _ => rfl) (fun vs H Q E h => ?_) (fun cdv A outer s H vs Q E hr h => ?_)
  · obtain ⟨a, dx, bv, cs, G, rfl, _⟩ := h
    rfl
  obtain ⟨a, dx, bv, cs, G, rfl, ha, hb, hc, hG, hGa, k⟩ := h
  have nd := (sc_Roll_init).nd
  have hC := T.cl_Roll
  have hN0 := T.no_Roll_book
  have hN1 := T.no_Roll_counts
  have hN2 := T.no_Roll_days
  have hN3 := T.no_Roll_closed
  have hN4 := T.no_Roll_order
  have hN5 := T.no_Roll_held
  refine ⟨_, (pss_cons (ps_fld (pv 0) (pv 1) rfl)
(pss_cons (ps_fld (pv 0) (Cv.pe_mk0 (mk_Counts T) hr (by decide) rfl) rfl)
(pss_cons (ps_fld (pv 0) (Cv.pe_mk0 (mk_Days T) hr (by decide) rfl) rfl)
(pss_cons (ps_fld (pv 0) pe_non rfl)
(pss_cons (ps_fld (pv 0) (pe_lst pa_nil) rfl)
(pss_one (ps_fld (pv 0) pe_dnewK rfl))))))), ?_⟩
  try dsimp only [cxOf, Cx.nox, Cx.wish]
  k_clsL
  generalize hU1 : upd H a _ = H1
  have ha1 := new_at hU1
  have B1 : But a H H1 := upd_but hU1
  intro ac acx nac nacx nacd
  k_clsL
  refine ⟨ac, acx, rfl, upd_same, fun d2 H2 nd2 B2 hc2 => ⟨rfl, ?_⟩⟩
  have S2 : Same H1 H2 := But.made nac nacx B2
  have ha2 := S2.get ha1
  k_clsL
  generalize hU3 : upd H2 a _ = H3
  have ha3 := new_at hU3
  have B3 := upd_but hU3
  intro ad adx nad nadx nadd
  k_clsL
  refine ⟨ad, adx, rfl, upd_same, fun H4 Md B4 hMd hd4 => ⟨rfl, ?_⟩⟩
  have S4 : Same H3 H4 := But.made nad nadx B4
  have ha4 := S4.get ha3
  k_clsL
  generalize hU5 : upd H4 a _ = H5
  have ha5 := new_at hU5
  have B5 := upd_but hU5
  k_clsL
  generalize hU6 : upd H5 a _ = H6
  have ha6 := new_at hU6
  have B6 := upd_but hU6
  k_places
  rename_i ao nao H7 hS7 ho7
  have ha7 := hS7.get ha6
  k_clsL
  generalize hU8 : upd H7 a _ = H8
  have ha8 := new_at hU8
  have B8 := upd_but hU8
  k_places
  rename_i ah nah H9 hS9 hh9
  have ha9 := hS9.get ha8
  k_clsL
  generalize hU10 : upd H9 a _ = H10
  have ha10 := new_at hU10
  have B10 := upd_but hU10
  have SM1 : Same H1 (upd (upd H1 acx (.own ac)) ac (.ins (He.ga K "Counts") acx [])) := (new_same nacx rfl).trans (new_same (by rw [upd_ne nacd.symm]; exact nac) rfl)
  have SM3 : Same H3 (upd (upd H3 adx (.own ad)) ad (.ins (He.ga K "Days") adx [])) := (new_same nadx rfl).trans (new_same (by rw [upd_ne nadd.symm]; exact nad) rfl)
  have nd2' : H1 d2 = none := SM1.free nd2
  have hMd' : ∀ x, Md x → H3 x = none := fun x m => by
    rcases hMd x m with rfl | h
    · exact nad
    · exact SM3.free h
  have b3 : But a H H3 := (B1.trans S2.but).trans B3
  have b26 : But a H2 H6 := ((B3.trans S4.but).trans B5).trans B6
  have b28 : But a H2 H8 := (b26.trans hS7.but).trans B8
  have b210 : But a H2 H10 := (b28.trans hS9.but).trans B10
  have b46 : But a H4 H6 := B5.trans B6
  have b48 : But a H4 H8 := (b46.trans hS7.but).trans B8
  have b410 : But a H4 H10 := (b48.trans hS9.but).trans B10
  have b6 : But a H H6 := (((b3.trans S4.but).trans B5).trans B6)
  have b8 : But a H H8 := (b6.trans hS7.but).trans B8
  have b10 : But a H H10 := (b8.trans hS9.but).trans B10
  have ca : ∀ x, (x = ac ∨ x = d2) → x ≠ a := fun x m e => by
    rcases m with rfl | rfl
    · rw [e, ha1] at nac; cases nac
    · rw [e, ha1] at nd2'; cases nd2'
  have da : ∀ x, Md x → x ≠ a := fun x m e => by
    have := hMd' x m
    rw [e, ha3] at this
    cases this
  have naoa : ao ≠ a := fun e => by rw [e, ha6] at nao; cases nao
  have naha : ah ≠ a := fun e => by rw [e, ha8] at nah; cases nah
  have nohv : ∀ (i : Int) (x : Addr), valV ([] : List (Key × V)) (.inl i) ≠ some (.ref x) := fun i x e => by cases e
  have hM : ∀ x, ((x = a ∨ x = ao ∨ x = ah ∨ ∃ i : Int, valV ([] : List (Key × V)) (.inl i) = some (.ref x)) ∨ (x = ac ∨ x = d2) ∨ Md x) → x = a ∨ H x = none := fun x m => by
    rcases m with (rfl | rfl | rfl | ⟨i, e⟩) | (rfl | rfl) | m
    · exact .inl rfl
    · exact .inr (bn b6 ha6 nao)
    · exact .inr (bn b8 ha8 nah)
    · exact absurd e (nohv i x)
    · exact .inr (bn B1 ha1 nac)
    · exact .inr (bn B1 ha1 nd2')
    · exact .inr (bn b3 ha3 (hMd' x m))
  refine k H10 (fun x => (x = a ∨ x = ao ∨ x = ah ∨ ∃ i : Int, valV ([] : List (Key × V)) (.inl i) = some (.ref x)) ∨ (x = ac ∨ x = d2) ∨ Md x) b10 hM ⟨dx, ac, ad, ao, ah, bv, [], [], fun x => x = ac ∨ x = d2, Md, 0, ?_⟩
  refine { obj := ha10, book := hb, few := hc, cnt := hc2.keep fun x o m h => b210 x o h (ca x m), days := hd4.keep (but_tk b410 ha4) fun x o m h => b410 x o h (da x m), ord := B10 _ _ (hS9.get (B8 _ _ ho7 naoa)) naoa, ordV := .nil, hld := B10 _ _ hh9 naha, hldV := fun i => rfl, apart := ⟨fun x m => ⟨fun m2 => ?_, ca x m, fun e => ?_, fun e => ?_, fun i => nohv i x⟩, fun x m => ⟨da x m, fun e => ?_, fun e => ?_, fun i => nohv i x⟩, fun i => nohv i ao⟩, own := fun x => Iff.rfl, off := fun x m => ?_, sub := b10.from hGa hG, size := ⟨Nat.le_refl _, Nat.le_refl _, Nat.le_refl _⟩ }
  · exact but_ne B3 (hc2.there m) (ca x m) (hMd' x m2)
  · exact but_ne b26 (hc2.there m) (ca x m) (by rw [e]; exact nao)
  · exact but_ne b28 (hc2.there m) (ca x m) (by rw [e]; exact nah)
  · exact but_ne b46 (hd4.there m) (da x m) (by rw [e]; exact nao)
  · exact but_ne b48 (hd4.there m) (da x m) (by rw [e]; exact nah)
  · rcases hM x m with rfl | h
    · exact hGa
    · exact hG.free h
/-! ### is_late, settled, told -/
def sp_is_late (K : PySem.W.Frag) : Sp := fun vs H Q _ => ∃ (a dx : Addr) (day : Int) (bv cv dv ov hv : V) (cl : Option Int), vs = [.ref a, .int day] ∧ H a = some (.ins (He.ga K "Roll") dx [("book", bv), ("counts", cv), ("days", dv), ("closed", closedV cl), ("order", ov), ("held", hv)]) ∧ Q (.bl (lateM day cl)) H
theorem me_Roll_is_late (T : Txt K mg) : C8.Met P w K mg base 1 (He.ga K "Roll") "is_late" (sp_is_late K) [] := by
  refine met T.D_Roll_is_late T.cl_Roll T.m_Roll_is_late sc_Roll_is_late (fun _ _ _ _ _ _ us hl => match us, hl with | [_, _], _ => rfl) (fun vs H Q E h => ?_) (fun cdv A outer s H vs Q E hr h => ?_)
  · obtain ⟨a, dx, day, bv, cv, dv, ov, hv, cl, rfl, _⟩ := h
    rfl
  obtain ⟨a, dx, day, bv, cv, dv, ov, hv, cl, rfl, ha, k⟩ := h
  have nd := (sc_Roll_is_late).nd
  have hC := T.cl_Roll
  have hN3 := T.no_Roll_closed
  refine ⟨_, (pss_one (ps_ret (pe_and (pe_cmpR op_notN (pe_fld (pv 0) rfl) pe_non (nomark _)) (pe_one (pe_cmpR op_le (pv 1) (pe_fld (pv 0) rfl) (nomark _)))))), ?_⟩
  try dsimp only [cxOf, Cx.nox, Cx.wish]
  k_clsL
  cases cl with
  | none =>
    refine ifnd (fun h => absurd rfl h) (fun _ => ?_)
    exact k
  | some c =>
    refine ifnd (fun _ => ?_) (fun h => nomatch h)
    k_clsL
    show rI0 _ (.int day) (.int c) H _
    k_clsL
    exact k
def sp_settled (K : PySem.W.Frag) : Sp := fun vs H Q _ => ∃ (a : Addr) (G : Hp) (r : RollM) (n : Nat) (M : Addr → Prop), vs = [.ref a] ∧ RollV K G H a r n M ∧ ∀ p H' ys, Same H H' → H p = none → H' p = some (.lst ys) → Paired (LossV H') ys r.order → Q (.ref p) H'
theorem me_Roll_settled (T : Txt K mg) : C8.Met P w K mg base 1 (He.ga K "Roll") "settled" (sp_settled K) [] := by
  refine met T.D_Roll_settled T.cl_Roll T.m_Roll_settled sc_Roll_settled (fun _ _ _ _ _ _ us hl => match us, hl with | [_], _ => rfl) (fun vs H Q E h => ?_) (fun cdv A outer s H vs Q E hr h => ?_)
  · obtain ⟨a, G, r, n, M, rfl, _⟩ := h
    rfl
  obtain ⟨a, G, r, n, M, rfl, ⟨dx, ac, ad, ao, ah, bv, xs, hvs, Mc, Md, nc, R⟩, k⟩ := h
  have nd := (sc_Roll_settled).nd
  have hC := T.cl_Roll
  have hN3 := T.no_Roll_order
  have ha := R.obj
  have ho := R.ord
  refine ⟨_, (pss_one (ps_ret (pe_callTy call_list_of (by rfl) T.f_list Cv.bt_list (pa_cons (pe_fld (pv 0) rfl) pa_nil)))), ?_⟩
  try dsimp only [cxOf, Cx.nox, Cx.wish]
  k_clsL
  k_places
  rename_i p np H1 hS1 hp
  exact k p H1 xs hS1 np hp (Paired.mapP R.ordV fun _ _ q => q.tk hS1.tk)
def sp_told (K : PySem.W.Frag) : Sp := fun vs H Q E => ∃ (a : Addr) (i : Int) (G : Hp) (r : RollM) (n : Nat) (M : Addr → Prop), vs = [.ref a, .int i] ∧ RollV K G H a r n M ∧
  (∀ ss, r.held i = some ss → ∀ p H' ys, Same H H' → H p = none → H' p = some (.lst ys) → Paired (StripV H') ys ss → Q (.ref p) H') ∧ (r.held i = none → ∀ H', Same H H' → E (.ref (He.ga K "NotTold")) none H')
theorem me_Roll_told (T : Txt K mg) : MetX P w K mg base 1 (He.ga K "Roll") "told" (sp_told K) := by
  refine metx T.D_Roll_told T.cl_Roll T.m_Roll_told sc_Roll_told (fun _ _ _ _ _ _ us hl => match us, hl with | [_, _], _ => rfl) (fun vs H Q E h => ?_) (fun cdv A outer s H vs Q E hr h => ?_)
  · obtain ⟨a, i, G, r, n, M, rfl, _⟩ := h
    rfl
  obtain ⟨a, i, G, r, n, M, rfl, ⟨dx, ac, ad, ao, ah, bv, xs, hvs, Mc, Md, nc, R⟩, k1, k2⟩ := h
  have nd := (sc_Roll_told).nd
  have hu := hu_of hr
  have hC := T.cl_Roll
  have hN3 := T.no_Roll_held
  have ha := R.obj
  have hh := R.hld
  have hq := R.hldV i
  refine ⟨_, (pss_cons (ps_if (pt_cmp (pc_dnotin hu (pv 1) (pe_fld (pv 0) rfl)) rfl)
(pss_one (ps_raise rfl (takes_of rfl rfl rfl rfl) (pmk_own PySem.F.excBase_ValueError T.xc_NotTold T.g_NotTold T.kp_NotTold (raises_own T.sb_NotTold T.tp_NotTold) rfl)))
pss_nil)
(pss_one (ps_ret (pe_callTy call_list_of (by rfl) T.f_list Cv.bt_list (pa_cons (pe_dget hu (pe_fld (pv 0) rfl) (pv 1) (fun _ _ => rfl)) pa_nil))))), ?_⟩
  try dsimp only [cxOf]
  k_clsL
  refine ⟨DGet.k (k := .inl i) hh, ?_⟩
  cases hi : r.held i with
  | none =>
    rw [hi] at hq
    have hq : valV hvs (.inl i) = none := hq
    rw [hq]
    k_clsL
    exact k2 hi _ (Same.refl _)
  | some ss =>
    rw [hi] at hq
    obtain ⟨p, ys, e, g, hp⟩ := hq
    have hg : DGet H ah (.int i) (some (.ref p)) := by
      rw [← e]
      exact DGet.k (k := .inl i) hh
    rw [e]
    k_clsL
    refine iff ?_
    k_clsL
    k_places
    rename_i q nq H1 hS1 hq1
    exact k1 ss hi q H1 ys hS1 nq hq1 (Paired.mapP hp fun _ _ q => q.tk hS1.tk)
end
end Cv
namespace Cv
open PySem PySem.Spec
open PyProof.Rows hiding St
open L2
/-! ### enter -/
def enterM (r : RollM) (l : LossM) : RollM := { r with ws := r.ws ++ [l], kn := fun i => r.kn i || decide (i = l.n) }
theorem okLoss_ex {n d e t c m : V} (h : okLoss n d e t c m = true) : ∃ l : LossM, n = .int l.n ∧ d = .int l.d ∧ e = .str l.e ∧ t = .str l.t ∧ c = .str l.c ∧ m = .int l.m := by
  unfold okLoss at h
  simp only [Bool.and_eq_true] at h
  obtain ⟨⟨⟨⟨h1, h2⟩, h3⟩, h4, h5⟩, h6⟩ := h
  obtain ⟨i1, rfl⟩ := rngB_int h1
  obtain ⟨i2, rfl⟩ := rngB_int h2
  obtain ⟨i6, rfl⟩ := rngB_int h6
  cases e <;> first | cases h3 | skip
  cases t <;> first | cases h4 | skip
  cases c <;> first | cases h5 | skip
  exact ⟨⟨i1, i2, _, _, _, i6⟩, rfl, rfl, rfl, rfl, rfl, rfl⟩
section
variable {P : Program} {w : World} {K : PySem.W.Frag} {mg : Str → Option Value} {base : Heap}
def sp_enter (K : PySem.W.Frag) : Sp := fun vs H Q E => ∃ (a : Addr) (n d e t c m : V) (G : Hp) (r : RollM) (nn : Nat) (M : Addr → Prop), vs = [.ref a, n, d, e, t, c, m] ∧ Kd K H n ∧ Kd K H d ∧ Kd K H e ∧ Kd K H t ∧ Kd K H c ∧ Kd K H m ∧ TxtOk e ∧ (∀ z, t = .str z → z.length ≤ 1000) ∧ (∀ z, c = .str z → z.length ≤ 1000) ∧
  RollV K G H a r nn M ∧ nn < 10000 ∧ (okLoss n d e t c m = false → ∀ H', Same H H' → E (.ref (He.ga K "NoEntry")) none H') ∧
  ∀ l : LossM, n = .int l.n → d = .int l.d → e = .str l.e → t = .str l.t → c = .str l.c → m = .int l.m → okLoss n d e t c m = true →
    (r.kn l.n = true → ∀ dd H', Same H H' → H dd = none → H' dd = some (.xd [("number", .int l.n)]) → E (.ref (He.ga K "Twice")) (some dd) H') ∧
    (r.kn l.n = false → ∀ cl, r.closed = some cl → l.d ≤ cl → ∀ dd H', Same H H' → H dd = none → H' dd = some (.xd [("day", .int cl)]) → E (.ref (He.ga K "Late")) (some dd) H') ∧
    (r.kn l.n = false → lateM l.d r.closed = false → ∀ H', Same (OffS M H) H' → RollV K G H' a (enterM r l) (nn + 1) M → Q .non H')
theorem me_Roll_enter (T : Txt K mg) : MetX P w K mg base 4 (He.ga K "Roll") "enter" (sp_enter K) := by
  refine metx T.D_Roll_enter T.cl_Roll T.m_Roll_enter sc_Roll_enter (fun _ _ _ _ _ _ us hl => match us, hl with | [_, _, _, _, _, _, _], _ => rfl) (fun vs H Q E h => ?_) (fun cdv A outer s H vs Q E hr h => ?_)
  · obtain ⟨a, n, d, e, t, c, m, G, r, nn, M, rfl, _⟩ := h
    rfl
  obtain ⟨a, n, d, e, t, c, m, G, r, nn, M, rfl, kdn, kdd, kde, kdt, kdc, kdm, ze, zt, zc, ⟨dx, ac, ad, ao, ah, bv, xs, hvs, Mc, Md, nc, R⟩, hnn, k1, k2⟩ := h
  have nd := (sc_Roll_enter).nd
  have hC := T.cl_Roll
  have hCD := T.cl_Days
  have hN2 := T.no_Roll_days
  have hN3 := T.no_Roll_closed
  refine ⟨_, (pss_cons (ps_set (i := 7) nd rfl (Or.inl rfl) (Cv.pe_cx (ok_loss_of T) hr (by decide) rfl (takes_of rfl rfl rfl rfl) (pa_cons (pv 1) (pa_cons (pv 2) (pa_cons (pv 3) (pa_cons (pv 4) (pa_cons (pv 5) (pa_cons (pv 6) pa_nil))))))))
(pss_cons (ps_if (pt_val (C8.pe_mt (me_Days_has_number T) hr (by decide) (pe_fld (pv 0) rfl) (pa_cons (pv 1) pa_nil)))
(pss_one (ps_raise rfl (takes_of rfl rfl rfl rfl) (Cv.pmk_Twice T hr rfl (pa_cons (pv 1) pa_nil))))
pss_nil)
(pss_cons (ps_if (pt_val (C8.pe_mt (me_Roll_is_late T) hr (by decide) (pv 0) (pa_cons (pv 2) pa_nil)))
(pss_one (ps_raise rfl (takes_of rfl rfl rfl rfl) (Cv.pmk_Late T hr rfl (pa_cons (pe_fld (pv 0) rfl) pa_nil))))
pss_nil)
(pss_one (ps_expr (C8.pe_mt (me_Days_put T) hr (by decide) (pe_fld (pv 0) rfl) (pa_cons (pv 2) (pa_cons pe_int (pa_cons (pv 1) (pa_cons (pv 7) pa_nil)))))))))), ?_⟩
  try dsimp only [cxOf]
  k_clsL
  refine ⟨n, d, e, t, c, m, rfl, kdn, kdd, kde, kdt, kdc, kdm, ze, zt, zc, fun hok p H1 hS1 np hp => ?_, fun hno H' hS => k1 hno H' hS⟩
  obtain ⟨l, rfl, rfl, rfl, rfl, rfl, rfl⟩ := okLoss_ex hok
  obtain ⟨k3, k4, k5⟩ := k2 l rfl rfl rfl rfl rfl rfl hok
  have ha1 := hS1.get R.obj
  have hdv1 := R.days.same hS1
  have hdv1' := hdv1
  obtain ⟨ddx, dw, dd0, dxs, dkvs, u1, _⟩ := hdv1'
  k_clsL
  refine ⟨ad, l.n, r.ws, r.kn, nn, Md, rfl, hdv1, ?_⟩
  k_clsL
  refine ifb (fun c1 => ?_) (fun c1 => ?_)
  · k_clsL
    unfold tMkO
    k_clsL
    exact (mko_end fun dd H' hS' nd' hx => k3 c1 dd H' (hS1.trans hS') (hS1.free nd') hx)
  k_clsL
  refine ⟨a, dx, l.d, bv, _, _, _, _, r.closed, rfl, ha1, ?_⟩
  k_clsL
  refine ifb (fun c2 => ?_) (fun c2 => ?_)
  · k_clsL
    unfold tMkO
    k_clsL
    cases hcl : r.closed with
    | none => rw [hcl] at c2; cases c2
    | some cl =>
      rw [hcl] at c2
      exact (mko_end fun dd H' hS' nd' hx => k4 c1 cl hcl (of_decide_eq_true c2) dd H' (hS1.trans hS') (hS1.free nd') hx)
  k_clsL
  refine ⟨ad, _, l, r.ws, r.kn, nn, Md, rfl, hdv1, by omega, ⟨p, rfl, hp⟩, fun H2 hS2 hd2 => ?_⟩
  k_clsL
  have R1 := R.keep hS1.tk (fun x o _ h => hS1 x o h) (R.sub.trans hS1)
  have tk2 := hdv1.tk hS2
  have kp : ∀ x o, ¬ Md x → H1 x = some o → H2 x = some o := fun x o nm h => hS2 x o (OffS.at h nm)
  have nmo : ∀ x, (x = a ∨ x = ao ∨ x = ah ∨ ∃ i, valV hvs (.inl i) = some (.ref x)) → ¬ Md x := fun x m md => by
    obtain ⟨e1, e2, e3, e4⟩ := R.apart.2.1 x md
    rcases m with rfl | rfl | rfl | ⟨i, e⟩
    · exact e1 rfl
    · exact e2 rfl
    · exact e3 rfl
    · exact e4 i e
  refine k5 c1 c2 H2 (fun x o hx => ?_) ⟨dx, ac, ad, ao, ah, bv, xs, hvs, Mc, Md, nc, ?_⟩
  · have hx' := OffS.same _ _ _ _ hx
    have nm : ¬ M x := fun m => by rw [OffS.none m] at hx; cases hx
    exact kp x o (fun m => nm (R.md m)) (hS1.get hx')
  · exact { obj := kp _ _ (nmo _ (.inl rfl)) R1.obj, book := R.book, few := R.few, cnt := R1.cnt.keep fun x o m h => kp x o (R.apart.1 x m).1 h, days := hd2, ord := kp _ _ (nmo _ (.inr (.inl rfl))) R1.ord, ordV := Paired.mapP R1.ordV fun _ _ q => q.tk tk2,
            hld := kp _ _ (nmo _ (.inr (.inr (.inl rfl)))) R1.hld, hldV := R1.hldV.keep tk2 fun i x o e h => kp x o (nmo _ (.inr (.inr (.inr ⟨i, e⟩)))) h, apart := R.apart, own := R.own, off := R.off,
            sub := fun x o h => kp x o (fun m => by rw [R.off x (R.md m)] at h; cases h) (R1.sub x o h),
            size := ⟨by show (r.ws ++ [l]).length + r.order.length ≤ nn + 1; rw [List.length_append]; have := R.size.1; simp; omega, R.size.2⟩ }
end
end Cv
namespace Cv
open PySem PySem.Spec
open PyProof.Rows hiding St
open L2
/-! ### close -/
def settle1 (r : RollM) (l : LossM) : RollM := { r with f := settleF r.cs r.f l, order := r.order ++ [l], held := fun i => if i = l.n then some (stripsM r.cs r.f l) else r.held i }
def settleL : List LossM → RollM → RollM
  | [], r => r
  | l :: ls, r => settleL ls (settle1 r l)
def readyM (r : RollM) (day : Int) : List LossM := sortRow (r.ws.filter fun l => decide (l.d ≤ day))
def closeM (r : RollM) (day : Int) : RollM := settleL (readyM r day) { r with closed := some day, ws := r.ws.filter fun l => !decide (l.d ≤ day) }
theorem RollAt.hvlst {K : PySem.W.Frag} {G H : Hp} {a dx ac ad ao ah : Addr} {r : RollM} {n nc : Nat} {M Mc Md : Addr → Prop} {bv : V} {xs : List V} {hvs : List (Key × V)} (R : RollAt K G H a r n M dx ac ad ao ah bv xs hvs Mc Md nc) {i : Int} {x : Addr} (e : valV hvs (.inl i) = some (.ref x)) : ∃ ys, H x = some (.lst ys) := by
  have q := R.hldV i
  cases hh : r.held i with
  | none => rw [hh] at q; rw [show valV hvs (.inl i) = none from q] at e; cases e
  | some ss =>
    rw [hh] at q
    obtain ⟨p, ys, e2, g, _⟩ := q
    rw [e] at e2
    cases e2
    exact ⟨ys, g⟩
/-- a loss has been settled -/
theorem RollAt.settled {K : PySem.W.Frag} {G H H3 : Hp} {a dx ac ad ao ah : Addr} {r : RollM} {n nc nc' : Nat} {M Mc Md Mc' : Addr → Prop} {bv lv : V} {xs ys : List V} {hvs : List (Key × V)} {l : LossM} {p : Addr} (R : RollAt K G H a r n M dx ac ad ao ah bv xs hvs Mc Md nc)
    (S : Same (OffS Mc H) H3) (hM : ∀ x, Mc' x → Mc x ∨ H x = none) (np' : ¬ Mc' p) (np : H p = none) (hp : H3 p = some (.lst ys)) (hP : Paired (StripV H3) ys (stripsM r.cs r.f l)) (hc : CntV K H3 ac (settleF r.cs r.f l) nc' Mc') (hn : nc' ≤ nc + 32) (hl : LossV H lv l) (hz : r.ws.length + r.order.length + 1 ≤ n) :
    RollAt K G (upd (upd H3 ah (.dK (putK hvs (.inl l.n) (.ref p)))) ao (.lst (xs ++ [lv]))) a (settle1 r l) n (fun x => (x = a ∨ x = ao ∨ x = ah ∨ ∃ i, valV (putK hvs (.inl l.n) (.ref p)) (.inl i) = some (.ref x)) ∨ Mc' x ∨ Md x) dx ac ad ao ah bv (xs ++ [lv]) (putK hvs (.inl l.n) (.ref p)) Mc' Md nc' := by
  have kp : ∀ x o, ¬ Mc x → H x = some o → H3 x = some o := fun x o nm h => S x o (OffS.at h nm)
  have tk1 := R.cnt.tk S
  have aoh : ao ≠ ah := ne_of R.ord R.hld (fun e => nomatch e)
  have aa : a ≠ ao := ne_of R.obj R.ord (fun e => nomatch e)
  have aah : a ≠ ah := ne_of R.obj R.hld (fun e => nomatch e)
  have pao : p ≠ ao := fun e => by rw [e, R.ord] at np; cases np
  have pah : p ≠ ah := fun e => by rw [e, R.hld] at np; cases np
  have nca : ¬ Mc a := fun m => (R.apart.1 a m).2.1 rfl
  have ncao : ¬ Mc ao := fun m => (R.apart.1 ao m).2.2.1 rfl
  have ncah : ¬ Mc ah := fun m => (R.apart.1 ah m).2.2.2.1 rfl
  have hao3 := kp _ _ ncao R.ord
  have hah3 := kp _ _ ncah R.hld
  have two : ∀ x o, x ≠ ao → x ≠ ah → H3 x = some o → upd (upd H3 ah (.dK (putK hvs (.inl l.n) (.ref p)))) ao (.lst (xs ++ [lv])) x = some o := fun x o n1 n2 h => by
    rw [upd_ne n1, upd_ne n2]
    exact h
  have tk2 : TK H3 (upd (upd H3 ah (.dK (putK hvs (.inl l.n) (.ref p)))) ao (.lst (xs ++ [lv]))) := fun x zs h => two x _ (ne_of h hao3 (fun e => nomatch e)) (ne_of h hah3 (fun e => nomatch e)) h
  have mc' : ∀ x, Mc' x → x ≠ a ∧ x ≠ ao ∧ x ≠ ah := fun x m => by
    rcases hM x m with h | h
    · exact ⟨(R.apart.1 x h).2.1, (R.apart.1 x h).2.2.1, (R.apart.1 x h).2.2.2.1⟩
    · refine ⟨fun e => ?_, fun e => ?_, fun e => ?_⟩
      · rw [e, R.obj] at h; cases h
      · rw [e, R.ord] at h; cases h
      · rw [e, R.hld] at h; cases h
  have old : ∀ i : Int, i ≠ l.n → valV (putK hvs (.inl l.n) (.ref p)) (.inl i) = valV hvs (.inl i) := fun i e => by
    rw [valV_put, if_neg (fun h => e (by injection h))]
  have new : valV (putK hvs (.inl l.n) (.ref p)) (.inl l.n) = some (.ref p) := by rw [valV_put, if_pos rfl]
  have hv : ∀ (i : Int) (x : Addr), valV (putK hvs (.inl l.n) (.ref p)) (.inl i) = some (.ref x) → x = p ∨ valV hvs (.inl i) = some (.ref x) := fun i x e => by
    by_cases c : i = l.n
    · subst c
      rw [new] at e
      cases e
      exact .inl rfl
    · rw [old i c] at e
      exact .inr e
  refine { obj := two _ _ aa aah (kp _ _ nca R.obj), book := R.book, few := R.few, cnt := hc.keep fun x o m h => two x o (mc' x m).2.1 (mc' x m).2.2 h
           days := R.days.keep (tk1.trans tk2) fun x o m h => two x o (R.apart.2.1 x m).2.1 (R.apart.2.1 x m).2.2.1 (kp x o (fun c => (R.apart.1 x c).1 m) h)
           ord := upd_same, ordV := Paired.snoc (Paired.mapP R.ordV fun _ _ q => q.tk (tk1.trans tk2)) (hl.tk (tk1.trans tk2))
           hld := by rw [upd_ne aoh.symm, upd_same], hldV := fun i => ?_, apart := ⟨fun x m => ⟨fun md => ?_, (mc' x m).1, (mc' x m).2.1, (mc' x m).2.2, fun i e => ?_⟩, fun x m => ⟨(R.apart.2.1 x m).1, (R.apart.2.1 x m).2.1, (R.apart.2.1 x m).2.2.1, fun i e => ?_⟩, fun i e => ?_⟩
           own := fun x => Iff.rfl, off := fun x m => ?_, sub := fun x o h => ?_, size := ⟨?_, ?_, ?_⟩ }
  · show match (if i = l.n then some (stripsM r.cs r.f l) else r.held i) with
      | none => _
      | some ss => _
    by_cases c : i = l.n
    · rw [if_pos c, c]
      exact ⟨p, ys, new, two _ _ pao pah hp, Paired.mapP hP fun _ _ q => q.tk tk2⟩
    · rw [if_neg c]
      have q := R.hldV i
      cases hh : r.held i with
      | none =>
        rw [hh] at q
        exact (old i c).trans q
      | some ss =>
        rw [hh] at q
        obtain ⟨p2, zs, e2, g, hp2⟩ := q
        refine ⟨p2, zs, (old i c).trans e2, two _ _ (fun e => R.apart.2.2 i (e ▸ e2)) (ne_of g R.hld (fun e => nomatch e)) (kp _ _ (fun m => (R.apart.1 p2 m).2.2.2.2 i e2) g), Paired.mapP hp2 fun _ _ q => q.tk (tk1.trans tk2)⟩
  · rcases hM x m with h | h
    · exact (R.apart.1 x h).1 md
    · exact R.days.there md h
  · rcases hv i x e with rfl | e2
    · exact np' m
    · rcases hM x m with h | h
      · exact (R.apart.1 x h).2.2.2.2 i e2
      · obtain ⟨zs, g⟩ := R.hvlst e2
        rw [h] at g
        cases g
  · rcases hv i x e with rfl | e2
    · exact R.days.there m np
    · exact (R.apart.2.1 x m).2.2.2 i e2
  · rcases hv i ao e with e1 | e2
    · exact pao e1.symm
    · exact R.apart.2.2 i e2
  · have fr : ∀ {y}, H y = none → G y = none := fun {y} h => R.sub.free h
    rcases m with (rfl | rfl | rfl | ⟨i, e⟩) | m | m
    · exact R.off _ ((R.own _).mpr (.inl (.inl rfl)))
    · exact R.off _ ((R.own _).mpr (.inl (.inr (.inl rfl))))
    · exact R.off _ ((R.own _).mpr (.inl (.inr (.inr (.inl rfl)))))
    · rcases hv i x e with rfl | e2
      · exact fr np
      · exact R.off _ ((R.own _).mpr (.inl (.inr (.inr (.inr ⟨i, e2⟩)))))
    · rcases hM x m with h | h
      · exact R.off x (R.mc h)
      · exact fr h
    · exact R.off x (R.md m)
  · have nm : ¬ M x := fun m => by rw [R.off x m] at h; cases h
    exact two x o (fun e => nm (e ▸ (R.own _).mpr (.inl (.inr (.inl rfl))))) (fun e => nm (e ▸ (R.own _).mpr (.inl (.inr (.inr (.inl rfl)))))) (kp x o (fun m => nm (R.mc m)) (R.sub x o h))
  · show r.ws.length + (r.order ++ [l]).length ≤ n
    rw [List.length_append]
    simp
    omega
  · show (putK hvs _ _).length ≤ (r.order ++ [l]).length
    rw [List.length_append]
    exact Nat.le_trans (length_putK _ _ _) (Nat.succ_le_succ R.size.2.1)
  · show nc' ≤ 32 * (r.order ++ [l]).length
    rw [List.length_append]
    have := R.size.2.2
    simp
    omega
section
variable {P : Program} {w : World} {K : PySem.W.Frag} {mg : Str → Option Value} {base : Heap}
def sp_close (K : PySem.W.Frag) : Sp := fun vs H Q E => ∃ (a : Addr) (day : V) (G : Hp) (r : RollM) (nn : Nat) (M : Addr → Prop), vs = [.ref a, day] ∧ Kd K H day ∧ RollV K G H a r nn M ∧ nn ≤ 1000 ∧ (isDayV day = false → ∀ H', Same H H' → E (.ref (He.ga K "NoEntry")) none H') ∧
  ∀ dy : Int, day = .int dy → isDayV day = true →
    (lateM dy r.closed = true → ∀ p H', Same H H' → H p = none → H' p = some (.lst []) → Q (.ref p) H') ∧
    (lateM dy r.closed = false → ∀ p H' M', Same (OffS M H) H' → (∀ x, M' x → M x ∨ H x = none) → ¬ M' p → H p = none → H' p = some (.lst ((readyM r dy).map fun l => .int l.n)) → RollV K G H' a (closeM r dy) nn M' → Q (.ref p) H')
theorem filt_len {α : Type} (p : α → Bool) : ∀ ls : List α, (ls.filter p).length + (ls.filter fun x => !p x).length = ls.length
  | [] => rfl
  | x :: r => by
    have := filt_len p r
    cases h : p x
    · rw [List.filter_cons_of_neg (by simp [h]), List.filter_cons_of_pos (by simp [h]), List.length_cons, List.length_cons]
      omega
    · rw [List.filter_cons_of_pos h, List.filter_cons_of_neg (by simp [h]), List.length_cons, List.length_cons]
      omega
theorem ready_len (r : RollM) (day : Int) : (readyM r day).length + (r.ws.filter fun l => !decide (l.d ≤ day)).length = r.ws.length := by
  unfold readyM sortRow
  rw [List.length_mergeSort]
  exact filt_len _ _
theorem me_Roll_close (T : Txt K mg) : MetX P w K mg base 7 (He.ga K "Roll") "close" (sp_close K) := by
  refine metx T.D_Roll_close T.cl_Roll T.m_Roll_close sc_Roll_close (fun _ _ _ _ _ _ us hl => match us, hl with | [_, _], _ => rfl) (fun vs H Q E h => ?_) (fun cdv A outer s H vs Q E hr h => ?_)
  · obtain ⟨a, day, G, r, nn, M, rfl, _⟩ := h
    rfl
  obtain ⟨a, day, G, r, nn, M, rfl, kd, ⟨dx, ac, ad, ao, ah, bv, xs, hvs, Mc, Md, nc, R⟩, hnn, k1, k2⟩ := h
  have nd := (sc_Roll_close).nd
  have hu := hu_of hr
  have hC := T.cl_Roll
  have hCD := T.cl_Days
  have hN0 := T.no_Roll_book
  have hN1 := T.no_Roll_counts
  have hN2 := T.no_Roll_days
  have hN3 := T.no_Roll_closed
  have hN4 := T.no_Roll_order
  have hN5 := T.no_Roll_held
  refine ⟨_, (pss_cons (ps_if (pt_not (pt_val (C8.pe_c (ok_is_day T) hr (by decide) rfl (pa_cons (pv 1) pa_nil))))
(pss_one (ps_raise rfl (takes_of rfl rfl rfl rfl) (pmk_own PySem.F.excBase_ValueError T.xc_NoEntry T.g_NoEntry T.kp_NoEntry (raises_own T.sb_NoEntry T.tp_NoEntry) rfl)))
pss_nil)
(pss_cons (ps_set (i := 2) nd rfl (Or.inl rfl) (pe_lst pa_nil))
(pss_cons (ps_if (pt_val (C8.pe_mt (me_Roll_is_late T) hr (by decide) (pv 0) (pa_cons (pv 1) pa_nil)))
(pss_one (ps_ret (pv 2)))
pss_nil)
(pss_cons (ps_fld (pv 0) (pv 1) rfl)
(PSs.nox (pss_cons (ps_for PassesOwn.never rfl (pi_list (C8.pe_mt (me_Days_up_to T) hr (by decide) (pe_fld (pv 0) rfl) (pa_cons (pv 1) pa_nil))) (pg_name (i := 3) nd rfl (Or.inl rfl))
(pss_cons (ps_set (i := 4) nd rfl (Or.inl rfl) (pe_ix ix_tup (pv 3) pe_int (fun _ _ => rfl)))
(pss_cons (ps_dput hu (pe_fld (pv 0) rfl) (pe_ix ix_tup (pv 4) pe_int (fun _ _ => rfl)) (C8.pe_c (ok_settle T) hr (by decide) rfl (pa_cons (pe_fld (pv 0) rfl) (pa_cons (pe_fld (pv 0) rfl) (pa_cons (pv 4) pa_nil)))) rfl)
(pss_cons (ps_expr (pe_bm PySem.F.plainAttrs_list PySem.F.slot_list_append PySem.F.type_list_append mt_append (pe_fld (pv 0) rfl) (pa_cons (pv 4) pa_nil)))
(pss_one (ps_expr (pe_bm PySem.F.plainAttrs_list PySem.F.slot_list_append PySem.F.type_list_append mt_append (pv 2) (pa_cons (pe_ix ix_tup (pv 4) pe_int (fun _ _ => rfl)) pa_nil))))))))
(pss_one (ps_ret (pv 2))))))))), ?_⟩
  try dsimp only [cxOf]
  k_clsL
  refine ⟨day, rfl, kd, ?_⟩
  k_clsL
  refine ifnb (fun c0 => ?_) (fun c0 => ?_)
  · k_clsL
    exact k1 c0 _ (Same.refl _)
  obtain ⟨dy, rfl⟩ := rngB_int c0
  obtain ⟨k3, k4⟩ := k2 dy rfl c0
  k_clsL
  k_places
  rename_i pn npn H1 hS1 hp1
  have ha1 := hS1.get R.obj
  k_clsL
  refine ⟨a, dx, dy, bv, _, _, _, _, r.closed, rfl, ha1, ?_⟩
  k_clsL
  refine ifb (fun c1 => ?_) (fun c1 => ?_)
  · k_clsL
    exact k3 c1 pn H1 hS1 npn hp1
  have k5 := k4 c1
  have R1 := R.keep hS1.tk (fun x o _ h => hS1 x o h) (R.sub.trans hS1)
  k_offL
  generalize hU2 : upd H1 a _ = H2
  have ha2 := new_at hU2
  have B2 := upd_but hU2
  have Ma : M a := (R.own a).mpr (.inl (.inl rfl))
  have npna : pn ≠ a := fun e => by rw [e, R.obj] at npn; cases npn
  have nMpn : ¬ M pn := fun m => R.there m npn
  have hp2 := B2 _ _ hp1 npna
  have tk2 : TK H1 H2 := but_tk B2 ha1
  have dn : ∀ x, Md x → x ≠ a := fun x m => (R.apart.2.1 x m).1
  have cn : ∀ x, Mc x → x ≠ a := fun x m => (R.apart.1 x m).2.1
  have hd2 : DaysV K H2 ad r.ws r.kn nn Md := R1.days.keep tk2 fun x o m h => B2 x o h (dn x m)
  have hd2' := hd2
  obtain ⟨ddx, dw, dd0, dxs, dkvs, u1, _⟩ := hd2'
  k_clsL
  refine ⟨ad, dy, r.ws, r.kn, nn, Md, rfl, hd2, by omega, fun py H3 ys Md3 hS3 hMd3 nMd3 npy hp3 hPy hd3 => ?_⟩
  have tk3 := hd2.tk hS3
  have kp3 : ∀ x o, ¬ Md x → H2 x = some o → H3 x = some o := fun x o nm h => hS3 x o (OffS.at h nm)
  have hG2 : Same G H2 := B2.from (R.off a Ma) R1.sub
  have aoa : ao ≠ a := ne_of R1.ord R1.obj (fun e => nomatch e)
  have aha : ah ≠ a := ne_of R1.hld R1.obj (fun e => nomatch e)
  have hva : ∀ i, valV hvs (.inl i) ≠ some (.ref a) := fun i e => by
    obtain ⟨zs, q⟩ := R1.hvlst e
    rw [R1.obj] at q
    cases q
  have nmo : ∀ x, (x = a ∨ x = ao ∨ x = ah ∨ ∃ i, valV hvs (.inl i) = some (.ref x)) → ¬ Md x := fun x m md => by
    obtain ⟨e1, e2, e3, e4⟩ := R.apart.2.1 x md
    rcases m with rfl | rfl | rfl | ⟨i, e⟩
    · exact e1 rfl
    · exact e2 rfl
    · exact e3 rfl
    · exact e4 i e
  have hcn2 : CntV K H2 ac r.f nc Mc := R1.cnt.keep fun x o m h => B2 x o h (cn x m)
  have R3 : RollAt K G H3 a { r with closed := some dy, ws := r.ws.filter fun l => !decide (l.d ≤ dy) } nn (fun x => (x = a ∨ x = ao ∨ x = ah ∨ ∃ i, valV hvs (.inl i) = some (.ref x)) ∨ Mc x ∨ Md3 x) dx ac ad ao ah bv xs hvs Mc Md3 nc := {
    obj := kp3 _ _ (nmo _ (.inl rfl)) ha2, book := R.book, few := R.few, cnt := hcn2.keep fun x o m h => kp3 x o (R.apart.1 x m).1 h, days := hd3
    ord := kp3 _ _ (nmo _ (.inr (.inl rfl))) (B2 _ _ R1.ord aoa), ordV := Paired.mapP R1.ordV fun _ _ q => q.tk (tk2.trans tk3)
    hld := kp3 _ _ (nmo _ (.inr (.inr (.inl rfl)))) (B2 _ _ R1.hld aha), hldV := R1.hldV.keep (tk2.trans tk3) fun i x o e h => kp3 x o (nmo _ (.inr (.inr (.inr ⟨i, e⟩)))) (B2 x o h fun ex => hva i (ex ▸ e))
    apart := ⟨fun x m => ⟨fun m3 => by
        rcases hMd3 x m3 with h | h
        · exact (R.apart.1 x m).1 h
        · exact hcn2.there m h, (R.apart.1 x m).2⟩, fun x m3 => ?_, R.apart.2.2⟩
    own := fun x => Iff.rfl
    off := fun x m => ?_
    sub := fun x o h => kp3 x o (fun m => by rw [R.off x (R.md m)] at h; cases h) (hG2 x o h)
    size := ⟨by have := ready_len r dy; have := R.size.1; show (r.ws.filter fun l => !decide (l.d ≤ dy)).length + r.order.length ≤ nn; omega, R.size.2⟩ }
  rotate_left
  · rcases hMd3 x m3 with h | h
    · exact R.apart.2.1 x h
    · refine ⟨fun e => ?_, fun e => ?_, fun e => ?_, fun i e => ?_⟩
      · rw [e, ha2] at h; cases h
      · rw [e, B2 _ _ R1.ord aoa] at h; cases h
      · rw [e, B2 _ _ R1.hld aha] at h; cases h
      · obtain ⟨zs, q⟩ := R1.hvlst e
        rw [B2 _ _ q (fun ex => hva i (ex ▸ e))] at h
        cases h
  · rcases m with m | m | m
    · exact R.off x ((R.own x).mpr (.inl m))
    · exact R.off x (R.mc m)
    · rcases hMd3 x m with h | h
      · exact R.off x (R.md h)
      · exact hG2.free h
  k_clsL
  have hM3 : ∀ x, ((x = a ∨ x = ao ∨ x = ah ∨ ∃ i, valV hvs (.inl i) = some (.ref x)) ∨ Mc x ∨ Md3 x) → M x ∨ H x = none := fun x m => by
    rcases m with m | m | m
    · exact .inl ((R.own x).mpr (.inl m))
    · exact .inl (R.mc m)
    · rcases hMd3 x m with h | h
      · exact .inl (R.md h)
      · exact .inr (hS1.free (bn B2 ha2 h))
  have npyH : H py = none := hS1.free (bn B2 ha2 npy)
  have hpn3 : H3 pn = some (.lst []) := kp3 _ _ (fun m => nMpn (R.md m)) hp2
  have npp : py ≠ pn := fun e => by rw [e, hp2] at npy; cases npy
  have S03 : Same (OffS M H) H3 := fun x o hx => by
    have hx' := OffS.same _ _ _ _ hx
    have nm : ¬ M x := fun m => by rw [OffS.none m] at hx; cases hx
    exact kp3 x o (fun m => nm (R.md m)) (B2 _ _ (hS1.get hx') (fun e => nm (e ▸ Ma)))
  have nown : ∀ x, H x = none → H3 x ≠ none → ¬ ((x = a ∨ x = ao ∨ x = ah ∨ ∃ i, valV hvs (.inl i) = some (.ref x)) ∨ Mc x) := fun x n _ m => by
    rcases m with m | m
    · exact R.there ((R.own x).mpr (.inl m)) n
    · exact R.there (R.mc m) n
  have nM3py : ¬ ((py = a ∨ py = ao ∨ py = ah ∨ ∃ i, valV hvs (.inl i) = some (.ref py)) ∨ Mc py ∨ Md3 py) := fun m => by
    rcases m with m | m | m
    · exact nown py npyH (by rw [hp3]; exact fun e => nomatch e) (.inl m)
    · exact nown py npyH (by rw [hp3]; exact fun e => nomatch e) (.inr m)
    · exact nMd3 m
  have nM3pn : ¬ ((pn = a ∨ pn = ao ∨ pn = ah ∨ ∃ i, valV hvs (.inl i) = some (.ref pn)) ∨ Mc pn ∨ Md3 pn) := fun m => by
    rcases m with m | m | m
    · exact nown pn npn (by rw [hpn3]; exact fun e => nomatch e) (.inl m)
    · exact nown pn npn (by rw [hpn3]; exact fun e => nomatch e) (.inr m)
    · rcases hMd3 pn m with h | h
      · exact nMpn (R.md h)
      · rw [hp2] at h; cases h
  have hrl := ready_len r dy
  have hrs := R.size.1
  refine for_l (xs := ys) RowV (readyM r dy) (fun rs σ H4 => ∃ r4 M4 xs4 hvs4 Mc4 nc4 done v3 v4, σ = [some (.ref a), some (.int dy), some (.ref pn), v3, v4] ∧ RollAt K G H4 a r4 nn M4 dx ac ad ao ah bv xs4 hvs4 Mc4 Md3 nc4 ∧ settleL rs r4 = closeM r dy ∧ H4 py = some (.lst ys) ∧ Paired (RowV H4) ys (readyM r dy) ∧ H4 pn = some (.lst (done.map V.int)) ∧ ¬ M4 pn ∧ ¬ M4 py ∧
    done ++ rs.map (·.n) = (readyM r dy).map (·.n) ∧ Same (OffS M H) H4 ∧ (∀ x, M4 x → M x ∨ H x = none) ∧ r4.order.length + r4.ws.length + rs.length ≤ nn) ?_ ?_ ?_ ?_
  · refine ⟨_, _, xs, hvs, Mc, nc, [], _, _, rfl, R3, rfl, hp3, hPy, hpn3, nM3pn, nM3py, rfl, S03, hM3, ?_⟩
    show r.order.length + (r.ws.filter fun l => !decide (l.d ≤ dy)).length + (readyM r dy).length ≤ nn
    omega
  · rintro rs σ H4 ⟨r4, M4, xs4, hvs4, Mc4, nc4, done, v3, v4, rfl, R4, e1, e2, e3, _⟩
    exact ⟨SqL.of e2, e3⟩
  · rintro l rs x σ H4 hc ⟨r4, M4, xs4, hvs4, Mc4, nc4, done, v3, v4, rfl, R4, e1, e2, e3, e4, e5, e6, e7, e8, e9, e10⟩ hx
    have e1' : settleL rs (settle1 r4 l) = closeM r dy := e1
    rw [List.length_cons] at e10
    have hx' := hx
    obtain ⟨t, lv, rfl, ht, hlv⟩ := hx'
    have hlv' := hlv
    obtain ⟨la, rfl, hla⟩ := hlv'
    have ha4 := R4.obj
    have hG4 : Same G (OffS Mc4 H4) := OffS.of R4.sub fun x m => R4.off x (R4.mc m)
    have nla : ¬ Mc4 la := fun m => R4.notup hla (R4.mc m)
    k_clsL
    refine ⟨bv, ac, .ref la, r4.cs, l, r4.f, nc4, Mc4, OffS Mc4 H4, rfl, R4.few, R4.cnt, ?_, OffS.same _ _, fun x m => OffS.none m, R4.book.same hG4, ⟨la, rfl, OffS.at hla nla⟩, fun q H5 zs Mc5 nc5 hS5 _ hM5 _ nq5 nq hq5 hP5 hc5 hn5 => ?_⟩
    · have h1 := R4.size.2.2
      have h2 := R4.size.1
      omega
    have R6 := R4.settled hS5 hM5 nq5 nq hq5 hP5 hc5 hn5 hlv (by omega)
    have kp5 : ∀ x o, ¬ Mc4 x → H4 x = some o → H5 x = some o := fun x o nm h => hS5 x o (OffS.at h nm)
    have ha5 := kp5 _ _ (fun m => (R4.apart.1 a m).2.1 rfl) ha4
    have hah5 := kp5 _ _ (fun m => (R4.apart.1 ah m).2.2.2.1 rfl) R4.hld
    have hao5 := kp5 _ _ (fun m => (R4.apart.1 ao m).2.2.1 rfl) R4.ord
    have hla5 := kp5 _ _ nla hla
    have hpn5 := kp5 _ _ (fun m => e5 (R4.mc m)) e4
    have aoh : ao ≠ ah := ne_of R4.ord R4.hld (fun e => nomatch e)
    have pao : pn ≠ ao := fun e => e5 (e ▸ (R4.own _).mpr (.inl (.inr (.inl rfl))))
    have pah : pn ≠ ah := fun e => e5 (e ▸ (R4.own _).mpr (.inl (.inr (.inr (.inl rfl)))))
    have zhv : hvs4.length < sizeLine := sz_lt (by have := R4.size.2.1; omega)
    have zao : xs4.length < sizeLine := sz_lt (by have := R4.ordV.length; omega)
    have zdn : (done.map V.int).length < sizeLine := sz_lt (by
      have h1 := congrArg List.length e7
      rw [List.length_append, List.length_map, List.length_map] at h1
      rw [List.length_map]
      omega)
    k_clsL
    refine ⟨DPut.k (k := .inl l.n) hah5 zhv, ?_⟩
    generalize hU6 : upd H5 ah _ = H6
    have B6 := upd_but hU6
    have ha6 := B6 _ _ ha5 (ne_of ha5 hah5 (fun e => nomatch e))
    have hao6 := B6 _ _ hao5 aoh
    have hla6 := B6 _ _ hla5 (ne_of hla5 hah5 (fun e => nomatch e))
    have hpn6 := B6 _ _ hpn5 pah
    k_offL
    generalize hU7 : upd H6 ao _ = H7
    have B7 := upd_but hU7
    have hla7 := B7 _ _ hla6 (ne_of hla6 hao6 (fun e => nomatch e))
    have hpn7 := B7 _ _ hpn6 pao
    rw [← hU6] at hU7
    have hU7' := hU7
    rw [hU7'] at R6
    k_clsL
    have hvx : ∀ (i : Int) (x : Addr), valV (putK hvs4 (.inl l.n) (.ref q)) (.inl i) = some (.ref x) → x = q ∨ valV hvs4 (.inl i) = some (.ref x) := fun i x e => by
      rw [valV_put] at e
      by_cases c : (Sum.inl i : Key) = .inl l.n
      · rw [if_pos c] at e
        cases e
        exact .inl rfl
      · rw [if_neg c] at e
        exact .inr e
    have nM6 : ∀ x, ((x = a ∨ x = ao ∨ x = ah ∨ ∃ i, valV (putK hvs4 (.inl l.n) (.ref q)) (.inl i) = some (.ref x)) ∨ Mc5 x ∨ Md3 x) → M4 x ∨ H4 x = none := fun x m => by
      rcases m with (h | h | h | ⟨i, e⟩) | m | m
      · exact .inl ((R4.own x).mpr (.inl (.inl h)))
      · exact .inl ((R4.own x).mpr (.inl (.inr (.inl h))))
      · exact .inl ((R4.own x).mpr (.inl (.inr (.inr (.inl h)))))
      · rcases hvx i x e with rfl | e2
        · exact .inr nq
        · exact .inl ((R4.own x).mpr (.inl (.inr (.inr (.inr ⟨i, e2⟩)))))
      · rcases hM5 x m with h | h
        · exact .inl (R4.mc h)
        · exact .inr h
      · exact .inl (R4.md m)
    have tk45 := R4.cnt.tk hS5
    have tk56 : TK H5 H6 := by rw [← hU6]; exact (TK.refl H5).upd hah5 (fun _ e => nomatch e)
    have tk67 : TK H6 H7 := by
      rw [← hU6] at hao6 ⊢
      rw [← hU7]
      exact (TK.refl _).lst hao6
    have tk78 : TK H7 (upd H7 pn (.lst (done.map V.int ++ [.int l.n]))) := (TK.refl H7).lst hpn7
    have tkA := ((tk45.trans tk56).trans tk67).trans tk78
    have n6pn : ∀ x, ((x = a ∨ x = ao ∨ x = ah ∨ ∃ i, valV (putK hvs4 (.inl l.n) (.ref q)) (.inl i) = some (.ref x)) ∨ Mc5 x ∨ Md3 x) → x ≠ pn := fun x m e => by
      rcases nM6 x m with h | h
      · exact e5 (e ▸ h)
      · rw [e, e4] at h; cases h
    have through : ∀ x o, ¬ M4 x → x ≠ pn → H4 x = some o → upd H7 pn (.lst (done.map V.int ++ [.int l.n])) x = some o := fun x o nm n h => by
      rw [upd_ne n]
      exact B7 _ _ (B6 _ _ (kp5 x o (fun m => nm (R4.mc m)) h) (fun e => nm (e ▸ (R4.own _).mpr (.inl (.inr (.inr (.inl rfl))))))) (fun e => nm (e ▸ (R4.own _).mpr (.inl (.inr (.inl rfl)))))
    have R8 := R6.keep tk78 (fun x o m h => by rw [upd_ne (n6pn x m)]; exact h) (R6.sub.mut (R.sub.free npn))
    refine hold ⟨settle1 r4 l, _, _, _, Mc5, nc5, done ++ [l.n], _, _, rfl, R8, e1', through _ _ e6 npp e2, Paired.mapP e3 fun _ _ q => q.tk tkA, ?_, fun m => n6pn pn m rfl, fun m => ?_, ?_, fun x o hx => ?_, fun x m => ?_, ?_⟩
    · rw [upd_same, List.map_append]
      rfl
    · rcases nM6 py m with h | h
      · exact e6 h
      · rw [e2] at h; cases h
    · rw [← e7, List.map_cons, List.append_assoc]
      rfl
    · have hx' := OffS.same _ _ _ _ hx
      have nm : ¬ M x := fun m => by rw [OffS.none m] at hx; cases hx
      refine through x o (fun m => ?_) (fun e => by rw [e, npn] at hx'; cases hx') (e8 x o hx)
      rcases e9 x m with h | h
      · exact nm h
      · rw [h] at hx'; cases hx'
    · rcases nM6 x m with h | h
      · exact e9 x h
      · exact new_old e8 (Same.refl _) h
    · show (r4.order ++ [l]).length + r4.ws.length + rs.length ≤ nn
      rw [List.length_append]
      simp
      omega
  · rintro σ H4 ⟨r4, M4, xs4, hvs4, Mc4, nc4, done, v3, v4, rfl, R4, e1, e2, e3, e4, e5, e6, e7, e8, e9, e10⟩
    k_clsL
    refine k5 pn H4 M4 e8 e9 e5 npn ?_ ?_
    · rw [e4]
      congr 2
      rw [List.map_nil, List.append_nil] at e7
      rw [e7, List.map_map]
      rfl
    · rw [← e1]
      exact ⟨dx, ac, ad, ao, ah, bv, xs4, hvs4, Mc4, Md3, nc4, R4⟩
end
end Cv
namespace Cv
open PySem PySem.Spec
open PyProof.Rows hiding St
open L2
/-! ### names: plain facts -/
abbrev letS : Str := "qwertyuiopadghjklzxcvbnm"
def Lc : List Nat := [113, 119, 101, 114, 116, 121, 117, 105, 111, 112, 97, 100, 103, 104, 106, 107, 108, 122, 120, 99, 118, 98, 110, 109]
theorem letS_cps : letS.cps.toList = Lc := by decide +kernel
theorem letS_len : letS.length = 24 := by decide +kernel
theorem lc_let : ∀ c ∈ Lc, c ∈ lettersS.cps.toList ∧ c ≠ 115 := by decide +kernel
theorem lc_nodup : Lc.Nodup := by decide +kernel
theorem self_cps : ("self" : Str).cps.toList = [115, 101, 108, 102] := by decide +kernel
/-- a text of the law's letters -/
def LetT (x : Str) : Prop := ∀ c ∈ x.cps.toList, c ∈ Lc
def NameOk (x : Str) : Prop := LetT x ∧ 1 ≤ x.length ∧ x.length ≤ 8
theorem NameOk.name {x : Str} (h : NameOk x) : nameB x = true := by
  obtain ⟨h1, h2, h3⟩ := h
  unfold nameB
  have a1 : ¬ (x.length : Int) < 1 := by omega
  have a2 : ¬ 8 < (x.length : Int) := by omega
  rw [decide_eq_false a1, decide_eq_false a2]
  unfold signsB
  simp only [Bool.or_self, Bool.not_false, Bool.true_and, List.all_eq_true, decide_eq_true_eq]
  exact fun c hc => (lc_let c (h1 c hc)).1
theorem NameOk.self {x : Str} (h : NameOk x) : x ≠ "self" := fun e => by
  have := h.1 115 (by rw [e, self_cps]; exact List.mem_cons_self)
  exact (lc_let 115 this).2 rfl
theorem str_ext {x y : Str} (h : x.cps.toList = y.cps.toList) : x = y := by
  cases x with
  | mk a =>
    cases y with
    | mk b =>
      congr 1
      exact Array.toList_inj.mp h
theorem len_list (x : Str) : x.cps.toList.length = x.length := Array.length_toList
def NamesOk (xs : List Str) : Prop := xs.length = 4 ∧ xs.Nodup ∧ ∀ x ∈ xs, NameOk x
theorem cut_lo {z : Str} {k : Nat} (h : k ≤ z.length) : (cutS z none (some (k : Int))).cps.toList = z.cps.toList.take k := by
  unfold cutS
  rw [HT.sIx_nat, HT.sIx_none]
  simp [h]
theorem cut_mid {z : Str} {j k : Nat} (hj : j ≤ k) (h : k ≤ z.length) : (cutS z (some (j : Int)) (some (k : Int))).cps.toList = (z.cps.toList.drop j).take (k - j) := by
  unfold cutS
  rw [HT.sIx_nat, HT.sIx_nat]
  have h1 : min j z.length = j := by omega
  have h2 : min k z.length = k := by omega
  simp [h1, h2]
/-- the prefixes of a text of eight letters -/
theorem names_pre {z : Str} (hz : LetT z) (h8 : z.length = 8) : NamesOk ((List.range 4).map fun (k : Nat) => cutS z none (some ((k : Int) + 1))) := by
  have e : ∀ k : Nat, k < 4 → (cutS z none (some ((k : Int) + 1))).cps.toList = z.cps.toList.take (k + 1) := fun k hk => cut_lo (k := k + 1) (by omega)
  have l : ∀ k : Nat, k < 4 → (cutS z none (some ((k : Int) + 1))).length = k + 1 := fun k hk => by
    rw [← len_list, e k hk, List.length_take, len_list, h8]
    omega
  refine ⟨by simp, ?_, fun x hx => ?_⟩
  · rw [List.nodup_iff_pairwise_ne, List.pairwise_map]
    refine List.Pairwise.imp_of_mem (R := fun a b => a < b) (fun {a b} ha hb hab hne => ?_) (List.pairwise_lt_range)
    have h1 := l a (List.mem_range.mp ha)
    have h2 := l b (List.mem_range.mp hb)
    rw [hne] at h1
    omega
  · obtain ⟨k, hk, rfl⟩ := List.mem_map.mp hx
    have hk' := List.mem_range.mp hk
    refine ⟨fun c hc => ?_, ?_, ?_⟩
    · rw [e k hk'] at hc
      exact hz c (List.mem_of_mem_take hc)
    · rw [l k hk']; omega
    · rw [l k hk']; omega
/-- a sign of its own in the midst of one text -/
theorem names_mid {z : Str} (hz : LetT z) (h8 : z.length = 8) {size at_ first : Nat} (hs : size ≤ 8) (ha : at_ < size) (hf : first ≤ 17) : NamesOk ((List.range 4).map fun k => cutS z none (some (at_ : Int)) ++ (⟨#[Lc.getD (first + k) 0]⟩ : Str) ++ cutS z (some ((at_ : Int) + 1)) (some (size : Int))) := by
  have e : ∀ k : Nat, (cutS z none (some (at_ : Int)) ++ (⟨#[Lc.getD (first + k) 0]⟩ : Str) ++ cutS z (some ((at_ : Int) + 1)) (some (size : Int))).cps.toList = z.cps.toList.take at_ ++ (Lc.getD (first + k) 0 :: (z.cps.toList.drop (at_ + 1)).take (size - (at_ + 1))) := fun k => by
    show ((cutS z none (some (at_ : Int))).cps ++ #[Lc.getD (first + k) 0] ++ (cutS z (some ((at_ : Int) + 1)) (some (size : Int))).cps).toList = _
    rw [Array.toList_append, Array.toList_append, cut_lo (by omega), show ((at_ : Int) + 1) = ((at_ + 1 : Nat) : Int) from rfl, cut_mid (by omega) (by omega)]
    simp
  have l : ∀ k : Nat, (cutS z none (some (at_ : Int)) ++ (⟨#[Lc.getD (first + k) 0]⟩ : Str) ++ cutS z (some ((at_ : Int) + 1)) (some (size : Int))).length = size := fun k => by
    rw [← len_list, e k, List.length_append, List.length_cons, List.length_take, List.length_take, List.length_drop, len_list, h8]
    omega
  have g : ∀ k : Nat, k < 4 → Lc[first + k]? = some (Lc.getD (first + k) 0) := fun k hk => by
    rw [List.getD_eq_getElem?_getD, List.getElem?_eq_getElem (by show first + k < 24; omega)]
    rfl
  refine ⟨by simp, ?_, fun x hx => ?_⟩
  · rw [List.nodup_iff_pairwise_ne, List.pairwise_map]
    refine List.Pairwise.imp_of_mem (R := fun a b => a < b) (fun {a b} ha hb hab hne => ?_) (List.pairwise_lt_range)
    have h1 := e a
    have h2 := e b
    rw [hne, h2] at h1
    have h3 := List.append_cancel_left h1
    have h4 : Lc.getD (first + b) 0 = Lc.getD (first + a) 0 := by injection h3
    have ga := g a (List.mem_range.mp ha)
    have gb := g b (List.mem_range.mp hb)
    rw [h4, ← ga] at gb
    have := (List.getElem?_inj (by show first + b < 24; have := List.mem_range.mp hb; omega) lc_nodup).mp gb
    omega
  · obtain ⟨k, hk, rfl⟩ := List.mem_map.mp hx
    have hk' := List.mem_range.mp hk
    refine ⟨fun c hc => ?_, ?_, ?_⟩
    · rw [e k] at hc
      rcases List.mem_append.mp hc with h | h
      · exact hz c (List.mem_of_mem_take h)
      · rcases List.mem_cons.mp h with h | h
        · rw [h]
          exact List.mem_of_getElem? (g k hk')
        · exact hz c (List.mem_of_mem_drop (List.mem_of_mem_take h))
    · rw [l k]; omega
    · rw [l k]; omega
/-- one sign each, joined -/
theorem mem_joinL {c : Nat} : ∀ ls : List (List Nat), c ∈ TL.joinL [] ls → ∃ p ∈ ls, c ∈ p
  | [], h => by cases h
  | [p], h => ⟨p, List.mem_cons_self, h⟩
  | p :: q :: r, h => by
    have h' : c ∈ p ++ ([] ++ TL.joinL [] (q :: r)) := h
    rcases List.mem_append.mp h' with h | h
    · exact ⟨p, List.mem_cons_self, h⟩
    · obtain ⟨x, hx, hc⟩ := mem_joinL (q :: r) h
      exact ⟨x, List.mem_cons_of_mem _ hx, hc⟩
theorem join_lets : ∀ ys : List Str, (∀ y ∈ ys, ∃ c ∈ Lc, y = ⟨#[c]⟩) → LetT (PySem.Txt.join "" ys) ∧ (PySem.Txt.join "" ys).length = ys.length := fun ys h => by
  refine ⟨fun c hc => ?_, PySem.W.KT.join_ones ys fun a ha => ?_⟩
  · have e : (PySem.Txt.join "" ys).cps.toList = TL.joinL [] (ys.map TL.tl) := by
      have h1 : PySem.Txt.join "" ys = Str.join "" ys := StrLaws.glued_eq_join _ _
      rw [h1]
      exact TL.tl_join _ _
    rw [e] at hc
    obtain ⟨p, hp, hcp⟩ := mem_joinL _ hc
    obtain ⟨y, hy, rfl⟩ := List.mem_map.mp hp
    obtain ⟨d, hd, rfl⟩ := h y hy
    have : c = d := by simpa [TL.tl] using hcp
    rw [this]
    exact hd
  · obtain ⟨c, _, rfl⟩ := h a ha
    rfl
end Cv
namespace Cv
open PySem PySem.Spec
open PyProof.Rows hiding St
open L2
/-! ### the law's numbers: what is needed of them, no more -/
theorem pick {xs : List V} {i : Int} (h0 : 0 ≤ i) (h1 : i < xs.length) (p : V → Prop) (hp : ∀ v ∈ xs, p v) : ∃ v, atI xs i = some v ∧ p v := by
  have hj : i.toNat < xs.length := by omega
  refine ⟨xs[i.toNat], ?_, hp _ (List.getElem_mem hj)⟩
  unfold atI ixN
  rw [if_pos h0, if_pos h1]
  exact List.getElem?_eq_getElem hj
section
variable {P : Program} {w : World} {K : PySem.W.Frag} {mg : Str → Option Value} {base : Heap}
def sp_law_cell (K : PySem.W.Frag) : Sp := fun vs H Q _ => ∃ (a : Addr) (k : Nat) (ns : List Int), vs = [.ref a, .int (k : Int)] ∧ SqL K H a (ns.map V.int) ∧ ∀ i : Int, Q (.int i) H
theorem ok_law_cell (T : Txt K mg) : C8.Cal P w K mg base 1 "_law_cell" (sp_law_cell K) [] := by
  refine cal T.D_law_cell T.g__law_cell sc_law_cell (fun _ _ _ _ _ _ us hl => match us, hl with | [_, _], _ => rfl) (fun vs H Q E h => ?_) (fun cdv A outer s H vs Q E hr h => ?_)
  · obtain ⟨a, k, ns, rfl, _⟩ := h
    rfl
  obtain ⟨a, k, ns, rfl, ha, q⟩ := h
  have nd := (sc_law_cell).nd
  refine ⟨_, (pss_cons (ps_if (pt_cmpR op_lt (pv 1) (pe_callB call_len_seq (by rfl) T.f_len Cv.bb_len (pa_cons (pv 0) pa_nil)) (nomark _))
(pss_one (ps_ret (pe_ix ix_list (pv 0) (pv 1) (fun _ _ => rfl))))
pss_nil)
(pss_one (ps_ret pe_int))), ?_⟩
  try dsimp only [cxOf, Cx.nox, Cx.wish]
  k_clsL
  refine ifd (fun c => ?_) (fun c => ?_)
  · have hk : k < ns.length := by
      rw [List.length_map] at c
      omega
    have ge := getI hk
    k_clsL
    exact q _
  · k_clsL
    exact q 0
def sp_law_mix : Sp := fun vs H Q _ => ∃ c k : Int, vs = [.int c, .int k] ∧ ∀ (i : Int) H', Same H H' → 0 ≤ i → i < 100003 → Q (.int i) H'
theorem ok_law_mix (T : Txt K mg) : C8.Cal P w K mg base 1 "_law_mix" sp_law_mix [] := by
  refine cal T.D_law_mix T.g__law_mix sc_law_mix (fun _ _ _ _ _ _ us hl => match us, hl with | [_, _], _ => rfl) (fun vs H Q E h => ?_) (fun cdv A outer s H vs Q E hr h => ?_)
  · obtain ⟨c, k, rfl, _⟩ := h
    rfl
  obtain ⟨c, k, rfl, q⟩ := h
  have nd := (sc_law_mix).nd
  refine ⟨_, (pss_cons (ps_set (i := 2) nd rfl (Or.inl rfl) (pe_lst (pa_cons pe_int (pa_cons pe_int (pa_cons pe_int (pa_cons pe_int (pa_cons pe_int (pa_cons pe_int (pa_cons pe_int (pa_cons pe_int pa_nil))))))))))
(pss_cons (ps_set (i := 3) nd rfl (Or.inl rfl) (pe_op op_mod (pe_op op_mul (pe_op op_add (pe_op op_mod (pv 0) (pe_op op_pow pe_int pe_int)) pe_int) pe_int) (pe_ix ix_list (pv 2) (pe_op op_mod (pv 1) pe_int) (fun _ _ => rfl))))
(pss_one (ps_ret (pe_op op_mod (pe_op op_fdiv (pe_op op_mul (pv 3) (pe_op op_add (pe_op op_add (pv 3) (pe_op op_mul pe_int (pv 1))) pe_int)) pe_int) pe_int))))), ?_⟩
  try dsimp only [cxOf, Cx.nox, Cx.wish]
  k_clsL
  k_places
  rename_i l nl H1 hS1 hl1
  k_clsL
  obtain ⟨v, hv, p, rfl, hp⟩ := pick (xs := [V.int 999983, V.int 999979, V.int 999961, V.int 999959, V.int 999953, V.int 999931, V.int 999917, V.int 999907]) (i := k % 8) (by omega) (by simp; omega) (fun v => ∃ p : Int, v = .int p ∧ 0 < p ∧ p < 1000000) (by simp)
  k_clsL
  generalize hg : (c % 10 ^ Int.toNat 9 + 11) * 48271 % p = g
  have hg0 : 0 ≤ g := by rw [← hg]; exact Int.emod_nonneg _ (by omega)
  have hg1 : g < 1000000 := by
    have := Int.emod_lt_of_pos ((c % 10 ^ Int.toNat 9 + 11) * 48271) hp.1
    omega
  k_clsL
  exact q _ _ hS1 (Int.emod_nonneg _ (by decide)) (Int.emod_lt_of_pos _ (by decide))
def sp_law_start : Sp := fun vs H Q _ => ∃ c : Int, vs = [.int c] ∧ ∀ (i : Int) H', Same H H' → 0 ≤ i → i ≤ 999995 → Q (.int i) H'
theorem ok_law_start (T : Txt K mg) : C8.Cal P w K mg base 1 "_law_start" sp_law_start [] := by
  refine cal T.D_law_start T.g__law_start sc_law_start (fun _ _ _ _ _ _ us hl => match us, hl with | [_], _ => rfl) (fun vs H Q E h => ?_) (fun cdv A outer s H vs Q E hr h => ?_)
  · obtain ⟨c, rfl, _⟩ := h
    rfl
  obtain ⟨c, rfl, q⟩ := h
  have nd := (sc_law_start).nd
  have h0 : 0 ≤ c / 4 % 2700 := Int.emod_nonneg _ (by decide)
  have h1 : c / 4 % 2700 < 2700 := Int.emod_lt_of_pos _ (by decide)
  have h2 : 0 ≤ c / 4 % 2700 % 360 := Int.emod_nonneg _ (by decide)
  have h3 : c / 4 % 2700 % 360 < 360 := Int.emod_lt_of_pos _ (by decide)
  have h4 : 0 ≤ c % 4 := Int.emod_nonneg _ (by decide)
  have h5 : c % 4 < 4 := Int.emod_lt_of_pos _ (by decide)
  refine ⟨_, (pss_cons (ps_set (i := 1) nd rfl (Or.inl rfl) (pe_op op_mod (pe_op op_fdiv (pv 0) pe_int) pe_int))
(pss_one (ps_ret (pe_ix ix_list (pe_lst (pa_cons pe_int (pa_cons (pe_op op_add pe_int (pe_op op_mul pe_int (pv 1))) (pa_cons (pe_op op_sub (pe_op op_pow pe_int pe_int) pe_int) (pa_cons (pe_op op_add (pe_op op_mul pe_int (pv 1)) (pe_op op_mod (pv 1) pe_int)) pa_nil))))) (pe_op op_mod (pv 0) pe_int) (fun _ _ => rfl))))), ?_⟩
  try dsimp only [cxOf, Cx.nox, Cx.wish]
  k_clsL
  k_places
  rename_i l nl H1 hS1 hl1
  obtain ⟨v, hv, p, rfl, hp⟩ := pick (xs := [V.int 0, V.int (362 + 365 * (c / 4 % 2700)), V.int (10 ^ Int.toNat 6 - 5), V.int (365 * (c / 4 % 2700) + c / 4 % 2700 % 360)]) (i := c % 4) h4 (by simp; omega) (fun v => ∃ p : Int, v = .int p ∧ 0 ≤ p ∧ p ≤ 999995) (by
    intro v hv
    simp only [List.mem_cons, List.not_mem_nil, or_false] at hv
    rcases hv with rfl | rfl | rfl | rfl
    · exact ⟨_, rfl, by decide, by decide⟩
    · exact ⟨_, rfl, by omega, by omega⟩
    · exact ⟨_, rfl, by decide, by decide⟩
    · exact ⟨_, rfl, by omega, by omega⟩)
  k_clsL
  exact q _ _ hS1 hp.1 hp.2
end
end Cv
namespace Cv
open PySem PySem.Spec
open PyProof.Rows hiding St
open L2
section
variable {P : Program} {w : World} {K : PySem.W.Frag} {mg : Str → Option Value} {base : Heap}
theorem ones_ex {α : Type} : ∀ {vs : List V} {ls : List α}, Paired (fun v (_ : α) => ∃ c ∈ Lc, v = V.str ⟨#[c]⟩) vs ls → ∃ zs : List Str, vs = zs.map V.str ∧ (∀ z ∈ zs, ∃ c ∈ Lc, z = ⟨#[c]⟩) ∧ zs.length = ls.length
  | _, _, .nil => ⟨[], rfl, fun _ h => by (cases h), rfl⟩
  | _, _, .cons ⟨c, hc, e⟩ t => by
    obtain ⟨zs, e2, h, l⟩ := ones_ex t
    refine ⟨⟨#[c]⟩ :: zs, by rw [e, e2]; rfl, fun z hz => ?_, by rw [List.length_cons, List.length_cons, l]⟩
    rcases List.mem_cons.mp hz with rfl | hz
    · exact ⟨c, hc, rfl⟩
    · exact h z hz
theorem ones_sum : ∀ zs : List Str, (∀ z ∈ zs, ∃ c ∈ Lc, z = ⟨#[c]⟩) → (zs.map (fun x => x.length)).sum = zs.length
  | [], _ => rfl
  | z :: zs, h => by
    obtain ⟨c, _, rfl⟩ := h z List.mem_cons_self
    rw [List.map_cons, List.sum_cons, ones_sum zs fun y hy => h y (List.mem_cons_of_mem _ hy), List.length_cons]
    show 1 + zs.length = zs.length + 1
    omega
theorem app_len (a b : Str) : (a ++ b).length = a.length + b.length := by
  rw [← len_list, ← len_list, ← len_list]
  show (a.cps ++ b.cps).toList.length = _
  simp
def sp_law_names : Sp := fun vs H Q _ => ∃ c : Int, vs = [.int c, .int 4] ∧ ∀ p H' (xs : List Str), Same H H' → H p = none → H' p = some (.lst (xs.map V.str)) → NamesOk xs → Q (.ref p) H'
theorem ok_law_names (T : Txt K mg) : C8.Cal P w K mg base 2 "_law_names" sp_law_names [] := by
  refine cal T.D_law_names T.g__law_names sc_law_names (fun _ _ _ _ _ _ us hl => match us, hl with | [_, _], _ => rfl) (fun vs H Q E h => ?_) (fun cdv A outer s H vs Q E hr h => ?_)
  · obtain ⟨c, rfl, _⟩ := h
    rfl
  obtain ⟨c, rfl, q⟩ := h
  have nd := (sc_law_names).nd
  have hsz : letS.length ≤ sizeLine := by rw [letS_len]; exact sz_lit' (by decide)
  refine ⟨_, (pss_cons (ps_set (i := 2) nd rfl (Or.inr rfl) pe_str)
(pss_cons (ps_setLc (i := 3) (own := [("_law_k", 4)]) (g := (gName 4)) (tt := tYes) rfl nd rfl rfl (sw_true rfl rfl rfl (by decide +kernel)) (pi_range1 rfl T.f_range (pa_cons pe_int pa_nil)) (blkOk_by (own := [("_law_k", 4)]) (N := N_law_names) (sc := defScope s_law_names) (by decide +kernel)) (fun _ _ _ _ _ => (pg_name (i := 4) nd rfl (Or.inl rfl))) (fun _ _ _ _ _ => pts_nil) (fun _ _ _ _ _ => (pe_op op_mod (C8.pe_c (ok_law_mix T) hr (by decide) rfl (pa_cons (pv 0) (pa_cons (pv 4) pa_nil))) pe_int)))
(pss_cons (ps_set (i := 5) nd rfl (Or.inr rfl) (pe_join pe_str (pe_lc (own := [("_law_k", 4)]) (g := (gName 4)) (tt := tYes) rfl nd (pi_list (pv 3)) (blkOk_by (own := [("_law_k", 4)]) (N := N_law_names) (sc := defScope s_law_names) (by decide +kernel)) (fun _ _ _ _ _ => (pg_name (i := 4) nd rfl (Or.inl rfl))) (fun _ _ _ _ _ => pts_nil) (fun _ _ _ _ _ => (pe_ix ix_str (pv 2) (pv 4) (fun _ _ => rfl))))))
(pss_cons (ps_if (pt_cmpR op_eq (pe_op op_mod (pv 0) pe_int) pe_int (nomark _))
(pss_one (ps_ret (pe_lc (own := [("_law_k", 4)]) (g := (gName 4)) (tt := tYes) rfl nd (pi_range1 rfl T.f_range (pa_cons (pv 1) pa_nil)) (blkOk_by (own := [("_law_k", 4)]) (N := N_law_names) (sc := defScope s_law_names) (by decide +kernel)) (fun _ _ _ _ _ => (pg_name (i := 4) nd rfl (Or.inl rfl))) (fun _ _ _ _ _ => pts_nil) (fun _ _ _ _ _ => (pe_slice sl_str (pv 5) po_none (po_some (pe_op op_add (pv 4) pe_int)))))))
pss_nil)
(pss_cons (ps_set (i := 6) nd rfl (Or.inl rfl) (pe_op op_add pe_int (pe_op op_mod (pe_op op_fdiv (pv 0) pe_int) pe_int)))
(pss_cons (ps_set (i := 7) nd rfl (Or.inl rfl) (pe_op op_mod (pe_op op_fdiv (pv 0) pe_int) (pv 6)))
(pss_cons (ps_set (i := 8) nd rfl (Or.inl rfl) (pe_op op_mod (pe_op op_fdiv (pv 0) pe_int) pe_int))
(pss_cons (ps_set (i := 9) nd rfl (Or.inl rfl) (pe_lst pa_nil))
(pss_cons (ps_for PassesOwn.never rfl (pi_range1 rfl T.f_range (pa_cons (pv 1) pa_nil)) (pg_name (i := 4) nd rfl (Or.inl rfl))
(pss_cons (ps_set (i := 10) nd rfl (Or.inl rfl) (pe_ix ix_str (pv 2) (pe_op op_add (pv 8) (pv 4)) (fun _ _ => rfl)))
(pss_one (ps_expr (pe_bm PySem.F.plainAttrs_list PySem.F.slot_list_append PySem.F.type_list_append mt_append (pv 9) (pa_cons (pe_op op_add_str (pe_op op_add_str (pe_slice sl_str (pv 5) po_none (po_some (pv 7))) (pv 10)) (pe_slice sl_str (pv 5) (po_some (pe_op op_add (pv 7) pe_int)) (po_some (pv 6)))) pa_nil))))))
(pss_one (ps_ret (pv 9)))))))))))), ?_⟩
  try dsimp only [cxOf, Cx.nox, Cx.wish]
  k_clsL
  refine lcg_r (m := 8) (fun _ v (u : Unit) => ∃ i : Int, v = .int i ∧ 0 ≤ i ∧ i < 24) (fun _ => some ()) (fun _ h => h) (by decide) (fun i D H1 acc K1 K0 hi nD hS hD k1 k0 => ?_) (fun D H1 ys nD hS hD hP => ?_)
  · k_clsL
    refine ⟨c, i, rfl, fun j H2 hS2 j0 j1 => ?_⟩
    k_clsL
    exact k1 _ () _ rfl hS2 ⟨_, rfl, Int.emod_nonneg _ (by decide), Int.emod_lt_of_pos _ (by decide)⟩
  have hyl := hP.length
  k_clsL
  refine lcg_l (xs := ys) (fun _ v (u : Unit) => ∃ i : Int, v = .int i ∧ 0 ≤ i ∧ i < 24) ((List.range 8).filterMap fun _ => some ()) (fun _ v (u : Unit) => ∃ c ∈ Lc, v = .str ⟨#[c]⟩) (fun _ => some ()) (fun _ h => h) (SqL.of hD) (fun _ _ => hP) (by decide) (fun j cu x D2 H2 acc K1 K0 e1 nD2 hS2 hD2 hx k1 k0 => ?_) (fun D2 H2 ys2 nD2 hS2 hD2 hP2 => ?_)
  · obtain ⟨i, rfl, h0, h1⟩ := hx
    have hL : letS.cps.toList = Lc := letS_cps
    have ge : atI letS.cps.toList i = some (Lc.getD i.toNat 0) := by
      rw [hL]
      unfold atI ixN
      rw [if_pos h0, if_pos (show i < (Lc.length : Int) from h1)]
      show Lc[i.toNat]? = _
      rw [List.getD_eq_getElem?_getD, List.getElem?_eq_getElem (by show i.toNat < 24; omega)]
      rfl
    k_clsL
    refine ⟨letS, i, _, rfl, rfl, hsz, ge, ?_⟩
    refine k1 _ () _ rfl (Same.refl _) ⟨_, ?_, rfl⟩
    rw [List.getD_eq_getElem?_getD, List.getElem?_eq_getElem (show i.toNat < Lc.length by show i.toNat < 24; omega)]
    exact List.getElem_mem _
  obtain ⟨zs, rfl, hzs, hzl⟩ := ones_ex hP2
  have h88 : zs.length = 8 := hzl.trans (by decide +kernel)
  obtain ⟨jz, j8⟩ := join_lets zs hzs
  rw [h88] at j8
  refine ⟨"", D2, zs, rfl, rfl, .inl (SqL.of hD2), by rw [ones_sum zs hzs, h88]; decide, ?_⟩
  generalize PySem.Txt.join "" zs = z at jz j8
  have hzz : z.length ≤ sizeLine := by rw [j8]; exact sz_lit' (by decide)
  k_clsL
  refine ifd (fun c1 => ?_) (fun c1 => ?_)
  · k_clsL
    refine lcg_r (m := 4) (fun _ v (u : Str) => v = .str u) (fun k => some (cutS z none (some ((k : Int) + 1)))) (fun _ h => h) (by decide) (fun i D3 H3 acc K1 K0 hi nD3 hS3 hD3 k1 k0 => ?_) (fun D3 H3 ys3 nD3 hS3 hD3 hP3 => ?_)
    · k_clsL
      exact ⟨z, rfl, hzz, k1 _ _ _ rfl (Same.refl _) rfl⟩
    · have e3 : ys3 = ((List.range 4).map fun (k : Nat) => cutS z none (some ((k : Int) + 1))).map V.str := by
        rw [← List.filterMap_eq_map]
        exact strs_of hP3
      exact q D3 H3 _ (hS.trans (hS2.trans hS3)) ((hS.trans hS2).free nD3) (by rw [← e3]; exact hD3) (names_pre jz j8)
  k_clsL
  obtain ⟨sz, e1⟩ : ∃ n : Nat, 1 + c / 3 % 8 = (n : Int) := ⟨(1 + c / 3 % 8).toNat, by omega⟩
  have hsz1 : 1 ≤ sz ∧ sz ≤ 8 := by omega
  rw [e1]
  obtain ⟨at_, e2⟩ : ∃ n : Nat, c / 24 % (sz : Int) = (n : Int) := ⟨(c / 24 % (sz : Int)).toNat, (Int.toNat_of_nonneg (Int.emod_nonneg _ (by omega))).symm⟩
  have hat : at_ < sz := by
    have := Int.emod_lt_of_pos (c / 24) (show (0 : Int) < (sz : Int) by omega)
    omega
  rw [e2]
  obtain ⟨fi, e3⟩ : ∃ n : Nat, c / 192 % 18 = (n : Int) := ⟨(c / 192 % 18).toNat, by omega⟩
  have hfi : fi ≤ 17 := by omega
  rw [e3]
  k_places
  rename_i l nl H3 hS3 hl3
  have l1 : (cutS z none (some (at_ : Int))).length = at_ := by
    rw [← len_list, cut_lo (by omega), List.length_take, len_list]
    omega
  have l2 : (cutS z (some ((at_ : Int) + 1)) (some (sz : Int))).length = sz - (at_ + 1) := by
    rw [← len_list, show ((at_ : Int) + 1) = ((at_ + 1 : Nat) : Int) from rfl, cut_mid (by omega) (by omega), List.length_take, List.length_drop, len_list]
    omega
  k_clsL
  refine for_r (m := 4) (fun i σ H4 => ∃ (xs : List Str) (v4 v10 : Option V), σ = [some (.int c), some (.int 4), some (.str letS), some (.ref D), v4, some (.str z), some (.int sz), some (.int at_), some (.int fi), some (.ref l), v10] ∧ Same H2 H4 ∧ H4 l = some (.lst (xs.map V.str)) ∧ xs = (List.range i).map fun k => cutS z none (some (at_ : Int)) ++ (⟨#[Lc.getD (fi + k) 0]⟩ : Str) ++ cutS z (some ((at_ : Int) + 1)) (some (sz : Int))) ?_ ?_ ?_
  · exact ⟨[], none, none, rfl, hS3, hl3, rfl⟩
  · rintro i σ H4 hi ⟨xs, v4, v10, rfl, hS4, hl4, hx⟩
    have hxl : xs.length = i := by rw [hx]; simp
    have hxz : (xs.map V.str).length < sizeLine := by rw [List.length_map]; exact sz_lt (by omega)
    have hL : letS.cps.toList = Lc := letS_cps
    have ge : atI letS.cps.toList ((fi : Int) + (i : Int)) = some (Lc.getD (fi + i) 0) := by
      rw [hL]
      unfold atI ixN
      rw [if_pos (by omega), if_pos (show (fi : Int) + (i : Int) < ((Lc.length : Nat) : Int) from by show (fi : Int) + (i : Int) < 24; omega)]
      show Lc[((fi : Int) + (i : Int)).toNat]? = _
      rw [show ((fi : Int) + (i : Int)).toNat = fi + i by omega, List.getD_eq_getElem?_getD, List.getElem?_eq_getElem (by show fi + i < 24; omega)]
      rfl
    k_clsL
    refine ⟨letS, _, _, rfl, rfl, hsz, ge, ?_⟩
    k_clsL
    refine ⟨z, rfl, hzz, ?_⟩
    k_clsL
    refine ⟨by rw [l1]; exact sz_lit' (by show at_ + 1 ≤ 100000; omega), ?_⟩
    k_clsL
    refine ⟨z, rfl, hzz, ?_⟩
    k_clsL
    refine ⟨by rw [app_len, l1, l2]; exact sz_lit' (by show at_ + 1 + (sz - (at_ + 1)) ≤ 100000; omega), ?_⟩
    k_clsL
    refine hold ⟨xs ++ [_], _, _, rfl, hS4.mut (by exact nl), by rw [List.map_append]; exact upd_same, ?_⟩
    rw [hx, List.range_succ, List.map_append]
    rfl
  · rintro σ H4 ⟨xs, v4, v10, rfl, hS4, hl4, hx⟩
    k_clsL
    exact q l H4 xs (hS.trans (hS2.trans hS4)) ((hS.trans hS2).free nl) hl4 (by rw [hx]; exact names_mid jz j8 hsz1.2 hat hfi)
end
end Cv
namespace Cv
open PySem PySem.Spec
open PyProof.Rows hiding St
open L2
/-- what is new in H' -/
def New (H H' : Hp) : Hp := fun b => match H b with
  | none => H' b
  | some _ => none
theorem New.at {H H' : Hp} {b : Addr} {o : HO} (n : H b = none) (h : H' b = some o) : New H H' b = some o := by
  unfold New
  rw [n]
  exact h
theorem New.out {H H' : Hp} {b : Addr} {o : HO} (h : New H H' b = some o) : H b = none ∧ H' b = some o := by
  unfold New at h
  cases q : H b with
  | none => rw [q] at h; exact ⟨rfl, h⟩
  | some u => rw [q] at h; cases h
theorem New.same (H H' : Hp) : Same (New H H') H' := fun _ _ h => (New.out h).2
theorem New.mono {H H1 H2 H3 : Hp} (a : Same H H1) (b : Same H2 H3) : Same (New H1 H2) (New H H3) := fun x o h => New.at (a.free (New.out h).1) (b _ _ (New.out h).2)
theorem New.off {H H' : Hp} {D : Addr} (h : H D ≠ none) : Same (New H H') (Off D H') := fun x o q => Off.at (New.out q).2 fun e => h (e ▸ (New.out q).1)
theorem Off.ne {D a : Addr} {H : Hp} (h : a ≠ D) : Off D H a = H a := by
  cases q : H a with
  | some o => exact Off.at q h
  | none =>
    cases e : Off D H a with
    | none => rfl
    | some u =>
      have := Off.same D H a u e
      rw [q] at this
      cases this
/-! ### what the law draws: nested data -/
def LfD (H : Hp) (v : V) : LfM → Prop
  | .always => ∃ t, v = .ref t ∧ H t = some (.tup [.str "always"])
  | .cause x => ∃ t, v = .ref t ∧ H t = some (.tup [.str "cause", .str x])
  | .thing x => ∃ t, v = .ref t ∧ H t = some (.tup [.str "thing", .str x])
  | .days a b => ∃ t, v = .ref t ∧ H t = some (.tup [.str "days", .int a, .int b])
  | .over n => ∃ t, v = .ref t ∧ H t = some (.tup [.str "over", .int n])
theorem LfD.same {H H' : Hp} {v : V} {c : LfM} (S : Same H H') (h : LfD H v c) : LfD H' v c := by
  cases c <;> (obtain ⟨t, e, h⟩ := h; exact ⟨t, e, S _ _ h⟩)
def AllD (H : Hp) (v : V) (w : Str) (ls : List LfM) : Prop := ∃ t p xs, v = .ref t ∧ H t = some (.tup [.str w, .ref p]) ∧ H p = some (.lst xs) ∧ Paired (LfD H) xs ls ∧ ls.length ≤ 2
theorem AllD.same {H H' : Hp} {v : V} {w : Str} {ls : List LfM} (S : Same H H') (h : AllD H v w ls) : AllD H' v w ls := by
  obtain ⟨t, p, xs, e, h1, h2, h3, h4⟩ := h
  exact ⟨t, p, xs, e, S _ _ h1, S _ _ h2, Paired.mapP h3 fun _ _ q => q.same S, h4⟩
def CoD (H : Hp) (v : V) : CoX → Prop
  | .leaf l => LfD H v l
  | .all ls => AllD H v "all" ls
  | .some ls => AllD H v "some" ls
  | .nall ls => ∃ t u, v = .ref t ∧ H t = some (.tup [.str "not", u]) ∧ AllD H u "all" ls
theorem CoD.same {H H' : Hp} {v : V} {c : CoX} (S : Same H H') (h : CoD H v c) : CoD H' v c := by
  cases c with
  | leaf l => exact LfD.same S h
  | all ls => exact AllD.same S h
  | some ls => exact AllD.same S h
  | nall ls =>
    obtain ⟨t, u, e, h1, h2⟩ := h
    exact ⟨t, u, e, S _ _ h1, AllD.same S h2⟩
def ClD (H : Hp) (v : V) : ClM → Prop
  | .own b n => ∃ t, v = .ref t ∧ H t = some (.tup [.str "own", .str b, .int n, .int 0])
  | .layer b lo hi => ∃ t, v = .ref t ∧ H t = some (.tup [.str "layer", .str b, .int lo, .int hi])
  | .limit b n => ∃ t, v = .ref t ∧ H t = some (.tup [.str "limit", .str b, .int n, .int 0])
theorem ClD.same {H H' : Hp} {v : V} {c : ClM} (S : Same H H') (h : ClD H v c) : ClD H' v c := by
  cases c <;> (obtain ⟨t, e, h⟩ := h; exact ⟨t, e, S _ _ h⟩)
section
variable {P : Program} {w : World} {K : PySem.W.Frag} {mg : Str → Option Value} {base : Heap}
def sp_law_cond : Sp := fun vs H Q _ => ∃ (k : Int) (a : Addr) (xs : List Str) (st un : Int), vs = [.int k, .ref a, .int st, .int un] ∧ H a = some (.lst (xs.map V.str)) ∧ xs.length = 4 ∧ ∀ v H' c, Same H H' → CoD (New H H') v c → Q v H'
theorem ok_law_cond (T : Txt K mg) : C8.Cal P w K mg base 1 "_law_cond" sp_law_cond [] := by
  refine cal T.D_law_cond T.g__law_cond sc_law_cond (fun _ _ _ _ _ _ us hl => match us, hl with | [_, _, _, _], _ => rfl) (fun vs H Q E h => ?_) (fun cdv A outer s H vs Q E hr h => ?_)
  · obtain ⟨k, a, xs, st, un, rfl, _⟩ := h
    rfl
  obtain ⟨k, a, xs, st, un, rfl, ha, hx, q⟩ := h
  have nd := (sc_law_cond).nd
  have hs : ∀ v ∈ xs.map V.str, ∃ x : Str, v = .str x := fun v hv => by
    obtain ⟨x, _, rfl⟩ := List.mem_map.mp hv
    exact ⟨x, rfl⟩
  obtain ⟨v1, hv1, x1, rfl⟩ := pick (xs := xs.map V.str) (i := k / 9 % 4) (by omega) (by rw [List.length_map]; omega) (fun v => ∃ x : Str, v = .str x) hs
  obtain ⟨v2, hv2, x2, rfl⟩ := pick (xs := xs.map V.str) (i := k / 36 % 4) (by omega) (by rw [List.length_map]; omega) (fun v => ∃ x : Str, v = .str x) hs
  refine ⟨_, (pss_cons (ps_set (i := 4) nd rfl (Or.inl rfl) (pe_ix ix_list (pv 1) (pe_op op_mod (pe_op op_fdiv (pv 0) pe_int) pe_int) (fun _ _ => rfl)))
(pss_cons (ps_set (i := 5) nd rfl (Or.inl rfl) (pe_ix ix_list (pv 1) (pe_op op_mod (pe_op op_fdiv (pv 0) pe_int) pe_int) (fun _ _ => rfl)))
(pss_cons (ps_set (i := 6) nd rfl (Or.inl rfl) (pe_op op_add (pv 2) (pe_op op_mod (pe_op op_fdiv (pv 0) pe_int) pe_int)))
(pss_cons (ps_set (i := 7) nd rfl (Or.inl rfl) (pe_op op_mod (pv 0) pe_int))
(pss_cons (ps_if (pt_cmpR op_eq (pv 7) pe_int (nomark _))
(pss_one (ps_ret (pe_tup (pa_cons pe_str (pa_cons (pv 4) pa_nil)))))
pss_nil)
(pss_cons (ps_if (pt_cmpR op_eq (pv 7) pe_int (nomark _))
(pss_one (ps_ret (pe_tup (pa_cons pe_str (pa_cons (pv 4) pa_nil)))))
pss_nil)
(pss_cons (ps_if (pt_cmpR op_eq (pv 7) pe_int (nomark _))
(pss_one (ps_ret (pe_tup (pa_cons pe_str (pa_cons (pv 6) (pa_cons (pe_op op_add (pv 6) (pe_op op_mod (pe_op op_fdiv (pv 0) pe_int) pe_int)) pa_nil))))))
pss_nil)
(pss_cons (ps_if (pt_cmpR op_eq (pv 7) pe_int (nomark _))
(pss_one (ps_ret (pe_tup (pa_cons pe_str (pa_cons (pe_op op_mul (pe_op op_mod (pe_op op_fdiv (pv 0) pe_int) pe_int) (pv 3)) pa_nil)))))
pss_nil)
(pss_cons (ps_if (pt_cmpR op_eq (pv 7) pe_int (nomark _))
(pss_one (ps_ret (pe_tup (pa_cons pe_str (pa_cons (pe_tup (pa_cons pe_str (pa_cons (pe_lst (pa_cons (pe_tup (pa_cons pe_str (pa_cons (pv 4) pa_nil))) (pa_cons (pe_tup (pa_cons pe_str (pa_cons (pv 5) pa_nil))) pa_nil))) pa_nil))) pa_nil)))))
pss_nil)
(pss_cons (ps_if (pt_cmpR op_eq (pv 7) pe_int (nomark _))
(pss_one (ps_ret (pe_tup (pa_cons pe_str (pa_cons (pe_lst (pa_cons (pe_tup (pa_cons pe_str (pa_cons (pv 4) pa_nil))) (pa_cons (pe_tup (pa_cons pe_str (pa_cons (pv 5) pa_nil))) pa_nil))) pa_nil)))))
pss_nil)
(pss_one (ps_ret (pe_tup (pa_cons pe_str pa_nil)))))))))))))), ?_⟩
  try dsimp only [cxOf, Cx.nox, Cx.wish]
  k_clsL
  refine ifd (fun c1 => ?_) (fun c1 => ?_)
  · k_clsL
    k_places
    rename_i t nt H1 hS1 ht
    exact q _ _ (.leaf (.cause x1)) hS1 ⟨t, rfl, New.at nt ht⟩
  k_clsL
  refine ifd (fun c2 => ?_) (fun c2 => ?_)
  · k_clsL
    k_places
    rename_i t nt H1 hS1 ht
    exact q _ _ (.leaf (.thing x1)) hS1 ⟨t, rfl, New.at nt ht⟩
  k_clsL
  refine ifd (fun c3 => ?_) (fun c3 => ?_)
  · k_clsL
    k_places
    rename_i t nt H1 hS1 ht
    exact q _ _ (.leaf (.days _ _)) hS1 ⟨t, rfl, New.at nt ht⟩
  k_clsL
  refine ifd (fun c4 => ?_) (fun c4 => ?_)
  · k_clsL
    k_places
    rename_i t nt H1 hS1 ht
    exact q _ _ (.leaf (.over _)) hS1 ⟨t, rfl, New.at nt ht⟩
  k_clsL
  refine ifd (fun c5 => ?_) (fun c5 => ?_)
  · k_clsL
    k_places
    rename_i t1 n1 H1 hS1 h1
    k_clsL
    k_places
    rename_i t2 n2 H2 hS2 h2
    k_clsL
    k_places
    rename_i t3 n3 H3 hS3 h3
    k_clsL
    k_places
    rename_i t4 n4 H4 hS4 h4
    k_clsL
    k_places
    rename_i t5 n5 H5 hS5 h5
    have S12 := hS1.trans hS2
    have S35 := hS3.trans (hS4.trans hS5)
    exact q _ _ (.nall [.thing x1, .cause x2]) (hS1.trans (hS2.trans S35)) ⟨t5, _, rfl, New.at (S12.free (hS3.free (hS4.free n5))) h5, t4, t3, _, rfl, New.at (S12.free (hS3.free n4)) (hS5.get h4), New.at (S12.free n3) ((hS4.trans hS5).get h3), .cons ⟨t1, rfl, New.at n1 ((hS2.trans S35).get h1)⟩ (.cons ⟨t2, rfl, New.at (hS1.free n2) (S35.get h2)⟩ .nil), Nat.le_refl _⟩
  k_clsL
  refine ifd (fun c6 => ?_) (fun c6 => ?_)
  · k_clsL
    k_places
    rename_i t1 n1 H1 hS1 h1
    k_clsL
    k_places
    rename_i t2 n2 H2 hS2 h2
    k_clsL
    k_places
    rename_i t3 n3 H3 hS3 h3
    k_clsL
    k_places
    rename_i t4 n4 H4 hS4 h4
    have S12 := hS1.trans hS2
    have S34 := hS3.trans hS4
    exact q _ _ (.some [.cause x1, .thing x2]) (hS1.trans (hS2.trans S34)) ⟨t4, t3, _, rfl, New.at (S12.free (hS3.free n4)) h4, New.at (S12.free n3) (hS4.get h3), .cons ⟨t1, rfl, New.at n1 ((hS2.trans S34).get h1)⟩ (.cons ⟨t2, rfl, New.at (hS1.free n2) (S34.get h2)⟩ .nil), Nat.le_refl _⟩
  k_clsL
  k_places
  rename_i t nt H1 hS1 ht
  exact q _ _ (.leaf .always) hS1 ⟨t, rfl, New.at nt ht⟩
def sp_law_clause_by : Sp := fun vs H Q _ => ∃ (k un : Int), vs = [.int k, .int un] ∧ 1 ≤ un ∧ un ≤ 1000000007 ∧ ∀ v H' c, Same H H' → ClD (New H H') v c → c.ok → Q v H'
theorem mul_rng {a u : Int} {n : Int} (h0 : 0 ≤ a) (h1 : a ≤ n) (u0 : 1 ≤ u) (u1 : u ≤ 1000000007) : 0 ≤ a * u ∧ a * u ≤ n * 1000000007 :=
  ⟨Int.mul_nonneg h0 (by omega), Int.mul_le_mul h1 u1 (by omega) (by omega)⟩
theorem amt_of {i : Int} (h0 : 0 ≤ i) (h1 : i ≤ 999999999999) : isAmtV (.int i) = true := by
  show (decide _ && decide _) = true
  rw [decide_eq_true h0, decide_eq_true h1]
  rfl
theorem ok_law_clause_by (T : Txt K mg) : C8.Cal P w K mg base 1 "_law_clause_by" sp_law_clause_by [] := by
  refine cal T.D_law_clause_by T.g__law_clause_by sc_law_clause_by (fun _ _ _ _ _ _ us hl => match us, hl with | [_, _], _ => rfl) (fun vs H Q E h => ?_) (fun cdv A outer s H vs Q E hr h => ?_)
  · obtain ⟨k, un, rfl, _⟩ := h
    rfl
  obtain ⟨k, un, rfl, u0, u1, q⟩ := h
  have nd := (sc_law_clause_by).nd
  obtain ⟨v1, hv1, x1, rfl, hx1⟩ := pick (xs := [V.str "own", V.str "layer", V.str "limit", V.str "limit"]) (i := k % 4) (by omega) (by simp; omega) (fun v => ∃ x : Str, v = .str x ∧ (x = "own" ∨ x = "layer" ∨ x = "limit")) (by simp)
  obtain ⟨v2, hv2, x2, rfl, hx2⟩ := pick (xs := [V.str "event", V.str "thing", V.str "year", V.str "loss"]) (i := k / 4 % 4) (by omega) (by simp; omega) (fun v => ∃ x : Str, v = .str x ∧ x ∈ waysL) (by simp [waysL])
  have r1 := mul_rng (a := k / 16 % 23) (n := 22) (by omega) (by omega) u0 u1
  have r2 := mul_rng (a := k / 736 % 29) (n := 28) (by omega) (by omega) u0 u1
  have r3 := mul_rng (a := k / 16 % 61) (n := 60) (by omega) (by omega) u0 u1
  refine ⟨_, (pss_cons (ps_set (i := 2) nd rfl (Or.inl rfl) (pe_ix ix_list (pe_lst (pa_cons pe_str (pa_cons pe_str (pa_cons pe_str (pa_cons pe_str pa_nil))))) (pe_op op_mod (pv 0) pe_int) (fun _ _ => rfl)))
(pss_cons (ps_set (i := 3) nd rfl (Or.inl rfl) (pe_ix ix_list (pe_lst (pa_cons pe_str (pa_cons pe_str (pa_cons pe_str (pa_cons pe_str pa_nil))))) (pe_op op_mod (pe_op op_fdiv (pv 0) pe_int) pe_int) (fun _ _ => rfl)))
(pss_cons (ps_set (i := 4) nd rfl (Or.inl rfl) (pe_op op_add (pe_op op_mul (pe_op op_mod (pe_op op_fdiv (pv 0) pe_int) pe_int) (pv 1)) (pe_op op_mod (pe_op op_fdiv (pv 0) pe_int) pe_int)))
(pss_cons (ps_if (pt_cmpR op_eq (pv 2) pe_str (nomark _))
(pss_one (ps_ret (pe_tup (pa_cons (pv 2) (pa_cons (pv 3) (pa_cons (pv 4) (pa_cons (pe_op op_add (pe_op op_add (pv 4) pe_int) (pe_op op_mul (pe_op op_mod (pe_op op_fdiv (pv 0) pe_int) pe_int) (pv 1))) pa_nil)))))))
pss_nil)
(pss_cons (ps_if (pt_cmpR op_eq (pv 2) pe_str (nomark _))
(pss_one (ps_set (i := 4) nd rfl (Or.inl rfl) (pe_op op_add (pe_op op_mul (pe_op op_mod (pe_op op_fdiv (pv 0) pe_int) pe_int) (pv 1)) (pe_op op_mod (pe_op op_fdiv (pv 0) pe_int) pe_int))))
pss_nil)
(pss_one (ps_ret (pe_tup (pa_cons (pv 2) (pa_cons (pv 3) (pa_cons (pv 4) (pa_cons pe_int pa_nil)))))))))))), ?_⟩
  try dsimp only [cxOf, Cx.nox, Cx.wish]
  k_clsL
  k_places
  rename_i t1 n1 H1 hS1 h1
  k_clsL
  k_places
  rename_i t2 n2 H2 hS2 h2
  k_clsL
  rcases hx1 with rfl | rfl | rfl
  · refine ifdf (by decide) ?_
    k_clsL
    refine ifdf (by decide) ?_
    k_clsL
    k_places
    rename_i t nt H3 hS3 ht
    exact q _ _ (.own x2 _) (hS1.trans (hS2.trans hS3)) ⟨t, rfl, New.at (hS1.free (hS2.free nt)) ht⟩ ⟨hx2, amt_of (by omega) (by omega)⟩
  · refine ifdt (by decide) ?_
    k_clsL
    k_places
    rename_i t nt H3 hS3 ht
    exact q _ _ (.layer x2 _ _) (hS1.trans (hS2.trans hS3)) ⟨t, rfl, New.at (hS1.free (hS2.free nt)) ht⟩ ⟨hx2, amt_of (by omega) (by omega), amt_of (by omega) (by omega), by omega⟩
  · refine ifdf (by decide) ?_
    k_clsL
    refine ifdt (by decide) ?_
    k_clsL
    k_places
    rename_i t nt H3 hS3 ht
    exact q _ _ (.limit x2 _) (hS1.trans (hS2.trans hS3)) ⟨t, rfl, New.at (hS1.free (hS2.free nt)) ht⟩ ⟨hx2, amt_of (by omega) (by omega)⟩
end
end Cv
namespace Cv
open PySem PySem.Spec
open PyProof.Rows hiding St
open L2
/-! ### the law's objects -/
section
variable {P : Program} {w : World} {K : PySem.W.Frag} {mg : Str → Option Value} {base : Heap}
theorem made_new {H H' : Hp} {x dx C : Addr} {o : HO} (hx : H x = none) (hd : H dx = none) (ne : dx ≠ x) (e : upd (upd (upd H dx (.own x)) x (.ins C dx [])) x o = H') : Same H H' ∧ H' x = some o := by
  subst e
  exact ⟨But.made hx hd (But.mut (But.refl x _)), upd_same⟩
def sp_law_clause (K : PySem.W.Frag) : Sp := fun vs H Q _ => ∃ (v : V) (c : ClM), vs = [v] ∧ ClD H v c ∧ c.ok ∧ ∀ a H', Same H H' → ClV K (New H H') (.ref a) c → Q (.ref a) H'
theorem ok_law_clause (T : Txt K mg) : C8.Cal P w K mg base 6 "_law_clause" (sp_law_clause K) [] := by
  refine cal T.D_law_clause T.g__law_clause sc_law_clause (fun _ _ _ _ _ _ us hl => match us, hl with | [_], _ => rfl) (fun vs H Q E h => ?_) (fun cdv A outer s H vs Q E hr h => ?_)
  · obtain ⟨v, c, rfl, _⟩ := h
    rfl
  obtain ⟨v, c, rfl, hd, hok, q⟩ := h
  have nd := (sc_law_clause).nd
  cases c with
  | own b n =>
    obtain ⟨t, rfl, ht⟩ := hd
    refine ⟨_, (pss_cons (ps_asg (pv 0) (pg_tup rfl (pgs_cons (pg_name (i := 1) nd rfl (Or.inl rfl)) (pgs_cons (pg_name (i := 2) nd rfl (Or.inl rfl)) (pgs_cons (pg_name (i := 3) nd rfl (Or.inl rfl)) (pgs_cons (pg_name (i := 4) nd rfl (Or.inl rfl)) pgs_nil))))))
(pss_cons (ps_if (pt_cmpR op_eq (pv 1) pe_str (nomark _))
(pss_one (ps_ret (C8.pe_mk (mk_Own T) hr (by decide) rfl (pa_cons (pv 2) (pa_cons (pv 3) pa_nil)))))
pss_nil)
(pss_cons (ps_if (pt_cmpR op_eq (pv 1) pe_str (nomark _))
(pss_one (ps_ret (C8.pe_mk (mk_Layer T) hr (by decide) rfl (pa_cons (pv 2) (pa_cons (pv 3) (pa_cons (pv 4) pa_nil))))))
pss_nil)
(pss_one (ps_ret (C8.pe_mk (mk_Limit T) hr (by decide) rfl (pa_cons (pv 2) (pa_cons (pv 3) pa_nil)))))))), ?_⟩
    try dsimp only [cxOf, Cx.nox, Cx.wish]
    k_clsL
    refine ifdt (by decide) ?_
    k_clsL
    intro a dx na nd2 ne
    refine ⟨a, dx, b, n, rfl, upd_same, hok, fun H' B h' => ⟨rfl, ?_⟩⟩
    exact q a H' (But.made na nd2 B) ⟨a, dx, rfl, New.at na h'⟩
  | layer b lo hi =>
    obtain ⟨t, rfl, ht⟩ := hd
    refine ⟨_, (pss_cons (ps_asg (pv 0) (pg_tup rfl (pgs_cons (pg_name (i := 1) nd rfl (Or.inl rfl)) (pgs_cons (pg_name (i := 2) nd rfl (Or.inl rfl)) (pgs_cons (pg_name (i := 3) nd rfl (Or.inl rfl)) (pgs_cons (pg_name (i := 4) nd rfl (Or.inl rfl)) pgs_nil))))))
(pss_cons (ps_if (pt_cmpR op_eq (pv 1) pe_str (nomark _))
(pss_one (ps_ret (C8.pe_mk (mk_Own T) hr (by decide) rfl (pa_cons (pv 2) (pa_cons (pv 3) pa_nil)))))
pss_nil)
(pss_cons (ps_if (pt_cmpR op_eq (pv 1) pe_str (nomark _))
(pss_one (ps_ret (C8.pe_mk (mk_Layer T) hr (by decide) rfl (pa_cons (pv 2) (pa_cons (pv 3) (pa_cons (pv 4) pa_nil))))))
pss_nil)
(pss_one (ps_ret (C8.pe_mk (mk_Limit T) hr (by decide) rfl (pa_cons (pv 2) (pa_cons (pv 3) pa_nil)))))))), ?_⟩
    try dsimp only [cxOf, Cx.nox, Cx.wish]
    k_clsL
    refine ifdf (by decide) ?_
    k_clsL
    refine ifdt (by decide) ?_
    k_clsL
    intro a dx na nd2 ne
    refine ⟨a, dx, b, lo, hi, rfl, upd_same, hok, fun H' B h' => ⟨rfl, ?_⟩⟩
    exact q a H' (But.made na nd2 B) ⟨a, dx, rfl, New.at na h'⟩
  | limit b n =>
    obtain ⟨t, rfl, ht⟩ := hd
    refine ⟨_, (pss_cons (ps_asg (pv 0) (pg_tup rfl (pgs_cons (pg_name (i := 1) nd rfl (Or.inl rfl)) (pgs_cons (pg_name (i := 2) nd rfl (Or.inl rfl)) (pgs_cons (pg_name (i := 3) nd rfl (Or.inl rfl)) (pgs_cons (pg_name (i := 4) nd rfl (Or.inl rfl)) pgs_nil))))))
(pss_cons (ps_if (pt_cmpR op_eq (pv 1) pe_str (nomark _))
(pss_one (ps_ret (C8.pe_mk (mk_Own T) hr (by decide) rfl (pa_cons (pv 2) (pa_cons (pv 3) pa_nil)))))
pss_nil)
(pss_cons (ps_if (pt_cmpR op_eq (pv 1) pe_str (nomark _))
(pss_one (ps_ret (C8.pe_mk (mk_Layer T) hr (by decide) rfl (pa_cons (pv 2) (pa_cons (pv 3) (pa_cons (pv 4) pa_nil))))))
pss_nil)
(pss_one (ps_ret (C8.pe_mk (mk_Limit T) hr (by decide) rfl (pa_cons (pv 2) (pa_cons (pv 3) pa_nil)))))))), ?_⟩
    try dsimp only [cxOf, Cx.nox, Cx.wish]
    k_clsL
    refine ifdf (by decide) ?_
    k_clsL
    refine ifdf (by decide) ?_
    k_clsL
    intro a dx na nd2 ne
    refine ⟨a, dx, b, n, rfl, upd_same, hok, fun H' B h' => ⟨rfl, ?_⟩⟩
    exact q a H' (But.made na nd2 B) ⟨a, dx, rfl, New.at na h'⟩
theorem LfV.off {H H1 H4 : Hp} {D : Addr} {v : V} {c : LfM} {acc : List V} (h : LfV K (New H1 H4) v c) (S : Same H H1) (hD : H4 D = some (.lst acc)) : LfV K (New H (Off D H4)) v c := by
  obtain ⟨a, dx, e, h⟩ := h
  obtain ⟨n, g⟩ := New.out h
  exact ⟨a, dx, e, New.at (S.free n) (Off.at g (ne_of hD g (fun z => nomatch z)).symm)⟩
/-! ### the condition: a def that calls itself, at most two deep -/
def CoX.dep : CoX → Nat
  | .leaf _ => 0
  | .all _ => 1
  | .some _ => 1
  | .nall _ => 2
def sp_law_condition (K : PySem.W.Frag) (n : Nat) : Sp := fun vs H Q _ => ∃ (v : V) (c : CoX), vs = [v] ∧ c.dep < n ∧ CoD H v c ∧ ∀ a H', Same H H' → CoV K (New H H') (.ref a) c → Q (.ref a) H'
theorem never_law_condition (T : Txt K mg) : C8.Cal P w K mg base 2 "_law_condition" (sp_law_condition K 0) [] := by
  obtain ⟨fd, F⟩ := T.D_law_condition
  refine ⟨_, fd, P_law_condition, [], ⟨fun vs H Q E h => ?_, fun A outer s H args us vs Q E _ _ _ _ h => ?_⟩, T.g__law_condition, F.kp, F.bindsN (fun _ _ _ _ _ _ us hl => match us, hl with | [_], _ => rfl), .nil⟩
  · obtain ⟨_, _, _, h, _⟩ := h
    cases h
  · obtain ⟨_, _, _, h, _⟩ := h
    cases h
theorem step_law_condition (T : Txt K mg) (n m : Nat) (hm : 2 ≤ m) (rc : C8.Cal P w K mg base m "_law_condition" (sp_law_condition K n) []) : C8.Cal P w K mg base (m + 1) "_law_condition" (sp_law_condition K (n + 1)) [] := by
  refine cal T.D_law_condition T.g__law_condition sc_law_condition (fun _ _ _ _ _ _ us hl => match us, hl with | [_], _ => rfl) (fun vs H Q E h => ?_) (fun cdv A outer s H vs Q E hr h => ?_)
  · obtain ⟨v, c, rfl, _⟩ := h
    rfl
  obtain ⟨v, c, rfl, hn, hd, q⟩ := h
  have nd := (sc_law_condition).nd
  cases c with
  | leaf l =>
    cases l with
    | always =>
      obtain ⟨t, rfl, ht⟩ := hd
      refine ⟨_, (pss_cons (ps_if (pt_cmpR op_eq (pe_ix ix_tup (pv 0) pe_int (fun _ _ => rfl)) pe_str (nomark _))
(pss_one (ps_ret (C8.pe_mk (mk_CauseIs T) hr (by omega) rfl (pa_cons (pe_ix ix_tup (pv 0) pe_int (fun _ _ => rfl)) pa_nil))))
pss_nil)
(pss_cons (ps_if (pt_cmpR op_eq (pe_ix ix_tup (pv 0) pe_int (fun _ _ => rfl)) pe_str (nomark _))
(pss_one (ps_ret (C8.pe_mk (mk_ThingIs T) hr (by omega) rfl (pa_cons (pe_ix ix_tup (pv 0) pe_int (fun _ _ => rfl)) pa_nil))))
pss_nil)
(pss_cons (ps_if (pt_cmpR op_eq (pe_ix ix_tup (pv 0) pe_int (fun _ _ => rfl)) pe_str (nomark _))
(pss_one (ps_ret (C8.pe_mk (mk_DaysIn T) hr (by omega) rfl (pa_cons (pe_ix ix_tup (pv 0) pe_int (fun _ _ => rfl)) (pa_cons (pe_ix ix_tup (pv 0) pe_int (fun _ _ => rfl)) pa_nil)))))
pss_nil)
(pss_cons (ps_if (pt_cmpR op_eq (pe_ix ix_tup (pv 0) pe_int (fun _ _ => rfl)) pe_str (nomark _))
(pss_one (ps_ret (C8.pe_mk (mk_Over T) hr (by omega) rfl (pa_cons (pe_ix ix_tup (pv 0) pe_int (fun _ _ => rfl)) pa_nil))))
pss_nil)
(pss_cons (ps_if (pt_cmpR op_eq (pe_ix ix_tup (pv 0) pe_int (fun _ _ => rfl)) pe_str (nomark _))
(pss_one (ps_ret (C8.pe_mk (mk_Not T) hr (by omega) rfl (pa_cons (C8.pe_c rc hr (by omega) rfl (pa_cons (pe_ix ix_tup (pv 0) pe_int (fun _ _ => rfl)) pa_nil)) pa_nil))))
pss_nil)
(pss_cons (ps_if (pt_cmpR op_eq (pe_ix ix_tup (pv 0) pe_int (fun _ _ => rfl)) pe_str (nomark _))
(pss_one (ps_ret (C8.pe_mk (mk_All T) hr (by omega) rfl (pa_cons (pe_lc (own := [("_law_part", 1)]) (g := (gName 1)) (tt := tYes) rfl nd (pi_list (pe_ix ix_tup (pv 0) pe_int (fun _ _ => rfl))) (blkOk_by (own := [("_law_part", 1)]) (N := N_law_condition) (sc := defScope s_law_condition) (by decide +kernel)) (fun _ _ _ _ _ => (pg_name (i := 1) nd rfl (Or.inl rfl))) (fun _ _ _ _ _ => pts_nil) (fun _ _ _ _ _ => (C8.pe_c rc hr (by omega) rfl (pa_cons (pv 1) pa_nil)))) pa_nil))))
pss_nil)
(pss_cons (ps_if (pt_cmpR op_eq (pe_ix ix_tup (pv 0) pe_int (fun _ _ => rfl)) pe_str (nomark _))
(pss_one (ps_ret (C8.pe_mk (mk_Some T) hr (by omega) rfl (pa_cons (pe_lc (own := [("_law_part", 1)]) (g := (gName 1)) (tt := tYes) rfl nd (pi_list (pe_ix ix_tup (pv 0) pe_int (fun _ _ => rfl))) (blkOk_by (own := [("_law_part", 1)]) (N := N_law_condition) (sc := defScope s_law_condition) (by decide +kernel)) (fun _ _ _ _ _ => (pg_name (i := 1) nd rfl (Or.inl rfl))) (fun _ _ _ _ _ => pts_nil) (fun _ _ _ _ _ => (C8.pe_c rc hr (by omega) rfl (pa_cons (pv 1) pa_nil)))) pa_nil))))
pss_nil)
(pss_one (ps_ret (Cv.pe_makeN T.cond T.condi T.condk rfl T.g_Condition)))))))))), ?_⟩
      try dsimp only [cxOf, Cx.nox, Cx.wish]
      iterate 7
        k_clsL
        refine ifdf (by decide) ?_
      k_clsL
      intro a dx na nd2 ne
      exact q a _ (But.made na nd2 (But.refl a _)) ⟨a, dx, rfl, New.at na upd_same⟩
    | cause x =>
      obtain ⟨t, rfl, ht⟩ := hd
      refine ⟨_, (pss_cons (ps_if (pt_cmpR op_eq (pe_ix ix_tup (pv 0) pe_int (fun _ _ => rfl)) pe_str (nomark _))
(pss_one (ps_ret (C8.pe_mk (mk_CauseIs T) hr (by omega) rfl (pa_cons (pe_ix ix_tup (pv 0) pe_int (fun _ _ => rfl)) pa_nil))))
pss_nil)
(pss_cons (ps_if (pt_cmpR op_eq (pe_ix ix_tup (pv 0) pe_int (fun _ _ => rfl)) pe_str (nomark _))
(pss_one (ps_ret (C8.pe_mk (mk_ThingIs T) hr (by omega) rfl (pa_cons (pe_ix ix_tup (pv 0) pe_int (fun _ _ => rfl)) pa_nil))))
pss_nil)
(pss_cons (ps_if (pt_cmpR op_eq (pe_ix ix_tup (pv 0) pe_int (fun _ _ => rfl)) pe_str (nomark _))
(pss_one (ps_ret (C8.pe_mk (mk_DaysIn T) hr (by omega) rfl (pa_cons (pe_ix ix_tup (pv 0) pe_int (fun _ _ => rfl)) (pa_cons (pe_ix ix_tup (pv 0) pe_int (fun _ _ => rfl)) pa_nil)))))
pss_nil)
(pss_cons (ps_if (pt_cmpR op_eq (pe_ix ix_tup (pv 0) pe_int (fun _ _ => rfl)) pe_str (nomark _))
(pss_one (ps_ret (C8.pe_mk (mk_Over T) hr (by omega) rfl (pa_cons (pe_ix ix_tup (pv 0) pe_int (fun _ _ => rfl)) pa_nil))))
pss_nil)
(pss_cons (ps_if (pt_cmpR op_eq (pe_ix ix_tup (pv 0) pe_int (fun _ _ => rfl)) pe_str (nomark _))
(pss_one (ps_ret (C8.pe_mk (mk_Not T) hr (by omega) rfl (pa_cons (C8.pe_c rc hr (by omega) rfl (pa_cons (pe_ix ix_tup (pv 0) pe_int (fun _ _ => rfl)) pa_nil)) pa_nil))))
pss_nil)
(pss_cons (ps_if (pt_cmpR op_eq (pe_ix ix_tup (pv 0) pe_int (fun _ _ => rfl)) pe_str (nomark _))
(pss_one (ps_ret (C8.pe_mk (mk_All T) hr (by omega) rfl (pa_cons (pe_lc (own := [("_law_part", 1)]) (g := (gName 1)) (tt := tYes) rfl nd (pi_list (pe_ix ix_tup (pv 0) pe_int (fun _ _ => rfl))) (blkOk_by (own := [("_law_part", 1)]) (N := N_law_condition) (sc := defScope s_law_condition) (by decide +kernel)) (fun _ _ _ _ _ => (pg_name (i := 1) nd rfl (Or.inl rfl))) (fun _ _ _ _ _ => pts_nil) (fun _ _ _ _ _ => (C8.pe_c rc hr (by omega) rfl (pa_cons (pv 1) pa_nil)))) pa_nil))))
pss_nil)
(pss_cons (ps_if (pt_cmpR op_eq (pe_ix ix_tup (pv 0) pe_int (fun _ _ => rfl)) pe_str (nomark _))
(pss_one (ps_ret (C8.pe_mk (mk_Some T) hr (by omega) rfl (pa_cons (pe_lc (own := [("_law_part", 1)]) (g := (gName 1)) (tt := tYes) rfl nd (pi_list (pe_ix ix_tup (pv 0) pe_int (fun _ _ => rfl))) (blkOk_by (own := [("_law_part", 1)]) (N := N_law_condition) (sc := defScope s_law_condition) (by decide +kernel)) (fun _ _ _ _ _ => (pg_name (i := 1) nd rfl (Or.inl rfl))) (fun _ _ _ _ _ => pts_nil) (fun _ _ _ _ _ => (C8.pe_c rc hr (by omega) rfl (pa_cons (pv 1) pa_nil)))) pa_nil))))
pss_nil)
(pss_one (ps_ret (Cv.pe_makeN T.cond T.condi T.condk rfl T.g_Condition)))))))))), ?_⟩
      try dsimp only [cxOf, Cx.nox, Cx.wish]
      k_clsL
      refine ifdt (by decide) ?_
      k_clsL
      intro a dx na nd2 ne
      refine ⟨a, dx, x, rfl, upd_same, rfl, ?_⟩
      obtain ⟨S, h'⟩ := made_new na nd2 ne rfl
      exact q a _ S ⟨a, dx, rfl, New.at na h'⟩
    | thing x =>
      obtain ⟨t, rfl, ht⟩ := hd
      refine ⟨_, (pss_cons (ps_if (pt_cmpR op_eq (pe_ix ix_tup (pv 0) pe_int (fun _ _ => rfl)) pe_str (nomark _))
(pss_one (ps_ret (C8.pe_mk (mk_CauseIs T) hr (by omega) rfl (pa_cons (pe_ix ix_tup (pv 0) pe_int (fun _ _ => rfl)) pa_nil))))
pss_nil)
(pss_cons (ps_if (pt_cmpR op_eq (pe_ix ix_tup (pv 0) pe_int (fun _ _ => rfl)) pe_str (nomark _))
(pss_one (ps_ret (C8.pe_mk (mk_ThingIs T) hr (by omega) rfl (pa_cons (pe_ix ix_tup (pv 0) pe_int (fun _ _ => rfl)) pa_nil))))
pss_nil)
(pss_cons (ps_if (pt_cmpR op_eq (pe_ix ix_tup (pv 0) pe_int (fun _ _ => rfl)) pe_str (nomark _))
(pss_one (ps_ret (C8.pe_mk (mk_DaysIn T) hr (by omega) rfl (pa_cons (pe_ix ix_tup (pv 0) pe_int (fun _ _ => rfl)) (pa_cons (pe_ix ix_tup (pv 0) pe_int (fun _ _ => rfl)) pa_nil)))))
pss_nil)
(pss_cons (ps_if (pt_cmpR op_eq (pe_ix ix_tup (pv 0) pe_int (fun _ _ => rfl)) pe_str (nomark _))
(pss_one (ps_ret (C8.pe_mk (mk_Over T) hr (by omega) rfl (pa_cons (pe_ix ix_tup (pv 0) pe_int (fun _ _ => rfl)) pa_nil))))
pss_nil)
(pss_cons (ps_if (pt_cmpR op_eq (pe_ix ix_tup (pv 0) pe_int (fun _ _ => rfl)) pe_str (nomark _))
(pss_one (ps_ret (C8.pe_mk (mk_Not T) hr (by omega) rfl (pa_cons (C8.pe_c rc hr (by omega) rfl (pa_cons (pe_ix ix_tup (pv 0) pe_int (fun _ _ => rfl)) pa_nil)) pa_nil))))
pss_nil)
(pss_cons (ps_if (pt_cmpR op_eq (pe_ix ix_tup (pv 0) pe_int (fun _ _ => rfl)) pe_str (nomark _))
(pss_one (ps_ret (C8.pe_mk (mk_All T) hr (by omega) rfl (pa_cons (pe_lc (own := [("_law_part", 1)]) (g := (gName 1)) (tt := tYes) rfl nd (pi_list (pe_ix ix_tup (pv 0) pe_int (fun _ _ => rfl))) (blkOk_by (own := [("_law_part", 1)]) (N := N_law_condition) (sc := defScope s_law_condition) (by decide +kernel)) (fun _ _ _ _ _ => (pg_name (i := 1) nd rfl (Or.inl rfl))) (fun _ _ _ _ _ => pts_nil) (fun _ _ _ _ _ => (C8.pe_c rc hr (by omega) rfl (pa_cons (pv 1) pa_nil)))) pa_nil))))
pss_nil)
(pss_cons (ps_if (pt_cmpR op_eq (pe_ix ix_tup (pv 0) pe_int (fun _ _ => rfl)) pe_str (nomark _))
(pss_one (ps_ret (C8.pe_mk (mk_Some T) hr (by omega) rfl (pa_cons (pe_lc (own := [("_law_part", 1)]) (g := (gName 1)) (tt := tYes) rfl nd (pi_list (pe_ix ix_tup (pv 0) pe_int (fun _ _ => rfl))) (blkOk_by (own := [("_law_part", 1)]) (N := N_law_condition) (sc := defScope s_law_condition) (by decide +kernel)) (fun _ _ _ _ _ => (pg_name (i := 1) nd rfl (Or.inl rfl))) (fun _ _ _ _ _ => pts_nil) (fun _ _ _ _ _ => (C8.pe_c rc hr (by omega) rfl (pa_cons (pv 1) pa_nil)))) pa_nil))))
pss_nil)
(pss_one (ps_ret (Cv.pe_makeN T.cond T.condi T.condk rfl T.g_Condition)))))))))), ?_⟩
      try dsimp only [cxOf, Cx.nox, Cx.wish]
      k_clsL
      refine ifdf (by decide) ?_
      k_clsL
      refine ifdt (by decide) ?_
      k_clsL
      intro a dx na nd2 ne
      refine ⟨a, dx, x, rfl, upd_same, rfl, ?_⟩
      obtain ⟨S, h'⟩ := made_new na nd2 ne rfl
      exact q a _ S ⟨a, dx, rfl, New.at na h'⟩
    | days i j =>
      obtain ⟨t, rfl, ht⟩ := hd
      refine ⟨_, (pss_cons (ps_if (pt_cmpR op_eq (pe_ix ix_tup (pv 0) pe_int (fun _ _ => rfl)) pe_str (nomark _))
(pss_one (ps_ret (C8.pe_mk (mk_CauseIs T) hr (by omega) rfl (pa_cons (pe_ix ix_tup (pv 0) pe_int (fun _ _ => rfl)) pa_nil))))
pss_nil)
(pss_cons (ps_if (pt_cmpR op_eq (pe_ix ix_tup (pv 0) pe_int (fun _ _ => rfl)) pe_str (nomark _))
(pss_one (ps_ret (C8.pe_mk (mk_ThingIs T) hr (by omega) rfl (pa_cons (pe_ix ix_tup (pv 0) pe_int (fun _ _ => rfl)) pa_nil))))
pss_nil)
(pss_cons (ps_if (pt_cmpR op_eq (pe_ix ix_tup (pv 0) pe_int (fun _ _ => rfl)) pe_str (nomark _))
(pss_one (ps_ret (C8.pe_mk (mk_DaysIn T) hr (by omega) rfl (pa_cons (pe_ix ix_tup (pv 0) pe_int (fun _ _ => rfl)) (pa_cons (pe_ix ix_tup (pv 0) pe_int (fun _ _ => rfl)) pa_nil)))))
pss_nil)
(pss_cons (ps_if (pt_cmpR op_eq (pe_ix ix_tup (pv 0) pe_int (fun _ _ => rfl)) pe_str (nomark _))
(pss_one (ps_ret (C8.pe_mk (mk_Over T) hr (by omega) rfl (pa_cons (pe_ix ix_tup (pv 0) pe_int (fun _ _ => rfl)) pa_nil))))
pss_nil)
(pss_cons (ps_if (pt_cmpR op_eq (pe_ix ix_tup (pv 0) pe_int (fun _ _ => rfl)) pe_str (nomark _))
(pss_one (ps_ret (C8.pe_mk (mk_Not T) hr (by omega) rfl (pa_cons (C8.pe_c rc hr (by omega) rfl (pa_cons (pe_ix ix_tup (pv 0) pe_int (fun _ _ => rfl)) pa_nil)) pa_nil))))
pss_nil)
(pss_cons (ps_if (pt_cmpR op_eq (pe_ix ix_tup (pv 0) pe_int (fun _ _ => rfl)) pe_str (nomark _))
(pss_one (ps_ret (C8.pe_mk (mk_All T) hr (by omega) rfl (pa_cons (pe_lc (own := [("_law_part", 1)]) (g := (gName 1)) (tt := tYes) rfl nd (pi_list (pe_ix ix_tup (pv 0) pe_int (fun _ _ => rfl))) (blkOk_by (own := [("_law_part", 1)]) (N := N_law_condition) (sc := defScope s_law_condition) (by decide +kernel)) (fun _ _ _ _ _ => (pg_name (i := 1) nd rfl (Or.inl rfl))) (fun _ _ _ _ _ => pts_nil) (fun _ _ _ _ _ => (C8.pe_c rc hr (by omega) rfl (pa_cons (pv 1) pa_nil)))) pa_nil))))
pss_nil)
(pss_cons (ps_if (pt_cmpR op_eq (pe_ix ix_tup (pv 0) pe_int (fun _ _ => rfl)) pe_str (nomark _))
(pss_one (ps_ret (C8.pe_mk (mk_Some T) hr (by omega) rfl (pa_cons (pe_lc (own := [("_law_part", 1)]) (g := (gName 1)) (tt := tYes) rfl nd (pi_list (pe_ix ix_tup (pv 0) pe_int (fun _ _ => rfl))) (blkOk_by (own := [("_law_part", 1)]) (N := N_law_condition) (sc := defScope s_law_condition) (by decide +kernel)) (fun _ _ _ _ _ => (pg_name (i := 1) nd rfl (Or.inl rfl))) (fun _ _ _ _ _ => pts_nil) (fun _ _ _ _ _ => (C8.pe_c rc hr (by omega) rfl (pa_cons (pv 1) pa_nil)))) pa_nil))))
pss_nil)
(pss_one (ps_ret (Cv.pe_makeN T.cond T.condi T.condk rfl T.g_Condition)))))))))), ?_⟩
      try dsimp only [cxOf, Cx.nox, Cx.wish]
      iterate 2
        k_clsL
        refine ifdf (by decide) ?_
      k_clsL
      refine ifdt (by decide) ?_
      k_clsL
      intro a dx na nd2 ne
      refine ⟨a, dx, i, j, rfl, upd_same, rfl, ?_⟩
      obtain ⟨S, h'⟩ := made_new na nd2 ne rfl
      exact q a _ S ⟨a, dx, rfl, New.at na h'⟩
    | over i =>
      obtain ⟨t, rfl, ht⟩ := hd
      refine ⟨_, (pss_cons (ps_if (pt_cmpR op_eq (pe_ix ix_tup (pv 0) pe_int (fun _ _ => rfl)) pe_str (nomark _))
(pss_one (ps_ret (C8.pe_mk (mk_CauseIs T) hr (by omega) rfl (pa_cons (pe_ix ix_tup (pv 0) pe_int (fun _ _ => rfl)) pa_nil))))
pss_nil)
(pss_cons (ps_if (pt_cmpR op_eq (pe_ix ix_tup (pv 0) pe_int (fun _ _ => rfl)) pe_str (nomark _))
(pss_one (ps_ret (C8.pe_mk (mk_ThingIs T) hr (by omega) rfl (pa_cons (pe_ix ix_tup (pv 0) pe_int (fun _ _ => rfl)) pa_nil))))
pss_nil)
(pss_cons (ps_if (pt_cmpR op_eq (pe_ix ix_tup (pv 0) pe_int (fun _ _ => rfl)) pe_str (nomark _))
(pss_one (ps_ret (C8.pe_mk (mk_DaysIn T) hr (by omega) rfl (pa_cons (pe_ix ix_tup (pv 0) pe_int (fun _ _ => rfl)) (pa_cons (pe_ix ix_tup (pv 0) pe_int (fun _ _ => rfl)) pa_nil)))))
pss_nil)
(pss_cons (ps_if (pt_cmpR op_eq (pe_ix ix_tup (pv 0) pe_int (fun _ _ => rfl)) pe_str (nomark _))
(pss_one (ps_ret (C8.pe_mk (mk_Over T) hr (by omega) rfl (pa_cons (pe_ix ix_tup (pv 0) pe_int (fun _ _ => rfl)) pa_nil))))
pss_nil)
(pss_cons (ps_if (pt_cmpR op_eq (pe_ix ix_tup (pv 0) pe_int (fun _ _ => rfl)) pe_str (nomark _))
(pss_one (ps_ret (C8.pe_mk (mk_Not T) hr (by omega) rfl (pa_cons (C8.pe_c rc hr (by omega) rfl (pa_cons (pe_ix ix_tup (pv 0) pe_int (fun _ _ => rfl)) pa_nil)) pa_nil))))
pss_nil)
(pss_cons (ps_if (pt_cmpR op_eq (pe_ix ix_tup (pv 0) pe_int (fun _ _ => rfl)) pe_str (nomark _))
(pss_one (ps_ret (C8.pe_mk (mk_All T) hr (by omega) rfl (pa_cons (pe_lc (own := [("_law_part", 1)]) (g := (gName 1)) (tt := tYes) rfl nd (pi_list (pe_ix ix_tup (pv 0) pe_int (fun _ _ => rfl))) (blkOk_by (own := [("_law_part", 1)]) (N := N_law_condition) (sc := defScope s_law_condition) (by decide +kernel)) (fun _ _ _ _ _ => (pg_name (i := 1) nd rfl (Or.inl rfl))) (fun _ _ _ _ _ => pts_nil) (fun _ _ _ _ _ => (C8.pe_c rc hr (by omega) rfl (pa_cons (pv 1) pa_nil)))) pa_nil))))
pss_nil)
(pss_cons (ps_if (pt_cmpR op_eq (pe_ix ix_tup (pv 0) pe_int (fun _ _ => rfl)) pe_str (nomark _))
(pss_one (ps_ret (C8.pe_mk (mk_Some T) hr (by omega) rfl (pa_cons (pe_lc (own := [("_law_part", 1)]) (g := (gName 1)) (tt := tYes) rfl nd (pi_list (pe_ix ix_tup (pv 0) pe_int (fun _ _ => rfl))) (blkOk_by (own := [("_law_part", 1)]) (N := N_law_condition) (sc := defScope s_law_condition) (by decide +kernel)) (fun _ _ _ _ _ => (pg_name (i := 1) nd rfl (Or.inl rfl))) (fun _ _ _ _ _ => pts_nil) (fun _ _ _ _ _ => (C8.pe_c rc hr (by omega) rfl (pa_cons (pv 1) pa_nil)))) pa_nil))))
pss_nil)
(pss_one (ps_ret (Cv.pe_makeN T.cond T.condi T.condk rfl T.g_Condition)))))))))), ?_⟩
      try dsimp only [cxOf, Cx.nox, Cx.wish]
      iterate 3
        k_clsL
        refine ifdf (by decide) ?_
      k_clsL
      refine ifdt (by decide) ?_
      k_clsL
      intro a dx na nd2 ne
      refine ⟨a, dx, i, rfl, upd_same, rfl, ?_⟩
      obtain ⟨S, h'⟩ := made_new na nd2 ne rfl
      exact q a _ S ⟨a, dx, rfl, New.at na h'⟩
  | all ls =>
    obtain ⟨t, p, xs, rfl, ht, hp, hP, hz⟩ := hd
    refine ⟨_, (pss_cons (ps_if (pt_cmpR op_eq (pe_ix ix_tup (pv 0) pe_int (fun _ _ => rfl)) pe_str (nomark _))
(pss_one (ps_ret (C8.pe_mk (mk_CauseIs T) hr (by omega) rfl (pa_cons (pe_ix ix_tup (pv 0) pe_int (fun _ _ => rfl)) pa_nil))))
pss_nil)
(pss_cons (ps_if (pt_cmpR op_eq (pe_ix ix_tup (pv 0) pe_int (fun _ _ => rfl)) pe_str (nomark _))
(pss_one (ps_ret (C8.pe_mk (mk_ThingIs T) hr (by omega) rfl (pa_cons (pe_ix ix_tup (pv 0) pe_int (fun _ _ => rfl)) pa_nil))))
pss_nil)
(pss_cons (ps_if (pt_cmpR op_eq (pe_ix ix_tup (pv 0) pe_int (fun _ _ => rfl)) pe_str (nomark _))
(pss_one (ps_ret (C8.pe_mk (mk_DaysIn T) hr (by omega) rfl (pa_cons (pe_ix ix_tup (pv 0) pe_int (fun _ _ => rfl)) (pa_cons (pe_ix ix_tup (pv 0) pe_int (fun _ _ => rfl)) pa_nil)))))
pss_nil)
(pss_cons (ps_if (pt_cmpR op_eq (pe_ix ix_tup (pv 0) pe_int (fun _ _ => rfl)) pe_str (nomark _))
(pss_one (ps_ret (C8.pe_mk (mk_Over T) hr (by omega) rfl (pa_cons (pe_ix ix_tup (pv 0) pe_int (fun _ _ => rfl)) pa_nil))))
pss_nil)
(pss_cons (ps_if (pt_cmpR op_eq (pe_ix ix_tup (pv 0) pe_int (fun _ _ => rfl)) pe_str (nomark _))
(pss_one (ps_ret (C8.pe_mk (mk_Not T) hr (by omega) rfl (pa_cons (C8.pe_c rc hr (by omega) rfl (pa_cons (pe_ix ix_tup (pv 0) pe_int (fun _ _ => rfl)) pa_nil)) pa_nil))))
pss_nil)
(pss_cons (ps_if (pt_cmpR op_eq (pe_ix ix_tup (pv 0) pe_int (fun _ _ => rfl)) pe_str (nomark _))
(pss_one (ps_ret (C8.pe_mk (mk_All T) hr (by omega) rfl (pa_cons (pe_lc (own := [("_law_part", 1)]) (g := (gName 1)) (tt := tYes) rfl nd (pi_list (pe_ix ix_tup (pv 0) pe_int (fun _ _ => rfl))) (blkOk_by (own := [("_law_part", 1)]) (N := N_law_condition) (sc := defScope s_law_condition) (by decide +kernel)) (fun _ _ _ _ _ => (pg_name (i := 1) nd rfl (Or.inl rfl))) (fun _ _ _ _ _ => pts_nil) (fun _ _ _ _ _ => (C8.pe_c rc hr (by omega) rfl (pa_cons (pv 1) pa_nil)))) pa_nil))))
pss_nil)
(pss_cons (ps_if (pt_cmpR op_eq (pe_ix ix_tup (pv 0) pe_int (fun _ _ => rfl)) pe_str (nomark _))
(pss_one (ps_ret (C8.pe_mk (mk_Some T) hr (by omega) rfl (pa_cons (pe_lc (own := [("_law_part", 1)]) (g := (gName 1)) (tt := tYes) rfl nd (pi_list (pe_ix ix_tup (pv 0) pe_int (fun _ _ => rfl))) (blkOk_by (own := [("_law_part", 1)]) (N := N_law_condition) (sc := defScope s_law_condition) (by decide +kernel)) (fun _ _ _ _ _ => (pg_name (i := 1) nd rfl (Or.inl rfl))) (fun _ _ _ _ _ => pts_nil) (fun _ _ _ _ _ => (C8.pe_c rc hr (by omega) rfl (pa_cons (pv 1) pa_nil)))) pa_nil))))
pss_nil)
(pss_one (ps_ret (Cv.pe_makeN T.cond T.condi T.condk rfl T.g_Condition)))))))))), ?_⟩
    try dsimp only [cxOf, Cx.nox, Cx.wish]
    iterate 5
      k_clsL
      refine ifdf (by decide) ?_
    k_clsL
    refine ifdt (by decide) ?_
    k_clsL
    refine lcg_l (xs := xs) LfD ls (fun Hh v c => LfV K (New H Hh) v c) (fun c => some c) (fun S h => LfV.same (New.mono (Same.refl _) S) h) (SqL.of hp) (fun H1 S => Paired.mapP hP fun _ _ q => q.same S) (Nat.lt_of_le_of_lt hz (by decide)) (fun i c x D H1 acc K1 K0 e1 nD hS hD hx k1 k0 => ?_) (fun D H1 ys nD hS hD hP2 => ?_)
    · k_clsL
      refine ⟨x, .leaf c, rfl, by (have hn : 1 < n + 1 := hn); show 0 < n; omega, hx, fun a H4 hS4 hv => ?_⟩
      k_clsL
      exact k1 _ c _ rfl hS4 (LfV.off hv hS (hS4.get hD))
    rw [List.filterMap_some] at hP2
    k_clsL
    intro a dx na nd2 ne
    refine ⟨a, dx, D, ys, rfl, upd_same, SqL.of (by rw [upd_ne (ne_of_none hD na), upd_ne (ne_of_none hD nd2)]; exact hD), fun q2 H' nq B h1 h2 => ⟨rfl, ?_⟩⟩
    have SB := But.made na nd2 B
    have nq1 : H1 q2 = none := by
      cases e : H1 q2 with
      | none => rfl
      | some u =>
        rw [upd_ne (ne_of_none e na), upd_ne (ne_of_none e nd2), e] at nq
        cases nq
    exact q a H' (hS.trans SB) ⟨a, rfl, dx, q2, ys, New.at (hS.free na) h2, New.at (hS.free nq1) h1, Paired.mapP hP2 fun _ _ q => q.same (New.mono (Same.refl _) SB)⟩
  | some ls =>
    obtain ⟨t, p, xs, rfl, ht, hp, hP, hz⟩ := hd
    refine ⟨_, (pss_cons (ps_if (pt_cmpR op_eq (pe_ix ix_tup (pv 0) pe_int (fun _ _ => rfl)) pe_str (nomark _))
(pss_one (ps_ret (C8.pe_mk (mk_CauseIs T) hr (by omega) rfl (pa_cons (pe_ix ix_tup (pv 0) pe_int (fun _ _ => rfl)) pa_nil))))
pss_nil)
(pss_cons (ps_if (pt_cmpR op_eq (pe_ix ix_tup (pv 0) pe_int (fun _ _ => rfl)) pe_str (nomark _))
(pss_one (ps_ret (C8.pe_mk (mk_ThingIs T) hr (by omega) rfl (pa_cons (pe_ix ix_tup (pv 0) pe_int (fun _ _ => rfl)) pa_nil))))
pss_nil)
(pss_cons (ps_if (pt_cmpR op_eq (pe_ix ix_tup (pv 0) pe_int (fun _ _ => rfl)) pe_str (nomark _))
(pss_one (ps_ret (C8.pe_mk (mk_DaysIn T) hr (by omega) rfl (pa_cons (pe_ix ix_tup (pv 0) pe_int (fun _ _ => rfl)) (pa_cons (pe_ix ix_tup (pv 0) pe_int (fun _ _ => rfl)) pa_nil)))))
pss_nil)
(pss_cons (ps_if (pt_cmpR op_eq (pe_ix ix_tup (pv 0) pe_int (fun _ _ => rfl)) pe_str (nomark _))
(pss_one (ps_ret (C8.pe_mk (mk_Over T) hr (by omega) rfl (pa_cons (pe_ix ix_tup (pv 0) pe_int (fun _ _ => rfl)) pa_nil))))
pss_nil)
(pss_cons (ps_if (pt_cmpR op_eq (pe_ix ix_tup (pv 0) pe_int (fun _ _ => rfl)) pe_str (nomark _))
(pss_one (ps_ret (C8.pe_mk (mk_Not T) hr (by omega) rfl (pa_cons (C8.pe_c rc hr (by omega) rfl (pa_cons (pe_ix ix_tup (pv 0) pe_int (fun _ _ => rfl)) pa_nil)) pa_nil))))
pss_nil)
(pss_cons (ps_if (pt_cmpR op_eq (pe_ix ix_tup (pv 0) pe_int (fun _ _ => rfl)) pe_str (nomark _))
(pss_one (ps_ret (C8.pe_mk (mk_All T) hr (by omega) rfl (pa_cons (pe_lc (own := [("_law_part", 1)]) (g := (gName 1)) (tt := tYes) rfl nd (pi_list (pe_ix ix_tup (pv 0) pe_int (fun _ _ => rfl))) (blkOk_by (own := [("_law_part", 1)]) (N := N_law_condition) (sc := defScope s_law_condition) (by decide +kernel)) (fun _ _ _ _ _ => (pg_name (i := 1) nd rfl (Or.inl rfl))) (fun _ _ _ _ _ => pts_nil) (fun _ _ _ _ _ => (C8.pe_c rc hr (by omega) rfl (pa_cons (pv 1) pa_nil)))) pa_nil))))
pss_nil)
(pss_cons (ps_if (pt_cmpR op_eq (pe_ix ix_tup (pv 0) pe_int (fun _ _ => rfl)) pe_str (nomark _))
(pss_one (ps_ret (C8.pe_mk (mk_Some T) hr (by omega) rfl (pa_cons (pe_lc (own := [("_law_part", 1)]) (g := (gName 1)) (tt := tYes) rfl nd (pi_list (pe_ix ix_tup (pv 0) pe_int (fun _ _ => rfl))) (blkOk_by (own := [("_law_part", 1)]) (N := N_law_condition) (sc := defScope s_law_condition) (by decide +kernel)) (fun _ _ _ _ _ => (pg_name (i := 1) nd rfl (Or.inl rfl))) (fun _ _ _ _ _ => pts_nil) (fun _ _ _ _ _ => (C8.pe_c rc hr (by omega) rfl (pa_cons (pv 1) pa_nil)))) pa_nil))))
pss_nil)
(pss_one (ps_ret (Cv.pe_makeN T.cond T.condi T.condk rfl T.g_Condition)))))))))), ?_⟩
    try dsimp only [cxOf, Cx.nox, Cx.wish]
    iterate 6
      k_clsL
      refine ifdf (by decide) ?_
    k_clsL
    refine ifdt (by decide) ?_
    k_clsL
    refine lcg_l (xs := xs) LfD ls (fun Hh v c => LfV K (New H Hh) v c) (fun c => some c) (fun S h => LfV.same (New.mono (Same.refl _) S) h) (SqL.of hp) (fun H1 S => Paired.mapP hP fun _ _ q => q.same S) (Nat.lt_of_le_of_lt hz (by decide)) (fun i c x D H1 acc K1 K0 e1 nD hS hD hx k1 k0 => ?_) (fun D H1 ys nD hS hD hP2 => ?_)
    · k_clsL
      refine ⟨x, .leaf c, rfl, by (have hn : 1 < n + 1 := hn); show 0 < n; omega, hx, fun a H4 hS4 hv => ?_⟩
      k_clsL
      exact k1 _ c _ rfl hS4 (LfV.off hv hS (hS4.get hD))
    rw [List.filterMap_some] at hP2
    k_clsL
    intro a dx na nd2 ne
    refine ⟨a, dx, D, ys, rfl, upd_same, SqL.of (by rw [upd_ne (ne_of_none hD na), upd_ne (ne_of_none hD nd2)]; exact hD), fun q2 H' nq B h1 h2 => ⟨rfl, ?_⟩⟩
    have SB := But.made na nd2 B
    have nq1 : H1 q2 = none := by
      cases e : H1 q2 with
      | none => rfl
      | some u =>
        rw [upd_ne (ne_of_none e na), upd_ne (ne_of_none e nd2), e] at nq
        cases nq
    exact q a H' (hS.trans SB) ⟨a, rfl, dx, q2, ys, New.at (hS.free na) h2, New.at (hS.free nq1) h1, Paired.mapP hP2 fun _ _ q => q.same (New.mono (Same.refl _) SB)⟩
  | nall ls =>
    obtain ⟨t, u, rfl, ht, hu⟩ := hd
    refine ⟨_, (pss_cons (ps_if (pt_cmpR op_eq (pe_ix ix_tup (pv 0) pe_int (fun _ _ => rfl)) pe_str (nomark _))
(pss_one (ps_ret (C8.pe_mk (mk_CauseIs T) hr (by omega) rfl (pa_cons (pe_ix ix_tup (pv 0) pe_int (fun _ _ => rfl)) pa_nil))))
pss_nil)
(pss_cons (ps_if (pt_cmpR op_eq (pe_ix ix_tup (pv 0) pe_int (fun _ _ => rfl)) pe_str (nomark _))
(pss_one (ps_ret (C8.pe_mk (mk_ThingIs T) hr (by omega) rfl (pa_cons (pe_ix ix_tup (pv 0) pe_int (fun _ _ => rfl)) pa_nil))))
pss_nil)
(pss_cons (ps_if (pt_cmpR op_eq (pe_ix ix_tup (pv 0) pe_int (fun _ _ => rfl)) pe_str (nomark _))
(pss_one (ps_ret (C8.pe_mk (mk_DaysIn T) hr (by omega) rfl (pa_cons (pe_ix ix_tup (pv 0) pe_int (fun _ _ => rfl)) (pa_cons (pe_ix ix_tup (pv 0) pe_int (fun _ _ => rfl)) pa_nil)))))
pss_nil)
(pss_cons (ps_if (pt_cmpR op_eq (pe_ix ix_tup (pv 0) pe_int (fun _ _ => rfl)) pe_str (nomark _))
(pss_one (ps_ret (C8.pe_mk (mk_Over T) hr (by omega) rfl (pa_cons (pe_ix ix_tup (pv 0) pe_int (fun _ _ => rfl)) pa_nil))))
pss_nil)
(pss_cons (ps_if (pt_cmpR op_eq (pe_ix ix_tup (pv 0) pe_int (fun _ _ => rfl)) pe_str (nomark _))
(pss_one (ps_ret (C8.pe_mk (mk_Not T) hr (by omega) rfl (pa_cons (C8.pe_c rc hr (by omega) rfl (pa_cons (pe_ix ix_tup (pv 0) pe_int (fun _ _ => rfl)) pa_nil)) pa_nil))))
pss_nil)
(pss_cons (ps_if (pt_cmpR op_eq (pe_ix ix_tup (pv 0) pe_int (fun _ _ => rfl)) pe_str (nomark _))
(pss_one (ps_ret (C8.pe_mk (mk_All T) hr (by omega) rfl (pa_cons (pe_lc (own := [("_law_part", 1)]) (g := (gName 1)) (tt := tYes) rfl nd (pi_list (pe_ix ix_tup (pv 0) pe_int (fun _ _ => rfl))) (blkOk_by (own := [("_law_part", 1)]) (N := N_law_condition) (sc := defScope s_law_condition) (by decide +kernel)) (fun _ _ _ _ _ => (pg_name (i := 1) nd rfl (Or.inl rfl))) (fun _ _ _ _ _ => pts_nil) (fun _ _ _ _ _ => (C8.pe_c rc hr (by omega) rfl (pa_cons (pv 1) pa_nil)))) pa_nil))))
pss_nil)
(pss_cons (ps_if (pt_cmpR op_eq (pe_ix ix_tup (pv 0) pe_int (fun _ _ => rfl)) pe_str (nomark _))
(pss_one (ps_ret (C8.pe_mk (mk_Some T) hr (by omega) rfl (pa_cons (pe_lc (own := [("_law_part", 1)]) (g := (gName 1)) (tt := tYes) rfl nd (pi_list (pe_ix ix_tup (pv 0) pe_int (fun _ _ => rfl))) (blkOk_by (own := [("_law_part", 1)]) (N := N_law_condition) (sc := defScope s_law_condition) (by decide +kernel)) (fun _ _ _ _ _ => (pg_name (i := 1) nd rfl (Or.inl rfl))) (fun _ _ _ _ _ => pts_nil) (fun _ _ _ _ _ => (C8.pe_c rc hr (by omega) rfl (pa_cons (pv 1) pa_nil)))) pa_nil))))
pss_nil)
(pss_one (ps_ret (Cv.pe_makeN T.cond T.condi T.condk rfl T.g_Condition)))))))))), ?_⟩
    try dsimp only [cxOf, Cx.nox, Cx.wish]
    iterate 4
      k_clsL
      refine ifdf (by decide) ?_
    k_clsL
    refine ifdt (by decide) ?_
    k_clsL
    refine ⟨u, .all ls, rfl, by (have hn : 2 < n + 1 := hn); show 1 < n; omega, hu, fun a1 H1 hS1 hv => ?_⟩
    obtain ⟨_, e, hv⟩ := hv
    cases e
    k_clsL
    intro a dx na nd2 ne
    refine ⟨a, dx, a1, rfl, upd_same, rfl, ?_⟩
    obtain ⟨S, h'⟩ := made_new na nd2 ne rfl
    exact q a _ (hS1.trans S) ⟨a, dx, a1, rfl, New.at (hS1.free na) h', SevV.same (New.mono (Same.refl _) S) hv⟩
theorem ok_law_condition (T : Txt K mg) : C8.Cal P w K mg base 5 "_law_condition" (sp_law_condition K 3) [] :=
  step_law_condition T 2 4 (by decide) (step_law_condition T 1 3 (by decide) (step_law_condition T 0 2 (by decide) (never_law_condition T)))
end
end Cv
namespace Cv
open PySem PySem.Spec
open PyProof.Rows hiding St
open L2
/-! ### covers, as the law tells them -/
def CvD (H : Hp) (v : V) (c : CovM) : Prop := ∃ t vc p ph th xs hs, v = .ref t ∧ H t = some (.tup [.str c.name, vc, .ref p, .ref ph, .bl c.waits]) ∧ CoD H vc c.cond ∧ H p = some (.lst xs) ∧ Paired (ClD H) xs c.cls ∧ H ph = some (.lst [.ref th]) ∧ H th = some (.tup [.str hs, .int 1]) ∧ nameB hs = true ∧ hs.length ≤ 1000
theorem CvD.same {H H' : Hp} {v : V} {c : CovM} (S : Same H H') (h : CvD H v c) : CvD H' v c := by
  obtain ⟨t, vc, p, ph, th, xs, hs, e, h1, h2, h3, h4, h5, h6, h7⟩ := h
  exact ⟨t, vc, p, ph, th, xs, hs, e, S _ _ h1, h2.same S, S _ _ h3, Paired.mapP h4 fun _ _ q => q.same S, S _ _ h5, S _ _ h6, h7⟩
def CvOk (c : CovM) : Prop := NameOk c.name ∧ c.cls.length ≤ 3 ∧ ∀ cl ∈ c.cls, cl.ok
def CvsOk (cs : List CovM) : Prop := cs.length ≤ 4 ∧ (cs.map CovM.name).Nodup ∧ ∀ c ∈ cs, CvOk c
theorem askM_len4 (cs : List CovM) : (askM cs).length = cs.length := by
  unfold askM firmM waitM
  induction cs with
  | nil => rfl
  | cons c cs ih =>
    rw [List.length_append] at ih ⊢
    cases h : c.waits <;> simp [h, List.filterMap_cons] <;> omega
theorem ClV.off {K : PySem.W.Frag} {H H1 H4 : Hp} {D : Addr} {v : V} {c : ClM} {acc : List V} (h : ClV K (New H1 H4) v c) (S : Same H H1) (hD : H4 D = some (.lst acc)) : ClV K (New H (Off D H4)) v c := by
  obtain ⟨a, dx, e, h⟩ := h
  obtain ⟨n, g⟩ := New.out h
  exact ⟨a, dx, e, New.at (S.free n) (Off.at g (ne_of hD g (fun z => nomatch z)).symm)⟩
theorem dep_lt (c : CoX) : c.dep < 3 := by
  cases c <;> simp [CoX.dep]
theorem clds {H H4 : Hp} {zs : List V} : ∀ {cls : List ClM}, (∀ cl ∈ cls, cl.ok) → Same H H4 → Paired (ClD H) zs cls → Paired (fun v (cl : ClM) => ClD H4 v cl ∧ cl.ok) zs cls := fun hk S h => by
  induction h with
  | nil => exact .nil
  | cons r t ih => exact .cons ⟨r.same S, hk _ List.mem_cons_self⟩ (ih fun cl h => hk cl (List.mem_cons_of_mem _ h))
section
variable {P : Program} {w : World} {K : PySem.W.Frag} {mg : Str → Option Value} {base : Heap}
def sp_law_book (K : PySem.W.Frag) : Sp := fun vs H Q _ => ∃ (a : Addr) (xs : List V) (cs : List CovM), vs = [.ref a] ∧ H a = some (.lst xs) ∧ Paired (CvD H) xs cs ∧ CvsOk cs ∧ ∀ b H', Same H H' → BookV K H' (.ref b) (askM cs) → Q (.ref b) H'
theorem ok_law_book (T : Txt K mg) : C8.Cal P w K mg base 8 "_law_book" (sp_law_book K) [] := by
  refine cal T.D_law_book T.g__law_book sc_law_book (fun _ _ _ _ _ _ us hl => match us, hl with | [_], _ => rfl) (fun vs H Q E h => ?_) (fun cdv A outer s H vs Q E hr h => ?_)
  · obtain ⟨a, xs, cs, rfl, _⟩ := h
    rfl
  obtain ⟨a, xs, cs, rfl, ha, hP, hC, q⟩ := h
  have nd := (sc_law_book).nd
  refine ⟨_, (pss_cons (ps_set (i := 1) nd rfl (Or.inl rfl) (pe_lst pa_nil))
(pss_cons (ps_for PassesOwn.never rfl (pi_list (pv 0)) (pg_tup rfl (pgs_cons (pg_name (i := 2) nd rfl (Or.inl rfl)) (pgs_cons (pg_name (i := 3) nd rfl (Or.inl rfl)) (pgs_cons (pg_name (i := 4) nd rfl (Or.inl rfl)) (pgs_cons (pg_name (i := 5) nd rfl (Or.inl rfl)) (pgs_cons (pg_name (i := 6) nd rfl (Or.inl rfl)) pgs_nil))))))
(pss_one (ps_expr (pe_bm PySem.F.plainAttrs_list PySem.F.slot_list_append PySem.F.type_list_append mt_append (pv 1) (pa_cons (C8.pe_mk (mk_Cover T) hr (by decide) rfl (pa_cons (pv 2) (pa_cons (C8.pe_c (ok_law_condition T) hr (by decide) rfl (pa_cons (pv 3) pa_nil)) (pa_cons (pe_lc (own := [("_law_one", 7)]) (g := (gName 7)) (tt := tYes) (te := tCall (sp_law_clause K) [] C8.E0 (tCons (tVar 7) tNil)) rfl nd (pi_list (pv 4)) (blkOk_by (own := [("_law_one", 7)]) (N := N_law_book) (sc := defScope s_law_book) (by decide +kernel)) (fun _ _ _ _ _ => (pg_name (i := 7) nd rfl (Or.inl rfl))) (fun _ _ _ _ _ => pts_nil) (fun _ _ _ _ _ => (C8.pe_c (ok_law_clause T) hr (by decide) rfl (pa_cons (pv 7) pa_nil)))) (pa_cons (pe_callTy call_list_of (by rfl) T.f_list Cv.bt_list (pa_cons (pv 5) pa_nil)) (pa_cons (pv 6) pa_nil)))))) pa_nil)))))
(pss_one (ps_ret (C8.pe_mk (mk_Book T) hr (by decide) rfl (pa_cons (pv 1) pa_nil)))))), ?_⟩
  try dsimp only [cxOf, Cx.nox, Cx.wish]
  k_clsL
  k_places
  rename_i l nl H1 hS1 hl1
  k_clsL
  refine for_l (xs := xs) CvD cs (fun r σ H2 => ∃ (ys : List V) (done : List CovM) (v2 v3 v4 v5 v6 : Option V), σ = [some (.ref a), some (.ref l), v2, v3, v4, v5, v6, none] ∧ Same H H2 ∧ H2 l = some (.lst ys) ∧ Paired (CovV K (Off l H2)) ys done ∧ done ++ r = cs) ?_ ?_ ?_ ?_
  · exact ⟨[], [], none, none, none, none, none, rfl, hS1, hl1, .nil, rfl⟩
  · rintro r σ H2 ⟨ys, done, v2, v3, v4, v5, v6, rfl, hS2, hl2, hy, e⟩
    exact ⟨SqL.of (hS2.get ha), Paired.mapP hP fun _ _ q => q.same hS2⟩
  · rintro c r x σ H2 hc ⟨ys, done, v2, v3, v4, v5, v6, rfl, hS2, hl2, hy, e⟩ ⟨t, vc, p, ph, th, zs, hs, rfl, ht, hcd, hp, hcl, hph, hth, hn, hnl⟩
    obtain ⟨hno, h3, hok⟩ := hC.2.2 c hc
    have hyl : ys.length < sizeLine := by
      have := hy.length
      have : (done ++ c :: r).length = cs.length := by rw [e]
      rw [List.length_append, List.length_cons] at this
      have := hC.1
      exact sz_lt (by omega)
    k_clsL
    refine ⟨vc, c.cond, rfl, dep_lt c.cond, hcd, fun a1 H3 hS3 hc3 => ?_⟩
    k_clsL
    refine lcg_l (xs := zs) (fun H v (cl : ClM) => ClD H v cl ∧ cl.ok) c.cls (fun Hh v c => ClV K (New H2 Hh) v c) (fun c => some c) (fun S h => ClV.same (New.mono (Same.refl _) S) h) (SqL.of (hS3.get hp)) (fun H4 S => ?_) (Nat.lt_of_le_of_lt h3 (by decide)) (fun i cl x D H4 acc K1 K0 e1 nD hS hD hx k1 k0 => ?_) (fun D H4 zs2 nD hS4 hD hP2 => ?_)
    · exact clds hok (hS3.trans S) hcl
    · k_clsL
      refine ⟨x, cl, rfl, hx.1, hx.2, fun a2 H5 hS5 hv => ?_⟩
      k_clsL
      exact k1 _ cl _ rfl hS5 (ClV.off hv (hS3.trans hS) (hS5.get hD))
    rw [List.filterMap_some] at hP2
    k_clsL
    k_places
    rename_i ph2 nph2 H5 hS5 hph5
    k_clsL
    intro ac dx nac ndx nex
    have S25 := hS3.trans (hS4.trans hS5)
    have hc5 : CoV K (New H2 H5) (.ref a1) c.cond := hc3.same (New.mono (Same.refl _) (hS4.trans hS5))
    have hD5 := hS5.get hD
    have hcl5 : Paired (ClV K (New H2 H5)) zs2 c.cls := Paired.mapP hP2 fun _ _ q => q.same (New.mono (Same.refl _) hS5)
    have SN : Same H5 (upd (upd H5 dx (.own ac)) ac (.ins (He.ga K "Cover") dx [])) := But.made nac ndx (But.refl ac _)
    have S0N := (New.same H2 H5).trans SN
    refine ⟨ac, dx, c.name, _, D, zs2, ph2, th, hs, c.waits, c.cls, c.cond, rfl, upd_same, SN.get hD5, Paired.mapP hcl5 fun _ _ q => q.same S0N, hc5.same S0N, by omega, SN.get hph5, SN.get (S25.get hth), hno.name, hno.self, by have := hno.2.2; omega, hn, hnl, New H2 H5, ?_, S0N, hc5, hcl5, fun H6 B6 hv => ⟨rfl, ?_⟩⟩
    · cases e : New H2 H5 ac with
      | none => rfl
      | some u =>
        have := (New.out e).2
        rw [nac] at this
        cases this
    have S56 := But.made nac ndx B6
    have S26 := S25.trans S56
    have hl6 := S26.get hl2
    have hl5 := S25.get hl2
    have nlac : ac ≠ l := fun e => by rw [e, hl5] at nac; cases nac
    k_clsL
    refine hold ⟨ys ++ [.ref ac], done ++ [c], _, _, _, _, _, rfl, (hS2.trans S26).mut nl, upd_same, ?_, by rw [List.append_assoc]; exact e⟩
    rw [Off.upd]
    refine Paired.snoc (Paired.mapP hy fun _ _ q => q.same (Off.mono S26)) (hv _ ((New.mono (Same.refl _) S56).trans (New.off (by rw [hl2]; exact fun e => nomatch e))) (Off.ne nlac) fun b o n g => Off.at g fun e => ?_)
    rw [e, SN.get hl5] at n
    cases n
  · rintro σ H2 ⟨ys, done, v2, v3, v4, v5, v6, rfl, hS2, hl2, hy, e⟩
    rw [List.append_nil] at e
    subst e
    k_clsL
    intro b dx nb ndx nex
    have SN : Same H2 (upd (upd H2 dx (.own b)) b (.ins (He.ga K "Book") dx [])) := But.made nb ndx (But.refl b _)
    have hy2 : Paired (CovV K H2) ys done := Paired.mapP hy fun _ _ q => q.same (Off.same l H2)
    refine ⟨b, dx, l, ys, done, rfl, upd_same, SN.get hl2, Paired.mapP hy2 fun _ _ q => q.same SN, by have := hC.1; omega, hC.2.1, ⟨H2, nb, SN, hy2⟩, fun H3 B3 hb => ⟨rfl, ?_⟩⟩
    exact q b H3 (hS2.trans (But.made nb ndx B3)) hb
end
end Cv
namespace Cv
open PySem PySem.Spec
open PyProof.Rows hiding St
open L2
def LossOk (l : LossM) : Prop := okLoss (.int l.n) (.int l.d) (.str l.e) (.str l.t) (.str l.c) (.int l.m) = true ∧ TxtOk (.str l.e) ∧ l.t.length ≤ 1000 ∧ l.c.length ≤ 1000 ∧ PyData.strOk l.e = true ∧ PyData.strOk l.t = true ∧ PyData.strOk l.c = true
def LsOk (ls : List LossM) : Prop := (∀ l ∈ ls, LossOk l) ∧ (ls.map LossM.n).Nodup
theorem ClD.off {H H1 H4 : Hp} {D : Addr} {v : V} {c : ClM} {acc : List V} (h : ClD (New H1 H4) v c) (S : Same H H1) (hD : H4 D = some (.lst acc)) : ClD (New H (Off D H4)) v c := by
  cases c <;> (obtain ⟨t, e, h⟩ := h; obtain ⟨n, g⟩ := New.out h; exact ⟨t, e, New.at (S.free n) (Off.at g (ne_of hD g (fun z => nomatch z)).symm)⟩)
theorem ne_new {H : Hp} {a l : Addr} {o : HO} (n : H a = none) (h : H l = some o) : a ≠ l := fun e => by
  rw [e, h] at n
  cases n
theorem atS {xs : List Str} {i : Nat} {x : Str} (h : xs[i]? = some x) : atI (xs.map V.str) ((i : Nat) : Int) = some (.str x) := by
  have hi := (List.getElem?_eq_some_iff.mp h).1
  unfold atI ixN
  rw [if_pos (Int.natCast_nonneg _), if_pos (by rw [List.length_map]; omega)]
  show (xs.map V.str)[((i : Nat) : Int).toNat]? = _
  rw [Int.toNat_natCast, List.getElem?_map, h]
  rfl
theorem pick_all {α : Type} {R : V → ClM → Prop} : ∀ {vs : List V} {ls : List α}, Paired (fun v (_ : α) => ∃ c, R v c ∧ c.ok) vs ls → ∃ cs, Paired R vs cs ∧ (∀ c ∈ cs, c.ok) ∧ cs.length = ls.length
  | _, _, .nil => ⟨[], .nil, fun _ h => by (cases h), rfl⟩
  | _, _, .cons ⟨c, hc, ok⟩ t => by
    obtain ⟨cs, h1, h2, h3⟩ := pick_all t
    refine ⟨c :: cs, .cons hc h1, fun z hz => ?_, by rw [List.length_cons, List.length_cons, h3]⟩
    rcases List.mem_cons.mp hz with rfl | hz
    · exact ok
    · exact h2 z hz
theorem rng_of {lo hi i : Int} (h0 : lo ≤ i) (h1 : i ≤ hi) : rngB lo hi (.int i) = true := by
  show (decide _ && decide _) = true
  rw [decide_eq_true h0, decide_eq_true h1]
  rfl
theorem nodot {x : Str} (h : NameOk x) : 46 ∉ TL.tl x := fun hm => by
  have : ∀ c ∈ Lc, c ≠ 46 := by decide +kernel
  exact this 46 (h.1 46 hm) rfl
theorem ev_split {ps : List Str} (hne : ps ≠ []) (hp : ∀ p ∈ ps, NameOk p) : Txt.split (Txt.join "." ps) "." = ps := TL.split_join (s := 46) (S := []) (by decide +kernel) (by decide +kernel) hne fun p h => nodot (hp p h)
theorem lc_small : ∀ c ∈ Lc, c < 0x110000 := by decide +kernel
theorem NameOk.small {x : Str} (h : NameOk x) : PyData.strOk x = true := by
  unfold PyData.strOk
  rw [← Array.all_toList, List.all_eq_true]
  exact fun c hc => decide_eq_true (lc_small c (h.1 c hc))
theorem small_app {a b : Str} (h : PyData.strOk a = true) (h' : PyData.strOk b = true) : PyData.strOk (a ++ b) = true := by
  unfold PyData.strOk at *
  show (a.cps ++ b.cps).all _ = true
  rw [Array.all_append, h, h']
  rfl
def EvOk (e : Str) : Prop := isEventV (.str e) = true ∧ TxtOk (.str e) ∧ PyData.strOk e = true
theorem ev_of {e : Str} {ps : List Str} (he : e = Txt.join "." ps) (hl : e.length ≤ 1000) (hne : ps ≠ []) (h4 : ps.length ≤ 4) (hp : ∀ p ∈ ps, NameOk p) (hsm : PyData.strOk e = true) : EvOk e := by
  have hs := ev_split hne hp
  rw [← he] at hs
  refine ⟨?_, fun z hz => ?_, hsm⟩
  · show (!decide (4 < ((Txt.split e ".").length : Int)) && (Txt.split e ".").all nameB) = true
    rw [hs, decide_eq_false (by omega)]
    simp only [Bool.not_false, Bool.true_and, List.all_eq_true]
    exact fun p h => (hp p h).name
  · cases hz
    rw [hs]
    exact ⟨hl, fun p h => by have := (hp p h).2.2; omega⟩
theorem ev_one {x : Str} (h : NameOk x) : EvOk x := ev_of (ps := [x]) (by rw [TL.join_eq]; rfl) (by have := h.2.2; omega) (by simp) (by simp) (by simpa using h) h.small
theorem ev_two {x y : Str} (h : NameOk x) (h' : NameOk y) : EvOk (x ++ "." ++ y) := ev_of (ps := [x, y]) (by rw [TL.join_eq]; rfl) (by rw [app_len, app_len]; have := h.2.2; have := h'.2.2; have : ("." : Str).length = 1 := (by decide +kernel); omega) (by simp) (by simp) (by simp [h, h']) (small_app (small_app h.small (by decide +kernel)) h'.small)
section
variable {P : Program} {w : World} {K : PySem.W.Frag} {mg : Str → Option Value} {base : Heap}
def sp_law_covers (K : PySem.W.Frag) : Sp := fun vs H Q _ => ∃ (a : Addr) (ns : List Int) (b : Addr) (xs : List Str) (un st : Int), vs = [.ref a, .ref b, .int un, .int st] ∧ SqL K H a (ns.map V.int) ∧ H b = some (.lst (xs.map V.str)) ∧ NamesOk xs ∧ 1 ≤ un ∧ un ≤ 1000000007 ∧
  ∀ p H' ys cs, Same H H' → H p = none → H' p = some (.lst ys) → Paired (CvD H') ys cs → CvsOk cs → Q (.ref p) H'
theorem ok_law_covers (T : Txt K mg) : C8.Cal P w K mg base 3 "_law_covers" (sp_law_covers K) [] := by
  refine cal T.D_law_covers T.g__law_covers sc_law_covers (fun _ _ _ _ _ _ us hl => match us, hl with | [_, _, _, _], _ => rfl) (fun vs H Q E h => ?_) (fun cdv A outer s H vs Q E hr h => ?_)
  · obtain ⟨a, ns, b, xs, un, st, rfl, _⟩ := h
    rfl
  obtain ⟨a, ns, b, xs, un, st, rfl, ha, hb, hx, u0, u1, q⟩ := h
  have nd := (sc_law_covers).nd
  refine ⟨_, (pss_cons (ps_set (i := 4) nd rfl (Or.inl rfl) (C8.pe_c (ok_law_cell T) hr (by decide) rfl (pa_cons (pv 0) (pa_cons pe_int pa_nil))))
(pss_cons (ps_set (i := 5) nd rfl (Or.inl rfl) (C8.pe_c (ok_law_names T) hr (by decide) rfl (pa_cons (pe_op op_fdiv (pv 4) pe_int) (pa_cons pe_int pa_nil))))
(pss_cons (ps_set (i := 6) nd rfl (Or.inl rfl) (pe_lst pa_nil))
(pss_cons (ps_for PassesOwn.never rfl (pi_range1 rfl T.f_range (pa_cons (pe_ix ix_list (pe_lst (pa_cons (pe_op op_add pe_int (pe_op op_mod (pv 4) pe_int)) (pa_cons pe_int pa_nil))) (pe_callTy call_int1 (by rfl) T.f_int Cv.bt_int (pa_cons (pe_cmpR op_eq (pe_op op_mod (pe_op op_fdiv (pv 4) pe_int) pe_int) pe_int (nomark _)) pa_nil)) (fun _ _ => rfl)) pa_nil)) (pg_name (i := 7) nd rfl (Or.inl rfl))
(pss_cons (ps_set (i := 8) nd rfl (Or.inr rfl) (C8.pe_c (ok_law_cell T) hr (by decide) rfl (pa_cons (pv 0) (pa_cons (pe_op op_add pe_int (pv 7)) pa_nil))))
(pss_cons (ps_setLc (i := 9) (own := [("_law_j", 10)]) (g := (gName 10)) (tt := tYes) rfl nd rfl rfl (sw_true rfl rfl rfl (by decide +kernel)) (pi_range1 rfl T.f_range (pa_cons (pe_op op_mod (C8.pe_c (ok_law_mix T) hr (by decide) rfl (pa_cons (pv 8) (pa_cons pe_int pa_nil))) pe_int) pa_nil)) (blkOk_by (own := [("_law_j", 10)]) (N := N_law_covers) (sc := defScope s_law_covers) (by decide +kernel)) (fun _ _ _ _ _ => (pg_name (i := 10) nd rfl (Or.inl rfl))) (fun _ _ _ _ _ => pts_nil) (fun _ _ _ _ _ => (C8.pe_c (ok_law_clause_by T) hr (by decide) rfl (pa_cons (C8.pe_c (ok_law_mix T) hr (by decide) rfl (pa_cons (pv 8) (pa_cons (pe_op op_add pe_int (pv 10)) pa_nil))) (pa_cons (pv 2) pa_nil)))))
(pss_cons (ps_set (i := 11) nd rfl (Or.inl rfl) (C8.pe_c (ok_law_cond T) hr (by decide) rfl (pa_cons (C8.pe_c (ok_law_mix T) hr (by decide) rfl (pa_cons (pv 8) (pa_cons pe_int pa_nil))) (pa_cons (pv 1) (pa_cons (pv 3) (pa_cons (pv 2) pa_nil))))))
(pss_one (ps_expr (pe_bm PySem.F.plainAttrs_list PySem.F.slot_list_append PySem.F.type_list_append mt_append (pv 6) (pa_cons (pe_tup (pa_cons (pe_ix ix_list (pv 5) (pv 7) (fun _ _ => rfl)) (pa_cons (pv 11) (pa_cons (pv 9) (pa_cons (pe_lst (pa_cons (pe_tup (pa_cons (pe_ix ix_list (pv 1) (pv 7) (fun _ _ => rfl)) (pa_cons pe_int pa_nil))) pa_nil)) (pa_cons (pe_cmpR op_eq (pe_op op_mod (C8.pe_c (ok_law_mix T) hr (by decide) rfl (pa_cons (pv 8) (pa_cons pe_int pa_nil))) pe_int) pe_int (nomark _)) pa_nil)))))) pa_nil))))))))
(pss_one (ps_ret (pv 6))))))), ?_⟩
  try dsimp only [cxOf, Cx.nox, Cx.wish]
  k_clsL
  refine ⟨a, 2, ns, rfl, ha, fun hd => ?_⟩
  k_clsL
  refine ⟨hd / 64, rfl, fun tg H1 tags hS1 ntg htg htok => ?_⟩
  k_clsL
  k_places
  rename_i l nl H2 hS2 hl2
  k_clsL
  k_places
  rename_i l0 nl0 H3 hS3 hl0
  k_clsL
  refine .inr ⟨_, rfl, ?_⟩
  obtain ⟨v0, hv0, j, rfl, j0, j4⟩ := pick (xs := [V.int (1 + hd % 4), V.int 0]) (i := if decide (V.int (hd / 4 % 16) = V.int 1) = true then 1 else 0) (by split <;> decide) (by split <;> simp) (fun v => ∃ j : Int, v = .int j ∧ 0 ≤ j ∧ j ≤ 4) (by
    intro v hv
    simp only [List.mem_cons, List.not_mem_nil, or_false] at hv
    rcases hv with rfl | rfl
    · exact ⟨_, rfl, by omega, by omega⟩
    · exact ⟨_, rfl, by decide, by decide⟩)
  k_clsL
  refine for_r (m := j.toNat) (fun i σ H4 => ∃ (ys : List V) (cs : List CovM) (v7 v8 v9 v11 : Option V), σ = [some (.ref a), some (.ref b), some (.int un), some (.int st), some (.int hd), some (.ref tg), some (.ref l), v7, v8, v9, none, v11] ∧ Same H1 H4 ∧ H4 l = some (.lst ys) ∧ Paired (CvD (Off l H4)) ys cs ∧ cs.map CovM.name = tags.take i ∧ ∀ c ∈ cs, CvOk c) ?_ ?_ ?_
  · exact ⟨[], [], none, none, none, none, rfl, hS2.trans hS3, hS3.get hl2, .nil, by simp, by simp⟩
  · rintro i σ H4 hi ⟨ys, cs, v7, v8, v9, v11, rfl, hS4, hl4, hy, hcs, hok⟩
    have hi4 : i < 4 := by omega
    have S4 := hS1.trans hS4
    k_clsL
    refine ⟨a, 3 + i, ns, rfl, S4.seq ha, fun ce => ?_⟩
    k_clsL
    refine ⟨ce, 0, rfl, fun m0 H5 hS5 m00 m01 => ?_⟩
    k_clsL
    refine lcg_r (m := (m0 % 4).toNat) (fun Hh v (_ : Unit) => ∃ c, ClD (New H5 Hh) v c ∧ c.ok) (fun _ => some ()) (fun S ⟨c, h, k⟩ => ⟨c, h.same (New.mono (Same.refl _) S), k⟩) (sz_lt (by omega)) (fun k D H6 acc K1 K0 hk nD hS6 hD k1 k0 => ?_) (fun D H6 zs nD hS6 hD hP => ?_)
    · k_clsL
      refine ⟨ce, 2 + k, rfl, fun m2 H7 hS7 m20 m21 => ?_⟩
      k_clsL
      refine ⟨m2, un, rfl, u0, u1, fun v H8 c hS8 hv hc => ?_⟩
      k_clsL
      exact k1 _ () _ rfl (hS7.trans hS8) ⟨c, hv.off (hS6.trans hS7) ((hS7.trans hS8).get hD), hc⟩
    k_clsL
    refine ⟨ce, 1, rfl, fun m1 H7 hS7 m10 m11 => ?_⟩
    k_clsL
    have S17 := S4.trans (hS5.trans (hS6.trans hS7))
    refine ⟨m1, b, xs, st, un, rfl, S17.get hb, hx.1, fun vc H8 cc hS8 hcc => ?_⟩
    have S48 := hS5.trans (hS6.trans (hS7.trans hS8))
    have S68 := hS7.trans hS8
    have htg8 := (hS4.trans S48).get htg
    have hb8 := (S4.trans S48).get hb
    have hl8 := S48.get hl4
    obtain ⟨tn, htn⟩ : ∃ tn, tags[i]? = some tn := ⟨_, List.getElem?_eq_getElem (by rw [htok.1]; exact hi4)⟩
    obtain ⟨xn, hxn⟩ : ∃ xn, xs[i]? = some xn := ⟨_, List.getElem?_eq_getElem (by rw [hx.1]; exact hi4)⟩
    have gt := atS htn
    have gx := atS hxn
    k_clsL
    k_places
    rename_i th nth H9 hS9 hth
    k_clsL
    k_places
    rename_i ph nph H10 hS10 hph
    k_clsL
    refine ⟨ce, 6, rfl, fun m6 H11 hS11 m60 m61 => ?_⟩
    k_clsL
    k_places
    rename_i t nt H12 hS12 ht
    have S812 := hS9.trans (hS10.trans (hS11.trans hS12))
    have hl12 := S812.get hl8
    have hyl : ys.length < sizeLine := by
      have e1 := hy.length
      have e2 := congrArg List.length hcs
      rw [List.length_map, List.length_take] at e2
      exact sz_lt (by omega)
    k_clsL
    obtain ⟨cls, hcls, hcok, hcl⟩ := pick_all hP
    have hx1 := hx.2.2 xn (List.mem_of_getElem? hxn)
    refine hold ⟨ys ++ [.ref t], cs ++ [⟨tn, cc, cls, decide (V.int (m6 % 4) = V.int 1)⟩], _, _, _, _, rfl, (hS4.trans (S48.trans S812)).mut nl, upd_same, ?_, ?_, ?_⟩
    · rw [Off.upd]
      have SO : Same (New H4 H12) (Off l H12) := New.off (by rw [hl4]; exact fun e => nomatch e)
      refine Paired.snoc (Paired.mapP hy fun _ _ q => q.same (Off.mono (S48.trans S812))) ⟨t, vc, D, ph, th, zs, xn, rfl, Off.at ht (ne_new nt ((hS9.trans (hS10.trans hS11)).get hl8)), hcc.same ((New.mono (hS5.trans (hS6.trans hS7)) S812).trans SO), Off.at ((S68.trans S812).get hD) (ne_new nD (hS5.get hl4)), Paired.mapP hcls fun _ _ q => q.same ((New.mono hS5 (S68.trans S812)).trans SO), Off.at ((hS11.trans hS12).get hph) (ne_new nph (hS9.get hl8)), Off.at ((hS10.trans (hS11.trans hS12)).get hth) (ne_new nth hl8), hx1.name, by have := hx1.2.2; omega⟩
    · rw [List.map_append, hcs, List.take_add_one, htn]
      rfl
    · intro z hz
      rcases List.mem_append.mp hz with h | h
      · exact hok z h
      · rw [List.mem_singleton.mp h]
        refine ⟨htok.2.2 tn (List.mem_of_getElem? htn), ?_, hcok⟩
        show cls.length ≤ 3
        rw [hcl, List.filterMap_eq_map' (f := fun _ => ()), List.length_map, List.length_range]
        omega
  · rintro σ H4 ⟨ys, cs, v7, v8, v9, v11, rfl, hS4, hl4, hy, hcs, hok⟩
    k_clsL
    refine q l H4 ys cs (hS1.trans hS4) (hS1.free nl) hl4 (Paired.mapP hy fun _ _ q => q.same (Off.same l H4)) ⟨?_, ?_, hok⟩
    · have e2 := congrArg List.length hcs
      rw [List.length_map, List.length_take] at e2
      omega
    · rw [hcs]
      exact htok.2.1.sublist (List.take_sublist _ _)
def sp_law_losses (K : PySem.W.Frag) : Sp := fun vs H Q _ => ∃ (a : Addr) (ns : List Int) (b : Addr) (xs : List Str) (un st : Int), vs = [.ref a, .ref b, .int un, .int st] ∧ SqL K H a (ns.map V.int) ∧ ns.length ≤ 35 ∧ H b = some (.lst (xs.map V.str)) ∧ NamesOk xs ∧ 1 ≤ un ∧ un ≤ 1000000007 ∧ 0 ≤ st ∧ st ≤ 999995 ∧
  ∀ p H' ys ls, Same H H' → H p = none → H' p = some (.lst ys) → Paired (LossV H') ys ls → LsOk ls → ls.length = ns.length → Q (.ref p) H'
theorem ok_law_losses (T : Txt K mg) : C8.Cal P w K mg base 2 "_law_losses" (sp_law_losses K) [] := by
  refine cal T.D_law_losses T.g__law_losses sc_law_losses (fun _ _ _ _ _ _ us hl => match us, hl with | [_, _, _, _], _ => rfl) (fun vs H Q E h => ?_) (fun cdv A outer s H vs Q E hr h => ?_)
  · obtain ⟨a, ns, b, xs, un, st, rfl, _⟩ := h
    rfl
  obtain ⟨a, ns, b, xs, un, st, rfl, ha, hn, hb, hx, u0, u1, s0, s1, q⟩ := h
  have nd := (sc_law_losses).nd
  refine ⟨_, (pss_cons (ps_set (i := 4) nd rfl (Or.inl rfl) (pe_lst pa_nil))
(pss_cons (ps_for PassesOwn.never rfl (pi_enum (by rfl) T.f_enumerate (pa_cons (pv 0) pa_nil)) (pg_tup rfl (pgs_cons (pg_name (i := 5) nd rfl (Or.inl rfl)) (pgs_cons (pg_name (i := 6) nd rfl (Or.inl rfl)) pgs_nil)))
(pss_cons (ps_set (i := 7) nd rfl (Or.inl rfl) (pe_ix ix_list (pv 1) (pe_op op_mod (C8.pe_c (ok_law_mix T) hr (by decide) rfl (pa_cons (pv 6) (pa_cons pe_int pa_nil))) pe_int) (fun _ _ => rfl)))
(C8.pss_cut (ps_if (pt_cmpR op_eq (pe_op op_mod (C8.pe_c (ok_law_mix T) hr (by decide) rfl (pa_cons (pv 6) (pa_cons pe_int pa_nil))) pe_int) pe_int (nomark _))
(pss_one (ps_set (i := 7) nd rfl (Or.inl rfl) (pe_op op_add_str (pe_op op_add_str (pv 7) pe_str) (pe_ix ix_list (pv 1) (pe_op op_mod (C8.pe_c (ok_law_mix T) hr (by decide) rfl (pa_cons (pv 6) (pa_cons pe_int pa_nil))) pe_int) (fun _ _ => rfl)))))
pss_nil)
(pss_cons (ps_set (i := 8) nd rfl (Or.inl rfl) (pe_op op_add (pv 3) (pe_op op_mod (C8.pe_c (ok_law_mix T) hr (by decide) rfl (pa_cons (pv 6) (pa_cons pe_int pa_nil))) pe_int)))
(pss_cons (ps_set (i := 9) nd rfl (Or.inl rfl) (pe_op op_add (pe_op op_add pe_int (pe_op op_mul (pe_op op_mod (C8.pe_c (ok_law_mix T) hr (by decide) rfl (pa_cons (pv 6) (pa_cons pe_int pa_nil))) pe_int) (pv 2))) (pe_op op_mod (C8.pe_c (ok_law_mix T) hr (by decide) rfl (pa_cons (pv 6) (pa_cons pe_int pa_nil))) pe_int)))
(pss_cons (ps_set (i := 10) nd rfl (Or.inl rfl) (pe_ix ix_list (pv 1) (pe_op op_mod (C8.pe_c (ok_law_mix T) hr (by decide) rfl (pa_cons (pv 6) (pa_cons pe_int pa_nil))) pe_int) (fun _ _ => rfl)))
(pss_one (ps_expr (pe_bm PySem.F.plainAttrs_list PySem.F.slot_list_append PySem.F.type_list_append mt_append (pv 4) (pa_cons (pe_tup (pa_cons (pe_op op_add (pe_op op_mul (pe_op op_mod (pv 6) pe_int) pe_int) (pv 5)) (pa_cons (pv 8) (pa_cons (pv 7) (pa_cons (pv 10) (pa_cons (pe_ix ix_list (pv 1) (pe_op op_mod (C8.pe_c (ok_law_mix T) hr (by decide) rfl (pa_cons (pv 6) (pa_cons pe_int pa_nil))) pe_int) (fun _ _ => rfl)) (pa_cons (pv 9) pa_nil))))))) pa_nil))))))))))
(pss_one (ps_ret (pv 4))))), ?_⟩
  try dsimp only [cxOf, Cx.nox, Cx.wish]
  k_clsL
  k_places
  rename_i l nl H2 hS2 hl2
  k_clsL
  have dl : (Str.ofString ".").length = 1 := by decide +kernel
  have pk : ∀ m : Int, ∃ v, atI (xs.map V.str) (m % 4) = some v ∧ ∃ x : Str, v = .str x ∧ NameOk x := fun m => pick (by omega) (by rw [List.length_map, hx.1]; omega) _ fun v hv => by
    obtain ⟨x, hx2, rfl⟩ := List.mem_map.mp hv
    exact ⟨x, rfl, hx.2.2 x hx2⟩
  refine for_e (xs := ns.map V.int) (fun _ v (n : Int) => v = .int n) ns (fun i r σ H3 => ∃ (ys : List V) (ls : List LossM) (v5 v6 v7 v8 v9 v10 : Option V), σ = [some (.ref a), some (.ref b), some (.int un), some (.int st), some (.ref l), v5, v6, v7, v8, v9, v10] ∧ Same H H3 ∧ H3 l = some (.lst ys) ∧ Paired (LossV H3) ys ls ∧ ls.length = i ∧ (∀ x ∈ ls, LossOk x ∧ x.n % 64 < i) ∧ (ls.map LossM.n).Nodup) ?_ ?_ ?_ ?_
  · exact ⟨[], [], none, none, none, none, none, none, rfl, hS2, hl2, .nil, rfl, by simp, by simp⟩
  · rintro i r σ H3 ⟨ys, ls, v5, v6, v7, v8, v9, v10, rfl, hS3, hl3, hy, _⟩
    exact ⟨hS3.seq ha, Pa.ints ns⟩
  · rintro i c r x T2 σ H3 H4 e1 e2 ⟨ys, ls, v5, v6, v7, v8, v9, v10, rfl, hS3, hl3, hy, hln, hall, hnd⟩ rfl nT hS4 hT hU
    have hi : i < 35 := by
      have := (List.getElem?_eq_some_iff.mp e1).1
      omega
    k_clsL
    refine ⟨c, 1, rfl, fun m1 H5 hS5 m10 m11 => ?_⟩
    have hb5 := (hS3.trans (hS4.trans hS5)).get hb
    obtain ⟨_, g1, x1, rfl, hx1⟩ := pk m1
    k_clsL
    refine rd_cut (fun s H6 => ∃ ev, s = [some (.ref a), some (.ref b), some (.int un), some (.int st), some (.ref l), some (.int (i : Nat)), some (.int c), some (.str ev), v8, v9, v10] ∧ Same H5 H6 ∧ EvOk ev) ?_ ?_
    · k_clsL
      refine ⟨c, 6, rfl, fun m6 H6 hS6 m60 m61 => ?_⟩
      k_clsL
      refine ifd (fun c1 => ?_) (fun c1 => ?_)
      · k_clsL
        refine ⟨by rw [dl]; exact sz_lit' (by have := hx1.2.2; omega), ?_⟩
        k_clsL
        refine ⟨c, 7, rfl, fun m7 H7 hS7 m70 m71 => ?_⟩
        have hb7 := (hS6.trans hS7).get hb5
        obtain ⟨_, g2, x2, rfl, hx2⟩ := pk m7
        k_clsL
        refine ⟨by rw [app_len, dl]; exact sz_lit' (by have := hx1.2.2; have := hx2.2.2; omega), ?_⟩
        k_clsL
        exact hold ⟨_, rfl, hS6.trans hS7, ev_two hx1 hx2⟩
      · k_clsL
        exact hold ⟨x1, rfl, hS6, ev_one hx1⟩
    rintro _ H6 ⟨ev, rfl, hS6, hev⟩
    k_clsL
    refine ⟨c, 0, rfl, fun m0 H7 hS7 m00 m01 => ?_⟩
    k_clsL
    refine ⟨c, 4, rfl, fun m4 H8 hS8 m40 m41 => ?_⟩
    k_clsL
    refine ⟨c, 5, rfl, fun m5 H9 hS9 m50 m51 => ?_⟩
    k_clsL
    refine ⟨c, 2, rfl, fun m2 H10 hS10 m20 m21 => ?_⟩
    have S5a := hS6.trans (hS7.trans (hS8.trans (hS9.trans hS10)))
    have hb10 := S5a.get hb5
    have hl10 := (hS4.trans (hS5.trans S5a)).get hl3
    obtain ⟨_, g3, x3, rfl, hx3⟩ := pk m2
    k_clsL
    refine ⟨c, 3, rfl, fun m3 H11 hS11 m30 m31 => ?_⟩
    have hb11 := hS11.get hb10
    obtain ⟨_, g4, x4, rfl, hx4⟩ := pk m3
    k_clsL
    k_places
    rename_i t nt H12 hS12 ht
    have S3z := hS4.trans (hS5.trans (S5a.trans (hS11.trans hS12)))
    have hl12 := S3z.get hl3
    have hyl : ys.length < sizeLine := by
      have e1 := hy.length
      exact sz_lt (by omega)
    k_clsL
    have r4 := mul_rng (a := m4 % 40) (n := 39) (by omega) (by omega) u0 u1
    have tk : TK H3 (upd H12 l (.lst (ys ++ [.ref t]))) := S3z.tk.lst hl12
    refine hold ⟨ys ++ [.ref t], ls ++ [⟨c % 15625000 * 64 + (i : Nat), st + m0 % 6, ev, x3, x4, 1 + m4 % 40 * un + m5 % 3⟩], _, _, _, _, _, _, rfl, (hS3.trans S3z).mut nl, upd_same, ?_, by rw [List.length_append, hln]; rfl, ?_, ?_⟩
    · refine Paired.snoc (Paired.mapP hy fun _ _ q => q.tk tk) ⟨t, rfl, ?_⟩
      rw [upd_ne (ne_of ht hl12 (fun z => nomatch z))]
      exact ht
    · intro x hx0
      rcases List.mem_append.mp hx0 with h | h
      · exact ⟨(hall x h).1, by have := (hall x h).2; omega⟩
      · rw [List.mem_singleton.mp h]
        refine ⟨⟨?_, hev.2.1, by have := hx3.2.2; show x3.length ≤ 1000; omega, by have := hx4.2.2; show x4.length ≤ 1000; omega, hev.2.2, hx3.small, hx4.small⟩, ?_⟩
        · unfold okLoss
          simp only [Bool.and_eq_true]
          refine ⟨⟨⟨⟨rng_of (by omega) (by omega), rng_of (by omega) (by omega)⟩, hev.1⟩, hx3.name, hx4.name⟩, rng_of (by omega) (by omega)⟩
        · show (c % 15625000 * 64 + ((i : Nat) : Int)) % 64 < ((i + 1 : Nat) : Int)
          omega
    · rw [List.map_append, List.nodup_append]
      refine ⟨hnd, by simp, fun u hu v hv => ?_⟩
      obtain ⟨z, hz, rfl⟩ := List.mem_map.mp hu
      have h1 := (hall z hz).2
      have h2 : v = c % 15625000 * 64 + ((i : Nat) : Int) := by simpa using hv
      omega
  · rintro σ H3 ⟨ys, ls, v5, v6, v7, v8, v9, v10, rfl, hS3, hl3, hy, hln, hall, hnd⟩
    k_clsL
    exact q l H3 ys ls hS3 nl hl3 hy ⟨fun x h => (hall x h).1, hnd⟩ hln
end
end Cv
namespace Cv
open PySem PySem.Spec
open PyProof.Rows hiding St
open L2
/-! ### the kinds of what is refused -/
inductive Xc where
  | entry
  | twice (n : Int)
  | late (n : Int)
  | nottold
def Xc.word : Xc → Str
  | .entry => "entry"
  | .twice _ => "twice"
  | .late _ => "late"
  | .nottold => "not told"
def Xc.val : Xc → Int
  | .entry => 0
  | .twice n => n
  | .late n => n
  | .nottold => 0
def XcV (K : PySem.W.Frag) (H : Hp) (cls : Value) (d : Option Addr) : Xc → Prop
  | .entry => cls = .ref (He.ga K "NoEntry") ∧ d = none
  | .twice n => cls = .ref (He.ga K "Twice") ∧ ∃ dd, d = some dd ∧ H dd = some (.xd [("number", .int n)])
  | .late n => cls = .ref (He.ga K "Late") ∧ ∃ dd, d = some dd ∧ H dd = some (.xd [("day", .int n)])
  | .nottold => cls = .ref (He.ga K "NotTold") ∧ d = none
section
variable {P : Program} {w : World} {K : PySem.W.Frag} {mg : Str → Option Value} {base : Heap}
theorem xc_of_NoEntry (T : Txt K mg) : ExcC K (He.ga K "NoEntry") := ⟨T.xg_NoEntry, T.xk_NoEntry, T.sb_NoEntry, T.xd_NoEntry, T.xa_NoEntry, T.oc, T.ot, T.xm_NoEntry⟩
theorem xc_of_Twice (T : Txt K mg) : ExcC K (He.ga K "Twice") := ⟨T.xg_Twice, T.xk_Twice, T.sb_Twice, T.xd_Twice, T.xa_Twice, T.oc, T.ot, T.xm_Twice⟩
theorem xc_of_Late (T : Txt K mg) : ExcC K (He.ga K "Late") := ⟨T.xg_Late, T.xk_Late, T.sb_Late, T.xd_Late, T.xa_Late, T.oc, T.ot, T.xm_Late⟩
theorem xc_of_NotTold (T : Txt K mg) : ExcC K (He.ga K "NotTold") := ⟨T.xg_NotTold, T.xk_NotTold, T.sb_NotTold, T.xd_NotTold, T.xa_NotTold, T.oc, T.ot, T.xm_NotTold⟩
def sp_law_kind (K : PySem.W.Frag) (a : Addr) (cls : Value) (d : Option Addr) : Sp := fun vs H Q _ => ∃ x : Xc, vs = [.ref a] ∧ XcV K H cls d x ∧ ∀ p H', Same H H' → H p = none → H' p = some (.tup [.str x.word, .int x.val]) → Q (.ref p) H'
theorem fn_law_kind (T : Txt K mg) : ∃ fd, FnE P w K mg base 1 (He.ga K "_law_kind") fd P_law_kind (sp_law_kind K) ∧ Binds K fd P_law_kind [] ∧ PySem.W.keepIn K (.ref (He.ga K "_law_kind")) = true := by
  obtain ⟨fd, F⟩ := T.D_law_kind
  refine ⟨fd, fnE F sc_law_kind (fun a c d vs H Q E h => ?_) (fun cdv A outer s H vs Q E a o cls d hz hf hr h => ?_), F.bindsN (fun _ _ _ _ _ _ us hl => match us, hl with | [_], _ => rfl), F.kp⟩
  · obtain ⟨x, rfl, _⟩ := h
    rfl
  obtain ⟨x, rfl, hx, q⟩ := h
  have nd := (sc_law_kind).nd
  cases x with
  | entry =>
    obtain ⟨rfl, rfl⟩ := hx
    have hd : (none : Option Addr) = none ∨ ∃ dd fs, (none : Option Addr) = some dd ∧ H dd = some (.xd fs) := .inl rfl
    have hX := xc_of_NoEntry T
    refine ⟨_, (pss_cons (ps_set (i := 1) nd rfl (Or.inl rfl) (pe_lst (pa_cons (pe_callB (Cv.call_isP List.mem_cons_self) (by rfl) T.f_isinstance Cv.bb_isinstance (pa_cons (pv 0) (pa_cons (C8.pe_gc rfl T.c_NoEntry) pa_nil))) (pa_cons (pe_callB (Cv.call_isP List.mem_cons_self) (by rfl) T.f_isinstance Cv.bb_isinstance (pa_cons (pv 0) (pa_cons (C8.pe_gc rfl T.c_Twice) pa_nil))) (pa_cons (pe_callB (Cv.call_isP List.mem_cons_self) (by rfl) T.f_isinstance Cv.bb_isinstance (pa_cons (pv 0) (pa_cons (C8.pe_gc rfl T.c_Late) pa_nil))) (pa_cons (pe_callB (Cv.call_isP List.mem_cons_self) (by rfl) T.f_isinstance Cv.bb_isinstance (pa_cons (pv 0) (pa_cons (C8.pe_gc rfl T.c_NotTold) pa_nil))) pa_nil))))))
(pss_cons (ps_if (PW.pt (pw_or (pt_not (pt_val (pe_callB (Cv.call_isP List.mem_cons_self) (by rfl) T.f_isinstance Cv.bb_isinstance (pa_cons (pv 0) (pa_cons (pe_bltn (v := .ty "ValueError") rfl T.f_ValueError Cv.bt_ValueError rfl) pa_nil))))) (pw_or (pt_val (pe_callB (Cv.call_isP List.mem_cons_self) (by rfl) T.f_isinstance Cv.bb_isinstance (pa_cons (pv 0) (pa_cons (C8.pe_gc rfl T.c_NoBook) pa_nil)))) (pw_or1 (pt_cmpR op_ne (pe_bm PySem.F.plainAttrs_list PySem.F.slot_list_count PySem.F.type_list_count Cv.mt_countB (pv 1) (pa_cons pe_bl pa_nil)) pe_int (nomark _))))))
(pss_one (ps_ret (pe_tup (pa_cons pe_str (pa_cons pe_int pa_nil)))))
pss_nil)
(pss_cons (ps_if (pt_val (pe_callB (Cv.call_isP List.mem_cons_self) (by rfl) T.f_isinstance Cv.bb_isinstance (pa_cons (pv 0) (pa_cons (C8.pe_gc rfl T.c_Twice) pa_nil))))
(pss_one (ps_ret (pe_tup (pa_cons pe_str (pa_cons (Cv.pe_xp List.mem_cons_self (pv 0)) pa_nil)))))
pss_nil)
(pss_cons (ps_if (pt_val (pe_callB (Cv.call_isP List.mem_cons_self) (by rfl) T.f_isinstance Cv.bb_isinstance (pa_cons (pv 0) (pa_cons (C8.pe_gc rfl T.c_Late) pa_nil))))
(pss_one (ps_ret (pe_tup (pa_cons pe_str (pa_cons (Cv.pe_xp List.mem_cons_self (pv 0)) pa_nil)))))
pss_nil)
(pss_one (ps_ret (pe_tup (pa_cons (pe_ix ix_list (pe_lst (pa_cons pe_str (pa_cons pe_str (pa_cons pe_str (pa_cons pe_str pa_nil))))) (pe_bm PySem.F.plainAttrs_list PySem.F.slot_list_index PySem.F.type_list_index mt_index (pv 1) (pa_cons pe_bl pa_nil)) (fun _ _ => rfl)) (pa_cons pe_int pa_nil))))))))), ?_⟩
    try dsimp only [L2H.cxH, cxOf, Cx.nox, Cx.wish]
    k_clsL
    refine ⟨_, _, _, _, _, rfl, hz, hf, hd, hX, fun _ e => e, T.xi_NoEntry_NoEntry, ?_⟩
    k_clsL
    refine ⟨_, _, _, _, _, rfl, hz, hf, hd, hX, fun _ e => e, T.xi_Twice_NoEntry, ?_⟩
    k_clsL
    refine ⟨_, _, _, _, _, rfl, hz, hf, hd, hX, fun _ e => e, T.xi_Late_NoEntry, ?_⟩
    k_clsL
    refine ⟨_, _, _, _, _, rfl, hz, hf, hd, hX, fun _ e => e, T.xi_NotTold_NoEntry, ?_⟩
    k_clsL
    k_places
    rename_i l nl H1 hS1 hl1
    have hd1 : (none : Option Addr) = none ∨ ∃ dd fs, (none : Option Addr) = some dd ∧ H1 dd = some (.xd fs) := .inl rfl
    k_clsL
    refine ⟨_, _, _, _, _, rfl, hz, hf, hd1, hX, fun _ e => e, T.xv_NoEntry, ?_⟩
    k_clsL
    refine ⟨_, _, _, _, _, rfl, hz, hf, hd1, hX, fun _ e => e, T.xi_NoBook_NoEntry, ?_⟩
    k_clsL
    refine ⟨l, _, .bl true, rfl, rfl, SqL.of hl1, rfl, rfl, ?_⟩
    k_clsL
    refine ifnd (fun e => absurd rfl e) (fun _ => ?_)
    k_clsL
    refine ⟨_, _, _, _, _, rfl, hz, hf, hd1, hX, fun _ e => e, T.xi_Twice_NoEntry, ?_⟩
    k_clsL
    refine ⟨_, _, _, _, _, rfl, hz, hf, hd1, hX, fun _ e => e, T.xi_Late_NoEntry, ?_⟩
    k_clsL
    k_places
    rename_i l2 nl2 H2 hS2 hl2
    k_clsL
    refine ⟨l, _, .bl true, 0, .bl true, rfl, rfl, SqL.of (hS2.get hl1), rfl, rfl, rfl, rfl, fun m z hm hz => ?_, ?_⟩
    · exact absurd hm (Nat.not_lt_zero _)
    k_clsL
    k_places
    rename_i t nt H3 hS3 ht
    exact q t H3 (hS1.trans (hS2.trans hS3)) (hS1.free (hS2.free nt)) ht
  | twice n =>
    obtain ⟨rfl, dd, rfl, hdd⟩ := hx
    have hd : some dd = none ∨ ∃ dd2 fs, some dd = some dd2 ∧ H dd2 = some (.xd fs) := .inr ⟨dd, _, rfl, hdd⟩
    have hX := xc_of_Twice T
    refine ⟨_, (pss_cons (ps_set (i := 1) nd rfl (Or.inl rfl) (pe_lst (pa_cons (pe_callB (Cv.call_isP List.mem_cons_self) (by rfl) T.f_isinstance Cv.bb_isinstance (pa_cons (pv 0) (pa_cons (C8.pe_gc rfl T.c_NoEntry) pa_nil))) (pa_cons (pe_callB (Cv.call_isP List.mem_cons_self) (by rfl) T.f_isinstance Cv.bb_isinstance (pa_cons (pv 0) (pa_cons (C8.pe_gc rfl T.c_Twice) pa_nil))) (pa_cons (pe_callB (Cv.call_isP List.mem_cons_self) (by rfl) T.f_isinstance Cv.bb_isinstance (pa_cons (pv 0) (pa_cons (C8.pe_gc rfl T.c_Late) pa_nil))) (pa_cons (pe_callB (Cv.call_isP List.mem_cons_self) (by rfl) T.f_isinstance Cv.bb_isinstance (pa_cons (pv 0) (pa_cons (C8.pe_gc rfl T.c_NotTold) pa_nil))) pa_nil))))))
(pss_cons (ps_if (PW.pt (pw_or (pt_not (pt_val (pe_callB (Cv.call_isP List.mem_cons_self) (by rfl) T.f_isinstance Cv.bb_isinstance (pa_cons (pv 0) (pa_cons (pe_bltn (v := .ty "ValueError") rfl T.f_ValueError Cv.bt_ValueError rfl) pa_nil))))) (pw_or (pt_val (pe_callB (Cv.call_isP List.mem_cons_self) (by rfl) T.f_isinstance Cv.bb_isinstance (pa_cons (pv 0) (pa_cons (C8.pe_gc rfl T.c_NoBook) pa_nil)))) (pw_or1 (pt_cmpR op_ne (pe_bm PySem.F.plainAttrs_list PySem.F.slot_list_count PySem.F.type_list_count Cv.mt_countB (pv 1) (pa_cons pe_bl pa_nil)) pe_int (nomark _))))))
(pss_one (ps_ret (pe_tup (pa_cons pe_str (pa_cons pe_int pa_nil)))))
pss_nil)
(pss_cons (ps_if (pt_val (pe_callB (Cv.call_isP List.mem_cons_self) (by rfl) T.f_isinstance Cv.bb_isinstance (pa_cons (pv 0) (pa_cons (C8.pe_gc rfl T.c_Twice) pa_nil))))
(pss_one (ps_ret (pe_tup (pa_cons pe_str (pa_cons (Cv.pe_xp List.mem_cons_self (pv 0)) pa_nil)))))
pss_nil)
(pss_cons (ps_if (pt_val (pe_callB (Cv.call_isP List.mem_cons_self) (by rfl) T.f_isinstance Cv.bb_isinstance (pa_cons (pv 0) (pa_cons (C8.pe_gc rfl T.c_Late) pa_nil))))
(pss_one (ps_ret (pe_tup (pa_cons pe_str (pa_cons (Cv.pe_xp List.mem_cons_self (pv 0)) pa_nil)))))
pss_nil)
(pss_one (ps_ret (pe_tup (pa_cons (pe_ix ix_list (pe_lst (pa_cons pe_str (pa_cons pe_str (pa_cons pe_str (pa_cons pe_str pa_nil))))) (pe_bm PySem.F.plainAttrs_list PySem.F.slot_list_index PySem.F.type_list_index mt_index (pv 1) (pa_cons pe_bl pa_nil)) (fun _ _ => rfl)) (pa_cons pe_int pa_nil))))))))), ?_⟩
    try dsimp only [L2H.cxH, cxOf, Cx.nox, Cx.wish]
    k_clsL
    refine ⟨_, _, _, _, _, rfl, hz, hf, hd, hX, fun _ e => e, T.xi_NoEntry_Twice, ?_⟩
    k_clsL
    refine ⟨_, _, _, _, _, rfl, hz, hf, hd, hX, fun _ e => e, T.xi_Twice_Twice, ?_⟩
    k_clsL
    refine ⟨_, _, _, _, _, rfl, hz, hf, hd, hX, fun _ e => e, T.xi_Late_Twice, ?_⟩
    k_clsL
    refine ⟨_, _, _, _, _, rfl, hz, hf, hd, hX, fun _ e => e, T.xi_NotTold_Twice, ?_⟩
    k_clsL
    k_places
    rename_i l nl H1 hS1 hl1
    have hdd1 := hS1.get hdd
    have hd1 : some dd = none ∨ ∃ dd2 fs, some dd = some dd2 ∧ H1 dd2 = some (.xd fs) := .inr ⟨dd, _, rfl, hdd1⟩
    k_clsL
    refine ⟨_, _, _, _, _, rfl, hz, hf, hd1, hX, fun _ e => e, T.xv_Twice, ?_⟩
    k_clsL
    refine ⟨_, _, _, _, _, rfl, hz, hf, hd1, hX, fun _ e => e, T.xi_NoBook_Twice, ?_⟩
    k_clsL
    refine ⟨l, _, .bl true, rfl, rfl, SqL.of hl1, rfl, rfl, ?_⟩
    k_clsL
    refine ifnd (fun e => absurd rfl e) (fun _ => ?_)
    k_clsL
    refine ⟨_, _, _, _, _, rfl, hz, hf, hd1, hX, fun _ e => e, T.xi_Twice_Twice, ?_⟩
    k_clsL
    refine ⟨_, rfl, rfl, _, dd, _, .int n, hz, hf, ⟨T.xg_Twice, T.xk_Twice, T.sb_Twice, T.xd_Twice⟩, T.xn_Twice, hdd1, rfl, ?_⟩
    k_clsL
    k_places
    rename_i t nt H2 hS2 ht
    exact q t H2 (hS1.trans hS2) (hS1.free nt) ht
  | late n =>
    obtain ⟨rfl, dd, rfl, hdd⟩ := hx
    have hd : some dd = none ∨ ∃ dd2 fs, some dd = some dd2 ∧ H dd2 = some (.xd fs) := .inr ⟨dd, _, rfl, hdd⟩
    have hX := xc_of_Late T
    refine ⟨_, (pss_cons (ps_set (i := 1) nd rfl (Or.inl rfl) (pe_lst (pa_cons (pe_callB (Cv.call_isP List.mem_cons_self) (by rfl) T.f_isinstance Cv.bb_isinstance (pa_cons (pv 0) (pa_cons (C8.pe_gc rfl T.c_NoEntry) pa_nil))) (pa_cons (pe_callB (Cv.call_isP List.mem_cons_self) (by rfl) T.f_isinstance Cv.bb_isinstance (pa_cons (pv 0) (pa_cons (C8.pe_gc rfl T.c_Twice) pa_nil))) (pa_cons (pe_callB (Cv.call_isP List.mem_cons_self) (by rfl) T.f_isinstance Cv.bb_isinstance (pa_cons (pv 0) (pa_cons (C8.pe_gc rfl T.c_Late) pa_nil))) (pa_cons (pe_callB (Cv.call_isP List.mem_cons_self) (by rfl) T.f_isinstance Cv.bb_isinstance (pa_cons (pv 0) (pa_cons (C8.pe_gc rfl T.c_NotTold) pa_nil))) pa_nil))))))
(pss_cons (ps_if (PW.pt (pw_or (pt_not (pt_val (pe_callB (Cv.call_isP List.mem_cons_self) (by rfl) T.f_isinstance Cv.bb_isinstance (pa_cons (pv 0) (pa_cons (pe_bltn (v := .ty "ValueError") rfl T.f_ValueError Cv.bt_ValueError rfl) pa_nil))))) (pw_or (pt_val (pe_callB (Cv.call_isP List.mem_cons_self) (by rfl) T.f_isinstance Cv.bb_isinstance (pa_cons (pv 0) (pa_cons (C8.pe_gc rfl T.c_NoBook) pa_nil)))) (pw_or1 (pt_cmpR op_ne (pe_bm PySem.F.plainAttrs_list PySem.F.slot_list_count PySem.F.type_list_count Cv.mt_countB (pv 1) (pa_cons pe_bl pa_nil)) pe_int (nomark _))))))
(pss_one (ps_ret (pe_tup (pa_cons pe_str (pa_cons pe_int pa_nil)))))
pss_nil)
(pss_cons (ps_if (pt_val (pe_callB (Cv.call_isP List.mem_cons_self) (by rfl) T.f_isinstance Cv.bb_isinstance (pa_cons (pv 0) (pa_cons (C8.pe_gc rfl T.c_Twice) pa_nil))))
(pss_one (ps_ret (pe_tup (pa_cons pe_str (pa_cons (Cv.pe_xp List.mem_cons_self (pv 0)) pa_nil)))))
pss_nil)
(pss_cons (ps_if (pt_val (pe_callB (Cv.call_isP List.mem_cons_self) (by rfl) T.f_isinstance Cv.bb_isinstance (pa_cons (pv 0) (pa_cons (C8.pe_gc rfl T.c_Late) pa_nil))))
(pss_one (ps_ret (pe_tup (pa_cons pe_str (pa_cons (Cv.pe_xp List.mem_cons_self (pv 0)) pa_nil)))))
pss_nil)
(pss_one (ps_ret (pe_tup (pa_cons (pe_ix ix_list (pe_lst (pa_cons pe_str (pa_cons pe_str (pa_cons pe_str (pa_cons pe_str pa_nil))))) (pe_bm PySem.F.plainAttrs_list PySem.F.slot_list_index PySem.F.type_list_index mt_index (pv 1) (pa_cons pe_bl pa_nil)) (fun _ _ => rfl)) (pa_cons pe_int pa_nil))))))))), ?_⟩
    try dsimp only [L2H.cxH, cxOf, Cx.nox, Cx.wish]
    k_clsL
    refine ⟨_, _, _, _, _, rfl, hz, hf, hd, hX, fun _ e => e, T.xi_NoEntry_Late, ?_⟩
    k_clsL
    refine ⟨_, _, _, _, _, rfl, hz, hf, hd, hX, fun _ e => e, T.xi_Twice_Late, ?_⟩
    k_clsL
    refine ⟨_, _, _, _, _, rfl, hz, hf, hd, hX, fun _ e => e, T.xi_Late_Late, ?_⟩
    k_clsL
    refine ⟨_, _, _, _, _, rfl, hz, hf, hd, hX, fun _ e => e, T.xi_NotTold_Late, ?_⟩
    k_clsL
    k_places
    rename_i l nl H1 hS1 hl1
    have hdd1 := hS1.get hdd
    have hd1 : some dd = none ∨ ∃ dd2 fs, some dd = some dd2 ∧ H1 dd2 = some (.xd fs) := .inr ⟨dd, _, rfl, hdd1⟩
    k_clsL
    refine ⟨_, _, _, _, _, rfl, hz, hf, hd1, hX, fun _ e => e, T.xv_Late, ?_⟩
    k_clsL
    refine ⟨_, _, _, _, _, rfl, hz, hf, hd1, hX, fun _ e => e, T.xi_NoBook_Late, ?_⟩
    k_clsL
    refine ⟨l, _, .bl true, rfl, rfl, SqL.of hl1, rfl, rfl, ?_⟩
    k_clsL
    refine ifnd (fun e => absurd rfl e) (fun _ => ?_)
    k_clsL
    refine ⟨_, _, _, _, _, rfl, hz, hf, hd1, hX, fun _ e => e, T.xi_Twice_Late, ?_⟩
    k_clsL
    refine ⟨_, _, _, _, _, rfl, hz, hf, hd1, hX, fun _ e => e, T.xi_Late_Late, ?_⟩
    k_clsL
    refine ⟨_, rfl, rfl, _, dd, _, .int n, hz, hf, ⟨T.xg_Late, T.xk_Late, T.sb_Late, T.xd_Late⟩, T.xn_Late, hdd1, rfl, ?_⟩
    k_clsL
    k_places
    rename_i t nt H2 hS2 ht
    exact q t H2 (hS1.trans hS2) (hS1.free nt) ht
  | nottold =>
    obtain ⟨rfl, rfl⟩ := hx
    have hd : (none : Option Addr) = none ∨ ∃ dd fs, (none : Option Addr) = some dd ∧ H dd = some (.xd fs) := .inl rfl
    have hX := xc_of_NotTold T
    refine ⟨_, (pss_cons (ps_set (i := 1) nd rfl (Or.inl rfl) (pe_lst (pa_cons (pe_callB (Cv.call_isP List.mem_cons_self) (by rfl) T.f_isinstance Cv.bb_isinstance (pa_cons (pv 0) (pa_cons (C8.pe_gc rfl T.c_NoEntry) pa_nil))) (pa_cons (pe_callB (Cv.call_isP List.mem_cons_self) (by rfl) T.f_isinstance Cv.bb_isinstance (pa_cons (pv 0) (pa_cons (C8.pe_gc rfl T.c_Twice) pa_nil))) (pa_cons (pe_callB (Cv.call_isP List.mem_cons_self) (by rfl) T.f_isinstance Cv.bb_isinstance (pa_cons (pv 0) (pa_cons (C8.pe_gc rfl T.c_Late) pa_nil))) (pa_cons (pe_callB (Cv.call_isP List.mem_cons_self) (by rfl) T.f_isinstance Cv.bb_isinstance (pa_cons (pv 0) (pa_cons (C8.pe_gc rfl T.c_NotTold) pa_nil))) pa_nil))))))
(pss_cons (ps_if (PW.pt (pw_or (pt_not (pt_val (pe_callB (Cv.call_isP List.mem_cons_self) (by rfl) T.f_isinstance Cv.bb_isinstance (pa_cons (pv 0) (pa_cons (pe_bltn (v := .ty "ValueError") rfl T.f_ValueError Cv.bt_ValueError rfl) pa_nil))))) (pw_or (pt_val (pe_callB (Cv.call_isP List.mem_cons_self) (by rfl) T.f_isinstance Cv.bb_isinstance (pa_cons (pv 0) (pa_cons (C8.pe_gc rfl T.c_NoBook) pa_nil)))) (pw_or1 (pt_cmpR op_ne (pe_bm PySem.F.plainAttrs_list PySem.F.slot_list_count PySem.F.type_list_count Cv.mt_countB (pv 1) (pa_cons pe_bl pa_nil)) pe_int (nomark _))))))
(pss_one (ps_ret (pe_tup (pa_cons pe_str (pa_cons pe_int pa_nil)))))
pss_nil)
(pss_cons (ps_if (pt_val (pe_callB (Cv.call_isP List.mem_cons_self) (by rfl) T.f_isinstance Cv.bb_isinstance (pa_cons (pv 0) (pa_cons (C8.pe_gc rfl T.c_Twice) pa_nil))))
(pss_one (ps_ret (pe_tup (pa_cons pe_str (pa_cons (Cv.pe_xp List.mem_cons_self (pv 0)) pa_nil)))))
pss_nil)
(pss_cons (ps_if (pt_val (pe_callB (Cv.call_isP List.mem_cons_self) (by rfl) T.f_isinstance Cv.bb_isinstance (pa_cons (pv 0) (pa_cons (C8.pe_gc rfl T.c_Late) pa_nil))))
(pss_one (ps_ret (pe_tup (pa_cons pe_str (pa_cons (Cv.pe_xp List.mem_cons_self (pv 0)) pa_nil)))))
pss_nil)
(pss_one (ps_ret (pe_tup (pa_cons (pe_ix ix_list (pe_lst (pa_cons pe_str (pa_cons pe_str (pa_cons pe_str (pa_cons pe_str pa_nil))))) (pe_bm PySem.F.plainAttrs_list PySem.F.slot_list_index PySem.F.type_list_index mt_index (pv 1) (pa_cons pe_bl pa_nil)) (fun _ _ => rfl)) (pa_cons pe_int pa_nil))))))))), ?_⟩
    try dsimp only [L2H.cxH, cxOf, Cx.nox, Cx.wish]
    k_clsL
    refine ⟨_, _, _, _, _, rfl, hz, hf, hd, hX, fun _ e => e, T.xi_NoEntry_NotTold, ?_⟩
    k_clsL
    refine ⟨_, _, _, _, _, rfl, hz, hf, hd, hX, fun _ e => e, T.xi_Twice_NotTold, ?_⟩
    k_clsL
    refine ⟨_, _, _, _, _, rfl, hz, hf, hd, hX, fun _ e => e, T.xi_Late_NotTold, ?_⟩
    k_clsL
    refine ⟨_, _, _, _, _, rfl, hz, hf, hd, hX, fun _ e => e, T.xi_NotTold_NotTold, ?_⟩
    k_clsL
    k_places
    rename_i l nl H1 hS1 hl1
    have hd1 : (none : Option Addr) = none ∨ ∃ dd fs, (none : Option Addr) = some dd ∧ H1 dd = some (.xd fs) := .inl rfl
    k_clsL
    refine ⟨_, _, _, _, _, rfl, hz, hf, hd1, hX, fun _ e => e, T.xv_NotTold, ?_⟩
    k_clsL
    refine ⟨_, _, _, _, _, rfl, hz, hf, hd1, hX, fun _ e => e, T.xi_NoBook_NotTold, ?_⟩
    k_clsL
    refine ⟨l, _, .bl true, rfl, rfl, SqL.of hl1, rfl, rfl, ?_⟩
    k_clsL
    refine ifnd (fun e => absurd rfl e) (fun _ => ?_)
    k_clsL
    refine ⟨_, _, _, _, _, rfl, hz, hf, hd1, hX, fun _ e => e, T.xi_Twice_NotTold, ?_⟩
    k_clsL
    refine ⟨_, _, _, _, _, rfl, hz, hf, hd1, hX, fun _ e => e, T.xi_Late_NotTold, ?_⟩
    k_clsL
    k_places
    rename_i l2 nl2 H2 hS2 hl2
    k_clsL
    refine ⟨l, _, .bl true, 3, .bl true, rfl, rfl, SqL.of (hS2.get hl1), rfl, rfl, rfl, rfl, fun m z hm hz => ?_, ?_⟩
    · rcases m with _ | _ | _ | m
      · cases hz; rfl
      · cases hz; rfl
      · cases hz; rfl
      · omega
    k_clsL
    k_places
    rename_i t nt H3 hS3 ht
    exact q t H3 (hS1.trans (hS2.trans hS3)) (hS1.free (hS2.free nt)) ht
end
end Cv
namespace Cv
open PySem PySem.Spec
open PyProof.Rows hiding St
open L2
section
variable {P : Program} {w : World} {K : PySem.W.Frag} {mg : Str → Option Value} {base : Heap}
/-! ### a loss is entered; what comes of it -/
def sp_law_enter (K : PySem.W.Frag) : Sp := fun vs H Q E => ∃ (a t : Addr) (n d e th c m : V), vs = [.ref a, .ref t] ∧ H t = some (.tup [n, d, e, th, c, m]) ∧ sp_enter K [.ref a, n, d, e, th, c, m] H Q E
theorem ok_law_enter (T : Txt K mg) : CalX P w K mg base 5 "_law_enter" (sp_law_enter K) := by
  refine calx T.D_law_enter T.g__law_enter sc_law_enter (fun _ _ _ _ _ _ us hl => match us, hl with | [_, _], _ => rfl) (fun vs H Q E h => ?_) (fun cdv A outer s H vs Q E hr h => ?_)
  · obtain ⟨a, t, n, d, e, th, c, m, rfl, _⟩ := h
    rfl
  obtain ⟨a, t, n, d, e, th, c, m, rfl, ht, hsp⟩ := h
  have nd := (sc_law_enter).nd
  have hsp' := hsp
  obtain ⟨a', _, _, _, _, _, _, G, r, nn, M, e0, _, _, _, _, _, _, _, _, _, ⟨dx, ac, ad, ao, ah, bv, xs, hvs, Mc, Md, nc, R⟩, _⟩ := hsp'
  have ea : a' = a := by injection e0 with e1; injection e1 with e1; exact e1.symm
  subst ea
  have ho := R.obj
  refine ⟨_, (pss_one (ps_ret (Cv.pe_mtx (me_Roll_enter T) hr (by decide) (pv 0) (takes_of rfl rfl rfl rfl) (pa_cons (pe_ix ix_tup (pv 1) pe_int (fun _ _ => rfl)) (pa_cons (pe_ix ix_tup (pv 1) pe_int (fun _ _ => rfl)) (pa_cons (pe_ix ix_tup (pv 1) pe_int (fun _ _ => rfl)) (pa_cons (pe_ix ix_tup (pv 1) pe_int (fun _ _ => rfl)) (pa_cons (pe_ix ix_tup (pv 1) pe_int (fun _ _ => rfl)) (pa_cons (pe_ix ix_tup (pv 1) pe_int (fun _ _ => rfl)) pa_nil))))))))), ?_⟩
  try dsimp only [cxOf]
  k_clsL
  exact hsp
def LossT (H : Hp) (t : Addr) (n d e th c m : V) : Prop := H t = some (.tup [n, d, e, th, c, m])
/-- what a loss may be: each of its parts is of a kind that is looked at -/
def PartsOk (K : PySem.W.Frag) (H : Hp) (n d e th c m : V) : Prop := Kd K H n ∧ Kd K H d ∧ Kd K H e ∧ Kd K H th ∧ Kd K H c ∧ Kd K H m ∧ TxtOk e ∧ (∀ z, th = .str z → z.length ≤ 1000) ∧ (∀ z, c = .str z → z.length ≤ 1000)
def RsV (H : Hp) (p : Addr) (x : Str) (i : Int) : Prop := H p = some (.tup [.str x, .int i])
def sp_law_entered (K : PySem.W.Frag) : Sp := fun vs H Q _ => ∃ (a t : Addr) (n d e th c m : V) (G : Hp) (r : RollM) (nn : Nat) (M : Addr → Prop), vs = [.ref a, .ref t] ∧ LossT H t n d e th c m ∧ PartsOk K H n d e th c m ∧ RollV K G H a r nn M ∧ nn < 10000 ∧
  (okLoss n d e th c m = false → ∀ p H', Same H H' → H p = none → RsV H' p "entry" 0 → Q (.ref p) H') ∧
  ∀ l : LossM, n = .int l.n → d = .int l.d → e = .str l.e → th = .str l.t → c = .str l.c → m = .int l.m → okLoss n d e th c m = true →
    (r.kn l.n = true → ∀ p H', Same H H' → H p = none → RsV H' p "twice" l.n → Q (.ref p) H') ∧
    (r.kn l.n = false → ∀ cl, r.closed = some cl → l.d ≤ cl → ∀ p H', Same H H' → H p = none → RsV H' p "late" cl → Q (.ref p) H') ∧
    (r.kn l.n = false → lateM l.d r.closed = false → ∀ p H', Same (OffS M H) H' → H p = none → RsV H' p "taken" 0 → RollV K G H' a (enterM r l) (nn + 1) M → Q (.ref p) H')
theorem ok_law_entered (T : Txt K mg) : C8.Cal P w K mg base 6 "_law_entered" (sp_law_entered K) [] := by
  refine cal T.D_law_entered T.g__law_entered sc_law_entered (fun _ _ _ _ _ _ us hl => match us, hl with | [_, _], _ => rfl) (fun vs H Q E h => ?_) (fun cdv A outer s H vs Q E hr h => ?_)
  · obtain ⟨a, t, n, d, e, th, c, m, G, r, nn, M, rfl, _⟩ := h
    rfl
  obtain ⟨a, t, n, d, e, th, c, m, G, r, nn, M, rfl, ht, ⟨p1, p2, p3, p4, p5, p6, p7, p8, p9⟩, hR, hnn, k1, k2⟩ := h
  have nd := (sc_law_entered).nd
  obtain ⟨fk, FK, bK, kK⟩ := fn_law_kind (P := P) (w := w) (base := base) T
  refine ⟨_, (pss_cons (ps_set (i := 2) nd rfl (Or.inl rfl) pe_non)
(pss_cons (ps_try_as (i := 3) rfl rfl nd rfl rfl ⟨rfl, by decide, .inl T.g_CoverError⟩ takes_none5 (fun W pn xe tk _ => (pss_one (ps_set (i := 2) nd rfl (Or.inl rfl) (Cv.pe_cxS (ok_law_enter T) hr (by decide) rfl tk (pa_cons (pv 0) (pa_cons (pv 1) pa_nil)))))) (fun a oe cls d pn hz hf => (pss_one (ps_ret (Cv.pe_callE hz hf FK (Cv.room_mark (hr.mono (show 1 ≤ 5 by decide)) _) List.mem_cons_self rfl T.g__law_kind kK bK (pa_cons (pv 3) pa_nil))))))
(pss_one (ps_ret (pe_tup (pa_cons pe_str (pa_cons (pe_ifExp (pt_cmpR op_isN (pv 2) pe_non (nomark _)) pe_int pe_int) pa_nil))))))), ?_⟩
  try dsimp only [cxOf, Cx.nox, Cx.wish]
  k_clsL
  refine rd_callS ?_
  k_clsL
  refine ⟨a, t, n, d, e, th, c, m, rfl, ht, a, n, d, e, th, c, m, G, r, nn, M, rfl, p1, p2, p3, p4, p5, p6, p7, p8, p9, hR, hnn, fun hno H' hS => ⟨true, T.ek_NoEntry, fun _ x nx => ?_, fun h => nomatch h⟩, fun l e1 e2 e3 e4 e5 e6 hok => ?_⟩
  · refine rd_ret (rd_callE ?_)
    k_clsL
    exact ⟨.entry, rfl, ⟨rfl, rfl⟩, fun p H2 hS2 np hp => k1 hno p H2 (hS.trans hS2) (hS.free np) hp⟩
  obtain ⟨k3, k4, k5⟩ := k2 l e1 e2 e3 e4 e5 e6 hok
  refine ⟨fun kn dd H' hS nd' hx => ⟨true, T.ek_Twice, fun _ x nx => ?_, fun h => nomatch h⟩, fun kn cl hc hl dd H' hS nd' hx => ⟨true, T.ek_Late, fun _ x nx => ?_, fun h => nomatch h⟩, fun kn hl H' hS hR' => ?_⟩
  · refine rd_ret (rd_callE ?_)
    k_clsL
    exact ⟨.twice l.n, rfl, ⟨rfl, dd, rfl, hx⟩, fun p H2 hS2 np hp => k3 kn p H2 (hS.trans hS2) (hS.free np) hp⟩
  · refine rd_ret (rd_callE ?_)
    k_clsL
    exact ⟨.late cl, rfl, ⟨rfl, dd, rfl, hx⟩, fun p H2 hS2 np hp => k4 kn cl hc hl p H2 (hS.trans hS2) (hS.free np) hp⟩
  k_clsL
  refine ifdt rfl ?_
  k_clsL
  k_places
  rename_i p np H2 hS2 hp
  refine k5 kn hl p H2 (hS.trans hS2) ?_ hp (hR'.same hS2)
  cases q : H p with
  | none => rfl
  | some o =>
    exfalso
    by_cases hM : M p
    · exact absurd np (by obtain ⟨dx, ac, ad, ao, ah, bv, xs, hvs, Mc, Md, nc, R⟩ := hR'; exact R.there hM)
    · have := hS p o (OffS.at q hM)
      rw [np] at this
      cases this
/-! ### a day is closed -/
theorem inV_no : ∀ {ys : List V} {α : Type} {ls : List α}, Paired (fun v (_ : α) => v = V.bl true) ys ls → inV (.bl false) ys = false ∧ ys.all flatV = true
  | _, _, _, .nil => ⟨rfl, rfl⟩
  | _, _, _, .cons e t => by
    obtain ⟨h1, h2⟩ := inV_no t
    subst e
    refine ⟨?_, by rw [List.all_cons, h2]; rfl⟩
    unfold inV at h1 ⊢
    rw [List.any_cons, h1]
    rfl
def sp_law_closed (K : PySem.W.Frag) : Sp := fun vs H Q _ => ∃ (a : Addr) (day : V) (G : Hp) (r : RollM) (nn : Nat) (M : Addr → Prop), vs = [.ref a, day] ∧ Kd K H day ∧ RollV K G H a r nn M ∧ nn ≤ 1000 ∧ (isDayV day = false → ∀ p H', Same H H' → H p = none → RsV H' p "entry" 0 → Q (.ref p) H') ∧
  ∀ dy : Int, day = .int dy → isDayV day = true →
    (lateM dy r.closed = true → ∀ p q H', Same H H' → H p = none → H' p = some (.tup [.str "closed", .ref q]) → H' q = some (.lst []) → Q (.ref p) H') ∧
    (lateM dy r.closed = false → ∀ p q H' M', Same (OffS M H) H' → (∀ x, M' x → M x ∨ H x = none) → H' p = some (.tup [.str "closed", .ref q]) → H' q = some (.lst ((readyM r dy).map fun l => .int l.n)) → RollV K G H' a (closeM r dy) nn M' → Q (.ref p) H')
theorem ok_law_closed (T : Txt K mg) : C8.Cal P w K mg base 8 "_law_closed" (sp_law_closed K) [] := by
  refine cal T.D_law_closed T.g__law_closed sc_law_closed (fun _ _ _ _ _ _ us hl => match us, hl with | [_, _], _ => rfl) (fun vs H Q E h => ?_) (fun cdv A outer s H vs Q E hr h => ?_)
  · obtain ⟨a, day, G, r, nn, M, rfl, _⟩ := h
    rfl
  obtain ⟨a, day, G, r, nn, M, rfl, kd, hR, hnn, k1, k2⟩ := h
  have nd := (sc_law_closed).nd
  obtain ⟨fk, FK, bK, kK⟩ := fn_law_kind (P := P) (w := w) (base := base) T
  refine ⟨_, (pss_cons (ps_set (i := 2) nd rfl (Or.inl rfl) pe_non)
(pss_cons (ps_try_as (i := 4) rfl rfl nd rfl rfl ⟨rfl, by decide, .inl T.g_CoverError⟩ takes_none5 (fun W pn xe tk _ => (pss_one (ps_set (i := 2) nd rfl (Or.inl rfl) (Cv.pe_mtxS (me_Roll_close T) hr (by decide) (pv 0) tk (pa_cons (pv 1) pa_nil))))) (fun a oe cls d pn hz hf => (pss_one (ps_ret (Cv.pe_callE hz hf FK (Cv.room_mark (hr.mono (show 1 ≤ 7 by decide)) _) List.mem_cons_self rfl T.g__law_kind kK bK (pa_cons (pv 4) pa_nil))))))
(pss_cons (ps_if (PW.pt (pw_or (pt_not (pt_val (pe_callB call_isi (by rfl) T.f_isinstance Cv.bb_isinstance (pa_cons (pv 2) (pa_cons (pe_bltn (v := .ty "list") rfl T.f_list Cv.bt_list rfl) pa_nil))))) (pw_or1 (pt_cmpR op_in_seq pe_bl (pe_lc (own := [("_law_one", 3)]) (g := (gName 3)) (tt := tYes) (te := tCall (sp_law_whole K) [] C8.E0 (tCons (tVar 3) tNil)) rfl nd (pi_list (pv 2)) (blkOk_by (own := [("_law_one", 3)]) (N := N_law_closed) (sc := defScope s_law_closed) (by decide +kernel)) (fun _ _ _ _ _ => (pg_name (i := 3) nd rfl (Or.inl rfl))) (fun _ _ _ _ _ => pts_nil) (fun _ _ _ _ _ => (C8.pe_c (ok_law_whole T) hr (by decide) rfl (pa_cons (pv 3) pa_nil)))) rfl))))
(pss_one (ps_ret (pe_tup (pa_cons pe_str (pa_cons pe_int pa_nil)))))
pss_nil)
(pss_one (ps_ret (pe_tup (pa_cons pe_str (pa_cons (pv 2) pa_nil)))))))), ?_⟩
  try dsimp only [cxOf, Cx.nox, Cx.wish]
  k_clsL
  refine rd_methX ?_
  have hR0 := hR
  obtain ⟨dx, ac, ad, ao, ah, bv, xs, hvs, Mc, Md, nc, R⟩ := hR0
  have ho := R.obj
  k_clsL
  refine ⟨a, day, G, r, nn, M, rfl, kd, hR, hnn, fun hno H' hS => ⟨true, T.ek_NoEntry, fun _ x nx => ?_, fun h => nomatch h⟩, fun dy e0 hd => ?_⟩
  · refine rd_ret (rd_callE ?_)
    k_clsL
    exact ⟨.entry, rfl, ⟨rfl, rfl⟩, fun p H2 hS2 np hp => k1 hno p H2 (hS.trans hS2) (hS.free np) hp⟩
  obtain ⟨k3, k4⟩ := k2 dy e0 hd
  refine ⟨fun hl p H' hS np hp => ?_, fun hl p H' M' hS hM np' np hp hR' => ?_⟩
  · k_clsL
    refine lcg_l (xs := ([] : List Int).map V.int) (fun _ v (n : Int) => v = .int n) ([] : List Int) (fun _ v (_ : Unit) => v = .bl true) (fun _ => some ()) (fun _ h => h) (SqL.of hp) (fun _ _ => Pa.ints ([] : List Int)) (by decide) (fun i c x D H1 acc K1 K0 e1 nD hS1 hD hx j1 j0 => ?_) (fun D H1 ys nD hS1 hD hP => ?_)
    · subst hx
      k_clsL
      refine ⟨.int c, rfl, .int c, ?_⟩
      k_clsL
      exact j1 _ () _ rfl (Same.refl _) rfl
    obtain ⟨g1, g2⟩ := inV_no hP
    refine ⟨D, ys, rfl, .inl (SqL.of hD), rfl, g2, ?_⟩
    have g3 : (if false = true then !inV (.bl false) ys else inV (.bl false) ys) = false := g1
    rw [g3]
    k_clsL
    k_places
    rename_i t nt H2 hS2 ht
    exact k3 hl t p H2 (hS.trans (hS1.trans hS2)) ((hS.trans hS1).free nt) ht ((hS1.trans hS2).get hp)
  · have hpm : H' p = some (.lst (((readyM r dy).map LossM.n).map V.int)) := by
      rw [hp, List.map_map]
      rfl
    have hz : ((readyM r dy).map LossM.n).length < sizeLine := by
      rw [List.length_map]
      have := ready_len r dy
      have := R.size.1
      exact sz_lt (by omega)
    k_clsL
    refine lcg_l (xs := ((readyM r dy).map LossM.n).map V.int) (fun _ v (n : Int) => v = .int n) ((readyM r dy).map LossM.n) (fun _ v (_ : Unit) => v = .bl true) (fun _ => some ()) (fun _ h => h) (SqL.of hpm) (fun _ _ => Pa.ints ((readyM r dy).map LossM.n)) hz (fun i c x D H1 acc K1 K0 e1 nD hS1 hD hx j1 j0 => ?_) (fun D H1 ys nD hS1 hD hP => ?_)
    · subst hx
      k_clsL
      refine ⟨.int c, rfl, .int c, ?_⟩
      k_clsL
      exact j1 _ () _ rfl (Same.refl _) rfl
    obtain ⟨g1, g2⟩ := inV_no hP
    refine ⟨D, ys, rfl, .inl (SqL.of hD), rfl, g2, ?_⟩
    have g3 : (if false = true then !inV (.bl false) ys else inV (.bl false) ys) = false := g1
    rw [g3]
    k_clsL
    k_places
    rename_i t nt H2 hS2 ht
    exact k4 hl t p H2 M' (hS.trans (hS1.trans hS2)) hM ht ((hS1.trans hS2).get hp) (hR'.same (hS1.trans hS2))
/-! ### a number is asked for -/
def sp_law_asked_for (K : PySem.W.Frag) : Sp := fun vs H Q _ => ∃ (a : Addr) (i : Int) (G : Hp) (r : RollM) (n : Nat) (M : Addr → Prop), vs = [.ref a, .int i] ∧ RollV K G H a r n M ∧ r.held i = none ∧ ∀ p H', Same H H' → H p = none → RsV H' p "not told" 0 → Q (.ref p) H'
theorem ok_law_asked_for (T : Txt K mg) : C8.Cal P w K mg base 2 "_law_asked_for" (sp_law_asked_for K) [] := by
  refine cal T.D_law_asked_for T.g__law_asked_for sc_law_asked_for (fun _ _ _ _ _ _ us hl => match us, hl with | [_, _], _ => rfl) (fun vs H Q E h => ?_) (fun cdv A outer s H vs Q E hr h => ?_)
  · obtain ⟨a, i, G, r, n, M, rfl, _⟩ := h
    rfl
  obtain ⟨a, i, G, r, n, M, rfl, hR, hh, k⟩ := h
  have nd := (sc_law_asked_for).nd
  obtain ⟨fk, FK, bK, kK⟩ := fn_law_kind (P := P) (w := w) (base := base) T
  refine ⟨_, (pss_cons (ps_try_as (i := 2) rfl rfl nd rfl rfl ⟨rfl, by decide, .inl T.g_CoverError⟩ takes_none5 (fun W pn xe tk _ => (pss_one (ps_expr (Cv.pe_mtxS (me_Roll_told T) hr (by decide) (pv 0) tk (pa_cons (pv 1) pa_nil))))) (fun a oe cls d pn hz hf => (pss_one (ps_ret (Cv.pe_callE hz hf FK (Cv.room_mark (hr.mono (show 1 ≤ 1 by decide)) _) List.mem_cons_self rfl T.g__law_kind kK bK (pa_cons (pv 2) pa_nil))))))
(pss_one (ps_ret (pe_tup (pa_cons pe_str (pa_cons pe_int pa_nil)))))), ?_⟩
  try dsimp only [cxOf, Cx.nox, Cx.wish]
  k_clsL
  refine rd_methX ?_
  have hR0 := hR
  obtain ⟨dx, ac, ad, ao, ah, bv, xs, hvs, Mc, Md, nc, R⟩ := hR0
  have ho := R.obj
  k_clsL
  refine ⟨a, i, G, r, n, M, rfl, hR, fun ss e => (by rw [hh] at e; cases e), fun _ H' hS => ⟨true, T.ek_NotTold, fun _ x nx => ?_, fun h => nomatch h⟩⟩
  refine rd_ret (rd_callE ?_)
  k_clsL
  exact ⟨.nottold, rfl, ⟨rfl, rfl⟩, fun p H2 hS2 np hp => k p H2 (hS.trans hS2) (hS.free np) hp⟩
end
end Cv
namespace Cv
open PySem PySem.Spec
open PyProof.Rows hiding St
open L2
/-! ### a loss with one of its parts spoilt -/
/-- what a part may be that is spoilt -/
def BadV (K : PySem.W.Frag) (H : Hp) (j : Int) (v : V) : Prop := Kd K H v ∧ TxtOk v ∧ (∀ z, v = .str z → z.length ≤ 1000) ∧
  (j = 0 → rngB 0 1000000000 v = false) ∧ (j = 1 → isDayV v = false) ∧ (j = 2 → isEventV v = false) ∧ (j = 3 → isNameV v = false) ∧ (j = 4 → isNameV v = false) ∧ (j = 5 → rngB 1 999999999999 v = false)
theorem BadV.same {K : PySem.W.Frag} {H H' : Hp} {j : Int} {v : V} (S : Same H H') (h : BadV K H j v) : BadV K H' j v := ⟨h.1.mono S, h.2⟩
theorem rng_no {lo hi i : Int} (h : i < lo ∨ hi < i) : rngB lo hi (.int i) = false := by
  show (decide _ && decide _) = false
  rw [Bool.and_eq_false_iff, decide_eq_false_iff_not, decide_eq_false_iff_not]
  omega
section
variable {K : PySem.W.Frag} {H : Hp} {j : Int}
theorem bad_int {i : Int} (h0 : j = 0 → i < 0 ∨ 1000000000 < i) (h1 : j = 1 → i < 0 ∨ 1000000 < i) (h5 : j = 5 → i < 1 ∨ 999999999999 < i) : BadV K H j (.int i) :=
  ⟨.int i, (fun z h => nomatch h), (fun z h => nomatch h), fun e => rng_no (h0 e), fun e => rng_no (h1 e), fun _ => rfl, fun _ => rfl, fun _ => rfl, fun e => rng_no (h5 e)⟩
theorem bad_bl {b : Bool} : BadV K H j (.bl b) := ⟨.bl b, (fun z h => nomatch h), (fun z h => nomatch h), fun _ => rfl, fun _ => rfl, fun _ => rfl, fun _ => rfl, fun _ => rfl, fun _ => rfl⟩
theorem bad_non : BadV K H j .non := ⟨.non, (fun z h => nomatch h), (fun z h => nomatch h), fun _ => rfl, fun _ => rfl, fun _ => rfl, fun _ => rfl, fun _ => rfl, fun _ => rfl⟩
theorem bad_ref {a : Addr} (h : Kd K H (.ref a)) : BadV K H j (.ref a) := ⟨h, (fun z h => nomatch h), (fun z h => nomatch h), fun _ => rfl, fun _ => rfl, fun _ => rfl, fun _ => rfl, fun _ => rfl, fun _ => rfl⟩
theorem bad_str {x : Str} (h : (decide (x.length ≤ 1000) && (Txt.split x ".").all fun p => decide (p.length ≤ 1000)) = true) (h2 : j = 2 → eventB x = false) (h3 : j = 3 → nameB x = false) (h4 : j = 4 → nameB x = false) : BadV K H j (.str x) := by
  obtain ⟨g1, g2⟩ := Bool.and_eq_true_iff.mp h
  have g1 := of_decide_eq_true g1
  exact ⟨.str x, fun z e => by cases e; exact ⟨g1, fun p hp => of_decide_eq_true (List.all_eq_true.mp g2 p hp)⟩, fun z e => by cases e; exact g1, fun _ => rfl, fun _ => rfl, h2, h3, h4, fun _ => rfl⟩
end
theorem Kd.updl {K : PySem.W.Frag} {H : Hp} {l : Addr} {xs zs : List V} {v : V} (h : Kd K H v) (hl : H l = some (.lst xs)) : Kd K (upd H l (.lst zs)) v := by
  cases h with
  | non => exact .non
  | bl b => exact .bl b
  | int i => exact .int i
  | str z => exact .str z
  | @lst a ys h =>
    by_cases e : a = l
    · subst e
      exact .lst upd_same
    · exact .lst (by rw [upd_ne e]; exact h)
  | tup h => exact .tup (by rw [upd_ne (ne_of h hl (fun e => nomatch e))]; exact h)
theorem cat_any {K : PySem.W.Frag} {H : Hp} {a b : Addr} {xs ys : List V} {Q : VK} (ha : H a = some (.tup xs)) (hb : H b = some (.tup ys)) (hz : xs.length + ys.length ≤ sizeLine) (q : ∀ p H', Same H H' → H' p = some (.tup (xs ++ ys)) → Q (.ref p) H') : rCatA K (.ref a) (.ref b) H Q :=
  ⟨a, b, xs, ys, rfl, rfl, SqT.of ha, SqT.of hb, hz, fun e => q b H (Same.refl _) (by rw [e]; exact hb), fun _ e => q a H (Same.refl _) (by rw [e, List.append_nil]; exact ha), fun _ _ p np => q p _ (new_same np rfl) upd_same⟩
theorem sl_any {K : PySem.W.Frag} {H : Hp} {a : Addr} {xs : List V} {lo hi : Option Int} {Q : VK} (ha : H a = some (.tup xs)) (q : ∀ p H', Same H H' → H' p = some (.tup (cutV xs lo hi)) → Q (.ref p) H') : rSlA K (.ref a) lo hi H Q :=
  ⟨a, xs, rfl, SqT.of ha, fun hw => q a H (Same.refl _) (by
    have e : cutV xs lo hi = xs := by
      unfold cutV
      rw [hw.1, hw.2]
      simp
    rw [e]
    exact ha), fun _ p np => q p _ (new_same np rfl) upd_same⟩
theorem okLoss_split {n d e t c m : V} (h : rngB 0 1000000000 n = false ∨ isDayV d = false ∨ isEventV e = false ∨ isNameV t = false ∨ isNameV c = false ∨ rngB 1 999999999999 m = false) : okLoss n d e t c m = false := by
  unfold okLoss
  rcases h with h | h | h | h | h | h <;> rw [h] <;> simp
theorem parts_of {K : PySem.W.Frag} {H : Hp} {l : LossM} (h : LossOk l) : PartsOk K H (.int l.n) (.int l.d) (.str l.e) (.str l.t) (.str l.c) (.int l.m) := ⟨.int _, .int _, .str _, .str _, .str _, .int _, h.2.1, fun z e => by cases e; exact h.2.2.1, fun z e => by cases e; exact h.2.2.2.1⟩
section
variable {P : Program} {w : World} {K : PySem.W.Frag} {mg : Str → Option Value} {base : Heap}
def sp_law_spoilt (K : PySem.W.Frag) : Sp := fun vs H Q _ => ∃ (t : Addr) (k : Int) (l : LossM), vs = [.ref t, .int k] ∧ LossV H (.ref t) l ∧ LossOk l ∧
  ∀ u n d e th c m H', Same H H' → LossT H' u n d e th c m → PartsOk K H' n d e th c m → okLoss n d e th c m = false → Q (.ref u) H'
theorem kd_mono {H H' : Hp} {v : V} (S : Same H H') (h : Kd K H v) : Kd K H' v := h.mono S
theorem ok_law_spoilt (T : Txt K mg) : C8.Cal P w K mg base 1 "_law_spoilt" (sp_law_spoilt K) [] := by
  refine cal T.D_law_spoilt T.g__law_spoilt sc_law_spoilt (fun _ _ _ _ _ _ us hl => match us, hl with | [_, _], _ => rfl) (fun vs H Q E h => ?_) (fun cdv A outer s H vs Q E hr h => ?_)
  · obtain ⟨t, k, l, rfl, _⟩ := h
    rfl
  obtain ⟨t, k, L, rfl, ⟨t', e0, ht⟩, hok, q⟩ := h
  cases e0
  have nd := (sc_law_spoilt).nd
  have f0 : 0 ≤ k / 4096 % 10 ^ Int.toNat 9 := Int.emod_nonneg _ (by decide)
  refine ⟨_, (pss_cons (ps_set (i := 2) nd rfl (Or.inl rfl) (pe_op op_mod (pe_op op_fdiv (pv 1) pe_int) (pe_op op_pow pe_int pe_int)))
(pss_cons (ps_set (i := 3) nd rfl (Or.inl rfl) (pe_op op_mod (pv 1) pe_int))
(pss_cons (ps_set (i := 4) nd rfl (Or.inl rfl) (pe_lst (pa_cons (pe_op op_sub (pe_un un_neg pe_int) (pv 2)) (pa_cons (pe_op op_add (pe_op op_pow pe_int pe_int) (pv 2)) (pa_cons pe_bl (pa_cons pe_non (pa_cons pe_str (pa_cons (pe_lst (pa_cons pe_int pa_nil)) (pa_cons pe_bl pa_nil)))))))))
(C8.pss_cut (ps_if (pt_cmpR op_eq (pv 3) pe_int (nomark _))
(pss_one (ps_set (i := 4) nd rfl (Or.inl rfl) (pe_lst (pa_cons (pe_op op_sub (pe_un un_neg pe_int) (pv 2)) (pa_cons (pe_op op_add (pe_op op_add (pe_op op_pow pe_int pe_int) pe_int) (pv 2)) (pa_cons pe_bl (pa_cons pe_non (pa_cons pe_str (pa_cons (pe_lst (pa_cons pe_int pa_nil)) (pa_cons pe_bl pa_nil))))))))))
pss_nil)
(C8.pss_cut (ps_if (pt_cmpR op_eq (pv 3) pe_int (nomark _))
(pss_one (ps_set (i := 4) nd rfl (Or.inl rfl) (pe_lst (pa_cons (pe_op op_sub (pe_un un_neg pe_int) (pv 2)) (pa_cons (pe_op op_add (pe_op op_add (pe_op op_pow pe_int pe_int) pe_int) (pv 2)) (pa_cons pe_bl (pa_cons pe_non (pa_cons pe_str (pa_cons (pe_tup (pa_cons pe_int pa_nil)) (pa_cons pe_bl pa_nil))))))))))
pss_nil)
(C8.pss_cut (ps_if (pt_cmpR op_eq (pv 3) pe_int (nomark _))
(pss_one (ps_set (i := 4) nd rfl (Or.inl rfl) (pe_lst (pa_cons pe_str (pa_cons pe_str (pa_cons pe_str (pa_cons pe_str (pa_cons pe_str (pa_cons pe_str (pa_cons pe_str (pa_cons pe_str (pa_cons pe_non (pa_cons pe_int (pa_cons pe_str (pa_cons pe_str (pa_cons (pe_lst (pa_cons pe_str pa_nil)) pa_nil))))))))))))))))
pss_nil)
(C8.pss_cut (ps_if (PW.pt (pw_or (pt_cmpR op_eq (pv 3) pe_int (nomark _)) (pw_or1 (pt_cmpR op_eq (pv 3) pe_int (nomark _)))))
(pss_one (ps_set (i := 4) nd rfl (Or.inl rfl) (pe_lst (pa_cons pe_str (pa_cons pe_str (pa_cons pe_str (pa_cons pe_str (pa_cons pe_str (pa_cons pe_non (pa_cons pe_int (pa_cons (pe_lst (pa_cons pe_str pa_nil)) (pa_cons pe_str (pa_cons pe_str pa_nil)))))))))))))
pss_nil)
(C8.pss_cut (ps_if (pt_cmpR op_eq (pv 3) pe_int (nomark _))
(pss_one (ps_expr (pe_bm PySem.F.plainAttrs_list PySem.F.slot_list_append PySem.F.type_list_append mt_append (pv 4) (pa_cons pe_int pa_nil))))
pss_nil)
(pss_one (ps_ret (pe_op op_catA (pe_op op_catA (pe_slice sl_tupA (pv 0) po_none (po_some (pv 3))) (pe_tup (pa_cons (pe_ix ix_list (pv 4) (pe_op op_mod (pe_op op_fdiv (pv 1) pe_int) (pe_callB call_len_seq (by rfl) T.f_len Cv.bb_len (pa_cons (pv 4) pa_nil))) (fun _ _ => rfl)) pa_nil))) (pe_slice sl_tupA (pv 0) (po_some (pe_op op_add (pv 3) pe_int)) po_none)))))))))))), ?_⟩
  try dsimp only [cxOf, Cx.nox, Cx.wish]
  generalize hfar : k / 4096 % 10 ^ Int.toNat 9 = far at f0
  k_clsL
  rw [hfar]
  k_places
  rename_i l5 nl5 H1 hS1 hl5
  k_clsL
  k_places
  rename_i l nl H2 hS2 hl
  have b0 : ∀ v ∈ [V.int (-1 - far), V.int (10 ^ Int.toNat 12 + far), V.bl true, V.non, V.str "5", V.ref l5, V.bl false], BadV K H2 (k % 6) v := fun v hv => by
    simp only [List.mem_cons, List.not_mem_nil, or_false] at hv
    rcases hv with rfl | rfl | rfl | rfl | rfl | rfl | rfl
    · exact bad_int (by omega) (by omega) (by omega)
    · have e12 : (10 : Int) ^ Int.toNat 12 = 1000000000000 := by decide
      exact bad_int (by omega) (by omega) (by omega)
    · exact bad_bl
    · exact bad_non
    · exact bad_str (by decide +kernel) (fun _ => by decide +kernel) (fun _ => by decide +kernel) (fun _ => by decide +kernel)
    · exact bad_ref (.lst (hS2.get hl5))
    · exact bad_bl
  refine rd_cut (fun s H2 => ∃ (l : Addr) (xs : List V), s = [some (.ref t), some (.int k), some (.int far), some (.int (k % 6)), some (.ref l)] ∧ Same H H2 ∧ H2 l = some (.lst xs) ∧ H l = none ∧ (∀ v ∈ xs, BadV K H2 (k % 6) v) ∧ 1 ≤ xs.length ∧ xs.length ≤ 14) ?_ ?_
  · k_clsL
    refine ifd (fun c => ?_) (fun c => ?_)
    · k_clsL
      k_places
      rename_i l6 nl6 H3 hS3 hl6
      k_clsL
      k_places
      rename_i l7 nl7 H4 hS4 hl7
      k_clsL
      have e0 : k % 6 = 0 := by injection c
      refine hold ⟨l7, _, rfl, hS1.trans (hS2.trans (hS3.trans hS4)), hl7, hS1.free (hS2.free (hS3.free nl7)), fun v hv => ?_, Nat.le_of_ble_eq_true rfl, Nat.le_of_ble_eq_true rfl⟩
      simp only [List.mem_cons, List.not_mem_nil, or_false] at hv
      rcases hv with rfl | rfl | rfl | rfl | rfl | rfl | rfl
      · exact bad_int (by omega) (by omega) (by omega)
      · have e9 : (10 : Int) ^ Int.toNat 9 = 1000000000 := by decide
        exact bad_int (by omega) (by omega) (by omega)
      · exact bad_bl
      · exact bad_non
      · exact bad_str (by decide +kernel) (fun _ => by decide +kernel) (fun _ => by decide +kernel) (fun _ => by decide +kernel)
      · exact bad_ref (.lst (hS4.get hl6))
      · exact bad_bl
    · k_clsL
      exact hold ⟨l, _, rfl, hS1.trans hS2, hl, hS1.free nl, b0, Nat.le_of_ble_eq_true rfl, Nat.le_of_ble_eq_true rfl⟩
  clear b0
  rintro _ H5 ⟨l8, ys, rfl, hS5, hl8, nl8, b1, y0, y1⟩
  refine rd_cut (fun s H2 => ∃ (l : Addr) (xs : List V), s = [some (.ref t), some (.int k), some (.int far), some (.int (k % 6)), some (.ref l)] ∧ Same H H2 ∧ H2 l = some (.lst xs) ∧ H l = none ∧ (∀ v ∈ xs, BadV K H2 (k % 6) v) ∧ 1 ≤ xs.length ∧ xs.length ≤ 14) ?_ ?_
  · k_clsL
    refine ifd (fun c => ?_) (fun c => ?_)
    · k_clsL
      k_places
      rename_i l6 nl6 H3 hS3 hl6
      k_clsL
      k_places
      rename_i l7 nl7 H4 hS4 hl7
      k_clsL
      have e0 : k % 6 = 1 := by injection c
      refine hold ⟨l7, _, rfl, hS5.trans (hS3.trans hS4), hl7, hS5.free (hS3.free nl7), fun v hv => ?_, Nat.le_of_ble_eq_true rfl, Nat.le_of_ble_eq_true rfl⟩
      simp only [List.mem_cons, List.not_mem_nil, or_false] at hv
      rcases hv with rfl | rfl | rfl | rfl | rfl | rfl | rfl
      · exact bad_int (by omega) (by omega) (by omega)
      · have e6 : (10 : Int) ^ Int.toNat 6 = 1000000 := by decide
        exact bad_int (by omega) (by omega) (by omega)
      · exact bad_bl
      · exact bad_non
      · exact bad_str (by decide +kernel) (fun _ => by decide +kernel) (fun _ => by decide +kernel) (fun _ => by decide +kernel)
      · exact bad_ref (.tup (hS4.get hl6))
      · exact bad_bl
    · k_clsL
      exact hold ⟨l8, ys, rfl, hS5, hl8, nl8, b1, y0, y1⟩
  clear b1 hl8 nl8 y0 y1 hS5
  rintro _ H5 ⟨l8, ys, rfl, hS5, hl8, nl8, b1, y0, y1⟩
  refine rd_cut (fun s H2 => ∃ (l : Addr) (xs : List V), s = [some (.ref t), some (.int k), some (.int far), some (.int (k % 6)), some (.ref l)] ∧ Same H H2 ∧ H2 l = some (.lst xs) ∧ H l = none ∧ (∀ v ∈ xs, BadV K H2 (k % 6) v) ∧ 1 ≤ xs.length ∧ xs.length ≤ 14) ?_ ?_
  · k_clsL
    refine ifd (fun c => ?_) (fun c => ?_)
    · k_clsL
      k_places
      rename_i l6 nl6 H3 hS3 hl6
      k_clsL
      k_places
      rename_i l7 nl7 H4 hS4 hl7
      k_clsL
      have e0 : k % 6 = 2 := by injection c
      refine hold ⟨l7, _, rfl, hS5.trans (hS3.trans hS4), hl7, hS5.free (hS3.free nl7), fun v hv => ?_, Nat.le_of_ble_eq_true rfl, Nat.le_of_ble_eq_true rfl⟩
      simp only [List.mem_cons, List.not_mem_nil, or_false] at hv
      rcases hv with rfl | rfl | rfl | rfl | rfl | rfl | rfl | rfl | rfl | rfl | rfl | rfl | rfl
      all_goals first
        | exact bad_str (by decide +kernel) (fun _ => by decide +kernel) (fun _ => by omega) (fun _ => by omega)
        | exact bad_non
        | exact bad_int (by omega) (by omega) (by omega)
        | exact bad_ref (.lst (hS4.get hl6))
    · k_clsL
      exact hold ⟨l8, ys, rfl, hS5, hl8, nl8, b1, y0, y1⟩
  clear b1 hl8 nl8 y0 y1 hS5
  rintro _ H5 ⟨l8, ys, rfl, hS5, hl8, nl8, b1, y0, y1⟩
  refine rd_cut (fun s H2 => ∃ (l : Addr) (xs : List V), s = [some (.ref t), some (.int k), some (.int far), some (.int (k % 6)), some (.ref l)] ∧ Same H H2 ∧ H2 l = some (.lst xs) ∧ H l = none ∧ (∀ v ∈ xs, BadV K H2 (k % 6) v) ∧ 1 ≤ xs.length ∧ xs.length ≤ 14) ?_ ?_
  · k_clsL
    refine ifd (fun c => ?_) (fun c => ?_)
    · refine ift ?_
      k_clsL
      k_places
      rename_i l6 nl6 H3 hS3 hl6
      k_clsL
      k_places
      rename_i l7 nl7 H4 hS4 hl7
      k_clsL
      have e0 : k % 6 = 3 := by injection c
      refine hold ⟨l7, _, rfl, hS5.trans (hS3.trans hS4), hl7, hS5.free (hS3.free nl7), fun v hv => ?_, Nat.le_of_ble_eq_true rfl, Nat.le_of_ble_eq_true rfl⟩
      simp only [List.mem_cons, List.not_mem_nil, or_false] at hv
      rcases hv with rfl | rfl | rfl | rfl | rfl | rfl | rfl | rfl | rfl | rfl
      all_goals first
        | exact bad_str (by decide +kernel) (fun _ => by omega) (fun _ => by decide +kernel) (fun _ => by decide +kernel)
        | exact bad_non
        | exact bad_int (by omega) (by omega) (by omega)
        | exact bad_ref (.lst (hS4.get hl6))
    k_clsL
    refine ifd (fun c => ?_) (fun c => ?_)
    · skip
      k_clsL
      k_places
      rename_i l6 nl6 H3 hS3 hl6
      k_clsL
      k_places
      rename_i l7 nl7 H4 hS4 hl7
      k_clsL
      have e0 : k % 6 = 4 := by injection c
      refine hold ⟨l7, _, rfl, hS5.trans (hS3.trans hS4), hl7, hS5.free (hS3.free nl7), fun v hv => ?_, Nat.le_of_ble_eq_true rfl, Nat.le_of_ble_eq_true rfl⟩
      simp only [List.mem_cons, List.not_mem_nil, or_false] at hv
      rcases hv with rfl | rfl | rfl | rfl | rfl | rfl | rfl | rfl | rfl | rfl
      all_goals first
        | exact bad_str (by decide +kernel) (fun _ => by omega) (fun _ => by decide +kernel) (fun _ => by decide +kernel)
        | exact bad_non
        | exact bad_int (by omega) (by omega) (by omega)
        | exact bad_ref (.lst (hS4.get hl6))
    k_clsL
    exact hold ⟨l8, ys, rfl, hS5, hl8, nl8, b1, y0, y1⟩
  clear b1 hl8 nl8 y0 y1 hS5
  rintro _ H5 ⟨l8, ys, rfl, hS5, hl8, nl8, b1, y0, y1⟩
  refine rd_cut (fun s H2 => ∃ (l : Addr) (xs : List V), s = [some (.ref t), some (.int k), some (.int far), some (.int (k % 6)), some (.ref l)] ∧ Same H H2 ∧ H2 l = some (.lst xs) ∧ H l = none ∧ (∀ v ∈ xs, BadV K H2 (k % 6) v) ∧ 1 ≤ xs.length ∧ xs.length ≤ 15) ?_ ?_
  · k_clsL
    refine ifd (fun c => ?_) (fun c => ?_)
    · have hyz : ys.length < sizeLine := sz_lt (by omega)
      k_clsL
      have e0 : k % 6 = 5 := by injection c
      refine hold ⟨l8, ys ++ [.int 0], rfl, hS5.mut nl8, upd_same, nl8, fun v hv => ?_, by rw [List.length_append]; omega, ?_⟩
      · rcases List.mem_append.mp hv with hv | hv
        · obtain ⟨g1, g2⟩ := b1 v hv
          exact ⟨g1.updl hl8, g2⟩
        · rw [List.mem_singleton.mp hv]
          exact bad_int (by omega) (by omega) (by omega)
      · rw [List.length_append]
        show ys.length + 1 ≤ 15
        omega
    · k_clsL
      exact hold ⟨l8, ys, rfl, hS5, hl8, nl8, b1, y0, by omega⟩
  clear b1 hl8 nl8 y0 y1 hS5
  rintro _ H5 ⟨l8, ys, rfl, hS5, hl8, nl8, b1, y0, y1⟩
  k_clsL
  have ht5 := hS5.get ht
  obtain ⟨v, hv, hb⟩ := pick (xs := ys) (i := k / 8 % ((ys.length : Nat) : Int)) (Int.emod_nonneg _ (by omega)) (Int.emod_lt_of_pos _ (by omega)) (fun v => BadV K H5 (k % 6) v) b1
  refine sl_any ht5 fun p1 H6 hS6 hp1 => ?_
  have hl86 := hS6.get hl8
  k_clsL
  k_places
  rename_i p2 np2 H7 hS7 hp2
  refine cat_any (hS7.get hp1) hp2 (sz_lit' (by have := cutV_length [V.int L.n, V.int L.d, V.str L.e, V.str L.t, V.str L.c, V.int L.m] none (some (k % 6)); simp at this ⊢; omega)) fun p3 H8 hS8 hp3 => ?_
  have ht8 := (hS6.trans (hS7.trans hS8)).get ht5
  k_clsL
  refine sl_any ht8 fun p4 H9 hS9 hp4 => ?_
  refine cat_any (hS9.get hp3) hp4 (sz_lit' (by have := cutV_length [V.int L.n, V.int L.d, V.str L.e, V.str L.t, V.str L.c, V.int L.m] none (some (k % 6)); have := cutV_length [V.int L.n, V.int L.d, V.str L.e, V.str L.t, V.str L.c, V.int L.m] (some (k % 6 + 1)) none; simp at *; omega)) fun p5 H10 hS10 hp5 => ?_
  have S5a := hS6.trans (hS7.trans (hS8.trans (hS9.trans hS10)))
  have hS := hS5.trans S5a
  obtain ⟨b1, b2, b3, c0, c1, c2, c3, c4, c5⟩ := hb.same S5a
  obtain ⟨q1, q2, q3, q4, q5, q6, q7, q8, q9⟩ := parts_of (K := K) (H := H10) hok
  have hj : k % 6 = 0 ∨ k % 6 = 1 ∨ k % 6 = 2 ∨ k % 6 = 3 ∨ k % 6 = 4 ∨ k % 6 = 5 := by omega
  rcases hj with e | e | e | e | e | e <;> rw [e] at hp5 c0 c1 c2 c3 c4 c5
  · exact q p5 v _ _ _ _ _ H10 hS hp5 ⟨b1, q2, q3, q4, q5, q6, q7, q8, q9⟩ (okLoss_split (.inl (c0 rfl)))
  · exact q p5 _ v _ _ _ _ H10 hS hp5 ⟨q1, b1, q3, q4, q5, q6, q7, q8, q9⟩ (okLoss_split (.inr (.inl (c1 rfl))))
  · exact q p5 _ _ v _ _ _ H10 hS hp5 ⟨q1, q2, b1, q4, q5, q6, b2, q8, q9⟩ (okLoss_split (.inr (.inr (.inl (c2 rfl)))))
  · exact q p5 _ _ _ v _ _ H10 hS hp5 ⟨q1, q2, q3, b1, q5, q6, q7, b3, q9⟩ (okLoss_split (.inr (.inr (.inr (.inl (c3 rfl))))))
  · exact q p5 _ _ _ _ v _ H10 hS hp5 ⟨q1, q2, q3, q4, b1, q6, q7, q8, b3⟩ (okLoss_split (.inr (.inr (.inr (.inr (.inl (c4 rfl)))))))
  · exact q p5 _ _ _ _ _ v H10 hS hp5 ⟨q1, q2, q3, q4, q5, b1, q7, q8, q9⟩ (okLoss_split (.inr (.inr (.inr (.inr (.inr (c5 rfl)))))))
end
end Cv
namespace Cv
open PySem PySem.Spec
open PyProof.Rows hiding St
open L2
/-! ### the plain law: order of losses, what a roll has settled -/
theorem leRow : PySem.W.dataLe false keyRow = PySem.W.dataLe false keyTurn := by
  funext a b
  show (!PySem.W.dataLt (keyRow b) (keyRow a)) = (!PySem.W.dataLt (keyTurn b) (keyTurn a))
  unfold keyRow keyTurn
  rw [PySem.W.dataLt_tuple, PySem.W.dataLt_tuple, PySem.W.dataLt_cons (by simp [PySem.W.alike]), PySem.W.dataLt_cons (by simp [PySem.W.alike]), PySem.W.dataLt_cons (by simp [PySem.W.alike]), PySem.W.dataLt_cons (by simp [PySem.W.alike]), PySem.W.dataLt_cons (by simp [PySem.W.alike])]
  simp [PyData.eqv]
def leDN (a b : LossM) : Bool := decide (a.d < b.d ∨ (a.d = b.d ∧ a.n ≤ b.n))
def ltDN (a b : LossM) : Prop := a.d < b.d ∨ (a.d = b.d ∧ a.n < b.n)
theorem leRow_dn : PySem.W.dataLe false keyRow = leDN := by
  rw [leRow]
  exact PySem.W.dataLe_ii (fun l : LossM => l.d) (fun l => l.n)
theorem sortRow_perm (ls : List LossM) : (sortRow ls).Perm ls := List.mergeSort_perm _ _
theorem sortRow_sorted {ls : List LossM} (h : (ls.map LossM.n).Nodup) : (sortRow ls).Pairwise ltDN := by
  have h1 : (sortRow ls).Pairwise (fun a b => leDN a b = true) := by
    unfold sortRow
    rw [leRow_dn]
    refine List.pairwise_mergeSort (fun a b c h1 h2 => ?_) (fun a b => ?_) ls
    · unfold leDN at *
      simp only [decide_eq_true_eq] at *
      omega
    · unfold leDN
      simp only [Bool.or_eq_true, decide_eq_true_eq]
      omega
  have h2 : ((sortRow ls).map LossM.n).Nodup := ((sortRow_perm ls).map _).nodup_iff.mpr h
  rw [List.nodup_iff_pairwise_ne, List.pairwise_map] at h2
  refine (h1.and h2).imp fun {a b} q => ?_
  obtain ⟨q1, q2⟩ := q
  unfold leDN at q1
  simp only [decide_eq_true_eq] at q1
  unfold ltDN
  omega
theorem ltDN_uniq {a b : List LossM} (p : a.Perm b) (h1 : a.Pairwise ltDN) (h2 : b.Pairwise ltDN) : a = b :=
  p.eq_of_pairwise (fun x y _ _ q1 q2 => absurd q1 (by unfold ltDN at *; omega)) h1 h2
theorem settleL_order : ∀ (ls : List LossM) (r : RollM), (settleL ls r).order = r.order ++ ls
  | [], r => (List.append_nil _).symm
  | l :: ls, r => by
    show (settleL ls (settle1 r l)).order = _
    rw [settleL_order ls]
    show (r.order ++ [l]) ++ ls = _
    rw [List.append_assoc]
    rfl
theorem settleL_rest : ∀ (ls : List LossM) (r : RollM), (settleL ls r).cs = r.cs ∧ (settleL ls r).ws = r.ws ∧ (settleL ls r).kn = r.kn ∧ (settleL ls r).closed = r.closed
  | [], r => ⟨rfl, rfl, rfl, rfl⟩
  | l :: ls, r => settleL_rest ls (settle1 r l)
theorem settleL_append : ∀ (a b : List LossM) (r : RollM), settleL (a ++ b) r = settleL b (settleL a r)
  | [], _, _ => rfl
  | l :: a, b, r => settleL_append a b (settle1 r l)
theorem settleL_like : ∀ (ls : List LossM) (r r' : RollM), r.cs = r'.cs → r.f = r'.f → r.held = r'.held → (settleL ls r).f = (settleL ls r').f ∧ (settleL ls r).held = (settleL ls r').held
  | [], _, _, _, h2, h3 => ⟨h2, h3⟩
  | l :: ls, r, r', h1, h2, h3 => settleL_like ls (settle1 r l) (settle1 r' l) h1 (by show settleF r.cs r.f l = settleF r'.cs r'.f l; rw [h1, h2]) (by
    show (fun i => if i = l.n then some (stripsM r.cs r.f l) else r.held i) = fun i => if i = l.n then some (stripsM r'.cs r'.f l) else r'.held i
    rw [h1, h2, h3])
theorem settleL_held : ∀ (ls : List LossM) (r : RollM) (i : Int), (settleL ls r).held i ≠ none ↔ (r.held i ≠ none ∨ i ∈ ls.map LossM.n)
  | [], r, i => by simp [settleL]
  | l :: ls, r, i => by
    show (settleL ls (settle1 r l)).held i ≠ none ↔ _
    rw [settleL_held ls]
    show ((if i = l.n then some (stripsM r.cs r.f l) else r.held i) ≠ none ∨ _) ↔ _
    rw [List.map_cons, List.mem_cons]
    by_cases h : i = l.n
    · simp [h]
    · simp [h]
/-- what the walk knows of its roll; ks: the numbers taken so far -/
structure WkM (cs : List CovM) (ls : List LossM) (i : Nat) (ks : List Int) (R : RollM) : Prop where
  hcs : R.cs = cs
  f : R.f = (settleL R.order (roll0 cs)).f
  held : R.held = (settleL R.order (roll0 cs)).held
  kn : ∀ j, R.kn j = decide (j ∈ ks)
  nums : ∀ j, j ∈ ks ↔ j ∈ (R.order ++ R.ws).map LossM.n
  nodup : ((R.order ++ R.ws).map LossM.n).Nodup
  sorted : R.order.Pairwise ltDN
  past : ∀ x ∈ R.order, lateM x.d R.closed = true
  fut : ∀ x ∈ R.ws, lateM x.d R.closed = false
  ok : ∀ x ∈ R.order ++ R.ws, LossOk x
  from_ : ∀ j ∈ ks, j ∈ (ls.take i).map LossM.n
theorem WkM.start (cs : List CovM) (ls : List LossM) : WkM cs ls 0 [] (roll0 cs) :=
  ⟨rfl, rfl, rfl, fun _ => by simp [roll0], fun j => Iff.rfl, .nil, .nil, (fun x h => nomatch h), (fun x h => nomatch h), (fun x h => nomatch h), (fun j h => nomatch h)⟩
theorem mem_take_mono {α : Type} {ls : List α} {i j : Nat} {x : α} (h : i ≤ j) (m : x ∈ ls.take i) : x ∈ ls.take j := by
  rw [← Nat.min_eq_left h, ← List.take_take] at m
  exact List.mem_of_mem_take m
theorem WkM.mono {cs : List CovM} {ls : List LossM} {i j : Nat} {ks : List Int} {R : RollM} (W : WkM cs ls i ks R) (h : i ≤ j) : WkM cs ls j ks R :=
  ⟨W.hcs, W.f, W.held, W.kn, W.nums, W.nodup, W.sorted, W.past, W.fut, W.ok, fun k hk => by
    obtain ⟨x, hx, e⟩ := List.mem_map.mp (W.from_ k hk)
    exact List.mem_map.mpr ⟨x, mem_take_mono h hx, e⟩⟩
theorem WkM.unheld {cs : List CovM} {ls : List LossM} {i : Nat} {ks : List Int} {R : RollM} (W : WkM cs ls i ks R) {j : Int} (h : j ∉ R.order.map LossM.n) : R.held j = none := by
  rw [W.held]
  cases q : (settleL R.order (roll0 cs)).held j with
  | none => rfl
  | some s =>
    rcases (settleL_held R.order (roll0 cs) j).mp (by rw [q]; exact fun e => nomatch e) with e | e
    · exact absurd rfl e
    · exact absurd e h
theorem WkM.enter {cs : List CovM} {ls : List LossM} {i : Nat} {ks : List Int} {R : RollM} (W : WkM cs ls i ks R) {l : LossM} (h1 : R.kn l.n = false) (h2 : lateM l.d R.closed = false) (h3 : LossOk l) (h4 : l.n ∈ (ls.take i).map LossM.n) : WkM cs ls i (ks ++ [l.n]) (enterM R l) := by
  have hn : l.n ∉ ks := by
    have := W.kn l.n
    rw [h1] at this
    exact of_decide_eq_false this.symm
  refine { hcs := W.hcs, f := W.f, held := W.held, kn := fun j => ?_, nums := fun j => ?_, nodup := ?_, sorted := W.sorted, past := W.past, fut := fun x hx => ?_, ok := fun x hx => ?_, from_ := fun j hj => ?_ }
  · show (R.kn j || decide (j = l.n)) = _
    rw [W.kn j]
    by_cases e : j = l.n <;> by_cases e2 : j ∈ ks <;> simp [e, e2]
  · show j ∈ ks ++ [l.n] ↔ j ∈ (R.order ++ (R.ws ++ [l])).map LossM.n
    rw [← List.append_assoc, List.map_append, List.mem_append, List.mem_append, W.nums j]
    rfl
  · show ((R.order ++ (R.ws ++ [l])).map LossM.n).Nodup
    rw [← List.append_assoc, List.map_append, List.nodup_append]
    refine ⟨W.nodup, by simp, fun a ha b hb e => ?_⟩
    have : b = l.n := by simpa using hb
    exact hn ((W.nums _).mpr (by rw [← this, ← e]; exact ha))
  · rcases List.mem_append.mp hx with h | h
    · exact W.fut x h
    · rw [List.mem_singleton.mp h]
      exact h2
  · have hx : x ∈ R.order ++ (R.ws ++ [l]) := hx
    rw [← List.append_assoc] at hx
    rcases List.mem_append.mp hx with h | h
    · exact W.ok x h
    · rw [List.mem_singleton.mp h]
      exact h3
  · rcases List.mem_append.mp hj with h | h
    · exact W.from_ j h
    · rw [List.mem_singleton.mp h]
      exact h4
theorem ready_perm (R : RollM) (dy : Int) : (readyM R dy ++ R.ws.filter fun l => !decide (l.d ≤ dy)).Perm R.ws :=
  ((sortRow_perm _).append_right _).trans (List.filter_append_perm (fun l : LossM => decide (l.d ≤ dy)) R.ws)
theorem closeM_eq (R : RollM) (dy : Int) : (closeM R dy).order = R.order ++ readyM R dy ∧ (closeM R dy).ws = (R.ws.filter fun l => !decide (l.d ≤ dy)) ∧ (closeM R dy).kn = R.kn ∧ (closeM R dy).closed = some dy ∧ (closeM R dy).cs = R.cs := by
  unfold closeM
  rw [settleL_order]
  obtain ⟨h1, h2, h3, h4⟩ := settleL_rest (readyM R dy) { R with closed := some dy, ws := R.ws.filter fun l => !decide (l.d ≤ dy) }
  exact ⟨rfl, h2, h3, h4, h1⟩
theorem mem_ready {R : RollM} {dy : Int} {x : LossM} : x ∈ readyM R dy ↔ x ∈ R.ws ∧ x.d ≤ dy := by
  unfold readyM
  rw [(sortRow_perm _).mem_iff, List.mem_filter, decide_eq_true_eq]
theorem WkM.nodws {cs : List CovM} {ls : List LossM} {i : Nat} {ks : List Int} {R : RollM} (W : WkM cs ls i ks R) : (R.ws.map LossM.n).Nodup := by
  have h := W.nodup
  rw [List.map_append, List.nodup_append] at h
  exact h.2.1
theorem WkM.close {cs : List CovM} {ls : List LossM} {i : Nat} {ks : List Int} {R : RollM} (W : WkM cs ls i ks R) {dy : Int} (h : lateM dy R.closed = false) : WkM cs ls i ks (closeM R dy) := by
  obtain ⟨e1, e2, e3, e4, e5⟩ := closeM_eq R dy
  have hp : (R.order ++ R.ws).Perm ((closeM R dy).order ++ (closeM R dy).ws) := by
    rw [e1, e2, List.append_assoc]
    exact ((ready_perm R dy).append_left R.order).symm
  have hl := settleL_like (readyM R dy) { R with closed := some dy, ws := R.ws.filter fun l => !decide (l.d ≤ dy) } (settleL R.order (roll0 cs)) (W.hcs.trans (settleL_rest R.order (roll0 cs)).1.symm) W.f W.held
  have late : ∀ x ∈ R.order, ∃ c, R.closed = some c ∧ x.d ≤ c ∧ c < dy := fun x hx => by
    have q := W.past x hx
    cases hc : R.closed with
    | none => rw [hc] at q; cases q
    | some c =>
      rw [hc] at q h
      exact ⟨c, rfl, of_decide_eq_true q, by have := of_decide_eq_false h; omega⟩
  refine { hcs := e5.trans W.hcs, f := ?_, held := ?_, kn := fun j => by rw [e3]; exact W.kn j, nums := fun j => (W.nums j).trans ((hp.map _).mem_iff), nodup := (hp.map _).nodup_iff.mp W.nodup, sorted := ?_, past := fun x hx => ?_, fut := fun x hx => ?_, ok := fun x hx => W.ok x (hp.mem_iff.mpr hx), from_ := W.from_ }
  · rw [e1, settleL_append]
    exact hl.1
  · rw [e1, settleL_append]
    exact hl.2
  · rw [e1, List.pairwise_append]
    refine ⟨W.sorted, sortRow_sorted (W.nodws.sublist ((List.filter_sublist (l := R.ws)).map _)), fun x hx y hy => ?_⟩
    obtain ⟨c, hc, h1, h2⟩ := late x hx
    have h3 := W.fut y (mem_ready.mp hy).1
    rw [hc] at h3
    have := of_decide_eq_false h3
    exact .inl (by omega)
  · rw [e4]
    show decide (x.d ≤ dy) = true
    rw [e1] at hx
    rcases List.mem_append.mp hx with hx | hx
    · obtain ⟨c, hc, h1, h2⟩ := late x hx
      exact decide_eq_true (by omega)
    · exact decide_eq_true (mem_ready.mp hx).2
  · rw [e4]
    rw [e2] at hx
    have := (List.mem_filter.mp hx).2
    exact decide_eq_false (by simpa using this)
/-- the last close leaves nothing that waits -/
theorem WkM.all {cs : List CovM} {ls : List LossM} {i : Nat} {ks : List Int} {R : RollM} (W : WkM cs ls i ks R) (h : lateM 1000000 R.closed = true) : R.ws = [] := by
  cases hw : R.ws with
  | nil => rfl
  | cons x r =>
    exfalso
    have h1 := W.fut x (by rw [hw]; exact List.mem_cons_self)
    have h2 := (W.ok x (List.mem_append_right _ (by rw [hw]; exact List.mem_cons_self))).1
    unfold okLoss at h2
    simp only [Bool.and_eq_true] at h2
    have h3 : x.d ≤ 1000000 := by
      have q := h2.1.1.1.2
      unfold isDayV rngB at q
      simp only [Bool.and_eq_true, decide_eq_true_eq] at q
      exact q.2
    cases hc : R.closed with
    | none => rw [hc] at h; cases h
    | some c =>
      rw [hc] at h h1
      have := of_decide_eq_true h
      have := of_decide_eq_false h1
      omega
end Cv
namespace Cv
open PySem PySem.Spec
open PyProof.Rows hiding St
open L2
section
variable {P : Program} {w : World} {K : PySem.W.Frag} {mg : Str → Option Value} {base : Heap}
/-! ### what was found is what is due -/
theorem dp_rs {H : Hp} {p : Addr} {x : Str} {i : Int} (h : RsV H p x i) : Dp K H (.ref p) (.tuple [.str x, .int i]) := .tup (SqT.of h) (.cons (.str x) (.cons (.int i) .nil))
theorem sh_rs (x : Str) (i : Int) (hx : PyData.strOk x = true) : SeqAt.shaped (.tuple [.str x, .int i]) = true := shaped_tup _ (by simp [PyData.canLayAll0, PyData.canLay0, hx]) (by simp [PyData.depthAll, PyData.depth])
def sp_law_right (K : PySem.W.Frag) : Sp := fun vs H Q _ => ∃ (p q : Addr) (x : Str) (i : Int), vs = [.ref p, .ref q] ∧ PyData.strOk x = true ∧ RsV H p x i ∧ RsV H q x i ∧ ∀ H', Same H H' → Q (.bl true) H'
theorem ok_law_right (T : Txt K mg) : C8.Cal P w K mg base 2 "_law_right" (sp_law_right K) [] := by
  refine cal T.D_law_right T.g__law_right sc_law_right (fun _ _ _ _ _ _ us hl => match us, hl with | [_, _], _ => rfl) (fun vs H Q E h => ?_) (fun cdv A outer s H vs Q E hr h => ?_)
  · obtain ⟨p, q, x, i, rfl, _⟩ := h
    rfl
  obtain ⟨p, q, x, i, rfl, hsx, hp, hq, k⟩ := h
  have nd := (sc_law_right).nd
  have hp' : H p = some (.tup [.str x, .int i]) := hp
  refine ⟨_, (pss_cons (ps_if (PW.pt (pw_and (pt_cmpR op_in_seq (pe_ix ix_tup (pv 0) pe_int (fun _ _ => rfl)) (pe_tup (pa_cons pe_str (pa_cons pe_str pa_nil))) rfl) (pw_and1 (pt_not (pt_val (C8.pe_c (ok_law_whole T) hr (by decide) rfl (pa_cons (pe_ix ix_tup (pv 0) pe_int (fun _ _ => rfl)) pa_nil)))))))
(pss_one (ps_ret pe_bl))
pss_nil)
(pss_one (ps_ret (pe_cmpR (op_eqD hr.units) (pv 0) (pv 1) (nomark _))))), ?_⟩
  try dsimp only [cxOf, Cx.nox, Cx.wish]
  k_clsL
  k_places
  rename_i t nt H1 hS1 ht
  have hp1 := hS1.get hp'
  have fin : ∀ H2, Same H H2 → rEqD K (.ref p) (.ref q) H2 Q := fun H2 S => ⟨_, _, dp_rs (S.get hp), dp_rs (S.get hq), sh_rs x i hsx, sh_rs x i hsx, by
    rw [show PyData.eqv (.tuple [.str x, .int i]) (.tuple [.str x, .int i]) = true by simp [PyData.eqv, PyData.eqvAll]]
    exact k H2 S⟩
  k_clsL
  refine ⟨t, _, rfl, .inr (SqT.of ht), rfl, rfl, ?_⟩
  k_clsL
  refine ifb (fun c => ?_) (fun c => ?_)
  · k_clsL
    refine ⟨_, rfl, .int i, ?_⟩
    k_clsL
    refine ifnt ?_
    k_clsL
    exact fin H1 hS1
  · k_clsL
    exact fin H1 hS1
/-! ### what is due -/
def dueM (ks : List Int) (cl : Option Int) (l : LossM) : Str × Int := if l.n ∈ ks then ("twice", l.n) else if lateM l.d cl = true then ("late", cl.getD 0) else ("taken", 0)
theorem inV_int (n : Int) : ∀ ks : List Int, inV (.int n) (ks.map V.int) = decide (n ∈ ks)
  | [] => by simp [inV]
  | k :: ks => by
    have h := inV_int n ks
    unfold inV at h ⊢
    rw [List.map_cons, List.any_cons, h]
    show (decide (k = n) || _) = _
    by_cases e : n = k <;> simp [e, eq_comm]
theorem flat_ints : ∀ ks : List Int, (ks.map V.int).all flatV = true
  | [] => rfl
  | k :: ks => by
    rw [List.map_cons, List.all_cons, flat_ints ks]
    rfl
def sp_law_due (K : PySem.W.Frag) : Sp := fun vs H Q _ => ∃ (t b : Addr) (l : LossM) (ks : List Int) (cl : Option Int), vs = [.ref t, .ref b, closedV cl] ∧ LossV H (.ref t) l ∧ H b = some (.lst (ks.map V.int)) ∧ ∀ p H', Same H H' → H p = none → RsV H' p (dueM ks cl l).1 (dueM ks cl l).2 → Q (.ref p) H'
theorem ok_law_due (T : Txt K mg) : C8.Cal P w K mg base 1 "_law_due" (sp_law_due K) [] := by
  refine cal T.D_law_due T.g__law_due sc_law_due (fun _ _ _ _ _ _ us hl => match us, hl with | [_, _, _], _ => rfl) (fun vs H Q E h => ?_) (fun cdv A outer s H vs Q E hr h => ?_)
  · obtain ⟨t, b, l, ks, cl, rfl, _⟩ := h
    rfl
  obtain ⟨t, b, l, ks, cl, rfl, ⟨t', e0, ht⟩, hb, q⟩ := h
  cases e0
  have nd := (sc_law_due).nd
  refine ⟨_, (pss_cons (ps_if (pt_cmpR op_in_seq (pe_ix ix_tup (pv 0) pe_int (fun _ _ => rfl)) (pv 1) rfl)
(pss_one (ps_ret (pe_tup (pa_cons pe_str (pa_cons (pe_ix ix_tup (pv 0) pe_int (fun _ _ => rfl)) pa_nil)))))
pss_nil)
(pss_cons (ps_if (PW.pt (pw_and (pt_cmpR op_notN (pv 2) pe_non (nomark _)) (pw_and1 (pt_cmpR op_le (pe_ix ix_tup (pv 0) pe_int (fun _ _ => rfl)) (pv 2) (nomark _)))))
(pss_one (ps_ret (pe_tup (pa_cons pe_str (pa_cons (pv 2) pa_nil)))))
pss_nil)
(pss_one (ps_ret (pe_tup (pa_cons pe_str (pa_cons pe_int pa_nil))))))), ?_⟩
  try dsimp only [cxOf, Cx.nox, Cx.wish]
  k_clsL
  refine ⟨b, _, rfl, .inl (SqL.of hb), rfl, flat_ints ks, ?_⟩
  have e1 : (if false = true then !inV (.int l.n) (ks.map V.int) else inV (.int l.n) (ks.map V.int)) = decide (l.n ∈ ks) := inV_int l.n ks
  rw [e1]
  k_clsL
  refine ifd (fun c1 => ?_) (fun c1 => ?_)
  · have e2 : dueM ks cl l = (("twice" : Str), l.n) := by
      unfold dueM
      rw [if_pos c1]
    rw [e2] at q
    k_clsL
    k_places
    rename_i p np H1 hS1 hp
    exact q p H1 hS1 np hp
  k_clsL
  cases cl with
  | none =>
    have e2 : dueM ks none l = (("taken" : Str), 0) := by
      unfold dueM
      rw [if_neg c1]
      rfl
    rw [e2] at q
    refine ifnd (fun e => absurd rfl e) (fun _ => ?_)
    k_clsL
    k_places
    rename_i p np H1 hS1 hp
    exact q p H1 hS1 np hp
  | some c =>
    refine ifnd (fun _ => ?_) (fun e => nomatch e)
    k_clsL
    show rI0 _ (.int l.d) (.int c) H _
    k_clsL
    refine ifd (fun c2 => ?_) (fun c2 => ?_)
    · have e2 : dueM ks (some c) l = (("late" : Str), c) := by
        unfold dueM
        rw [if_neg c1, if_pos (show lateM l.d (some c) = true from decide_eq_true c2)]
        rfl
      rw [e2] at q
      k_clsL
      k_places
      rename_i p np H1 hS1 hp
      exact q p H1 hS1 np hp
    · have e2 : dueM ks (some c) l = (("taken" : Str), 0) := by
        unfold dueM
        rw [if_neg c1, if_neg (by show ¬ decide _ = true; simpa using c2)]
      rw [e2] at q
      k_clsL
      k_places
      rename_i p np H1 hS1 hp
      exact q p H1 hS1 np hp
/-! ### a loss is tried -/
def sp_law_tried (K : PySem.W.Frag) : Sp := fun vs H Q _ => ∃ (a t b wt : Addr) (l : LossM) (ks : List Int) (xs : List V) (G : Hp) (r : RollM) (nn : Nat) (M : Addr → Prop), vs = [.ref a, .ref t, .ref b, closedV r.closed, .ref wt] ∧ LossV H (.ref t) l ∧ LossOk l ∧ H b = some (.lst (ks.map V.int)) ∧ H wt = some (.lst xs) ∧
  RollV K G H a r nn M ∧ nn < 9000 ∧ ¬ M b ∧ ¬ M wt ∧ b ≠ wt ∧ G b = none ∧ G wt = none ∧ (∀ i, r.kn i = decide (i ∈ ks)) ∧ ks.length < 9000 ∧ xs.length < 9000 ∧
  (l.n ∈ ks ∨ lateM l.d r.closed = true → ∀ H', Same H H' → Q (.bl true) H') ∧
  (l.n ∉ ks → lateM l.d r.closed = false → ∀ H', Same (OffS (fun x => M x ∨ x = b ∨ x = wt) H) H' → H' b = some (.lst ((ks ++ [l.n]).map V.int)) → H' wt = some (.lst (xs ++ [.ref t])) → RollV K G H' a (enterM r l) (nn + 1) M → Q (.bl true) H')
theorem ok_law_tried (T : Txt K mg) : C8.Cal P w K mg base 7 "_law_tried" (sp_law_tried K) [] := by
  refine cal T.D_law_tried T.g__law_tried sc_law_tried (fun _ _ _ _ _ _ us hl => match us, hl with | [_, _, _, _, _], _ => rfl) (fun vs H Q E h => ?_) (fun cdv A outer s H vs Q E hr h => ?_)
  · obtain ⟨a, t, b, wt, l, ks, xs, G, r, nn, M, rfl, _⟩ := h
    rfl
  obtain ⟨a, t, b, wt, l, ks, xs, G, r, nn, M, rfl, hl, hok, hb, hw, hR, hnn, nMb, nMw, nbw, nGb, nGw, hkn, zk, zx, k1, k2⟩ := h
  have nd := (sc_law_tried).nd
  refine ⟨_, (pss_cons (ps_set (i := 5) nd rfl (Or.inl rfl) (C8.pe_c (ok_law_due T) hr (by decide) rfl (pa_cons (pv 1) (pa_cons (pv 2) (pa_cons (pv 3) pa_nil)))))
(pss_cons (ps_if (pt_not (pt_val (C8.pe_c (ok_law_right T) hr (by decide) rfl (pa_cons (C8.pe_c (ok_law_entered T) hr (by decide) rfl (pa_cons (pv 0) (pa_cons (pv 1) pa_nil))) (pa_cons (pv 5) pa_nil)))))
(pss_one (ps_ret pe_bl))
pss_nil)
(pss_cons (ps_if (pt_cmpR op_eq (pe_ix ix_tup (pv 5) pe_int (fun _ _ => rfl)) pe_str (nomark _))
(pss_cons (ps_expr (pe_bm PySem.F.plainAttrs_list PySem.F.slot_list_append PySem.F.type_list_append mt_append (pv 2) (pa_cons (pe_ix ix_tup (pv 1) pe_int (fun _ _ => rfl)) pa_nil)))
(pss_one (ps_expr (pe_bm PySem.F.plainAttrs_list PySem.F.slot_list_append PySem.F.type_list_append mt_append (pv 4) (pa_cons (pv 1) pa_nil)))))
pss_nil)
(pss_one (ps_ret pe_bl))))), ?_⟩
  try dsimp only [cxOf, Cx.nox, Cx.wish]
  k_clsL
  refine ⟨t, b, l, ks, r.closed, rfl, hl, hb, fun p H1 hS1 np hp => ?_⟩
  k_clsL
  have hl1 := hl.tk hS1.tk
  have hl1' := hl1
  obtain ⟨t', e0, ht1⟩ := hl1'
  cases e0
  refine ⟨a, t, _, _, _, _, _, _, G, r, nn, M, rfl, ht1, parts_of hok, hR.same hS1, by omega, fun hno => absurd hok.1 (by rw [hno]; exact Bool.false_ne_true), fun l' e1 e2 e3 e4 e5 e6 _ => ?_⟩
  have el : l' = l := by
    cases l'; cases l
    simp only [V.int.injEq, V.str.injEq] at e1 e2 e3 e4 e5 e6
    subst e1 e2 e3 e4 e5 e6
    rfl
  subst el
  have hk := hkn l'.n
  refine ⟨fun kn q H2 hS2 nq hq => ?_, fun kn cl hc hle q H2 hS2 nq hq => ?_, fun kn hlt q H2 hS2 nq hq hR2 => ?_⟩
  · rw [kn] at hk
    have hin : l'.n ∈ ks := of_decide_eq_true hk.symm
    have ed : dueM ks r.closed l' = (("twice" : Str), l'.n) := by
      unfold dueM
      rw [if_pos hin]
    rw [ed] at hp
    k_clsL
    replace hp : RsV H1 p "twice" l'.n := hp
    refine ⟨q, p, "twice", l'.n, rfl, by decide +kernel, hq, hS2.get hp, fun H3 hS3 => ?_⟩
    have hp3 := hS3.get (hS2.get hp)
    k_clsL
    refine ifdf (by decide) ?_
    k_clsL
    exact k1 (.inl hin) H3 (hS1.trans (hS2.trans hS3))
  · rw [kn] at hk
    have hin : l'.n ∉ ks := of_decide_eq_false hk.symm
    have hlt : lateM l'.d r.closed = true := by
      rw [hc]
      exact decide_eq_true hle
    have ed : dueM ks r.closed l' = (("late" : Str), cl) := by
      unfold dueM
      rw [if_neg hin, if_pos hlt, hc]
      rfl
    rw [ed] at hp
    k_clsL
    replace hp : RsV H1 p "late" cl := hp
    refine ⟨q, p, "late", cl, rfl, by decide +kernel, hq, hS2.get hp, fun H3 hS3 => ?_⟩
    have hp3 := hS3.get (hS2.get hp)
    k_clsL
    refine ifdf (by decide) ?_
    k_clsL
    exact k1 (.inr hlt) H3 (hS1.trans (hS2.trans hS3))
  · rw [kn] at hk
    have hin : l'.n ∉ ks := of_decide_eq_false hk.symm
    have ed : dueM ks r.closed l' = (("taken" : Str), 0) := by
      unfold dueM
      rw [if_neg hin, if_neg (by rw [hlt]; exact Bool.false_ne_true)]
    rw [ed] at hp
    have hR1 := hR.same hS1
    have hR1' := hR1
    obtain ⟨dx, ac, ad, ao, ah, bv, xs2, hvs, Mc, Md, nc, R1⟩ := hR1'
    have hR0' := hR
    obtain ⟨dx0, ac0, ad0, ao0, ah0, bv0, xs0, hvs0, Mc0, Md0, nc0, R0⟩ := hR0'
    have nMp : ¬ M p := fun m => R0.there m np
    replace hp : RsV H1 p "taken" 0 := hp
    have hp2 : H2 p = some (.tup [.str "taken", .int 0]) := hS2 _ _ (OffS.at hp nMp)
    have ht2 : H2 t = some (.tup [.int l'.n, .int l'.d, .str l'.e, .str l'.t, .str l'.c, .int l'.m]) := R1.tk hS2 _ _ ht1
    have hb2 := hS2 _ _ (OffS.at (hS1.get hb) nMb)
    have hw2 := hS2 _ _ (OffS.at (hS1.get hw) nMw)
    k_clsL
    replace hp : RsV H1 p "taken" 0 := hp
    refine ⟨q, p, "taken", 0, rfl, by decide +kernel, hq, hp2, fun H3 hS3 => ?_⟩
    have hp3 := hS3.get hp2
    have ht3 := hS3.get ht2
    have hb3 := hS3.get hb2
    have hw3 := hS3.get hw2
    have z1 : (ks.map V.int).length < 100000 := by rw [List.length_map]; omega
    have z2 : xs.length < 100000 := by omega
    k_clsL
    refine ifdt (by decide) ?_
    k_clsL
    have hw4 : upd H3 b (.lst (ks.map V.int ++ [.int l'.n])) wt = some (.lst xs) := by rw [upd_ne nbw.symm]; exact hw3
    k_clsL
    refine k2 hin hlt _ (fun x o hx => ?_) ?_ upd_same ?_
    · have hx' := OffS.same _ _ _ _ hx
      have nm : ¬ (M x ∨ x = b ∨ x = wt) := fun m => by rw [OffS.none (M := fun x => M x ∨ x = b ∨ x = wt) m] at hx; cases hx
      rw [upd_ne (fun e => nm (.inr (.inr e))), upd_ne (fun e => nm (.inr (.inl e)))]
      exact hS3 _ _ (hS2 _ _ (OffS.at (hS1 _ _ hx') fun m => nm (.inl m)))
    · rw [upd_ne nbw, upd_same, List.map_append]
      rfl
    · have hR3 := hR2.same hS3
      have hR3' := hR3
      obtain ⟨dx3, ac3, ad3, ao3, ah3, bv3, xs3, hvs3, Mc3, Md3, nc3, R3⟩ := hR3'
      have tkb : TK H3 (upd H3 b (.lst (ks.map V.int ++ [.int l'.n]))) := (TK.refl H3).lst hb3
      refine hR3.keep (tkb.lst hw4) (fun x o m h => ?_) (fun x o h => ?_)
      · have n1 : x ≠ wt := fun e => nMw (by rw [← e]; exact m)
        have n2 : x ≠ b := fun e => nMb (by rw [← e]; exact m)
        rw [upd_ne n1, upd_ne n2]
        exact h
      · rw [upd_ne (ne_of_none h nGw), upd_ne (ne_of_none h nGb)]
        exact R3.sub x o h
end
end Cv
namespace Cv
open PySem PySem.Spec
open PyProof.Rows hiding St
open L2
/-! ### losses as data; a list without some of its losses -/
def encL (l : LossM) : PyData := .tuple [.int l.n, .int l.d, .str l.e, .str l.t, .str l.c, .int l.m]
theorem encL_can {l : LossM} (h : LossOk l) : (encL l).canLay0 = true := by
  obtain ⟨_, _, _, _, h1, h2, h3⟩ := h
  simp [encL, PyData.canLay0, PyData.canLayAll0, h1, h2, h3]
theorem encL_dep (l : LossM) : (encL l).depth ≤ 60 := by simp [encL, PyData.depth, PyData.depthAll]
theorem encL_eqv (x y : LossM) : PyData.eqv (encL x) (encL y) = decide (x = y) := by
  rw [Bool.eq_iff_iff]
  cases x; cases y
  simp [encL, PyData.eqv, PyData.eqvAll]
theorem dp_loss {K : PySem.W.Frag} {H : Hp} {v : V} {l : LossM} (h : LossV H v l) : Dp K H v (encL l) := by
  obtain ⟨t, rfl, ht⟩ := h
  exact .tup (SqT.of ht) (.cons (.int _) (.cons (.int _) (.cons (.str _) (.cons (.str _) (.cons (.str _) (.cons (.int _) .nil))))))
theorem sh_loss {l : LossM} (h : LossOk l) : SeqAt.shaped (encL l) = true := by
  have h1 := encL_can h
  unfold SeqAt.shaped
  rw [h1, Bool.true_and]
  exact decide_eq_true (by have := encL_dep l; omega)
def remL : List LossM → List LossM → List LossM
  | W, [] => W
  | W, l :: ls => remL (W.erase l) ls
theorem remL_eq : ∀ (ls W : List LossM), W.Nodup → ls.Nodup → (∀ x ∈ ls, x ∈ W) → remL W ls = W.filter fun x => decide (x ∉ ls)
  | [], W, _, _, _ => by
    show W = _
    rw [List.filter_eq_self.mpr fun x _ => by simp]
  | l :: ls, W, hW, hl, hs => by
    have h1 := List.nodup_cons.mp hl
    show remL (W.erase l) ls = _
    rw [remL_eq ls (W.erase l) (hW.erase l) h1.2 fun x hx => (List.mem_erase_of_ne fun e => h1.1 (by rw [← e]; exact hx)).mpr (hs x (List.mem_cons_of_mem _ hx)), hW.erase_eq_filter l, List.filter_filter]
    refine List.filter_congr fun x _ => ?_
    by_cases e1 : x = l <;> by_cases e2 : x ∈ ls <;> simp [e1, e2]
theorem nodup_of_n {ls : List LossM} (h : (ls.map LossM.n).Nodup) : ls.Nodup := by
  unfold List.Nodup at *
  exact (List.pairwise_map.mp h).imp fun q e => q (congrArg _ e)
theorem erase_at {W : List LossM} {l : LossM} (h : l ∈ W) : ∃ j, W[j]? = some l ∧ (∀ m, m < j → W[m]? ≠ some l) ∧ W.erase l = W.eraseIdx j := by
  refine ⟨W.idxOf l, ?_, fun m hm e => ?_, List.erase_eq_eraseIdx_of_idxOf rfl⟩
  · rw [List.getElem?_eq_getElem (List.idxOf_lt_length_iff.mpr h), List.getElem_idxOf]
  · have h2 := (List.getElem?_eq_some_iff.mp e)
    obtain ⟨hm2, e3⟩ := h2
    have h4 := List.not_of_lt_findIdx (p := fun x => x == l) (xs := W) hm
    simp [e3] at h4
theorem Pa.eraseIdx {α β : Type} {F : α → β → Prop} : ∀ {l : List α} {m : List β} (i : Nat), Paired F l m → Paired F (l.eraseIdx i) (m.eraseIdx i)
  | _, _, _, .nil => .nil
  | _, _, 0, .cons _ t => t
  | _, _, i + 1, .cons r t => .cons r (Pa.eraseIdx i t)
theorem ready_rem {R : RollM} (dy : Int) (h : (R.ws.map LossM.n).Nodup) : remL R.ws (readyM R dy) = R.ws.filter fun l => !decide (l.d ≤ dy) := by
  have hw := nodup_of_n h
  have hr : (readyM R dy).Nodup := (sortRow_perm _).nodup_iff.mpr (hw.sublist List.filter_sublist)
  rw [remL_eq _ _ hw hr fun x hx => (mem_ready.mp hx).1]
  refine List.filter_congr fun x hx => ?_
  by_cases e : x.d ≤ dy
  · have : x ∈ readyM R dy := mem_ready.mpr ⟨hx, e⟩
    simp [this, e]
  · have : x ∉ readyM R dy := fun m => e (mem_ready.mp m).2
    simp [this, e]
/-! ### the key that the law sorts by -/
theorem turn_key {H : Hp} {v : V} {l : LossM} (h : LossV H v l) : ∃ t xs ws ds, v = .ref t ∧ H t = some (.tup xs) ∧ Paired (fun i u => -(2 ^ 63) ≤ i ∧ i < 2 ^ 63 ∧ ∃ j, seqIndex? i xs.length = some j ∧ xs[j]? = some u) [1, 0] ws ∧ ws.length ≤ 100 ∧ keyTurn l = .tuple ds ∧ Paired (fun u d => ∃ i, u = V.int i ∧ d = PyData.int i) ws ds := by
  obtain ⟨t, rfl, ht⟩ := h
  exact ⟨t, _, [.int l.d, .int l.n], _, rfl, ht, .cons ⟨by decide, by decide, 1, rfl, rfl⟩ (.cons ⟨by decide, by decide, 0, rfl, rfl⟩ .nil), Nat.le_of_ble_eq_true rfl, rfl, .cons ⟨_, rfl, rfl⟩ (.cons ⟨_, rfl, rfl⟩ .nil)⟩
theorem pe_sorted_law_turn {X : Cx} {j : Nat} {e : Expr} {ta : TE} {p p2 kp pos : Pos} (T : Txt X.K X.mg) (hr : Room j X.A) (ha : PE X e ta) (hg : Gl X "sorted" := by rfl) (hg2 : Gl X "_law_turn" := by rfl)
    (hst : starEach [e] X.env = (false, eval e X.env) :: starEach [] X.env := by rfl)
    (he : backTo pos (starEach [e] X.env) = (false, eval e X.env) :: backTo pos (starEach [] X.env) := by rfl) (hpl : (backTo pos (starEach [e] X.env)).any (·.1) = false := by rfl)
    (hall : (backToKw pos (keywordEach [⟨some "key", .Name "_law_turn" p2, kp⟩] X.env)).all (·.1.isSome) = true := by rfl) (hnone : (backToKw pos (keywordEach [⟨some "key", .Name "_law_turn" p2, kp⟩] X.env)).any (·.1.isNone) = false := by rfl) (hks : (backToKw pos (keywordEach [⟨some "key", .Name "_law_turn" p2, kp⟩] X.env)).filterMap (·.1) = [Str.ofString "key"] := by rfl) :
    PE X (.Call (.Name "sorted" p) [e] [⟨some "key", .Name "_law_turn" p2, kp⟩] pos) (tCKw (rSortedKey X.K (He.ga X.K "_law_turn") LossV keyTurn) (tCons ta tNil) (tCons (tC (.ref (He.ga X.K "_law_turn"))) tNil)) :=
  pe_callBK (cr_sortedKey (is := [1, 0]) T.D_law_turn (fun _ _ _ _ _ _ us hl => match us, hl with | [_], _ => rfl) sc_law_turn rfl (.cons _ _ _ _ (.cons _ _ _ _ .nil)) hr (fun H v b h => turn_key h) (fun b b' => by simp [keyTurn, PySem.W.alike, PySem.W.alikeAll]) (fun b => ⟨_, _, rfl⟩) (fun b => by simp [keyTurn, PyData.depth, PyData.depthAll]))
    hg T.f_sorted Cv.bb_sorted (pa_cons ha pa_nil hst) (pk_cons (C8.pe_gc hg2 T.c__law_turn) pk_nil) (by decide) (by decide) he hpl hall hnone hks
def closesM (r : RollM) (dy : Int) : RollM := if lateM dy r.closed = true then r else closeM r dy
def rdyM (r : RollM) (dy : Int) : List LossM := if lateM dy r.closed = true then [] else readyM r dy
theorem closesM_order (r : RollM) (dy : Int) : (closesM r dy).order = r.order ++ rdyM r dy := by
  unfold closesM rdyM
  split
  · rw [List.append_nil]
  · exact (closeM_eq r dy).1
theorem closesM_ws {r : RollM} (dy : Int) (h : (r.ws.map LossM.n).Nodup) : (closesM r dy).ws = remL r.ws (rdyM r dy) := by
  unfold closesM rdyM
  split
  · rfl
  · rw [(closeM_eq r dy).2.1, ready_rem dy h]
theorem rdyM_sub {r : RollM} {dy : Int} {x : LossM} (h : x ∈ rdyM r dy) : x ∈ r.ws := by
  unfold rdyM at h
  split at h
  · cases h
  · exact (mem_ready.mp h).1
theorem rdyM_nodup {r : RollM} {dy : Int} (h : (r.ws.map LossM.n).Nodup) : (rdyM r dy).Nodup := by
  unfold rdyM
  split
  · exact .nil
  · exact (sortRow_perm _).nodup_iff.mpr ((nodup_of_n h).sublist List.filter_sublist)
theorem rdyM_len (r : RollM) (dy : Int) : (rdyM r dy).length ≤ r.ws.length := by
  unfold rdyM
  split
  · exact Nat.zero_le _
  · have := ready_len r dy
    omega
theorem fm_filter (dy : Int) : ∀ ls : List LossM, (ls.filterMap fun l => if l.d ≤ dy then some l else none) = ls.filter fun l => decide (l.d ≤ dy)
  | [] => rfl
  | l :: ls => by
    rw [List.filterMap_cons, List.filter_cons, fm_filter dy ls]
    by_cases e : l.d ≤ dy <;> simp [e]
theorem eqv_nums : ∀ ls : List LossM, PyData.eqvAll (ls.map fun l => PyData.int l.n) (ls.map fun l => PyData.int l.n) = true
  | [] => rfl
  | l :: ls => by
    rw [List.map_cons, PyData.eqvAll, eqv_nums ls]
    simp [PyData.eqv]
theorem sh_nums (ls : List LossM) : SeqAt.shaped (.tuple [.str "closed", .list (ls.map fun l => PyData.int l.n)]) = true := by
  have h1 := canAll (fun l : LossM => PyData.int l.n) ls fun b _ => by simp [PyData.canLay0]
  have h2 := depAll (fun l : LossM => PyData.int l.n) 5 ls fun b _ => by simp [PyData.depth]
  refine shaped_tup _ ?_ ?_
  · simp [PyData.canLayAll0, PyData.canLay0, h1]
    decide +kernel
  · simp only [PyData.depthAll, PyData.depth]
    omega
theorem dp_nums {K : PySem.W.Frag} {H : Hp} {p q : Addr} {vs : List V} {ls : List LossM} (hp : H p = some (.tup [.str "closed", .ref q])) (hq : H q = some (.lst vs)) (hv : Paired (fun v (l : LossM) => v = .int l.n) vs ls) : Dp K H (.ref p) (.tuple [.str "closed", .list (ls.map fun l => PyData.int l.n)]) :=
  .tup (SqT.of hp) (.cons (.str _) (.cons (.lst (SqL.of hq) (dpAll (fun l : LossM => PyData.int l.n) (fun v b e => by rw [e]; exact .int _) hv)) .nil))
section
variable {P : Program} {w : World} {K : PySem.W.Frag} {mg : Str → Option Value} {base : Heap}
/-! ### a day is closed, and the law's own lists follow -/
def sp_law_closes (K : PySem.W.Frag) : Sp := fun vs H Q _ => ∃ (a wt o : Addr) (dy : Int) (xs ys : List V) (G : Hp) (r : RollM) (nn : Nat) (M : Addr → Prop), vs = [.ref a, .int dy, closedV r.closed, .ref wt, .ref o] ∧ isDayV (.int dy) = true ∧ H wt = some (.lst xs) ∧ Paired (LossV H) xs r.ws ∧ (r.ws.map LossM.n).Nodup ∧ (∀ x ∈ r.ws, LossOk x) ∧
  H o = some (.lst ys) ∧ Paired (LossV H) ys r.order ∧ RollV K G H a r nn M ∧ nn ≤ 1000 ∧ ¬ M wt ∧ ¬ M o ∧ wt ≠ o ∧ G wt = none ∧ G o = none ∧
  ∀ H' M' xs' ys', Same (OffS (fun x => M x ∨ x = wt ∨ x = o) H) H' → (∀ x, M' x → M x ∨ H x = none) → H' wt = some (.lst xs') → Paired (LossV H') xs' (closesM r dy).ws → H' o = some (.lst ys') → Paired (LossV H') ys' (closesM r dy).order → RollV K G H' a (closesM r dy) nn M' → Q (.bl true) H'
theorem ok_law_closes (T : Txt K mg) : C8.Cal P w K mg base 9 "_law_closes" (sp_law_closes K) [] := by
  refine cal T.D_law_closes T.g__law_closes sc_law_closes (fun _ _ _ _ _ _ us hl => match us, hl with | [_, _, _, _, _], _ => rfl) (fun vs H Q E h => ?_) (fun cdv A outer s H vs Q E hr h => ?_)
  · obtain ⟨a, wt, o, dy, xs, ys, G, r, nn, M, rfl, _⟩ := h
    rfl
  obtain ⟨a, wt, o, dy, xs, ys, G, r, nn, M, rfl, hdy, hw, hwP, hwn, hwok, ho, hoP, hR, hnn, nMw, nMo, nwo, nGw, nGo, k⟩ := h
  have nd := (sc_law_closes).nd
  refine ⟨_, (pss_cons (ps_set (i := 5) nd rfl (Or.inl rfl) (Cv.pe_sorted_law_turn T hr (pe_lc (own := [("_law_loss", 6)]) (g := (gName 6)) (tt := tTest (tOp (rI0 fun i j => .bl (decide (i ≤ j))) (tOp (rIxT K) (tVar 6) (tC (.int 1))) (tVar 1))) rfl nd (pi_list (pv 3)) (blkOk_by (own := [("_law_loss", 6)]) (N := N_law_closes) (sc := defScope s_law_closes) (by decide +kernel)) (fun _ _ _ _ _ => (pg_name (i := 6) nd rfl (Or.inl rfl))) (fun _ _ _ _ _ => (pts_one (pt_cmpR op_le (pe_ix ix_tup (pv 6) pe_int (fun _ _ => rfl)) (pv 1) (nomark _)))) (fun _ _ _ _ _ => (pv 6)))))
(C8.pss_cut (ps_if (PW.pt (pw_and (pt_cmpR op_notN (pv 2) pe_non (nomark _)) (pw_and1 (pt_cmpR op_le (pv 1) (pv 2) (nomark _)))))
(pss_one (ps_set (i := 5) nd rfl (Or.inl rfl) (pe_lst pa_nil)))
pss_nil)
(C8.pss_cut (ps_if (pt_cmpR (op_neD hr.units) (C8.pe_c (ok_law_closed T) hr (by decide) rfl (pa_cons (pv 0) (pa_cons (pv 1) pa_nil))) (pe_tup (pa_cons pe_str (pa_cons (pe_lc (own := [("_law_loss", 6)]) (g := (gName 6)) (tt := tYes) (te := tOp (rIxT K) (tVar 6) (tC (.int 0))) rfl nd (pi_list (pv 5)) (blkOk_by (own := [("_law_loss", 6)]) (N := N_law_closes) (sc := defScope s_law_closes) (by decide +kernel)) (fun _ _ _ _ _ => (pg_name (i := 6) nd rfl (Or.inl rfl))) (fun _ _ _ _ _ => pts_nil) (fun _ _ _ _ _ => (pe_ix ix_tup (pv 6) pe_int (fun _ _ => rfl)))) pa_nil))) (nomark _))
(pss_one (ps_ret pe_bl))
pss_nil)
(pss_cons (ps_for PassesOwn.never rfl (pi_list (pv 5)) (pg_name (i := 6) nd rfl (Or.inl rfl))
(pss_cons (ps_expr (pe_bm PySem.F.plainAttrs_list PySem.F.slot_list_remove PySem.F.type_list_remove (Cv.mt_removeD (Cv.units65 hr)) (pv 3) (pa_cons (pv 6) pa_nil)))
(pss_one (ps_expr (pe_bm PySem.F.plainAttrs_list PySem.F.slot_list_append PySem.F.type_list_append mt_append (pv 4) (pa_cons (pv 6) pa_nil))))))
(pss_one (ps_ret pe_bl)))))), ?_⟩
  try dsimp only [cxOf, Cx.nox, Cx.wish]
  unfold tCKw
  k_clsL
  have hR' := hR
  obtain ⟨dx, ac, ad, ao, ah, bv, xs0, hvs, Mc, Md, nc, R⟩ := hR'
  have hwl := hwP.length
  have hol := hoP.length
  have hsz := R.size.1
  refine lcg_l (xs := xs) LossV r.ws LossV (fun l => if l.d ≤ dy then some l else none) (fun S h => h.tk S.tk) (SqL.of hw) (fun H1 S => Paired.mapP hwP fun _ _ q => q.tk S.tk) (sz_lt (by omega)) (fun i c x D H1 acc K1 K0 e1 nD hS hD hx j1 j0 => ?_) (fun D H1 ys1 nD hS hD hP => ?_)
  · obtain ⟨t, rfl, ht⟩ := hx
    k_clsL
    refine ifd (fun c1 => ?_) (fun c1 => ?_)
    · k_clsL
      exact j1 _ c _ (if_pos c1) (Same.refl _) ⟨t, rfl, Off.at ht (ne_of ht hD (fun z => nomatch z))⟩
    · exact j0 _ (if_neg c1) (Same.refl _)
  rw [fm_filter] at hP
  k_clsL
  refine ⟨rfl, D, ys1, _, rfl, SqL.of hD, hP, fun p zs np hP2 => ?_⟩
  have er : (r.ws.filter fun l => decide (l.d ≤ dy)).mergeSort (PySem.W.dataLe false keyTurn) = readyM r dy := by
    unfold readyM sortRow
    rw [leRow]
  rw [er] at hP2
  have hS2 : Same H1 (upd H1 p (.lst zs)) := new_same np rfl
  have hp2 : (upd H1 p (.lst zs)) p = some (.lst zs) := upd_same
  generalize upd H1 p (.lst zs) = H2 at hS2 hp2
  have S02 := hS.trans hS2
  have npH := hS.free np
  k_clsL
  refine rd_cut (fun s H3 => ∃ (p' : Addr) (zs' : List V), s = [some (.ref a), some (.int dy), some (closedV r.closed), some (.ref wt), some (.ref o), some (.ref p'), none] ∧ Same H H3 ∧ H3 p' = some (.lst zs') ∧ Paired (LossV H3) zs' (rdyM r dy) ∧ H p' = none) ?_ ?_
  · have no : lateM dy r.closed = false → rdyM r dy = readyM r dy := fun e => by
      unfold rdyM
      rw [if_neg (by rw [e]; exact Bool.false_ne_true)]
    have yes : lateM dy r.closed = true → rdyM r dy = [] := fun e => by
      unfold rdyM
      rw [if_pos e]
    have hP3 : Paired (LossV H2) zs (readyM r dy) := Paired.mapP hP2 fun _ _ q => q.tk hS2.tk
    k_clsL
    cases hc : r.closed with
    | none =>
      refine ifnd (fun e => absurd rfl e) (fun _ => ?_)
      k_clsL
      exact hold ⟨p, zs, rfl, S02, hp2, by rw [no (by rw [hc]; rfl)]; exact hP3, npH⟩
    | some c =>
      refine ifnd (fun _ => ?_) (fun e => nomatch e)
      k_clsL
      show rI0 _ (.int dy) (.int c) H2 _
      k_clsL
      refine ifd (fun c1 => ?_) (fun c1 => ?_)
      · k_clsL
        k_places
        rename_i p0 np0 H3 hS3 hp0
        k_clsL
        exact hold ⟨p0, [], rfl, S02.trans hS3, hp0, by rw [yes (by rw [hc]; exact decide_eq_true c1)]; exact .nil, S02.free np0⟩
      · k_clsL
        exact hold ⟨p, zs, rfl, S02, hp2, by rw [no (by rw [hc]; exact decide_eq_false c1)]; exact hP3, npH⟩
  rintro _ H3 ⟨p', zs', rfl, hS3, hp3, hP3, npp⟩
  refine rd_cut (fun s H5 => ∃ (M' : Addr → Prop), s = [some (.ref a), some (.int dy), some (closedV r.closed), some (.ref wt), some (.ref o), some (.ref p'), none] ∧ Same (OffS M H) H5 ∧ (∀ x, M' x → M x ∨ H x = none) ∧ H5 p' = some (.lst zs') ∧ Paired (LossV H5) zs' (rdyM r dy) ∧ RollV K G H5 a (closesM r dy) nn M') ?_ ?_
  · k_clsL
    refine ⟨a, .int dy, G, r, nn, M, rfl, .int dy, hR.same hS3, hnn, fun e => absurd hdy (by rw [e]; exact Bool.false_ne_true), fun dy' e0 _ => ?_⟩
    cases e0
    refine ⟨fun hl p q H4 hS4 np4 hp4 hq4 => ?_, fun hl p q H4 M' hS4 hM4 hp4 hq4 hR4 => ?_⟩
    · have hy : rdyM r dy = [] := by
        unfold rdyM
        rw [if_pos hl]
      have hp' := hS4.get hp3
      have hP' : Paired (LossV H4) zs' (rdyM r dy) := Paired.mapP hP3 fun _ _ q => q.tk hS4.tk
      have hV : ∀ {H7}, Same H4 H7 → Paired (fun v (l : LossM) => v = .int l.n) ([] : List V) (rdyM r dy) := fun _ => by rw [hy]; exact .nil
      k_clsL
      refine lcg_l (xs := zs') LossV (rdyM r dy) (fun _ v (l : LossM) => v = .int l.n) (fun l => some l) (fun _ h => h) (SqL.of hp') (fun _ S => Paired.mapP hP' fun _ _ q => q.tk S.tk) (sz_lt (by have := rdyM_len r dy; omega)) (fun i c x D H6 acc K1 K0 e1 nD hS6 hD hx j1 j0 => ?_) (fun D H6 ns6 nD hS6 hD hP6 => ?_)
      · obtain ⟨t, rfl, ht⟩ := hx
        k_clsL
        exact j1 _ c _ rfl (Same.refl _) rfl
      rw [List.filterMap_some] at hP6
      k_clsL
      k_places
      rename_i t nt H7 hS7 ht
      have S47 := hS6.trans hS7
      refine ⟨_, _, dp_nums (ls := rdyM r dy) (S47.get hp4) (S47.get hq4) (hV S47), dp_nums (ls := rdyM r dy) ht (hS7.get hD) hP6, sh_nums _, sh_nums _, ?_⟩
      rw [show PyData.eqv (.tuple [.str "closed", .list ((rdyM r dy).map fun l => PyData.int l.n)]) (.tuple [.str "closed", .list ((rdyM r dy).map fun l => PyData.int l.n)]) = true by simp [PyData.eqv, PyData.eqvAll, eqv_nums]]
      k_clsL
      have S07 := hS3.trans (hS4.trans S47)
      refine hold ⟨M, rfl, (OffS.same M H).trans S07, fun x m => .inl m, S47.get hp', Paired.mapP hP' fun _ _ q => q.tk S47.tk, ?_⟩
      unfold closesM
      rw [if_pos hl]
      exact hR.same S07
    · have hy : rdyM r dy = readyM r dy := by
        unfold rdyM
        rw [if_neg (by rw [hl]; exact Bool.false_ne_true)]
      have nMp : ¬ M p' := fun m => R.there m npp
      have hp' := hS4 _ _ (OffS.at hp3 nMp)
      have hR3' := hR.same hS3
      obtain ⟨dx3, ac3, ad3, ao3, ah3, bv3, xs3, hvs3, Mc3, Md3, nc3, R3⟩ := hR3'
      have hP' : Paired (LossV H4) zs' (rdyM r dy) := Paired.mapP hP3 fun _ _ q => q.tk (R3.tk hS4)
      have hV : ∀ {H7}, Same H4 H7 → Paired (fun v (l : LossM) => v = .int l.n) ((readyM r dy).map fun l => V.int l.n) (rdyM r dy) := fun _ => by rw [hy]; exact Pa.mapself (fun l : LossM => V.int l.n) _
      k_clsL
      refine lcg_l (xs := zs') LossV (rdyM r dy) (fun _ v (l : LossM) => v = .int l.n) (fun l => some l) (fun _ h => h) (SqL.of hp') (fun _ S => Paired.mapP hP' fun _ _ q => q.tk S.tk) (sz_lt (by have := rdyM_len r dy; omega)) (fun i c x D H6 acc K1 K0 e1 nD hS6 hD hx j1 j0 => ?_) (fun D H6 ns6 nD hS6 hD hP6 => ?_)
      · obtain ⟨t, rfl, ht⟩ := hx
        k_clsL
        exact j1 _ c _ rfl (Same.refl _) rfl
      rw [List.filterMap_some] at hP6
      k_clsL
      k_places
      rename_i t nt H7 hS7 ht
      have S47 := hS6.trans hS7
      refine ⟨_, _, dp_nums (ls := rdyM r dy) (S47.get hp4) (S47.get hq4) (hV S47), dp_nums (ls := rdyM r dy) ht (hS7.get hD) hP6, sh_nums _, sh_nums _, ?_⟩
      rw [show PyData.eqv (.tuple [.str "closed", .list ((rdyM r dy).map fun l => PyData.int l.n)]) (.tuple [.str "closed", .list ((rdyM r dy).map fun l => PyData.int l.n)]) = true by simp [PyData.eqv, PyData.eqvAll, eqv_nums]]
      k_clsL
      have S07 : Same (OffS M H) H7 := fun x u hx => by
        have hx' := OffS.same _ _ _ _ hx
        have nm : ¬ M x := fun m => by rw [OffS.none m] at hx; cases hx
        exact S47 _ _ (hS4 _ _ (OffS.at (hS3 _ _ hx') nm))
      refine hold ⟨M', rfl, S07, fun x m => ?_, S47.get hp', Paired.mapP hP' fun _ _ q => q.tk S47.tk, ?_⟩
      · rcases hM4 x m with h | h
        · exact .inl h
        · exact .inr (hS3.free h)
      · unfold closesM
        rw [if_neg (by rw [hl]; exact Bool.false_ne_true)]
        exact hR4.same S47
  rintro _ H5 ⟨M', rfl, hS5, hM5, hp5, hP5, hR5⟩
  have tk05 : TK H H5 := R.tk hS5
  have hw5 := hS5 _ _ (OffS.at hw nMw)
  have ho5 := hS5 _ _ (OffS.at ho nMo)
  have pw : p' ≠ wt := fun e => by rw [e, hw] at npp; cases npp
  have po : p' ≠ o := fun e => by rw [e, ho] at npp; cases npp
  have hrn := rdyM_nodup (dy := dy) hwn
  k_clsL
  refine for_l (xs := zs') LossV (rdyM r dy) (fun rest σ H6 => ∃ (W done : List LossM) (xsW ysO : List V) (v6 : Option V), σ = [some (.ref a), some (.int dy), some (closedV r.closed), some (.ref wt), some (.ref o), some (.ref p'), v6] ∧ done ++ rest = rdyM r dy ∧ H6 wt = some (.lst xsW) ∧ Paired (LossV H6) xsW W ∧ W.Nodup ∧ (∀ x ∈ rest, x ∈ W) ∧ remL W rest = remL r.ws (rdyM r dy) ∧ (∀ x ∈ W, LossOk x) ∧ W.length ≤ r.ws.length ∧
    H6 o = some (.lst ysO) ∧ Paired (LossV H6) ysO (r.order ++ done) ∧ TK H5 H6 ∧ (∀ x u, x ≠ wt → x ≠ o → H5 x = some u → H6 x = some u)) ?_ ?_ ?_ ?_
  · exact ⟨r.ws, [], xs, ys, none, rfl, rfl, hw5, Paired.mapP hwP fun _ _ q => q.tk tk05, nodup_of_n hwn, fun x h => rdyM_sub h, rfl, hwok, Nat.le_refl _, ho5, by rw [List.append_nil]; exact Paired.mapP hoP fun _ _ q => q.tk tk05, TK.refl _, fun _ _ _ _ h => h⟩
  · rintro rest σ H6 ⟨W, done, xsW, ysO, v6, rfl, e0, g1, g2, g3, g4, g5, g6, g7, g8, g9, g10, g11⟩
    exact ⟨SqL.of (g11 _ _ pw po hp5), Paired.mapP hP5 fun _ _ q => q.tk g10⟩
  · rintro c rest x σ H6 hc ⟨W, done, xsW, ysO, v6, rfl, e0, g1, g2, g3, g4, g5, g6, g7, g8, g9, g10, g11⟩ hx
    have hcW := g4 c List.mem_cons_self
    obtain ⟨j, j1, j2, j3⟩ := erase_at hcW
    have hx' := hx
    obtain ⟨t, rfl, ht⟩ := hx'
    have hyl : ysO.length < sizeLine := by
      have e1 := g9.length
      have e2 := congrArg List.length e0
      have := rdyM_len r dy
      rw [List.length_append] at e1 e2
      exact sz_lt (by omega)
    k_clsL
    refine ⟨wt, xsW, .ref t, encL c, W.map encL, j, rfl, rfl, g1, dpAll encL (fun v b h => dp_loss h) g2, dp_loss hx, shapedL encL W (fun b hb => encL_can (g6 b hb)) (fun b _ => encL_dep b), sh_loss (g6 c hcW), ⟨encL c, by rw [List.getElem?_map, j1]; rfl, by rw [encL_eqv]; exact decide_eq_true rfl⟩, fun m z hm hz => ?_, ?_⟩
    · rw [List.getElem?_map] at hz
      obtain ⟨y, hy, rfl⟩ := Option.map_eq_some_iff.mp hz
      rw [encL_eqv]
      exact decide_eq_false fun e => j2 m hm (by rw [hy, e])
    have tk1 : TK H6 (upd H6 wt (.lst (xsW.eraseIdx j))) := (TK.refl H6).lst g1
    have go1 : upd H6 wt (.lst (xsW.eraseIdx j)) o = some (.lst ysO) := by rw [upd_ne nwo.symm]; exact g8
    k_clsL
    have tk2 := tk1.lst (o := .lst (ysO ++ [.ref t])) go1
    refine hold ⟨W.erase c, done ++ [c], xsW.eraseIdx j, ysO ++ [.ref t], _, rfl, by rw [List.append_assoc]; exact e0, by rw [upd_ne nwo]; exact upd_same, ?_, g3.erase c, fun z hz => ?_, g5, fun z hz => g6 z (List.mem_of_mem_erase hz), Nat.le_trans List.length_erase_le g7, upd_same, ?_, g10.trans tk2, fun z u n1 n2 h => ?_⟩
    · rw [j3]
      exact Pa.eraseIdx j (Paired.mapP g2 fun _ _ q => q.tk tk2)
    · refine (List.mem_erase_of_ne fun e => ?_).mpr (g4 z (List.mem_cons_of_mem _ hz))
      have hn := hrn
      rw [← e0, List.nodup_append] at hn
      exact (List.nodup_cons.mp hn.2.1).1 (by rw [← e]; exact hz)
    · rw [← List.append_assoc]
      exact Paired.snoc (Paired.mapP g9 fun _ _ q => q.tk tk2) (hx.tk tk2)
    · rw [upd_ne n2, upd_ne n1]
      exact g11 z u n1 n2 h
  · rintro σ H6 ⟨W, done, xsW, ysO, v6, rfl, e0, g1, g2, g3, g4, g5, g6, g7, g8, g9, g10, g11⟩
    rw [List.append_nil] at e0
    subst e0
    k_clsL
    refine k H6 M' xsW ysO (fun x u hx => ?_) hM5 g1 ?_ g8 ?_ (hR5.keep g10 (fun x u m h => ?_) (fun x u h => ?_))
    · have hx' := OffS.same _ _ _ _ hx
      have nm : ¬ (M x ∨ x = wt ∨ x = o) := fun m => by rw [OffS.none (M := fun x => M x ∨ x = wt ∨ x = o) m] at hx; cases hx
      exact g11 x u (fun e => nm (.inr (.inl e))) (fun e => nm (.inr (.inr e))) (hS5 x u (OffS.at hx' fun m => nm (.inl m)))
    · rw [closesM_ws dy hwn, ← g5]
      exact g2
    · rw [closesM_order]
      exact g9
    · refine g11 x u (fun e => ?_) (fun e => ?_) h
      · rcases hM5 x m with q | q
        · exact nMw (by rw [← e]; exact q)
        · rw [e, hw] at q; cases q
      · rcases hM5 x m with q | q
        · exact nMo (by rw [← e]; exact q)
        · rw [e, ho] at q; cases q
    · have hR5' := hR5
      obtain ⟨dx5, ac5, ad5, ao5, ah5, bv5, xs5, hvs5, Mc5, Md5, nc5, R5⟩ := hR5'
      exact g11 x u (ne_of_none h nGw) (ne_of_none h nGo) (R5.sub x u h)
end
end Cv
namespace Cv
open PySem PySem.Spec
open PyProof.Rows hiding St
open L2
/-! ### the walk: what stands between two of its steps -/
structure WkAt (K : PySem.W.Frag) (G H0 : Hp) (M0 : Addr → Prop) (a lp cp o b wt : Addr) (xsL : List V) (ls : List LossM) (ns : List Int) (cs : List CovM) (i m : Nat) (H : Hp) (R : RollM) (nn : Nat) (M : Addr → Prop) (ks : List Int) (xs ys : List V) : Prop where
  same : Same (OffS (fun x => M0 x ∨ x = o) H0) H
  fresh : ∀ x, M x → M0 x ∨ H0 x = none
  b0 : H0 b = none
  w0 : H0 wt = none
  bw : b ≠ wt
  bo : b ≠ o
  wo : wt ≠ o
  gb : G b = none
  gw : G wt = none
  go : G o = none
  hb : H b = some (.lst (ks.map V.int))
  hw : H wt = some (.lst xs)
  wP : Paired (LossV H) xs R.ws
  ho : H o = some (.lst ys)
  oP : Paired (LossV H) ys R.order
  roll : RollV K G H a R nn M
  nb : ¬ M b
  nw : ¬ M wt
  no : ¬ M o
  hl : H lp = some (.lst xsL)
  lP : Paired (LossV H) xsL ls
  hc : H cp = some (.lst (ns.map V.int))
  nl : ¬ M lp ∧ lp ≠ b ∧ lp ≠ wt ∧ lp ≠ o
  nc : ¬ M cp ∧ cp ≠ b ∧ cp ≠ wt ∧ cp ≠ o
  inv : WkM cs ls i ks R
  few : nn ≤ m
  kz : ks.length ≤ m
section
variable {K : PySem.W.Frag} {G H0 H H' : Hp} {M0 M M' : Addr → Prop} {a lp cp o b wt : Addr} {xsL xs ys xs' ys' : List V} {ls : List LossM} {ns : List Int} {cs : List CovM} {i m nn : Nat} {R : RollM} {ks : List Int}
theorem WkAt.keep (W : WkAt K G H0 M0 a lp cp o b wt xsL ls ns cs i m H R nn M ks xs ys) (S : Same H H') : WkAt K G H0 M0 a lp cp o b wt xsL ls ns cs i m H' R nn M ks xs ys :=
  { W with same := W.same.trans S, hb := S.get W.hb, hw := S.get W.hw, wP := Paired.mapP W.wP fun _ _ q => q.tk S.tk, ho := S.get W.ho, oP := Paired.mapP W.oP fun _ _ q => q.tk S.tk, roll := W.roll.same S, hl := S.get W.hl, lP := Paired.mapP W.lP fun _ _ q => q.tk S.tk, hc := S.get W.hc }
theorem WkAt.mono (W : WkAt K G H0 M0 a lp cp o b wt xsL ls ns cs i m H R nn M ks xs ys) {i' m' : Nat} (h : i ≤ i') (h' : m ≤ m') : WkAt K G H0 M0 a lp cp o b wt xsL ls ns cs i' m' H R nn M ks xs ys :=
  { W with inv := W.inv.mono h, few := Nat.le_trans W.few h', kz := Nat.le_trans W.kz h' }
theorem WkAt.wlen (W : WkAt K G H0 M0 a lp cp o b wt xsL ls ns cs i m H R nn M ks xs ys) : xs.length ≤ m ∧ ys.length ≤ m := by
  obtain ⟨dx, ac, ad, ao, ah, bv, xs0, hvs, Mc, Md, nc, Rr⟩ := W.roll
  have h1 := Rr.size.1
  have h2 := W.wP.length
  have h3 := W.oP.length
  have h4 := W.few
  omega
theorem WkAt.tk0 (W : WkAt K G H0 M0 a lp cp o b wt xsL ls ns cs i m H R nn M ks xs ys) {r0 : RollM} {n0 : Nat} (h : RollV K G H0 a r0 n0 M0) {zs : List V} (ho : H0 o = some (.lst zs)) : TK H0 H := fun x us hx => by
  obtain ⟨dx, ac, ad, ao, ah, bv, xs0, hvs, Mc, Md, nc, Rr⟩ := h
  refine W.same x _ (OffS.at hx fun q => ?_)
  rcases q with q | q
  · exact Rr.notup hx q
  · exact ne_of hx ho (fun e => nomatch e) q
/-- a loss has been taken -/
theorem WkAt.took (W : WkAt K G H0 M0 a lp cp o b wt xsL ls ns cs i m H R nn M ks xs ys) {l : LossM} {t : Addr} (S : Same (OffS (fun x => M x ∨ x = b ∨ x = wt) H) H') (hb : H' b = some (.lst ((ks ++ [l.n]).map V.int))) (hw : H' wt = some (.lst (xs ++ [.ref t]))) (hR : RollV K G H' a (enterM R l) (nn + 1) M) (hl : LossV H (.ref t) l)
    (h1 : R.kn l.n = false) (h2 : lateM l.d R.closed = false) (h3 : LossOk l) (h4 : l.n ∈ (ls.take i).map LossM.n) : WkAt K G H0 M0 a lp cp o b wt xsL ls ns cs i (m + 1) H' (enterM R l) (nn + 1) M (ks ++ [l.n]) (xs ++ [.ref t]) ys := by
  have at_ : ∀ x u, ¬ M x → x ≠ b → x ≠ wt → H x = some u → H' x = some u := fun x u n1 n2 n3 h => S x u (OffS.at h fun q => by
    rcases q with q | q | q
    · exact n1 q
    · exact n2 q
    · exact n3 q)
  obtain ⟨dx, ac, ad, ao, ah, bv, xs0, hvs, Mc, Md, nc, Rr⟩ := W.roll
  have tk : TK H H' := fun x us h => at_ x _ (Rr.notup h) (ne_of h W.hb fun e => nomatch e) (ne_of h W.hw fun e => nomatch e) h
  exact { W with
    same := fun x u h => by
      have h' := OffS.same _ _ _ _ h
      have nm : ¬ (M0 x ∨ x = o) := fun q => by rw [OffS.none (M := fun x => M0 x ∨ x = o) q] at h; cases h
      refine at_ x u (fun q => ?_) (fun e => ?_) (fun e => ?_) (W.same x u h)
      · rcases W.fresh x q with q | q
        · exact nm (.inl q)
        · rw [q] at h'; cases h'
      · rw [e, W.b0] at h'; cases h'
      · rw [e, W.w0] at h'; cases h'
    hb := hb, hw := hw, wP := Paired.snoc (Paired.mapP W.wP fun _ _ q => q.tk tk) (hl.tk tk), ho := at_ _ _ W.no W.bo.symm W.wo.symm W.ho, oP := Paired.mapP W.oP fun _ _ q => q.tk tk, roll := hR
    hl := at_ _ _ W.nl.1 W.nl.2.1 W.nl.2.2.1 W.hl, lP := Paired.mapP W.lP fun _ _ q => q.tk tk, hc := at_ _ _ W.nc.1 W.nc.2.1 W.nc.2.2.1 W.hc
    inv := W.inv.enter h1 h2 h3 h4, few := Nat.succ_le_succ W.few, kz := by rw [List.length_append]; exact Nat.succ_le_succ W.kz }
theorem WkM.closes (W : WkM cs ls i ks R) (dy : Int) : WkM cs ls i ks (closesM R dy) := by
  unfold closesM
  split
  · exact W
  · rename_i h
    exact W.close (by simpa using h)
theorem closes_late (R : RollM) (dy : Int) : lateM dy (closesM R dy).closed = true := by
  unfold closesM
  split
  · rename_i h
    exact h
  · rw [(closeM_eq R dy).2.2.2.1]
    exact decide_eq_true (Int.le_refl _)
theorem closes_none {R : RollM} (dy : Int) (h : R.closed = none) : (closesM R dy).closed = some dy := by
  unfold closesM
  rw [if_neg (by rw [h]; exact Bool.false_ne_true), (closeM_eq R dy).2.2.2.1]
theorem closes_some {R : RollM} (dy : Int) {c : Int} (h : R.closed = some c) : (closesM R dy).closed = some (if dy > c then dy else c) := by
  unfold closesM
  by_cases e : dy ≤ c
  · rw [if_pos (by rw [h]; exact decide_eq_true e), h, if_neg (by omega)]
  · rw [if_neg (by rw [h]; show ¬ decide (dy ≤ c) = true; simpa using e), (closeM_eq R dy).2.2.2.1, if_pos (by omega)]
/-- a day has been closed -/
theorem WkAt.closed (W : WkAt K G H0 M0 a lp cp o b wt xsL ls ns cs i m H R nn M ks xs ys) {dy : Int} (S : Same (OffS (fun x => M x ∨ x = wt ∨ x = o) H) H') (hM : ∀ x, M' x → M x ∨ H x = none) (hw : H' wt = some (.lst xs')) (hwP : Paired (LossV H') xs' (closesM R dy).ws) (ho : H' o = some (.lst ys')) (hoP : Paired (LossV H') ys' (closesM R dy).order)
    (hR : RollV K G H' a (closesM R dy) nn M') : WkAt K G H0 M0 a lp cp o b wt xsL ls ns cs i m H' (closesM R dy) nn M' ks xs' ys' := by
  have at_ : ∀ x u, ¬ M x → x ≠ wt → x ≠ o → H x = some u → H' x = some u := fun x u n1 n2 n3 h => S x u (OffS.at h fun q => by
    rcases q with q | q | q
    · exact n1 q
    · exact n2 q
    · exact n3 q)
  obtain ⟨dx, ac, ad, ao, ah, bv, xs0, hvs, Mc, Md, nc, Rr⟩ := W.roll
  have tk : TK H H' := fun x us h => at_ x _ (Rr.notup h) (ne_of h W.hw fun e => nomatch e) (ne_of h W.ho fun e => nomatch e) h
  have nM : ∀ {x u}, ¬ M x → H x = some u → ¬ M' x := fun {x u} n h q => by
    rcases hM x q with q | q
    · exact n q
    · rw [q] at h; cases h
  exact { W with
    same := fun x u h => by
      have h' := OffS.same _ _ _ _ h
      have nm : ¬ (M0 x ∨ x = o) := fun q => by rw [OffS.none (M := fun x => M0 x ∨ x = o) q] at h; cases h
      refine at_ x u (fun q => ?_) (fun e => ?_) (fun e => nm (.inr e)) (W.same x u h)
      · rcases W.fresh x q with q | q
        · exact nm (.inl q)
        · rw [q] at h'; cases h'
      · rw [e, W.w0] at h'; cases h'
    fresh := fun x q => by
      rcases hM x q with q | q
      · exact W.fresh x q
      · cases h0 : H0 x with
        | none => exact .inr rfl
        | some u =>
          refine .inl (Classical.byContradiction fun nm => ?_)
          by_cases e : x = o
          · rw [e, W.ho] at q; cases q
          · have := W.same x u (OffS.at h0 fun z => z.elim nm e)
            rw [q] at this
            cases this
    hb := at_ _ _ W.nb W.bw W.bo W.hb, hw := hw, wP := hwP, ho := ho, oP := hoP, roll := hR, nb := nM W.nb W.hb, nw := nM W.nw W.hw, no := nM W.no W.ho
    hl := at_ _ _ W.nl.1 W.nl.2.2.1 W.nl.2.2.2 W.hl, lP := Paired.mapP W.lP fun _ _ q => q.tk tk, hc := at_ _ _ W.nc.1 W.nc.2.2.1 W.nc.2.2.2 W.hc
    nl := ⟨nM W.nl.1 W.hl, W.nl.2⟩, nc := ⟨nM W.nc.1 W.hc, W.nc.2⟩
    inv := W.inv.closes dy }
theorem ne_rs {Q : VK} {p q : Addr} {x : Str} {j : Int} (hx : PyData.strOk x = true) (h : RsV H p x j) (h' : RsV H q x j) (k : Q (.bl false) H) : rNeD K (.ref p) (.ref q) H Q :=
  ⟨_, _, dp_rs h, dp_rs h', sh_rs x j hx, sh_rs x j hx, by
    rw [show PyData.eqv (.tuple [.str x, .int j]) (.tuple [.str x, .int j]) = true by simp [PyData.eqv, PyData.eqvAll]]
    exact k⟩
/-- the loss l by another number, on another day -/
def reL (l : LossM) (n d : Int) : LossM := { l with n := n, d := d }
theorem reL_ok {l z : LossM} (h : LossOk l) (hz : LossOk z) {d : Int} (h0 : 0 ≤ d) (h1 : d ≤ 1000000) : LossOk (reL l z.n d) := by
  obtain ⟨g1, g2, g3, g4, g5⟩ := h
  obtain ⟨f1, _⟩ := hz
  unfold okLoss at g1 f1
  simp only [Bool.and_eq_true] at g1 f1
  refine ⟨?_, g2, g3, g4, g5⟩
  unfold okLoss
  simp only [Bool.and_eq_true]
  exact ⟨⟨⟨⟨f1.1.1.1.1, rng_of h0 h1⟩, g1.1.1.2⟩, g1.1.2⟩, g1.2⟩
theorem okDay {l : LossM} (h : LossOk l) : 0 ≤ l.d ∧ l.d ≤ 1000000 := by
  have g1 := h.1
  unfold okLoss at g1
  simp only [Bool.and_eq_true] at g1
  have q := g1.1.1.1.2
  unfold isDayV rngB at q
  simpa using q
theorem atP {xsL : List V} {ls : List LossM} (h : Paired (LossV H) xsL ls) {j : Int} (h0 : 0 ≤ j) {z : LossM} (hz : ls[j.toNat]? = some z) : ∃ t, atI xsL j = some (.ref t) ∧ H t = some (.tup [.int z.n, .int z.d, .str z.e, .str z.t, .str z.c, .int z.m]) := by
  obtain ⟨v, hv, t, rfl, ht⟩ := Pa.right h hz
  refine ⟨t, ?_, ht⟩
  have hj := (List.getElem?_eq_some_iff.mp hv).1
  unfold atI ixN
  rw [if_pos h0, if_pos (by omega)]
  exact hv
/-- the day that may be closed -/
theorem day_pick {K : PySem.W.Frag} (j d st : Int) (h0 : 0 ≤ j) (h1 : j < 10) : ∃ v, atI [V.non, V.int d, V.int st, V.non, V.non, V.non, V.int (-1), V.int (10 ^ Int.toNat 6 + 1), V.str "1", V.bl true] j = some v ∧ (j = 1 → v = .int d) ∧ (j = 2 → v = .int st) ∧ (5 < j → (∀ H, Kd K H v) ∧ isDayV v = false) := by
  have hj : j = 0 ∨ j = 1 ∨ j = 2 ∨ j = 3 ∨ j = 4 ∨ j = 5 ∨ j = 6 ∨ j = 7 ∨ j = 8 ∨ j = 9 := by omega
  rcases hj with rfl | rfl | rfl | rfl | rfl | rfl | rfl | rfl | rfl | rfl
  all_goals refine ⟨_, rfl, by first | exact fun _ => rfl | (intro e; omega), by first | exact fun _ => rfl | (intro e; omega), ?_⟩
  all_goals first
    | (intro e; omega)
    | exact fun _ => ⟨fun _ => .int _, rng_no (by decide)⟩
    | exact fun _ => ⟨fun _ => .str _, rfl⟩
    | exact fun _ => ⟨fun _ => .bl _, rfl⟩
end
end Cv
namespace Cv
open PySem PySem.Spec
open PyProof.Rows hiding St
open L2
section
variable {P : Program} {w : World} {K : PySem.W.Frag} {mg : Str → Option Value} {base : Heap}
def StW (K : PySem.W.Frag) (G H0 : Hp) (M0 : Addr → Prop) (a lp cp o b wt : Addr) (st : Int) (xsL : List V) (ls : List LossM) (ns : List Int) (cs : List CovM) (i m : Nat) (v8 v9 v10 v11 v12 v13 : Option V) (E : Hp → RollM → List Int → Prop) (s : L2.St) (H : Hp) : Prop :=
  ∃ R nn M ks xs ys, s = [some (.ref a), some (.ref lp), some (.ref cp), some (.int st), some (.ref o), some (.ref b), some (.ref wt), some (closedV R.closed), v8, v9, v10, v11, v12, v13] ∧ WkAt K G H0 M0 a lp cp o b wt xsL ls ns cs i m H R nn M ks xs ys ∧ E H R ks
def sp_law_walk (K : PySem.W.Frag) : Sp := fun vs H Q _ => ∃ (a lp cp o : Addr) (st : Int) (xsL : List V) (ls : List LossM) (ns : List Int) (cs : List CovM) (G : Hp) (M : Addr → Prop), vs = [.ref a, .ref lp, .ref cp, .int st, .ref o] ∧ H lp = some (.lst xsL) ∧ Paired (LossV H) xsL ls ∧ LsOk ls ∧ ls.length = ns.length ∧ ns.length ≤ 35 ∧ H cp = some (.lst (ns.map V.int)) ∧ 0 ≤ st ∧ st ≤ 999995 ∧ H o = some (.lst []) ∧ G o = none ∧
  RollV K G H a (roll0 cs) 0 M ∧ ¬ M lp ∧ ¬ M cp ∧ ¬ M o ∧ lp ≠ o ∧ cp ≠ o ∧
  ∀ H' R nn M' ys ks, Same (OffS (fun x => M x ∨ x = o) H) H' → (∀ x, M' x → M x ∨ H x = none) → H' o = some (.lst ys) → Paired (LossV H') ys R.order → RollV K G H' a R nn M' → WkM cs ls ls.length ks R → lateM 1000000 R.closed = true → nn ≤ 100 → Q (.bl true) H'
theorem ok_law_walk (T : Txt K mg) : C8.Cal P w K mg base 10 "_law_walk" (sp_law_walk K) [] := by
  refine cal T.D_law_walk T.g__law_walk sc_law_walk (fun _ _ _ _ _ _ us hl => match us, hl with | [_, _, _, _, _], _ => rfl) (fun vs H Q E h => ?_) (fun cdv A outer s H vs Q E hr h => ?_)
  · obtain ⟨a, lp, cp, o, st, xsL, ls, ns, cs, G, M, rfl, _⟩ := h
    rfl
  obtain ⟨a, lp, cp, o, st, xsL, ls, ns, cs, G, M0, rfl, hlp, hlP, hls, hln, hnz, hcp, st0, st1, ho, hGo, hR, nMl, nMc, nMo, nlo, nco, k⟩ := h
  have nd := (sc_law_walk).nd
  have hC := T.cl_Roll
  have hN3 := T.no_Roll_closed
  refine ⟨_, (pss_cons (ps_set (i := 5) nd rfl (Or.inl rfl) (pe_lst pa_nil))
(pss_cons (ps_set (i := 6) nd rfl (Or.inl rfl) (pe_lst pa_nil))
(pss_cons (ps_set (i := 7) nd rfl (Or.inl rfl) pe_non)
(pss_cons (ps_for PassesOwn.never rfl (pi_enum (by rfl) T.f_enumerate (pa_cons (pv 1) pa_nil)) (pg_tup rfl (pgs_cons (pg_name (i := 8) nd rfl (Or.inl rfl)) (pgs_cons (pg_name (i := 9) nd rfl (Or.inl rfl)) pgs_nil)))
(pss_cons (ps_set (i := 10) nd rfl (Or.inl rfl) (pe_op op_add (C8.pe_c (ok_law_mix T) hr (by decide) rfl (pa_cons (pe_ix ix_list (pv 2) (pv 8) (fun _ _ => rfl)) (pa_cons pe_int pa_nil))) (pe_op op_mul pe_int (C8.pe_c (ok_law_mix T) hr (by decide) rfl (pa_cons (pe_ix ix_list (pv 2) (pv 8) (fun _ _ => rfl)) (pa_cons pe_int pa_nil))))))
(C8.pss_cut (ps_if (PW.pt (pw_and (pt_cmpR op_eq (pe_op op_mod (pv 10) pe_int) pe_int (nomark _)) (pw_and1 (pt_cmpR (op_neD hr.units) (C8.pe_c (ok_law_entered T) hr (by decide) rfl (pa_cons (pv 0) (pa_cons (C8.pe_c (ok_law_spoilt T) hr (by decide) rfl (pa_cons (pv 9) (pa_cons (pe_op op_fdiv (pv 10) pe_int) pa_nil))) pa_nil))) (pe_tup (pa_cons pe_str (pa_cons pe_int pa_nil))) (nomark _)))))
(pss_one (ps_ret pe_bl))
pss_nil)
(pss_cons (ps_set (i := 11) nd rfl (Or.inl rfl) (pe_op op_catA (pe_tup (pa_cons (pe_ix ix_tup (pe_ix ix_list (pv 1) (pe_op op_mod (pe_op op_fdiv (pv 10) pe_int) (pe_op op_add (pv 8) pe_int)) (fun _ _ => rfl)) pe_int (fun _ _ => rfl)) (pa_cons (pe_op op_add (pv 3) (pe_op op_mod (pe_op op_fdiv (pv 10) pe_int) pe_int)) pa_nil))) (pe_slice sl_tupA (pv 9) (po_some pe_int) po_none)))
(C8.pss_cut (ps_if (PW.pt (pw_and (pt_cmpR op_in_seq (pe_ix ix_tup (pv 11) pe_int (fun _ _ => rfl)) (pv 5) rfl) (pw_and1 (pt_not (pt_val (C8.pe_c (ok_law_tried T) hr (by decide) rfl (pa_cons (pv 0) (pa_cons (pv 11) (pa_cons (pv 5) (pa_cons (pv 7) (pa_cons (pv 6) pa_nil)))))))))))
(pss_one (ps_ret pe_bl))
pss_nil)
(C8.pss_cut (ps_if (PW.pt (pw_and (pt_cmpR op_in_seq (pe_ix ix_tup (pv 11) pe_int (fun _ _ => rfl)) (pv 5) rfl) (pw_and1 (pt_cmpR (op_neD hr.units) (C8.pe_c (ok_law_entered T) hr (by decide) rfl (pa_cons (pv 0) (pa_cons (C8.pe_c (ok_law_spoilt T) hr (by decide) rfl (pa_cons (pv 11) (pa_cons (pe_op op_add pe_int (pe_op op_mul pe_int (pe_op op_fdiv (pv 10) pe_int))) pa_nil))) pa_nil))) (pe_tup (pa_cons pe_str (pa_cons pe_int pa_nil))) (nomark _)))))
(pss_one (ps_ret pe_bl))
pss_nil)
(C8.pss_cut (ps_if (pt_not (pt_val (C8.pe_c (ok_law_tried T) hr (by decide) rfl (pa_cons (pv 0) (pa_cons (pv 9) (pa_cons (pv 5) (pa_cons (pv 7) (pa_cons (pv 6) pa_nil))))))))
(pss_one (ps_ret pe_bl))
pss_nil)
(C8.pss_cut (ps_if (pt_cmpR (op_neD hr.units) (C8.pe_c (ok_law_asked_for T) hr (by decide) rfl (pa_cons (pv 0) (pa_cons (pe_ix ix_tup (pv 9) pe_int (fun _ _ => rfl)) pa_nil))) (pe_tup (pa_cons pe_str (pa_cons pe_int pa_nil))) (nomark _))
(pss_one (ps_ret pe_bl))
pss_nil)
(pss_cons (ps_set (i := 12) nd rfl (Or.inl rfl) (pe_op op_catA (pe_tup (pa_cons (pe_ix ix_tup (pv 9) pe_int (fun _ _ => rfl)) (pa_cons (pe_op op_add (pv 3) pe_int) pa_nil))) (pe_slice sl_tupA (pv 9) (po_some pe_int) po_none)))
(C8.pss_cut (ps_if (PW.pt (pw_and (pt_cmpR op_notIn_seq (pe_ix ix_tup (pv 9) pe_int (fun _ _ => rfl)) (pv 5) rfl) (pw_and1 (pt_not (pt_val (C8.pe_c (ok_law_tried T) hr (by decide) rfl (pa_cons (pv 0) (pa_cons (pv 12) (pa_cons (pv 5) (pa_cons (pv 7) (pa_cons (pv 6) pa_nil)))))))))))
(pss_one (ps_ret pe_bl))
pss_nil)
(pss_cons (ps_set (i := 13) nd rfl (Or.inl rfl) (pe_ix ix_list (pe_lst (pa_cons pe_non (pa_cons (pe_ix ix_tup (pv 9) pe_int (fun _ _ => rfl)) (pa_cons (pv 3) (pa_cons pe_non (pa_cons pe_non (pa_cons pe_non (pa_cons (pe_un un_neg pe_int) (pa_cons (pe_op op_add (pe_op op_pow pe_int pe_int) pe_int) (pa_cons pe_str (pa_cons pe_bl pa_nil))))))))))) (pe_op op_mod (pe_op op_fdiv (pv 10) pe_int) pe_int) (fun _ _ => rfl)))
(C8.pss_cut (ps_if (pt_cmpR op_in_seq (pe_op op_mod (pe_op op_fdiv (pv 10) pe_int) pe_int) (pe_tup (pa_cons pe_int (pa_cons pe_int pa_nil))) rfl)
(pss_cons (ps_if (pt_not (pt_val (C8.pe_c (ok_law_closes T) hr (by decide) rfl (pa_cons (pv 0) (pa_cons (pv 13) (pa_cons (pv 7) (pa_cons (pv 6) (pa_cons (pv 4) pa_nil))))))))
(pss_one (ps_ret pe_bl))
pss_nil)
(pss_one (ps_set (i := 7) nd rfl (Or.inl rfl) (pe_ifExp (pt_cmpR op_isN (pv 7) pe_non (nomark _)) (pv 13) (pe_callB (call_max2 rfl) (by rfl) T.f_max Cv.bb_max (pa_cons (pv 7) (pa_cons (pv 13) pa_nil)))))))
pss_nil)
(C8.pss_cut (ps_if (PW.pt (pw_and (pt_cmpR op_gt (pe_op op_mod (pe_op op_fdiv (pv 10) pe_int) pe_int) pe_int (nomark _)) (pw_and1 (pt_cmpR (op_neD hr.units) (C8.pe_c (ok_law_closed T) hr (by decide) rfl (pa_cons (pv 0) (pa_cons (pv 13) pa_nil))) (pe_tup (pa_cons pe_str (pa_cons pe_int pa_nil))) (nomark _)))))
(pss_one (ps_ret pe_bl))
pss_nil)
(pss_one (ps_if (PW.pt (pw_or (PW.pt (pw_and (pt_cmpR op_isN (pv 7) pe_non (nomark _)) (pw_and1 (pt_cmpR op_notN (pe_fld (pv 0) rfl) pe_non (nomark _))))) (pw_or1 (PW.pt (pw_and (pt_cmpR op_notN (pv 7) pe_non (nomark _)) (pw_and1 (pt_cmpR op_ne (pe_fld (pv 0) rfl) (pv 7) (nomark _))))))))
(pss_one (ps_ret pe_bl))
pss_nil)))))))))))))))
(pss_one (ps_ret (C8.pe_c (ok_law_closes T) hr (by decide) rfl (pa_cons (pv 0) (pa_cons (pe_op op_pow pe_int pe_int) (pa_cons (pv 7) (pa_cons (pv 6) (pa_cons (pv 4) pa_nil)))))))))))), ?_⟩
  try dsimp only [cxOf, Cx.nox, Cx.wish]
  k_clsL
  k_places
  rename_i b nb H1 hS1 hb1
  k_clsL
  k_places
  rename_i wt nwt H2 hS2 hw2
  have S02 := hS1.trans hS2
  k_clsL
  refine for_e (xs := xsL) (fun _ v (l : LossM) => LossV H v l) ls (fun i r σ H3 => ∃ v8 v9 v10 v11 v12 v13, StW K G H M0 a lp cp o b wt st xsL ls ns cs i (2 * i) v8 v9 v10 v11 v12 v13 (fun _ _ _ => True) σ H3) ?_ ?_ ?_ ?_
  · refine ⟨none, none, none, none, none, none, roll0 cs, 0, M0, [], [], [], rfl, ?_, trivial⟩
    have nM0 : ∀ {x}, H x = none → ¬ M0 x := fun {x} n q => by
      obtain ⟨dx, ac, ad, ao, ah, bv, xs0, hvs, Mc, Md, nc, Rr⟩ := hR
      exact Rr.there q n
    have sub : ∀ {x}, H x = none → G x = none := fun {x} n => by
      obtain ⟨dx, ac, ad, ao, ah, bv, xs0, hvs, Mc, Md, nc, Rr⟩ := hR
      exact Rr.sub.free n
    have nwt0 := hS1.free nwt
    exact { same := (OffS.same _ H).trans S02, fresh := fun x q => .inl q, b0 := nb, w0 := nwt0, bw := ne_of_none hb1 nwt, bo := ne_new nb ho, wo := ne_new nwt0 ho, gb := sub nb, gw := sub nwt0, go := hGo, hb := hS2.get hb1, hw := hw2, wP := .nil, ho := S02.get ho, oP := .nil, roll := hR.same S02, nb := nM0 nb, nw := nM0 nwt0, no := nMo, hl := S02.get hlp, lP := Paired.mapP hlP fun _ _ q => q.tk S02.tk, hc := S02.get hcp, nl := ⟨nMl, (ne_new nb hlp).symm, (ne_new nwt0 hlp).symm, nlo⟩, nc := ⟨nMc, (ne_new nb hcp).symm, (ne_new nwt0 hcp).symm, nco⟩, inv := WkM.start cs ls, few := Nat.le_refl _, kz := Nat.le_refl _ }
  · rintro i r σ H3 ⟨v8, v9, v10, v11, v12, v13, R, nn, M, ks, xs, ys, rfl, W, _⟩
    exact ⟨SqL.of W.hl, hlP⟩
  · rintro i c r x T2 σ H3 H4 e1 e2 ⟨v8, v9, v10, v11, v12, v13, R, nn, M, ks, xs, ys, rfl, W, _⟩ hx nT hS4 hT hU
    have hi : i < 35 := by
      have := (List.getElem?_eq_some_iff.mp e1).1
      omega
    have W4 := W.keep hS4
    have hc4 := W4.hc
    have hgn := getI (ns := ns) (k := i) (by have := (List.getElem?_eq_some_iff.mp e1).1; omega)
    clear W
    k_clsL
    refine ⟨_, 3, rfl, fun m3 H5 hS5 m30 m31 => ?_⟩
    have W5 := W4.keep hS5
    have hc5 := W5.hc
    k_clsL
    refine ⟨_, 5, rfl, fun m5 H6 hS6 m50 m51 => ?_⟩
    have W6 := W5.keep hS6
    obtain ⟨t, rfl, ht0⟩ := hx
    have hcm : c ∈ ls := List.mem_of_getElem? e1
    have hcok := hls.1 c hcm
    have lossT : ∀ {i' m' H' R' nn' M' ks' xs' ys'}, WkAt K G H M0 a lp cp o b wt xsL ls ns cs i' m' H' R' nn' M' ks' xs' ys' → H' t = some (.tup [.int c.n, .int c.d, .str c.e, .str c.t, .str c.c, .int c.m]) := fun W => W.tk0 hR ho _ _ ht0
    have hcd := okDay hcok
    have hfew : 2 * i ≤ 70 := by omega
    have hil := (List.getElem?_eq_some_iff.mp e1).1
    k_clsL
    generalize m3 + 100003 * m5 = ce
    clear W4 W5 hc5 hc4
    refine rd_cut (StW K G H M0 a lp cp o b wt st xsL ls ns cs i (2 * i) (some (.int (i : Nat))) (some (.ref t)) (some (.int ce)) v11 v12 v13 (fun _ _ _ => True)) ?_ ?_
    · k_clsL
      refine ifd (fun c1 => ?_) (fun c1 => ?_)
      · k_clsL
        refine ⟨t, _, c, rfl, ⟨t, rfl, lossT W6⟩, hcok, fun u n d e th cc mm H20 hS20 hT hp hno => ?_⟩
        k_clsL
        have W20 := W6.keep hS20
        refine ⟨a, u, n, d, e, th, cc, mm, G, R, nn, M, rfl, hT, hp, W20.roll, by have := W20.few; omega, fun _ q H21 hS21 nq hq => ?_, fun l' e1 e2 e3 e4 e5 e6 hok => absurd hok (by rw [hno]; exact Bool.false_ne_true)⟩
        k_clsL
        k_places
        rename_i q2 nq2 H22 hS22 hq2
        refine ne_rs (x := "entry") (j := 0) (by decide +kernel) (show RsV H22 q "entry" 0 from hS22.get hq) hq2 ?_
        k_clsL
        exact hold ⟨R, nn, M, ks, xs, ys, rfl, (W20.keep hS21).keep hS22, trivial⟩
      · k_clsL
        exact hold ⟨R, nn, M, ks, xs, ys, rfl, W6, trivial⟩
    clear W6
    rintro _ H7 ⟨R1, nn1, M1, ks1, xs1, ys1, rfl, W1, _⟩
    have j0 : 0 ≤ ce / 7 % ((i : Int) + 1) := Int.emod_nonneg _ (by omega)
    have j1 : ce / 7 % ((i : Int) + 1) < (i : Int) + 1 := Int.emod_lt_of_pos _ (by omega)
    obtain ⟨z, hz⟩ : ∃ z, ls[(ce / 7 % ((i : Int) + 1)).toNat]? = some z := ⟨_, List.getElem?_eq_getElem (by omega)⟩
    obtain ⟨tz, hz1, hz2⟩ := atP W1.lP j0 hz
    have hzok := hls.1 z (List.mem_of_getElem? hz)
    have hl7 := W1.hl
    have lt7 := lossT W1
    k_clsL
    k_places
    rename_i t1 nt1 H8 hS8 ht1
    k_clsL
    refine sl_any (hS8.get lt7) fun p3 H9 hS9 hp3 => ?_
    refine cat_any (hS9.get ht1) hp3 (sz_lit _ rfl) fun pA H10 hS10 hpA => ?_
    have W8 := ((W1.keep hS8).keep hS9).keep hS10
    obtain ⟨ag, hag, hagok, hagn⟩ : ∃ ag : LossM, H10 pA = some (.tup [.int ag.n, .int ag.d, .str ag.e, .str ag.t, .str ag.c, .int ag.m]) ∧ LossOk ag ∧ ag.n = z.n := ⟨reL c z.n (st + ce / 11 % 6), hpA, reL_ok hcok hzok (by omega) (by omega), rfl⟩
    clear W1 hpA hp3 hz1 hz2 ht1 hl7 lt7 hz hagn
    k_clsL
    refine rd_cut (StW K G H M0 a lp cp o b wt st xsL ls ns cs i (2 * i) (some (.int (i : Nat))) (some (.ref t)) (some (.int ce)) (some (.ref pA)) v12 v13 (fun Hx _ _ => Hx pA = some (.tup [.int ag.n, .int ag.d, .str ag.e, .str ag.t, .str ag.c, .int ag.m]))) ?_ ?_
    · have e8 : (if false = true then !inV (.int ag.n) (ks1.map V.int) else inV (.int ag.n) (ks1.map V.int)) = decide (ag.n ∈ ks1) := inV_int _ ks1
      k_clsL
      refine ⟨b, _, rfl, .inl (SqL.of W8.hb), rfl, flat_ints ks1, ?_⟩
      rw [e8]
      k_clsL
      refine ifd (fun c1 => ?_) (fun c1 => ?_)
      · k_clsL
        refine ⟨a, pA, b, wt, ag, ks1, xs1, G, R1, nn1, M1, rfl, ⟨pA, rfl, hag⟩, hagok, W8.hb, W8.hw, W8.roll, by have := W8.few; omega, W8.nb, W8.nw, W8.bw, W8.gb, W8.gw, W8.inv.kn, by have := W8.kz; omega, by have := W8.wlen; omega, fun _ H11 hS11 => ?_, fun hin _ => absurd c1 hin⟩
        k_clsL
        exact hold ⟨R1, nn1, M1, ks1, xs1, ys1, rfl, W8.keep hS11, hS11.get hag⟩
      · k_clsL
        exact hold ⟨R1, nn1, M1, ks1, xs1, ys1, rfl, W8, hag⟩
    clear W8 hag
    rintro _ H11 ⟨R2, nn2, M2, ks2, xs2, ys2, rfl, W2, hag⟩
    refine rd_cut (StW K G H M0 a lp cp o b wt st xsL ls ns cs i (2 * i) (some (.int (i : Nat))) (some (.ref t)) (some (.int ce)) (some (.ref pA)) v12 v13 (fun _ _ _ => True)) ?_ ?_
    · have e8 : (if false = true then !inV (.int ag.n) (ks2.map V.int) else inV (.int ag.n) (ks2.map V.int)) = decide (ag.n ∈ ks2) := inV_int _ ks2
      k_clsL
      refine ⟨b, _, rfl, .inl (SqL.of W2.hb), rfl, flat_ints ks2, ?_⟩
      rw [e8]
      k_clsL
      refine ifd (fun c1 => ?_) (fun c1 => ?_)
      · k_clsL
        refine ⟨pA, _, ag, rfl, ⟨pA, rfl, hag⟩, hagok, fun u n d e th cc mm H20 hS20 hT hp hno => ?_⟩
        k_clsL
        have W20 := W2.keep hS20
        refine ⟨a, u, n, d, e, th, cc, mm, G, R2, nn2, M2, rfl, hT, hp, W20.roll, by have := W20.few; omega, fun _ q H21 hS21 nq hq => ?_, fun l' e1 e2 e3 e4 e5 e6 hok => absurd hok (by rw [hno]; exact Bool.false_ne_true)⟩
        k_clsL
        k_places
        rename_i q2 nq2 H22 hS22 hq2
        refine ne_rs (x := "entry") (j := 0) (by decide +kernel) (show RsV H22 q "entry" 0 from hS22.get hq) hq2 ?_
        k_clsL
        exact hold ⟨R2, nn2, M2, ks2, xs2, ys2, rfl, (W20.keep hS21).keep hS22, trivial⟩
      · k_clsL
        exact hold ⟨R2, nn2, M2, ks2, xs2, ys2, rfl, W2, trivial⟩
    clear W2 hag
    rintro _ H12 ⟨R3, nn3, M3, ks3, xs3, ys3, rfl, W3, _⟩
    have hni : c.n ∉ ks3 := fun hin => by
      have h1 := W3.inv.from_ _ hin
      have h2 := hls.2
      rw [← List.take_append_drop i ls, e2, List.map_append, List.nodup_append] at h2
      exact h2.2.2 c.n h1 c.n (by simp) rfl
    have hno : c.n ∉ R3.order.map LossM.n := fun hin => hni ((W3.inv.nums _).mpr (by rw [List.map_append]; exact List.mem_append_left _ hin))
    have htake : c.n ∈ (ls.take (i + 1)).map LossM.n := List.mem_map.mpr ⟨c, by rw [List.take_add_one, e1]; exact List.mem_append_right _ (by simp), rfl⟩
    refine rd_cut (StW K G H M0 a lp cp o b wt st xsL ls ns cs (i + 1) (2 * i + 1) (some (.int (i : Nat))) (some (.ref t)) (some (.int ce)) (some (.ref pA)) v12 v13 (fun _ R _ => c.n ∉ R.order.map LossM.n)) ?_ ?_
    · k_clsL
      refine ⟨a, t, b, wt, c, ks3, xs3, G, R3, nn3, M3, rfl, ⟨t, rfl, lossT W3⟩, hcok, W3.hb, W3.hw, W3.roll, by have := W3.few; omega, W3.nb, W3.nw, W3.bw, W3.gb, W3.gw, W3.inv.kn, by have := W3.kz; omega, by have := W3.wlen; omega, fun _ H13 hS13 => ?_, fun hin hlt H13 hS13 hb13 hw13 hR13 => ?_⟩
      · k_clsL
        exact hold ⟨R3, nn3, M3, ks3, xs3, ys3, rfl, (W3.keep hS13).mono (by omega) (by omega), hno⟩
      · k_clsL
        have hkn : R3.kn c.n = false := by
          rw [W3.inv.kn]
          exact decide_eq_false hin
        exact hold ⟨enterM R3 c, nn3 + 1, M3, ks3 ++ [c.n], xs3 ++ [.ref t], ys3, rfl, (W3.mono (i' := i + 1) (by omega) (Nat.le_refl _)).took hS13 hb13 hw13 hR13 ⟨t, rfl, lossT W3⟩ hkn hlt hcok htake, hno⟩
    clear W3 hni hno
    rintro _ H14 ⟨R4, nn4, M4, ks4, xs4, ys4, rfl, W4, hno⟩
    refine rd_cut (StW K G H M0 a lp cp o b wt st xsL ls ns cs (i + 1) (2 * i + 1) (some (.int (i : Nat))) (some (.ref t)) (some (.int ce)) (some (.ref pA)) v12 v13 (fun _ _ _ => True)) ?_ ?_
    · have lt := lossT W4
      k_clsL
      refine ⟨a, c.n, G, R4, nn4, M4, rfl, W4.roll, W4.inv.unheld hno, fun q H15 hS15 nq hq => ?_⟩
      k_clsL
      k_places
      rename_i q2 nq2 H16 hS16 hq2
      refine ne_rs (x := "not told") (j := 0) (by decide +kernel) (show RsV H16 q "not told" 0 from hS16.get hq) hq2 ?_
      k_clsL
      exact hold ⟨R4, nn4, M4, ks4, xs4, ys4, rfl, (W4.keep hS15).keep hS16, trivial⟩
    clear W4
    rintro _ H17 ⟨R5, nn5, M5, ks5, xs5, ys5, rfl, W5, _⟩
    have lt17 := lossT W5
    k_clsL
    k_places
    rename_i t1 nt1 H18 hS18 ht1
    k_clsL
    refine sl_any (hS18.get lt17) fun p3 H19 hS19 hp3 => ?_
    refine cat_any (hS19.get ht1) hp3 (sz_lit _ rfl) fun pB H20 hS20 hpB => ?_
    have W8 := ((W5.keep hS18).keep hS19).keep hS20
    obtain ⟨la, hla, hlaok, hlan⟩ : ∃ la : LossM, H20 pB = some (.tup [.int la.n, .int la.d, .str la.e, .str la.t, .str la.c, .int la.m]) ∧ LossOk la ∧ la.n = c.n := ⟨reL c c.n (st + 5), hpB, reL_ok hcok hcok (by omega) (by omega), rfl⟩
    have lt20 := lossT W8
    clear W5 hpB hp3 ht1 lt17
    k_clsL
    refine rd_cut (StW K G H M0 a lp cp o b wt st xsL ls ns cs (i + 1) (2 * (i + 1)) (some (.int (i : Nat))) (some (.ref t)) (some (.int ce)) (some (.ref pA)) (some (.ref pB)) v13 (fun _ _ _ => True)) ?_ ?_
    · have e8 : (if true = true then !inV (.int c.n) (ks5.map V.int) else inV (.int c.n) (ks5.map V.int)) = !decide (c.n ∈ ks5) := congrArg (fun z => !z) (inV_int _ ks5)
      k_clsL
      refine ⟨b, _, rfl, .inl (SqL.of W8.hb), rfl, flat_ints ks5, ?_⟩
      rw [e8]
      k_clsL
      refine ifnd (fun c1 => ?_) (fun c1 => ?_)
      · k_clsL
        refine ⟨a, pB, b, wt, la, ks5, xs5, G, R5, nn5, M5, rfl, ⟨pB, rfl, hla⟩, hlaok, W8.hb, W8.hw, W8.roll, by have := W8.few; omega, W8.nb, W8.nw, W8.bw, W8.gb, W8.gw, W8.inv.kn, by have := W8.kz; omega, by have := W8.wlen; omega, fun _ H21 hS21 => ?_, fun hin hlt H21 hS21 hb21 hw21 hR21 => ?_⟩
        · k_clsL
          exact hold ⟨R5, nn5, M5, ks5, xs5, ys5, rfl, (W8.keep hS21).mono (Nat.le_refl _) (by omega), trivial⟩
        · k_clsL
          have hkn : R5.kn la.n = false := by
            rw [W8.inv.kn]
            exact decide_eq_false hin
          exact hold ⟨enterM R5 la, nn5 + 1, M5, ks5 ++ [la.n], xs5 ++ [.ref pB], ys5, rfl, W8.took hS21 hb21 hw21 hR21 ⟨pB, rfl, hla⟩ hkn hlt hlaok (by rw [hlan]; exact htake), trivial⟩
      · k_clsL
        exact hold ⟨R5, nn5, M5, ks5, xs5, ys5, rfl, W8.mono (Nat.le_refl _) (by omega), trivial⟩
    clear W8 hla lt20
    rintro _ H22 ⟨R6, nn6, M6, ks6, xs6, ys6, rfl, W6, _⟩
    have lt22 := lossT W6
    obtain ⟨v, hv, d1, d2, d5⟩ := day_pick (K := K) (ce / 17 % 10) c.d st (by omega) (by omega)
    k_clsL
    k_places
    rename_i t2 nt2 H23 hS23 ht2
    have W7 := W6.keep hS23
    clear W6 lt22
    k_clsL
    refine rd_cut (StW K G H M0 a lp cp o b wt st xsL ls ns cs (i + 1) (2 * (i + 1)) (some (.int (i : Nat))) (some (.ref t)) (some (.int ce)) (some (.ref pA)) (some (.ref pB)) (some v) (fun _ _ _ => True)) ?_ ?_
    · k_clsL
      k_places
      rename_i t3 nt3 H24 hS24 ht3
      have W8 := W7.keep hS24
      have e8 : (if false = true then !inV (.int (ce / 17 % 10)) [V.int 1, V.int 2] else inV (.int (ce / 17 % 10)) [V.int 1, V.int 2]) = decide (ce / 17 % 10 ∈ [(1 : Int), 2]) := inV_int _ [1, 2]
      k_clsL
      refine ⟨t3, _, rfl, .inr (SqT.of ht3), rfl, rfl, ?_⟩
      rw [e8]
      k_clsL
      refine ifd (fun c1 => ?_) (fun c1 => ?_)
      · have hdy : ∃ dy : Int, v = .int dy ∧ 0 ≤ dy ∧ dy ≤ 1000000 := by
          simp only [List.mem_cons, List.not_mem_nil, or_false] at c1
          rcases c1 with c1 | c1
          · exact ⟨c.d, d1 c1, hcd.1, hcd.2⟩
          · exact ⟨st, d2 c1, st0, by omega⟩
        obtain ⟨dy, rfl, dy0, dy1⟩ := hdy
        k_clsL
        refine ⟨a, wt, o, dy, xs6, ys6, G, R6, nn6, M6, rfl, rng_of dy0 dy1, W8.hw, W8.wP, W8.inv.nodws, fun x hx => W8.inv.ok x (List.mem_append_right _ hx), W8.ho, W8.oP, W8.roll, by have := W8.few; omega, W8.nw, W8.no, W8.wo, W8.gw, W8.go, fun H25 M25 xs25 ys25 hS25 hM25 hw25 hwP25 ho25 hoP25 hR25 => ?_⟩
        have W9 := W8.closed hS25 hM25 hw25 hwP25 ho25 hoP25 hR25
        k_clsL
        cases hcl : R6.closed with
        | none =>
          refine ifdt rfl ?_
          k_clsL
          exact hold ⟨closesM R6 dy, nn6, M25, ks6, xs25, ys25, by rw [closes_none dy hcl]; rfl, W9, trivial⟩
        | some cc =>
          refine ifdf (fun e => nomatch e) ?_
          k_clsL
          exact hold ⟨closesM R6 dy, nn6, M25, ks6, xs25, ys25, by rw [closes_some dy hcl]; rfl, W9, trivial⟩
      · k_clsL
        exact hold ⟨R6, nn6, M6, ks6, xs6, ys6, rfl, W8, trivial⟩
    clear W7
    rintro _ H26 ⟨R7, nn7, M7, ks7, xs7, ys7, rfl, W7, _⟩
    refine rd_cut (StW K G H M0 a lp cp o b wt st xsL ls ns cs (i + 1) (2 * (i + 1)) (some (.int (i : Nat))) (some (.ref t)) (some (.int ce)) (some (.ref pA)) (some (.ref pB)) (some v) (fun _ _ _ => True)) ?_ ?_
    · k_clsL
      refine ifd (fun c1 => ?_) (fun c1 => ?_)
      · k_clsL
        obtain ⟨kd, hbad⟩ := d5 c1
        refine ⟨a, v, G, R7, nn7, M7, rfl, kd _, W7.roll, by have := W7.few; omega, fun _ q H27 hS27 nq hq => ?_, fun dy _ hd => absurd hd (by rw [hbad]; exact Bool.false_ne_true)⟩
        k_clsL
        k_places
        rename_i q2 nq2 H28 hS28 hq2
        refine ne_rs (x := "entry") (j := 0) (by decide +kernel) (show RsV H28 q "entry" 0 from hS28.get hq) hq2 ?_
        k_clsL
        exact hold ⟨R7, nn7, M7, ks7, xs7, ys7, rfl, (W7.keep hS27).keep hS28, trivial⟩
      · k_clsL
        exact hold ⟨R7, nn7, M7, ks7, xs7, ys7, rfl, W7, trivial⟩
    clear W7
    rintro _ H29 ⟨R8, nn8, M8, ks8, xs8, ys8, rfl, W8, _⟩
    have hR8 := W8.roll
    obtain ⟨dx8, ac8, ad8, ao8, ah8, bv8, xq8, hvs8, Mc8, Md8, nc8, Rr8⟩ := hR8
    have ho8 := Rr8.obj
    k_clsL
    cases hcl : R8.closed with
    | none =>
      rw [hcl] at ho8
      refine ifdt rfl ?_
      k_clsL
      refine ifnd (fun e => absurd rfl e) (fun _ => ?_)
      k_clsL
      refine ifnd (fun e => absurd rfl e) (fun _ => ?_)
      k_clsL
      exact hold ⟨_, _, _, _, _, _, R8, nn8, M8, ks8, xs8, ys8, by rw [hcl], W8, trivial⟩
    | some cc =>
      rw [hcl] at ho8
      refine ifdf (fun e => nomatch e) ?_
      k_clsL
      refine ifnd (fun _ => ?_) (fun e => nomatch e)
      k_clsL
      refine ifnd (fun e => absurd rfl e) (fun _ => ?_)
      k_clsL
      exact hold ⟨_, _, _, _, _, _, R8, nn8, M8, ks8, xs8, ys8, by rw [hcl], W8, trivial⟩
  · rintro σ H3 ⟨v8, v9, v10, v11, v12, v13, R, nn, M, ks, xs, ys, rfl, W, _⟩
    k_clsL
    show sp_law_closes K ([V.ref a, V.int 1000000, closedV R.closed, V.ref wt, V.ref o] ++ []) H3 _ _
    refine ⟨a, wt, o, 1000000, xs, ys, G, R, nn, M, rfl, rng_of (by decide) (by decide), W.hw, W.wP, W.inv.nodws, fun x hx => W.inv.ok x (List.mem_append_right _ hx), W.ho, W.oP, W.roll, by have := W.few; omega, W.nw, W.no, W.wo, W.gw, W.go, fun H25 M25 xs25 ys25 hS25 hM25 hw25 hwP25 ho25 hoP25 hR25 => ?_⟩
    have W9 := W.closed hS25 hM25 hw25 hwP25 ho25 hoP25 hR25
    exact k H25 (closesM R 1000000) nn M25 ys25 ks W9.same W9.fresh W9.ho W9.oP W9.roll W9.inv (closes_late R 1000000) (by have := W.few; omega)
end
end Cv
namespace Cv
open PySem PySem.Spec
open PyProof.Rows hiding St
open L2
/-! ### whose names stand in strips -/
def StOk (s : Strip) : Prop := PyData.strOk s.2.2.1 = true
theorem stFold_ok (f : CF) (l : LossM) : ∀ (cs : List CovM) (st : StM), (∀ c ∈ cs, PyData.strOk c.name = true) → (∀ s ∈ st.strips, StOk s) → (∀ c, st.first = some c → PyData.strOk c.name = true) → (∀ s ∈ (stFold f l cs st).strips, StOk s) ∧ ∀ c, (stFold f l cs st).first = some c → PyData.strOk c.name = true
  | [], st, _, h2, h3 => ⟨h2, h3⟩
  | c :: cs, st, h1, h2, h3 => by
    have hc := h1 c List.mem_cons_self
    refine stFold_ok f l cs (stStep f l st c) (fun d hd => h1 d (List.mem_cons_of_mem _ hd)) (fun s hs => ?_) (fun d hd => ?_)
    · unfold stStep at hs
      split at hs
      · rcases List.mem_append.mp hs with hs | hs
        · exact h2 s hs
        · obtain ⟨r, _, rfl⟩ := List.mem_map.mp hs
          exact hc
      · exact h2 s hs
    · unfold stStep at hd
      split at hd
      · cases q : st.first with
        | none =>
          rw [q] at hd
          have : d = c := (Option.some.inj hd).symm
          rw [this]
          exact hc
        | some e =>
          rw [q] at hd
          have : d = e := (Option.some.inj hd).symm
          rw [this]
          exact h3 e q
      · exact h3 d hd
theorem unpL_ok (c : CovM) (ns : List Int) (free : List Run) (hc : PyData.strOk c.name = true) : ∀ ts, ∀ s ∈ unpL c ns free ts, StOk s
  | [], s, h => by cases h
  | t :: ts, s, h => by
    rcases List.mem_append.mp (show s ∈ unpT c ns free t ++ unpL c ns free ts from h) with h | h
    · unfold unpT at h
      obtain ⟨r, _, rfl⟩ := List.mem_map.mp h
      exact hc
    · exact unpL_ok c ns free hc ts s h
theorem stripsM_ok (cs : List CovM) (f : CF) (l : LossM) (h : ∀ c ∈ cs, PyData.strOk c.name = true) : ∀ s ∈ stripsM cs f l, StOk s := fun s hs => by
  have q := stFold_ok f l cs ⟨[(0, l.m)], [], none⟩ h (fun s h => by cases h) (fun c h => by cases h)
  unfold stripsM at hs
  split at hs
  · rw [List.mem_singleton.mp hs]
    show PyData.strOk "" = true
    decide +kernel
  · rename_i c hc
    unfold sortS at hs
    rcases List.mem_append.mp ((List.mergeSort_perm _ _).mem_iff.mp hs) with hs | hs
    · exact q.1 s hs
    · exact unpL_ok c _ _ (q.2 c hc) _ s hs
theorem settleL_ok : ∀ (ls : List LossM) (r : RollM), (∀ c ∈ r.cs, PyData.strOk c.name = true) → (∀ i ss, r.held i = some ss → ∀ s ∈ ss, StOk s) → ∀ i ss, (settleL ls r).held i = some ss → ∀ s ∈ ss, StOk s
  | [], r, _, h => h
  | l :: ls, r, hc, h => settleL_ok ls (settle1 r l) hc fun i ss e => by
    have e : (if i = l.n then some (stripsM r.cs r.f l) else r.held i) = some ss := e
    split at e
    · rw [← Option.some.inj e]
      exact stripsM_ok r.cs r.f l hc
    · exact h i ss e
theorem mem_ask {cs : List CovM} {c : CovM} (h : c ∈ askM cs) : c ∈ cs := by
  unfold askM firmM waitM at h
  rcases List.mem_append.mp h with h | h
  · obtain ⟨d, hd, e⟩ := List.mem_filterMap.mp h
    split at e
    · cases e
    · rw [← Option.some.inj e]
      exact hd
  · obtain ⟨d, hd, e⟩ := List.mem_filterMap.mp h
    split at e
    · rw [← Option.some.inj e]
      exact hd
    · cases e
/-! ### data of strips, of losses -/
theorem encS_eqv (x y : Strip) : PyData.eqv (encS x) (encS y) = decide (x = y) := by
  rw [Bool.eq_iff_iff]
  obtain ⟨x1, x2, x3, x4⟩ := x
  obtain ⟨y1, y2, y3, y4⟩ := y
  simp [encS, PyData.eqv, PyData.eqvAll]
theorem encS_can {s : Strip} (h : StOk s) : (encS s).canLay0 = true := by
  have h : PyData.strOk s.2.2.1 = true := h
  simp [encS, PyData.canLay0, PyData.canLayAll0, h]
theorem encS_dep (s : Strip) : (encS s).depth ≤ 60 := by simp [encS, PyData.depth, PyData.depthAll]
theorem dp_strip {K : PySem.W.Frag} {H : Hp} {v : V} {s : Strip} (h : StripV H v s) : Dp K H v (encS s) := by
  obtain ⟨t, rfl, ht⟩ := h
  exact .tup (SqT.of ht) (.cons (.int _) (.cons (.int _) (.cons (.str _) (.cons (.int _) .nil))))
theorem Pa.reverse {α β : Type} {F : α → β → Prop} : ∀ {l : List α} {m : List β}, Paired F l m → Paired F l.reverse m.reverse
  | _, _, .nil => .nil
  | _, _, .cons r t => by
    rw [List.reverse_cons, List.reverse_cons]
    exact Paired.snoc (Pa.reverse t) r
theorem ne_losses {K : PySem.W.Frag} {H : Hp} {Q : VK} {p q : Addr} {ys zs : List V} {L : List LossM} (hp : H p = some (.lst ys)) (hP : Paired (LossV H) ys L) (hq : H q = some (.lst zs)) (hQ : Paired (LossV H) zs L) (ok : ∀ x ∈ L, LossOk x) (k : Q (.bl false) H) : rNeD K (.ref p) (.ref q) H Q :=
  ⟨_, _, .lst (SqL.of hp) (dpAll encL (fun v b h => dp_loss h) hP), .lst (SqL.of hq) (dpAll encL (fun v b h => dp_loss h) hQ), shapedL encL L (fun b hb => encL_can (ok b hb)) (fun b _ => encL_dep b), shapedL encL L (fun b hb => encL_can (ok b hb)) (fun b _ => encL_dep b), by
    rw [show PyData.eqv (.list (L.map encL)) (.list (L.map encL)) = true by rw [PyData.eqv, eqvAll_map encL encL_eqv]; exact decide_eq_true rfl]
    exact k⟩
theorem ne_strips {K : PySem.W.Frag} {H : Hp} {Q : VK} {p q : Addr} {ys zs : List V} {L : List Strip} (hp : H p = some (.lst ys)) (hP : Paired (StripV H) ys L) (hq : H q = some (.lst zs)) (hQ : Paired (StripV H) zs L) (ok : ∀ x ∈ L, StOk x) (k : Q (.bl false) H) : rNeD K (.ref p) (.ref q) H Q :=
  ⟨_, _, .lst (SqL.of hp) (dpAll encS (fun v b h => dp_strip h) hP), .lst (SqL.of hq) (dpAll encS (fun v b h => dp_strip h) hQ), shapedL encS L (fun b hb => encS_can (ok b hb)) (fun b _ => encS_dep b), shapedL encS L (fun b hb => encS_can (ok b hb)) (fun b _ => encS_dep b), by
    rw [show PyData.eqv (.list (L.map encS)) (.list (L.map encS)) = true by rw [PyData.eqv, eqvAll_map encS encS_eqv]; exact decide_eq_true rfl]
    exact k⟩
/-! ### the clean roll -/
def RCof (cs : List CovM) (L : List LossM) : RollM := { roll0 cs with ws := L, kn := fun i => decide (i ∈ L.map LossM.n) }
theorem RC_nil (cs : List CovM) : RCof cs [] = roll0 cs := by
  unfold RCof roll0
  simp
theorem RC_enter (cs : List CovM) (L : List LossM) (l : LossM) : enterM (RCof cs L) l = RCof cs (L ++ [l]) := by
  unfold enterM RCof
  congr 1
  funext i
  by_cases e : i = l.n <;> by_cases e2 : i ∈ L.map LossM.n <;> simp [e, e2]
theorem RC_ready (cs : List CovM) {O : List LossM} (hs : O.Pairwise ltDN) (hn : (O.map LossM.n).Nodup) (hd : ∀ x ∈ O, x.d ≤ 1000000) : readyM (RCof cs O.reverse) 1000000 = O := by
  have hall : (O.reverse.filter fun l => decide (l.d ≤ 1000000)) = O.reverse := List.filter_eq_self.mpr fun x hx => decide_eq_true (hd x (List.mem_reverse.mp hx))
  show sortRow (O.reverse.filter fun l => decide (l.d ≤ 1000000)) = O
  rw [hall]
  have hnr : (O.reverse.map LossM.n).Nodup := by
    rw [List.map_reverse]
    exact ((List.reverse_perm _).nodup_iff).mpr hn
  exact ltDN_uniq ((sortRow_perm _).trans (List.reverse_perm O)) (sortRow_sorted hnr) hs
theorem RC_close (cs : List CovM) {O : List LossM} (hs : O.Pairwise ltDN) (hn : (O.map LossM.n).Nodup) (hd : ∀ x ∈ O, x.d ≤ 1000000) : (closeM (RCof cs O.reverse) 1000000).order = O ∧ (closeM (RCof cs O.reverse) 1000000).held = (settleL O (roll0 cs)).held := by
  have h1 := RC_ready cs hs hn hd
  refine ⟨?_, ?_⟩
  · rw [(closeM_eq _ _).1, h1]
    rfl
  · unfold closeM
    rw [h1]
    exact (settleL_like O { RCof cs O.reverse with closed := some 1000000, ws := (RCof cs O.reverse).ws.filter fun l => !decide (l.d ≤ 1000000) } (roll0 cs) rfl rfl rfl).2
theorem cutV_map {α : Type} (f : α → V) (ns : List α) (lo hi : Option Int) : cutV (ns.map f) lo hi = ((ns.drop (HT.sIx ns.length 0 lo)).take (HT.sIx ns.length ns.length hi - HT.sIx ns.length 0 lo)).map f := by
  unfold cutV
  rw [List.length_map, ← List.map_drop, ← List.map_take]
theorem cut_len (ns : List Int) (h : ns.length ≤ 63) : ((ns.drop (HT.sIx ns.length 0 (some 7))).take (HT.sIx ns.length ns.length (some 42) - HT.sIx ns.length 0 (some 7))).length ≤ 35 := by
  have e1 : HT.sIx ns.length 0 (some 7) = min 7 ns.length := HT.sIx_nat ns.length 0 7
  have e2 : HT.sIx ns.length ns.length (some 42) = min 42 ns.length := HT.sIx_nat ns.length ns.length 42
  rw [List.length_take, e1, e2]
  omega
end Cv
namespace Cv
open PySem PySem.Spec
open PyProof.Rows hiding St
open L2
section
variable {P : Program} {w : World} {K : PySem.W.Frag} {mg : Str → Option Value} {base : Heap}
theorem calF {x qual : Str} {params : Arguments} {body : List Stmt} {scope : Scope} {f : Addr} {fd : FuncData} {N ps : List Str} {k : Nat} {sp : Sp} (F : FunD K x qual params body scope [] [] f fd) (S : FnScope N ps scope) (len : ∀ vs H Q E, sp vs H Q E → vs.length = ps.length)
    (hbody : ∀ (cdv : Value) (A : Around) (outer : List Env) (s : Shared) (H : Hp) (vs : List V) (Q : VK) (E : XK), Room k (A.deeper (envOfC qual scope s.heap.objs.size f cdv)) → sp vs H Q E →
      ∃ t, PSs (cxOf C8.CX0 P w K mg base N qual scope f cdv A outer s H E).nox body t ∧ t { nx := fun _ H' => Q .non H', rt := Q } (start N vs) H) : FnOk P w K mg base C8.CX0 (k + 1) f fd ps sp :=
  F.ok S len fun cdv A outer s H vs Q E hr h => by
    obtain ⟨t, h1, h2⟩ := hbody cdv A outer s H vs Q E hr h
    exact ⟨t, PSs.nox h1, h2⟩
theorem fn_law (T : Txt K mg) {fd : FuncData} (F : FunD K d_law.name d_law.qual d_law.params d_law.body d_law.scope (d_law.dvs K) (d_law.kws K) (He.fAd K d_law.at_) fd) : FnOk P w K mg base C8.CX0 11 (He.fAd K d_law.at_) fd P_law (sp_law K) := by
  refine calF (k := 10) F sc_law (fun vs H Q E h => ?_) (fun cdv A outer s H vs Q E hr h => ?_)
  · obtain ⟨a, ns, rfl, _⟩ := h
    rfl
  obtain ⟨a, ns, rfl, ha, hn, k⟩ := h
  have nd := (sc_law).nd
  refine ⟨_, (pss_cons (ps_set (i := 1) nd rfl (Or.inl rfl) (C8.pe_c (ok_law_names T) hr (by decide) rfl (pa_cons (pe_op op_fdiv (C8.pe_c (ok_law_cell T) hr (by decide) rfl (pa_cons (pv 0) (pa_cons pe_int pa_nil))) pe_int) (pa_cons pe_int pa_nil))))
(pss_cons (ps_set (i := 2) nd rfl (Or.inl rfl) (pe_ix ix_list (pe_lst (pa_cons pe_int (pa_cons pe_int (pa_cons (pe_op op_add (pe_op op_pow pe_int pe_int) pe_int) pa_nil)))) (pe_op op_mod (C8.pe_c (ok_law_cell T) hr (by decide) rfl (pa_cons (pv 0) (pa_cons pe_int pa_nil))) pe_int) (fun _ _ => rfl)))
(pss_cons (ps_set (i := 3) nd rfl (Or.inl rfl) (C8.pe_c (ok_law_start T) hr (by decide) rfl (pa_cons (C8.pe_c (ok_law_cell T) hr (by decide) rfl (pa_cons (pv 0) (pa_cons pe_int pa_nil))) pa_nil)))
(pss_cons (ps_set (i := 4) nd rfl (Or.inl rfl) (C8.pe_c (ok_law_covers T) hr (by decide) rfl (pa_cons (pv 0) (pa_cons (pv 1) (pa_cons (pv 2) (pa_cons (pv 3) pa_nil))))))
(pss_cons (ps_set (i := 5) nd rfl (Or.inl rfl) (C8.pe_c (ok_law_losses T) hr (by decide) rfl (pa_cons (pe_slice sl_list (pv 0) (po_some pe_int) (po_some pe_int)) (pa_cons (pv 1) (pa_cons (pv 2) (pa_cons (pv 3) pa_nil))))))
(pss_cons (ps_set (i := 6) nd rfl (Or.inl rfl) (C8.pe_mk (mk_Roll T) hr (by decide) rfl (pa_cons (C8.pe_c (ok_law_book T) hr (by decide) rfl (pa_cons (pv 4) pa_nil)) pa_nil)))
(pss_cons (ps_set (i := 7) nd rfl (Or.inl rfl) (pe_lst pa_nil))
(pss_cons (ps_if (pt_not (pt_val (C8.pe_c (ok_law_walk T) hr (by decide) rfl (pa_cons (pv 6) (pa_cons (pv 5) (pa_cons (pe_slice sl_list (pv 0) (po_some pe_int) (po_some pe_int)) (pa_cons (pv 3) (pa_cons (pv 7) pa_nil))))))))
(pss_one (ps_ret pe_bl))
pss_nil)
(pss_cons (ps_set (i := 8) nd rfl (Or.inl rfl) (C8.pe_mk (mk_Roll T) hr (by decide) rfl (pa_cons (C8.pe_c (ok_law_book T) hr (by decide) rfl (pa_cons (pv 4) pa_nil)) pa_nil)))
(pss_cons (ps_for PassesOwn.never rfl (pi_list (pe_revL (pv 7))) (pg_name (i := 9) nd rfl (Or.inl rfl))
(pss_one (ps_expr (Cv.pe_cx (ok_law_enter T) hr (by decide) rfl takes_none5 (pa_cons (pv 8) (pa_cons (pv 9) pa_nil))))))
(pss_cons (ps_expr (Cv.pe_mtx (me_Roll_close T) hr (by decide) (pv 8) takes_none5 (pa_cons (pe_op op_pow pe_int pe_int) pa_nil)))
(pss_cons (ps_if (PW.pt (pw_or (pt_cmpR (op_neD hr.units) (C8.pe_mt0 (me_Roll_settled T) hr (by decide) (pv 6)) (pv 7) (nomark _)) (pw_or1 (pt_cmpR (op_neD hr.units) (C8.pe_mt0 (me_Roll_settled T) hr (by decide) (pv 8)) (pv 7) (nomark _)))))
(pss_one (ps_ret pe_bl))
pss_nil)
(pss_cons (ps_for PassesOwn.never rfl (pi_list (pv 7)) (pg_name (i := 9) nd rfl (Or.inl rfl))
(pss_one (ps_if (pt_cmpR (op_neD hr.units) (Cv.pe_mtx (me_Roll_told T) hr (by decide) (pv 6) takes_none5 (pa_cons (pe_ix ix_tup (pv 9) pe_int (fun _ _ => rfl)) pa_nil)) (Cv.pe_mtx (me_Roll_told T) hr (by decide) (pv 8) takes_none5 (pa_cons (pe_ix ix_tup (pv 9) pe_int (fun _ _ => rfl)) pa_nil)) (nomark _))
(pss_one (ps_ret pe_bl))
pss_nil)))
(pss_one (ps_ret pe_bl))))))))))))))), ?_⟩
  try dsimp only [cxOf, Cx.nox, Cx.wish]
  k_clsL
  refine ⟨a, 0, ns, rfl, ha, fun c0 => ?_⟩
  k_clsL
  refine ⟨c0 / 12, rfl, fun nm H1 names hS1 nnm hnm hnok => ?_⟩
  have ha1 := hS1.seq ha
  k_clsL
  k_places
  rename_i l0 nl0 H2 hS2 hl0
  have ha2 := hS2.seq ha1
  k_clsL
  refine ⟨a, 0, ns, rfl, ha2, fun c1 => ?_⟩
  obtain ⟨_, hun, un, rfl, u0, u1⟩ := pick (xs := [V.int 1, V.int 97, V.int (10 ^ Int.toNat 9 + 7)]) (i := c1 % 3) (by omega) (by simp; omega) (fun v => ∃ un : Int, v = .int un ∧ 1 ≤ un ∧ un ≤ 1000000007) (by
    intro v hv
    simp only [List.mem_cons, List.not_mem_nil, or_false] at hv
    rcases hv with rfl | rfl | rfl
    · exact ⟨_, rfl, by decide, by decide⟩
    · exact ⟨_, rfl, by decide, by decide⟩
    · exact ⟨_, rfl, by decide, by decide⟩)
  k_clsL
  refine ⟨a, 1, ns, rfl, ha2, fun c2 => ?_⟩
  k_clsL
  refine ⟨c2, rfl, fun st H3 hS3 st0 st1 => ?_⟩
  have ha3 := hS3.seq ha2
  have hnm3 := (hS2.trans hS3).get hnm
  k_clsL
  refine ⟨a, ns, nm, names, un, st, rfl, ha3, hnm3, hnok, u0, u1, fun pc H4 pcs cs hS4 npc hpc hpcP hcs => ?_⟩
  have ha4 := hS4.seq ha3
  have hnm4 := hS4.get hnm3
  k_clsL
  k_places
  rename_i sl nsl H5 hS5 hsl
  have ha5 := hS5.seq ha4
  have hnm5 := hS5.get hnm4
  have hlen := cut_len ns hn
  have hsl2 := hsl
  rw [cutV_map V.int ns (some 7) (some 42)] at hsl2
  generalize hns : (ns.drop (HT.sIx ns.length 0 (some 7))).take (HT.sIx ns.length ns.length (some 42) - HT.sIx ns.length 0 (some 7)) = ns2 at hsl2 hlen
  k_clsL
  refine ⟨sl, ns2, nm, names, un, st, rfl, SqL.of hsl2, hlen, hnm5, hnok, u0, u1, st0, st1, fun pl H6 xsL ls hS6 npl hpl hplP hls hlln => ?_⟩
  have hpc6 := (hS5.trans hS6).get hpc
  have hpcP6 : Paired (CvD H6) pcs cs := Paired.mapP hpcP fun _ _ q => q.same (hS5.trans hS6)
  k_clsL
  refine ⟨pc, pcs, cs, rfl, hpc6, hpcP6, hcs, fun bk H7 hS7 hbk => ?_⟩
  have hc4 : (askM cs).length ≤ 4 := by rw [askM_len4]; exact hcs.1
  k_clsL
  intro ra rdx nra nrdx nrx
  have SN7 : Same H7 (upd (upd H7 rdx (.own ra)) ra (.ins (He.ga K "Roll") rdx [])) := But.made nra nrdx (But.refl ra _)
  refine ⟨ra, rdx, .ref bk, askM cs, H7, rfl, upd_same, hbk, hc4, SN7, nra, fun H8 M8 hB8 hM8 hR8 => ⟨rfl, ?_⟩⟩
  have S78 : Same H7 H8 := But.made nra nrdx hB8
  have n8 : ∀ x, M8 x → H7 x = none := fun x m => by
    rcases hM8 x m with rfl | h
    · exact nra
    · exact SN7.free h
  k_clsL
  k_places
  rename_i o no H9 hS9 ho9
  have S09 := hS1.trans (hS2.trans (hS3.trans (hS4.trans (hS5.trans (hS6.trans (hS7.trans (S78.trans hS9)))))))
  have ha9 := S09.seq ha
  k_clsL
  k_places
  rename_i cp ncp H10 hS10 hcp
  rw [cutV_map V.int ns (some 7) (some 42), hns] at hcp
  have S710 := S78.trans (hS9.trans hS10)
  have hR10 := (hR8.same hS9).same hS10
  have nM8 : ∀ {x}, H8 x = none → ¬ M8 x := fun {x} n m => by
    obtain ⟨dx, ac, ad, ao, ah, bv, xs0, hvs, Mc, Md, nc, Rr⟩ := hR8
    exact Rr.there m n
  have k7 : ∀ {x u}, H7 x = some u → ¬ M8 x := fun {x u} h m => by rw [n8 x m] at h; cases h
  have hpl7 := hS7.get hpl
  k_clsL
  refine ⟨ra, pl, cp, o, st, xsL, ls, ns2, askM cs, H7, M8, rfl, S710.get hpl7, Paired.mapP hplP fun _ _ q => q.tk (hS7.trans S710).tk, hls, hlln, hlen, hcp, st0, st1, hS10.get ho9, S78.free no, hR10, k7 hpl7, nM8 (hS9.free ncp), nM8 no, ne_of_none (S78.get hpl7) no, (ne_new ncp ho9), fun H11 R nn M11 ysO ks hS11 hM11 ho11 hoP11 hR11 hW hlate hnn => ?_⟩
  have S711 : Same H7 H11 := fun x u h => hS11 x u (OffS.at (S710 x u h) fun q => by
    rcases q with q | q
    · exact k7 h q
    · rw [q, S78.free no] at h; cases h)
  k_clsL
  refine ⟨pc, pcs, cs, rfl, S711.get (hS7.get hpc6), Paired.mapP hpcP6 fun _ _ q => q.same (hS7.trans S711), hcs, fun bk2 H12 hS12 hbk2 => ?_⟩
  k_clsL
  intro cr cdx ncr ncdx ncx
  have SN12 : Same H12 (upd (upd H12 cdx (.own cr)) cr (.ins (He.ga K "Roll") cdx [])) := But.made ncr ncdx (But.refl cr _)
  refine ⟨cr, cdx, .ref bk2, askM cs, H12, rfl, upd_same, hbk2, hc4, SN12, ncr, fun H13 M13 hB13 hM13 hR13 => ⟨rfl, ?_⟩⟩
  have S1213 : Same H12 H13 := But.made ncr ncdx hB13
  have n13 : ∀ x, M13 x → H12 x = none := fun x m => by
    rcases hM13 x m with rfl | h
    · exact ncr
    · exact SN12.free h
  have hR12 := hR11.same hS12
  have ho13 := (hS12.trans S1213).get ho11
  k_clsL
  unfold tRevL
  k_clsL
  k_places
  rename_i rl nrl H14 hS14 hrl
  have S07 := hS1.trans (hS2.trans (hS3.trans (hS4.trans (hS5.trans (hS6.trans hS7)))))
  have S012 := S07.trans (S711.trans hS12)
  have nMrl : ¬ M13 rl := fun m => by
    obtain ⟨dx, ac, ad, ao, ah, bv, xs0, hvs, Mc, Md, nc, Rr⟩ := hR13
    exact Rr.there m nrl
  have step : ∀ {H' H'' : Hp} {M' : Addr → Prop}, (∀ x, M' x → H12 x = none) → Same H12 H' → Same (OffS M' H') H'' → Same H12 H'' := fun {H' H'' M'} n s1 s2 x u h => s2 x u (OffS.at (s1 x u h) fun m => by rw [n x m] at h; cases h)
  have hoP14 : Paired (LossV H14) ysO R.order := Paired.mapP hoP11 fun _ _ q => q.tk (hS12.trans (S1213.trans hS14)).tk
  have hon : (R.order.map LossM.n).Nodup := by
    have h := hW.nodup
    rw [List.map_append, List.nodup_append] at h
    exact h.1
  have hok : ∀ x ∈ R.order, LossOk x := fun x hx => hW.ok x (List.mem_append_left _ hx)
  have holen : R.order.length ≤ 100 := by
    obtain ⟨dx, ac, ad, ao, ah, bv, xs0, hvs, Mc, Md, nc, Rr⟩ := hR11
    have := Rr.size.1
    omega
  k_clsL
  refine for_l (xs := ysO.reverse) (fun _ v (l : LossM) => LossV H14 v l) R.order.reverse (fun r σ H => ∃ (done : List LossM) (v9 : Option V), σ = [some (.ref a), some (.ref nm), some (.int un), some (.int st), some (.ref pc), some (.ref pl), some (.ref ra), some (.ref o), some (.ref cr), v9] ∧ Same H12 H ∧ H rl = some (.lst ysO.reverse) ∧ TK H14 H ∧ RollV K H12 H cr (RCof (askM cs) done) done.length M13 ∧ done ++ r = R.order.reverse) ?_ ?_ ?_ ?_
  · exact ⟨[], none, rfl, S1213.trans hS14, hrl, TK.refl _, by rw [RC_nil]; exact hR13.same hS14, rfl⟩
  · rintro r σ H ⟨done, v9, rfl, s1, g1, g2, g3, g4⟩
    exact ⟨SqL.of g1, Pa.reverse hoP14⟩
  · rintro c r x σ H15 hc ⟨done, v9, rfl, s1, g1, g2, g3, g4⟩ ⟨t, rfl, ht⟩
    have hcok := hok c (List.mem_reverse.mp hc)
    have hdl : done.length ≤ 100 := by
      have e1 := congrArg List.length g4
      rw [List.length_append, List.length_reverse] at e1
      omega
    have hkn : c.n ∉ done.map LossM.n := fun hin => by
      have h2 : ((done ++ c :: r).map LossM.n).Nodup := by
        rw [g4, List.map_reverse]
        exact ((List.reverse_perm _).nodup_iff).mpr hon
      rw [List.map_append, List.nodup_append] at h2
      exact h2.2.2 c.n hin c.n (by simp) rfl
    obtain ⟨p1, p2, p3, p4, p5, p6, p7, p8, p9⟩ := parts_of (K := K) (H := H15) hcok
    have g3' := g3
    obtain ⟨dx, ac, ad, ao, ah, bv, xs0, hvs, Mc, Md, nc, Rr⟩ := g3'
    k_clsL
    refine ⟨cr, t, _, _, _, _, _, _, rfl, g2 _ _ ht, cr, _, _, _, _, _, _, H12, RCof (askM cs) done, done.length, M13, rfl, p1, p2, p3, p4, p5, p6, p7, p8, p9, g3, by omega, fun hno => absurd hcok.1 (by rw [hno]; exact Bool.false_ne_true), fun l' e1 e2 e3 e4 e5 e6 _ => ?_⟩
    have el : l' = c := by
      cases l'; cases c
      simp only [V.int.injEq, V.str.injEq] at e1 e2 e3 e4 e5 e6
      subst e1 e2 e3 e4 e5 e6
      rfl
    subst el
    refine ⟨fun kn => absurd (of_decide_eq_true kn) hkn, fun _ cl hcl => (by cases hcl), fun _ _ H16 hS16 hR16 => ?_⟩
    k_clsL
    refine hold ⟨done ++ [l'], _, rfl, step n13 s1 hS16, hS16 _ _ (OffS.at g1 nMrl), g2.trans (Rr.tk hS16), ?_, by rw [List.append_assoc]; exact g4⟩
    rw [← RC_enter, List.length_append]
    exact hR16
  rintro σ H15 ⟨done, v9, rfl, s1, g1, g2, g3, g4⟩
  rw [List.append_nil] at g4
  subst g4
  have g3' := g3
  obtain ⟨dxc, acc, adc, aoc, ahc, bvc, xsc, hvsc, Mcc, Mdc, ncc, Rc⟩ := g3'
  have hoc := Rc.obj
  k_clsL
  show sp_close K [V.ref cr, V.int 1000000] H15 _ _
  refine ⟨cr, .int 1000000, H12, _, _, M13, rfl, .int _, g3, by rw [List.length_reverse]; omega, fun e => absurd e (by decide), fun dy e0 _ => ?_⟩
  cases e0
  refine ⟨fun hl => (by cases hl), fun _ p16 H16 M16 hS16 hM16 nM16 np16 hp16 hR16 => ?_⟩
  have hd6 : ∀ x ∈ R.order, x.d ≤ 1000000 := fun x hx => (okDay (hok x hx)).2
  obtain ⟨ec1, ec2⟩ := RC_close (askM cs) hW.sorted hon hd6
  have S1216 := step n13 s1 hS16
  have hRa := hR12.same S1216
  have hRa' := hRa
  obtain ⟨dxa, aca, ada, aoa, aha, bva, xsa, hvsa, Mca, Mda, nca, Ra⟩ := hRa'
  have hoa := Ra.obj
  have hRb' := hR16
  obtain ⟨dxb, acb, adb, aob, ahb, bvb, xsb, hvsb, Mcb, Mdb, ncb, Rb⟩ := hRb'
  have hob := Rb.obj
  have ho16 := S1216.get (hS12.get ho11)
  have hoP16 : Paired (LossV H16) ysO R.order := Paired.mapP hoP11 fun _ _ q => q.tk (hS12.trans S1216).tk
  k_clsL
  refine ⟨ra, H7, R, nn, M11, rfl, hRa, fun q1 H17 z1 hS17 nq1 hq1 hz1 => ?_⟩
  have hob17 := hS17.get hob
  have ho17 := hS17.get ho16
  k_clsL
  refine ne_losses hq1 hz1 ho17 (Paired.mapP hoP16 fun _ _ q => q.tk hS17.tk) hok ?_
  k_clsL
  refine ⟨cr, H12, _, _, M16, rfl, hR16.same hS17, fun q2 H18 z2 hS18 nq2 hq2 hz2 => ?_⟩
  have ho18 := hS18.get ho17
  rw [ec1] at hz2
  k_clsL
  refine ne_losses hq2 hz2 ho18 (Paired.mapP hoP16 fun _ _ q => q.tk (hS17.trans hS18).tk) hok ?_
  k_clsL
  have S1618 := hS17.trans hS18
  refine for_l (xs := ysO) (fun _ v (l : LossM) => LossV H16 v l) R.order (fun r σ H => ∃ v9 : Option V, σ = [some (.ref a), some (.ref nm), some (.int un), some (.int st), some (.ref pc), some (.ref pl), some (.ref ra), some (.ref o), some (.ref cr), v9] ∧ Same H18 H) ?_ ?_ ?_ ?_
  · exact ⟨_, rfl, Same.refl _⟩
  · rintro r σ H ⟨v9, rfl, s2⟩
    exact ⟨SqL.of (s2.get ho18), hoP16⟩
  · rintro c r x σ H19 hc ⟨v9, rfl, s2⟩ ⟨t, rfl, ht⟩
    have S1619 := S1618.trans s2
    have ht19 := S1619.get ht
    have hoa19 := S1619.get hoa
    have hne : (settleL R.order (roll0 (askM cs))).held c.n ≠ none := (settleL_held _ _ _).mpr (.inr (List.mem_map.mpr ⟨c, hc, rfl⟩))
    k_clsL
    refine ⟨ra, c.n, H7, R, nn, M11, rfl, hRa.same S1619, fun ss es q3 H20 z3 hS20 nq3 hq3 hz3 => ?_, fun en => absurd (by rw [← hW.held]; exact en) hne⟩
    have ht20 := hS20.get ht19
    have hob20 := hS20.get (S1619.get hob)
    k_clsL
    refine ⟨cr, c.n, H12, _, _, M16, rfl, hR16.same (S1619.trans hS20), fun ss2 es2 q4 H21 z4 hS21 nq4 hq4 hz4 => ?_, fun en => absurd (by rw [← ec2]; exact en) hne⟩
    have ess : ss2 = ss := by
      rw [ec2, ← hW.held, es] at es2
      exact (Option.some.inj es2).symm
    subst ess
    k_clsL
    refine ne_strips (hS21.get hq3) (Paired.mapP hz3 fun _ _ q => q.tk hS21.tk) hq4 hz4 (settleL_ok R.order (roll0 (askM cs)) (fun d hd => (hcs.2.2 d (mem_ask hd)).1.small) (fun i ss e => by cases e) c.n ss2 (by rw [← hW.held]; exact es)) ?_
    k_clsL
    exact hold ⟨_, rfl, s2.trans (hS20.trans hS21)⟩
  · rintro σ H19 ⟨v9, rfl, s2⟩
    k_clsL
    exact k H19 (S012.trans (S1216.trans (S1618.trans s2)))
end
end Cv
end
theorem PySem.Challenge.cw_coverroll_k52_refused_losses_holds : PySem.Challenge.rw_coverroll_k52_refused_losses.Holds := by
  refine Cv.holds_of ?_
  intro P w K mg base T fd F
  exact Cv.fn_law T F
