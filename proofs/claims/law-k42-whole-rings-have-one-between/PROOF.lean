import PyProof.Rows.All
import Wide.All
import OpenK.AllK
import Wide.FinOn
import KE.KStateDown
import Lean
import HandS.ForMost
import HandS.Defaults
import HandS.Codes
import HandS.IsInst
import HandS.Deep
import HandS.Head0
import HandS.Head1
import HandS.Head2
import HandS.HeadEnd
import HandS.HeadHook1
import HandS.HeadHook2
import HandS.HeadHook4
import PySem.Challenge.RW_snapsure_k42_whole_rings_have_one_betwee
import HandS.Lambda
import HandS.Nested
import HandS.Walk
import HandS.Exc
import KE.GoesEnumKw
import KE.KDictZip
import KE.DataMinKey
import HandS.FltList
import KE.KDictKeyed
import KE.KDictCopyH
import KE.SortData
import HandS.ReplaceList
import HandS.Replace
import HandS.TupSets
import HandS.HeadWalk
set_option Elab.async false
set_option linter.all false
set_option maxRecDepth 100000
set_option maxHeartbeats 4000000
/-! The text by places, the head's facts by names. -/
namespace Sn
open PySem PySem.Spec PyProof.Rows L2
def top (i : Nat) : Stmt := PySem.Challenge.pw_snapsure_k42_whole_rings_have_one_betwee.main.body.getD i (.Pass ⟨0, 0, 0, 0⟩)
abbrev s_is_whole : Stmt := top 14
abbrev s_is_pair : Stmt := top 15
abbrev s_dealing_copied : Stmt := top 16
abbrev s_book_copied : Stmt := top 17
abbrev s_number_by : Stmt := top 18
abbrev s_dealing_by : Stmt := top 19
abbrev s_is_key_by : Stmt := top 22
abbrev s_are_keys : Stmt := top 23
abbrev s_Deal_init : Stmt := inClass (top 26) 0
abbrev s_Deal_next_deed : Stmt := inClass (top 26) 1
abbrev s_Deal_steps_left : Stmt := inClass (top 26) 2
abbrev s_Deal_written : Stmt := inClass (top 26) 3
abbrev s_Deal_read_so : Stmt := inClass (top 26) 4
abbrev s_Deal_closed : Stmt := inClass (top 26) 5
abbrev s_Stepper_init : Stmt := inClass (top 27) 0
abbrev s_Stepper_begin : Stmt := inClass (top 27) 2
abbrev s_Stepper_deal_by : Stmt := inClass (top 27) 3
abbrev s_Stepper_open_deal : Stmt := inClass (top 27) 4
abbrev s_Stepper_last_writer : Stmt := inClass (top 27) 5
abbrev s_Stepper_step : Stmt := inClass (top 27) 6
abbrev s_Stepper_is_called_off : Stmt := inClass (top 27) 7
abbrev s_Stepper_look_at_end : Stmt := inClass (top 27) 8
abbrev s_Stepper_close : Stmt := inClass (top 27) 9
abbrev s_Stepper_shut : Stmt := inClass (top 27) 10
abbrev s_Stepper_end : Stmt := inClass (top 27) 11
abbrev s_Stepper_drop : Stmt := inClass (top 27) 12
abbrev s_is_row_form : Stmt := top 31
abbrev s_told_by : Stmt := top 32
abbrev s_played : Stmt := top 33
abbrev s_those_that_stand : Stmt := top 34
abbrev s_Span_init : Stmt := inClass (top 36) 0
abbrev s_Span_overlaps : Stmt := inClass (top 36) 1
abbrev s_span_of : Stmt := top 37
abbrev s_spans_of : Stmt := top 38
abbrev s_by_reading : Stmt := top 43
abbrev s_by_writing : Stmt := top 44
abbrev s_musts : Stmt := top 45
abbrev s_must : Stmt := top 46
abbrev s_soft_pairs : Stmt := top 47
abbrev s_between_by : Stmt := top 48
abbrev s_between : Stmt := top 49
abbrev s_ahead_of_each : Stmt := top 51
abbrev s_order_by : Stmt := top 52
abbrev s_order_of : Stmt := top 53
abbrev s_behind_each : Stmt := top 54
abbrev s_way_back : Stmt := top 55
abbrev s_ring_by : Stmt := top 56
abbrev s_ring_of : Stmt := top 57
abbrev s_are_numbers : Stmt := top 58
abbrev s_is_ring : Stmt := top 59
abbrev s_L_draw : Stmt := top 61
abbrev s_L_names : Stmt := top 62
abbrev s_L_marks : Stmt := top 63
abbrev s_L_steps : Stmt := top 64
abbrev s_L_book : Stmt := top 65
abbrev s_L_pool : Stmt := top 66
abbrev s_L_keys : Stmt := top 67
abbrev s_L_left : Stmt := top 68
abbrev s_L_next : Stmt := top 69
abbrev s_L_wrote : Stmt := top 70
abbrev s_L_last : Stmt := top 71
abbrev s_L_step : Stmt := top 72
abbrev s_L_is_off : Stmt := top 73
abbrev s_L_do : Stmt := top 74
abbrev s_L_ended : Stmt := top 75
abbrev s_L_run : Stmt := top 76
abbrev s_L_gone : Stmt := top 77
abbrev s_L_right : Stmt := top 78
abbrev s_law : Stmt := top 79
abbrev n_is_whole : List Str := ["thing"]
theorem sc_is_whole : FnScope n_is_whole ["thing"] (defScope s_is_whole) := ⟨rfl, rfl, rfl, by decide +kernel, rfl, by decide +kernel, by decide +kernel⟩
abbrev n_is_pair : List Str := ["thing"]
theorem sc_is_pair : FnScope n_is_pair ["thing"] (defScope s_is_pair) := ⟨rfl, rfl, rfl, by decide +kernel, rfl, by decide +kernel, by decide +kernel⟩
abbrev n_dealing_copied : List Str := ["dealing", "name", "letters", "steps"]
theorem sc_dealing_copied : FnScope n_dealing_copied ["dealing"] (defScope s_dealing_copied) := ⟨rfl, rfl, rfl, by decide +kernel, rfl, by decide +kernel, by decide +kernel⟩
abbrev n_book_copied : List Str := ["book", "dealing"]
theorem sc_book_copied : FnScope n_book_copied ["book"] (defScope s_book_copied) := ⟨rfl, rfl, rfl, by decide +kernel, rfl, by decide +kernel, by decide +kernel⟩
abbrev n_number_by : List Str := ["book", "name", "numbers", "at", "dealing", "e"]
theorem sc_number_by : FnScope n_number_by ["book", "name"] (defScope s_number_by) := ⟨rfl, rfl, rfl, by decide +kernel, rfl, by decide +kernel, by decide +kernel⟩
abbrev n_dealing_by : List Str := ["book", "name"]
theorem sc_dealing_by : FnScope n_dealing_by ["book", "name"] (defScope s_dealing_by) := ⟨rfl, rfl, rfl, by decide +kernel, rfl, by decide +kernel, by decide +kernel⟩
abbrev n_is_key_by : List Str := ["kinds", "thing"]
theorem sc_is_key_by : FnScope n_is_key_by ["kinds", "thing"] (defScope s_is_key_by) := ⟨rfl, rfl, rfl, by decide +kernel, rfl, by decide +kernel, by decide +kernel⟩
abbrev n_are_keys : List Str := ["book", "name", "thing", "letters", "kinds", "row", "key"]
theorem sc_are_keys : FnScope n_are_keys ["book", "name", "thing"] (defScope s_are_keys) := ⟨rfl, rfl, rfl, by decide +kernel, rfl, by decide +kernel, by decide +kernel⟩
abbrev n_Deal_init : List Str := ["self", "dealing", "keys", "row", "letter", "kind"]
theorem sc_Deal_init : FnScope n_Deal_init ["self", "dealing", "keys", "row"] (defScope s_Deal_init) := ⟨rfl, rfl, rfl, by decide +kernel, rfl, by decide +kernel, by decide +kernel⟩
abbrev n_Deal_next_deed : List Str := ["self", "deed", "letter"]
theorem sc_Deal_next_deed : FnScope n_Deal_next_deed ["self"] (defScope s_Deal_next_deed) := ⟨rfl, rfl, rfl, by decide +kernel, rfl, by decide +kernel, by decide +kernel⟩
abbrev n_Deal_steps_left : List Str := ["self"]
theorem sc_Deal_steps_left : FnScope n_Deal_steps_left ["self"] (defScope s_Deal_steps_left) := ⟨rfl, rfl, rfl, by decide +kernel, rfl, by decide +kernel, by decide +kernel⟩
abbrev n_Deal_written : List Str := ["self", "deed", "key", "seen"]
theorem sc_Deal_written : FnScope n_Deal_written ["self"] (defScope s_Deal_written) := ⟨rfl, rfl, rfl, by decide +kernel, rfl, by decide +kernel, by decide +kernel⟩
abbrev n_Deal_read_so : List Str := ["self", "deed", "key", "seen"]
theorem sc_Deal_read_so : FnScope n_Deal_read_so ["self"] (defScope s_Deal_read_so) := ⟨rfl, rfl, rfl, by decide +kernel, rfl, by decide +kernel, by decide +kernel⟩
abbrev n_Deal_closed : List Str := ["self", "word", "row"]
theorem sc_Deal_closed : FnScope n_Deal_closed ["self", "word", "row"] (defScope s_Deal_closed) := ⟨rfl, rfl, rfl, by decide +kernel, rfl, by decide +kernel, by decide +kernel⟩
abbrev n_Stepper_init : List Str := ["self", "book"]
theorem sc_Stepper_init : FnScope n_Stepper_init ["self", "book"] (defScope s_Stepper_init) := ⟨rfl, rfl, rfl, by decide +kernel, rfl, by decide +kernel, by decide +kernel⟩
abbrev n_Stepper_begin : List Str := ["self", "name", "keys", "dealing"]
theorem sc_Stepper_begin : FnScope n_Stepper_begin ["self", "name", "keys"] (defScope s_Stepper_begin) := ⟨rfl, rfl, rfl, by decide +kernel, rfl, by decide +kernel, by decide +kernel⟩
abbrev n_Stepper_deal_by : List Str := ["self", "number"]
theorem sc_Stepper_deal_by : FnScope n_Stepper_deal_by ["self", "number"] (defScope s_Stepper_deal_by) := ⟨rfl, rfl, rfl, by decide +kernel, rfl, by decide +kernel, by decide +kernel⟩
abbrev n_Stepper_open_deal : List Str := ["self", "number", "deal"]
theorem sc_Stepper_open_deal : FnScope n_Stepper_open_deal ["self", "number"] (defScope s_Stepper_open_deal) := ⟨rfl, rfl, rfl, by decide +kernel, rfl, by decide +kernel, by decide +kernel⟩
abbrev n_Stepper_last_writer : List Str := ["self", "key", "row", "some", "number", "deal"]
theorem sc_Stepper_last_writer : FnScope n_Stepper_last_writer ["self", "key", "row"] (defScope s_Stepper_last_writer) := ⟨rfl, rfl, rfl, by decide +kernel, rfl, by decide +kernel, by decide +kernel⟩
abbrev n_Stepper_step : List Str := ["self", "number", "deal", "deed", "key", "seen"]
theorem sc_Stepper_step : FnScope n_Stepper_step ["self", "number"] (defScope s_Stepper_step) := ⟨rfl, rfl, rfl, by decide +kernel, rfl, by decide +kernel, by decide +kernel⟩
abbrev n_Stepper_is_called_off : List Str := ["self", "number", "own", "deal", "key"]
theorem sc_Stepper_is_called_off : FnScope n_Stepper_is_called_off ["self", "number"] (defScope s_Stepper_is_called_off) := ⟨rfl, rfl, rfl, by decide +kernel, rfl, by decide +kernel, by decide +kernel⟩
abbrev n_Stepper_look_at_end : List Str := ["self", "number", "deal"]
theorem sc_Stepper_look_at_end : FnScope n_Stepper_look_at_end ["self", "number"] (defScope s_Stepper_look_at_end) := ⟨rfl, rfl, rfl, by decide +kernel, rfl, by decide +kernel, by decide +kernel⟩
abbrev n_Stepper_close : List Str := ["self", "number", "stands", "deal"]
theorem sc_Stepper_close : FnScope n_Stepper_close ["self", "number", "stands"] (defScope s_Stepper_close) := ⟨rfl, rfl, rfl, by decide +kernel, rfl, by decide +kernel, by decide +kernel⟩
abbrev n_Stepper_shut : List Str := ["self", "number", "deal"]
theorem sc_Stepper_shut : FnScope n_Stepper_shut ["self", "number"] (defScope s_Stepper_shut) := ⟨rfl, rfl, rfl, by decide +kernel, rfl, by decide +kernel, by decide +kernel⟩
abbrev n_Stepper_end : List Str := ["self", "number"]
theorem sc_Stepper_end : FnScope n_Stepper_end ["self", "number"] (defScope s_Stepper_end) := ⟨rfl, rfl, rfl, by decide +kernel, rfl, by decide +kernel, by decide +kernel⟩
abbrev n_Stepper_drop : List Str := ["self", "number"]
theorem sc_Stepper_drop : FnScope n_Stepper_drop ["self", "number"] (defScope s_Stepper_drop) := ⟨rfl, rfl, rfl, by decide +kernel, rfl, by decide +kernel, by decide +kernel⟩
abbrev n_is_row_form : List Str := ["thing"]
theorem sc_is_row_form : FnScope n_is_row_form ["thing"] (defScope s_is_row_form) := ⟨rfl, rfl, rfl, by decide +kernel, rfl, by decide +kernel, by decide +kernel⟩
abbrev n_told_by : List Str := ["stepper", "row"]
theorem sc_told_by : FnScope n_told_by ["stepper", "row"] (defScope s_told_by) := ⟨rfl, rfl, rfl, by decide +kernel, rfl, by decide +kernel, by decide +kernel⟩
abbrev n_played : List Str := ["book", "thing", "stepper", "told", "number", "row", "error", "deal"]
theorem sc_played : FnScope n_played ["book", "thing"] (defScope s_played) := ⟨rfl, rfl, rfl, by decide +kernel, rfl, by decide +kernel, by decide +kernel⟩
abbrev n_those_that_stand : List Str := ["stepper", "number", "deal"]
theorem sc_those_that_stand : FnScope n_those_that_stand ["stepper"] (defScope s_those_that_stand) := ⟨rfl, rfl, rfl, by decide +kernel, rfl, by decide +kernel, by decide +kernel⟩
abbrev n_Span_init : List Str := ["self", "first", "last"]
theorem sc_Span_init : FnScope n_Span_init ["self", "first", "last"] (defScope s_Span_init) := ⟨rfl, rfl, rfl, by decide +kernel, rfl, by decide +kernel, by decide +kernel⟩
abbrev n_Span_overlaps : List Str := ["self", "other"]
theorem sc_Span_overlaps : FnScope n_Span_overlaps ["self", "other"] (defScope s_Span_overlaps) := ⟨rfl, rfl, rfl, by decide +kernel, rfl, by decide +kernel, by decide +kernel⟩
abbrev n_span_of : List Str := ["deal"]
theorem sc_span_of : FnScope n_span_of ["deal"] (defScope s_span_of) := ⟨rfl, rfl, rfl, by decide +kernel, rfl, by decide +kernel, by decide +kernel⟩
abbrev n_spans_of : List Str := ["book", "run", "stepper", "told", "deal"]
theorem sc_spans_of : FnScope n_spans_of ["book", "run"] (defScope s_spans_of) := ⟨rfl, rfl, rfl, by decide +kernel, rfl, by decide +kernel, by decide +kernel⟩
abbrev n_by_reading : List Str := ["deals", "stand", "own", "found", "key", "seen", "other"]
theorem sc_by_reading : FnScope n_by_reading ["deals", "stand", "own"] (defScope s_by_reading) := ⟨rfl, rfl, rfl, by decide +kernel, rfl, by decide +kernel, by decide +kernel⟩
abbrev n_by_writing : List Str := ["deals", "stand", "own", "found", "other", "key"]
theorem sc_by_writing : FnScope n_by_writing ["deals", "stand", "own"] (defScope s_by_writing) := ⟨rfl, rfl, rfl, by decide +kernel, rfl, by decide +kernel, by decide +kernel⟩
abbrev n_musts : List Str := ["stepper", "stand", "found", "own"]
theorem sc_musts : FnScope n_musts ["stepper"] (defScope s_musts) := ⟨rfl, rfl, rfl, by decide +kernel, rfl, by decide +kernel, by decide +kernel⟩
abbrev n_must : List Str := ["book", "run", "stepper", "told"]
theorem sc_must : FnScope n_must ["book", "run"] (defScope s_must) := ⟨rfl, rfl, rfl, by decide +kernel, rfl, by decide +kernel, by decide +kernel⟩
abbrev n_soft_pairs : List Str := ["stepper", "found", "one", "other", "word", "key"]
theorem sc_soft_pairs : FnScope n_soft_pairs ["stepper"] (defScope s_soft_pairs) := ⟨rfl, rfl, rfl, by decide +kernel, rfl, by decide +kernel, by decide +kernel⟩
abbrev n_between_by : List Str := ["stepper", "pairs", "begin", "end", "one", "other", "number"]
theorem sc_between_by : FnScope n_between_by ["stepper"] (defScope s_between_by) := ⟨rfl, rfl, rfl, by decide +kernel, rfl, by decide +kernel, by decide +kernel⟩
abbrev n_between : List Str := ["book", "run", "stepper", "told"]
theorem sc_between : FnScope n_between ["book", "run"] (defScope s_between) := ⟨rfl, rfl, rfl, by decide +kernel, rfl, by decide +kernel, by decide +kernel⟩
abbrev n_ahead_of_each : List Str := ["stepper", "found", "one", "other", "word", "key", "number"]
theorem sc_ahead_of_each : FnScope n_ahead_of_each ["stepper"] (defScope s_ahead_of_each) := ⟨rfl, rfl, rfl, by decide +kernel, rfl, by decide +kernel, by decide +kernel⟩
abbrev n_order_by : List Str := ["stepper", "ahead", "can_go", "found", "some", "number"]
theorem sc_order_by : FnScope n_order_by ["stepper"] (defScope s_order_by) := ⟨rfl, rfl, rfl, by decide +kernel, rfl, by decide +kernel, by decide +kernel⟩
abbrev n_order_of : List Str := ["book", "run", "stepper", "told"]
theorem sc_order_of : FnScope n_order_of ["book", "run"] (defScope s_order_of) := ⟨rfl, rfl, rfl, by decide +kernel, rfl, by decide +kernel, by decide +kernel⟩
abbrev n_behind_each : List Str := ["stepper", "found", "other", "some", "one", "number"]
theorem sc_behind_each : FnScope n_behind_each ["stepper"] (defScope s_behind_each) := ⟨rfl, rfl, rfl, by decide +kernel, rfl, by decide +kernel, by decide +kernel⟩
abbrev n_way_back : List Str := ["behind", "start", "ways", "row", "at", "other", "way"]
theorem sc_way_back : FnScope n_way_back ["behind", "start"] (defScope s_way_back) := ⟨rfl, rfl, rfl, by decide +kernel, rfl, by decide +kernel, by decide +kernel⟩
abbrev n_ring_by : List Str := ["stepper", "behind", "some", "start", "way"]
theorem sc_ring_by : FnScope n_ring_by ["stepper"] (defScope s_ring_by) := ⟨rfl, rfl, rfl, by decide +kernel, rfl, by decide +kernel, by decide +kernel⟩
abbrev n_ring_of : List Str := ["book", "run", "stepper", "told"]
theorem sc_ring_of : FnScope n_ring_of ["book", "run"] (defScope s_ring_of) := ⟨rfl, rfl, rfl, by decide +kernel, rfl, by decide +kernel, by decide +kernel⟩
abbrev n_are_numbers : List Str := ["thing", "stand", "at", "one"]
theorem sc_are_numbers : FnScope n_are_numbers ["thing", "stand"] (defScope s_are_numbers) := ⟨rfl, rfl, rfl, by decide +kernel, rfl, by decide +kernel, by decide +kernel⟩
abbrev n_is_ring : List Str := ["book", "run", "thing", "stepper", "told", "ahead", "at", "one"]
theorem sc_is_ring : FnScope n_is_ring ["book", "run", "thing"] (defScope s_is_ring) := ⟨rfl, rfl, rfl, by decide +kernel, rfl, by decide +kernel, by decide +kernel⟩
abbrev n_L_draw : List Str := ["_law_pool_here", "_law_many", "_law_found"]
theorem sc_L_draw : FnScope n_L_draw ["_law_pool_here", "_law_many"] (defScope s_L_draw) := ⟨rfl, rfl, rfl, by decide +kernel, rfl, by decide +kernel, by decide +kernel⟩
abbrev n_L_names : List Str := ["_law_pool_here", "_law_many", "_law_letters", "_law_found", "_law_k", "_law_size", "_law_name", "_law_some", "_law_at", "_law_letter", "_law_one"]
theorem sc_L_names : FnScope n_L_names ["_law_pool_here", "_law_many"] (defScope s_L_names) := ⟨rfl, rfl, rfl, by decide +kernel, rfl, by decide +kernel, by decide +kernel⟩
abbrev n_L_marks : List Str := ["_law_pool_here", "_law_many", "_law_left_here", "_law_found", "_law_k", "_law_mark"]
theorem sc_L_marks : FnScope n_L_marks ["_law_pool_here", "_law_many"] (defScope s_L_marks) := ⟨rfl, rfl, rfl, by decide +kernel, rfl, by decide +kernel, by decide +kernel⟩
abbrev n_L_steps : List Str := ["_law_pool_here", "_law_marks_here", "_law_found", "_law_more", "_law_mark", "_law_deed", "_law_k"]
theorem sc_L_steps : FnScope n_L_steps ["_law_pool_here", "_law_marks_here"] (defScope s_L_steps) := ⟨rfl, rfl, rfl, by decide +kernel, rfl, by decide +kernel, by decide +kernel⟩
abbrev n_L_book : List Str := ["_law_pool_here", "_law_most_kinds", "_law_most_dealings", "_law_names_here", "_law_kinds", "_law_dealings", "_law_name", "_law_marks_here", "_law_letters", "_law_mark"]
theorem sc_L_book : FnScope n_L_book ["_law_pool_here", "_law_most_kinds", "_law_most_dealings"] (defScope s_L_book) := ⟨rfl, rfl, rfl, by decide +kernel, rfl, by decide +kernel, by decide +kernel⟩
abbrev n_L_pool : List Str := ["_law_script", "_law_k", "_law_cell", "_law_size", "_law_mixed"]
theorem sc_L_pool : FnScope n_L_pool ["_law_script", "_law_k"] (defScope s_L_pool) := ⟨rfl, rfl, rfl, by decide +kernel, rfl, by decide +kernel, by decide +kernel⟩
abbrev n_L_keys : List Str := ["_law_pool_here", "_law_book_here", "_law_number", "_law_span", "_law_many", "_law_found", "_law_mark", "_law_kind"]
theorem sc_L_keys : FnScope n_L_keys ["_law_pool_here", "_law_book_here", "_law_number", "_law_span"] (defScope s_L_keys) := ⟨rfl, rfl, rfl, by decide +kernel, rfl, by decide +kernel, by decide +kernel⟩
abbrev n_L_left : List Str := ["_law_book_here", "_law_deal"]
theorem sc_L_left : FnScope n_L_left ["_law_book_here", "_law_deal"] (defScope s_L_left) := ⟨rfl, rfl, rfl, by decide +kernel, rfl, by decide +kernel, by decide +kernel⟩
abbrev n_L_next : List Str := ["_law_pool_here", "_law_book_here", "_law_world", "_law_most", "_law_span", "_law_opened", "_law_way", "_law_number", "_law_left_here", "_law_deal"]
theorem sc_L_next : FnScope n_L_next ["_law_pool_here", "_law_book_here", "_law_world", "_law_most", "_law_span"] (defScope s_L_next) := ⟨rfl, rfl, rfl, by decide +kernel, rfl, by decide +kernel, by decide +kernel⟩
abbrev n_L_wrote : List Str := ["_law_deal", "_law_deed", "_law_key", "_law_seen"]
theorem sc_L_wrote : FnScope n_L_wrote ["_law_deal"] (defScope s_L_wrote) := ⟨rfl, rfl, rfl, by decide +kernel, rfl, by decide +kernel, by decide +kernel⟩
abbrev n_L_last : List Str := ["_law_world", "_law_key", "_law_row", "_law_found", "_law_number", "_law_deal"]
theorem sc_L_last : FnScope n_L_last ["_law_world", "_law_key", "_law_row"] (defScope s_L_last) := ⟨rfl, rfl, rfl, by decide +kernel, rfl, by decide +kernel, by decide +kernel⟩
abbrev n_L_step : List Str := ["_law_book_here", "_law_world", "_law_number", "_law_deal", "_law_name", "_law_letters", "_law_steps_here", "_law_deed", "_law_mark", "_law_key", "_law_seen", "_law_letter", "_law_kind"]
theorem sc_L_step : FnScope n_L_step ["_law_book_here", "_law_world", "_law_number"] (defScope s_L_step) := ⟨rfl, rfl, rfl, by decide +kernel, rfl, by decide +kernel, by decide +kernel⟩
abbrev n_L_is_off : List Str := ["_law_world", "_law_deal", "_law_other", "_law_key"]
theorem sc_L_is_off : FnScope n_L_is_off ["_law_world", "_law_deal"] (defScope s_L_is_off) := ⟨rfl, rfl, rfl, by decide +kernel, rfl, by decide +kernel, by decide +kernel⟩
abbrev n_L_do : List Str := ["_law_book_here", "_law_world", "_law_rows", "_law_row", "_law_number", "_law_deal", "_law_stands", "_law_one"]
theorem sc_L_do : FnScope n_L_do ["_law_book_here", "_law_world", "_law_rows", "_law_row"] (defScope s_L_do) := ⟨rfl, rfl, rfl, by decide +kernel, rfl, by decide +kernel, by decide +kernel⟩
abbrev n_L_ended : List Str := ["_law_book_here", "_law_world", "_law_rows", "_law_number", "_law_deal", "_law_turn"]
theorem sc_L_ended : FnScope n_L_ended ["_law_book_here", "_law_world", "_law_rows"] (defScope s_L_ended) := ⟨rfl, rfl, rfl, by decide +kernel, rfl, by decide +kernel, by decide +kernel⟩
abbrev n_L_run : List Str := ["_law_script", "_law_first", "_law_book_here", "_law_most", "_law_span", "_law_world", "_law_rows", "_law_k", "_law_pool_here", "_law_row"]
theorem sc_L_run : FnScope n_L_run ["_law_script", "_law_first", "_law_book_here", "_law_most", "_law_span"] (defScope s_L_run) := ⟨rfl, rfl, rfl, by decide +kernel, rfl, by decide +kernel, by decide +kernel⟩
abbrev n_L_gone : List Str := ["_law_pool_here", "_law_pairs", "_law_start", "_law_row", "_law_turn", "_law_some", "_law_there", "_law_one", "_law_other"]
theorem sc_L_gone : FnScope n_L_gone ["_law_pool_here", "_law_pairs", "_law_start"] (defScope s_L_gone) := ⟨rfl, rfl, rfl, by decide +kernel, rfl, by decide +kernel, by decide +kernel⟩
abbrev n_L_right : List Str := ["_law_book_here", "_law_rows", "_law_ring", "_law_past", "_law_spans", "_law_some", "_law_at", "_law_one", "_law_ahead", "_law_behind"]
theorem sc_L_right : FnScope n_L_right ["_law_book_here", "_law_rows", "_law_ring", "_law_past", "_law_spans"] (defScope s_L_right) := ⟨rfl, rfl, rfl, by decide +kernel, rfl, by decide +kernel, by decide +kernel⟩
abbrev n_law : List Str := ["_law_script", "_law_book_here", "_law_rows", "_law_world", "_law_spans", "_law_told", "_law_past", "_law_pairs", "_law_ring", "_law_rings", "_law_k", "_law_pool_here", "_law_one", "_law_other", "_law_word", "_law_key"]
theorem sc_law : FnScope n_law ["_law_script"] (defScope s_law) := ⟨rfl, rfl, rfl, by decide +kernel, rfl, by decide +kernel, by decide +kernel⟩
def names0 : List PySem.Str := ["_wall", "SnapError", "BookError", "StepError", "NoRun", "NoKeys", "NoDealing", "NoNumber", "Over", "NoStep", "NoEnd", "TooMany", "is_whole", "is_pair", "dealing_copied", "book_copied", "number_by", "dealing_by", "has_many", "is_key_by", "are_keys", "MOST_BEGUN", "Deal", "Stepper", "MOST_ROWS", "NUMBERED", "is_row_form", "told_by", "played", "those_that_stand"]
def names1 : List PySem.Str := ["Span", "span_of", "spans_of", "SEEN", "OVER", "PAST", "by_reading", "by_writing", "musts", "must", "soft_pairs", "between_by", "between", "ahead_of_each", "order_by", "order_of", "behind_each", "way_back", "ring_by", "ring_of", "are_numbers", "is_ring", "_law_draw", "_law_names", "_law_marks", "_law_steps", "_law_book", "_law_pool", "_law_keys", "_law_left"]
def names2 : List PySem.Str := ["_law_next", "_law_wrote", "_law_last", "_law_step", "_law_is_off", "_law_do", "_law_ended", "_law_run", "_law_gone", "_law_right"]
def names : List PySem.Str := names0 ++ names1 ++ names2
def d_is_whole : He.DefD := ⟨("is_whole", none), "is_whole", "is_whole", defArgs s_is_whole, defBody s_is_whole, defScope s_is_whole, [], []⟩
def d_is_pair : He.DefD := ⟨("is_pair", none), "is_pair", "is_pair", defArgs s_is_pair, defBody s_is_pair, defScope s_is_pair, [], []⟩
def d_dealing_copied : He.DefD := ⟨("dealing_copied", none), "dealing_copied", "dealing_copied", defArgs s_dealing_copied, defBody s_dealing_copied, defScope s_dealing_copied, [], []⟩
def d_book_copied : He.DefD := ⟨("book_copied", none), "book_copied", "book_copied", defArgs s_book_copied, defBody s_book_copied, defScope s_book_copied, [], []⟩
def d_number_by : He.DefD := ⟨("number_by", none), "number_by", "number_by", defArgs s_number_by, defBody s_number_by, defScope s_number_by, [], []⟩
def d_dealing_by : He.DefD := ⟨("dealing_by", none), "dealing_by", "dealing_by", defArgs s_dealing_by, defBody s_dealing_by, defScope s_dealing_by, [], []⟩
def d_is_key_by : He.DefD := ⟨("is_key_by", none), "is_key_by", "is_key_by", defArgs s_is_key_by, defBody s_is_key_by, defScope s_is_key_by, [], []⟩
def d_are_keys : He.DefD := ⟨("are_keys", none), "are_keys", "are_keys", defArgs s_are_keys, defBody s_are_keys, defScope s_are_keys, [], []⟩
def d_Deal_init : He.DefD := ⟨("Deal", some "__init__"), "__init__", "Deal.__init__", defArgs s_Deal_init, defBody s_Deal_init, defScope s_Deal_init, [], []⟩
def d_Deal_next_deed : He.DefD := ⟨("Deal", some "next_deed"), "next_deed", "Deal.next_deed", defArgs s_Deal_next_deed, defBody s_Deal_next_deed, defScope s_Deal_next_deed, [], []⟩
def d_Deal_steps_left : He.DefD := ⟨("Deal", some "steps_left"), "steps_left", "Deal.steps_left", defArgs s_Deal_steps_left, defBody s_Deal_steps_left, defScope s_Deal_steps_left, [], []⟩
def d_Deal_written : He.DefD := ⟨("Deal", some "written"), "written", "Deal.written", defArgs s_Deal_written, defBody s_Deal_written, defScope s_Deal_written, [], []⟩
def d_Deal_read_so : He.DefD := ⟨("Deal", some "read_so"), "read_so", "Deal.read_so", defArgs s_Deal_read_so, defBody s_Deal_read_so, defScope s_Deal_read_so, [], []⟩
def d_Deal_closed : He.DefD := ⟨("Deal", some "closed"), "closed", "Deal.closed", defArgs s_Deal_closed, defBody s_Deal_closed, defScope s_Deal_closed, [], []⟩
def d_Stepper_init : He.DefD := ⟨("Stepper", some "__init__"), "__init__", "Stepper.__init__", defArgs s_Stepper_init, defBody s_Stepper_init, defScope s_Stepper_init, [], []⟩
def d_Stepper_begin : He.DefD := ⟨("Stepper", some "begin"), "begin", "Stepper.begin", defArgs s_Stepper_begin, defBody s_Stepper_begin, defScope s_Stepper_begin, [.non], []⟩
def d_Stepper_deal_by : He.DefD := ⟨("Stepper", some "deal_by"), "deal_by", "Stepper.deal_by", defArgs s_Stepper_deal_by, defBody s_Stepper_deal_by, defScope s_Stepper_deal_by, [], []⟩
def d_Stepper_open_deal : He.DefD := ⟨("Stepper", some "open_deal"), "open_deal", "Stepper.open_deal", defArgs s_Stepper_open_deal, defBody s_Stepper_open_deal, defScope s_Stepper_open_deal, [], []⟩
def d_Stepper_last_writer : He.DefD := ⟨("Stepper", some "last_writer"), "last_writer", "Stepper.last_writer", defArgs s_Stepper_last_writer, defBody s_Stepper_last_writer, defScope s_Stepper_last_writer, [], []⟩
def d_Stepper_step : He.DefD := ⟨("Stepper", some "step"), "step", "Stepper.step", defArgs s_Stepper_step, defBody s_Stepper_step, defScope s_Stepper_step, [], []⟩
def d_Stepper_is_called_off : He.DefD := ⟨("Stepper", some "is_called_off"), "is_called_off", "Stepper.is_called_off", defArgs s_Stepper_is_called_off, defBody s_Stepper_is_called_off, defScope s_Stepper_is_called_off, [], []⟩
def d_Stepper_look_at_end : He.DefD := ⟨("Stepper", some "look_at_end"), "look_at_end", "Stepper.look_at_end", defArgs s_Stepper_look_at_end, defBody s_Stepper_look_at_end, defScope s_Stepper_look_at_end, [], []⟩
def d_Stepper_close : He.DefD := ⟨("Stepper", some "close"), "close", "Stepper.close", defArgs s_Stepper_close, defBody s_Stepper_close, defScope s_Stepper_close, [], []⟩
def d_Stepper_shut : He.DefD := ⟨("Stepper", some "shut"), "shut", "Stepper.shut", defArgs s_Stepper_shut, defBody s_Stepper_shut, defScope s_Stepper_shut, [], []⟩
def d_Stepper_end : He.DefD := ⟨("Stepper", some "end"), "end", "Stepper.end", defArgs s_Stepper_end, defBody s_Stepper_end, defScope s_Stepper_end, [], []⟩
def d_Stepper_drop : He.DefD := ⟨("Stepper", some "drop"), "drop", "Stepper.drop", defArgs s_Stepper_drop, defBody s_Stepper_drop, defScope s_Stepper_drop, [], []⟩
def d_is_row_form : He.DefD := ⟨("is_row_form", none), "is_row_form", "is_row_form", defArgs s_is_row_form, defBody s_is_row_form, defScope s_is_row_form, [], []⟩
def d_told_by : He.DefD := ⟨("told_by", none), "told_by", "told_by", defArgs s_told_by, defBody s_told_by, defScope s_told_by, [], []⟩
def d_played : He.DefD := ⟨("played", none), "played", "played", defArgs s_played, defBody s_played, defScope s_played, [], []⟩
def d_those_that_stand : He.DefD := ⟨("those_that_stand", none), "those_that_stand", "those_that_stand", defArgs s_those_that_stand, defBody s_those_that_stand, defScope s_those_that_stand, [], []⟩
def d_Span_init : He.DefD := ⟨("Span", some "__init__"), "__init__", "Span.__init__", defArgs s_Span_init, defBody s_Span_init, defScope s_Span_init, [], []⟩
def d_Span_overlaps : He.DefD := ⟨("Span", some "overlaps"), "overlaps", "Span.overlaps", defArgs s_Span_overlaps, defBody s_Span_overlaps, defScope s_Span_overlaps, [], []⟩
def d_span_of : He.DefD := ⟨("span_of", none), "span_of", "span_of", defArgs s_span_of, defBody s_span_of, defScope s_span_of, [], []⟩
def d_spans_of : He.DefD := ⟨("spans_of", none), "spans_of", "spans_of", defArgs s_spans_of, defBody s_spans_of, defScope s_spans_of, [], []⟩
def d_by_reading : He.DefD := ⟨("by_reading", none), "by_reading", "by_reading", defArgs s_by_reading, defBody s_by_reading, defScope s_by_reading, [], []⟩
def d_by_writing : He.DefD := ⟨("by_writing", none), "by_writing", "by_writing", defArgs s_by_writing, defBody s_by_writing, defScope s_by_writing, [], []⟩
def d_musts : He.DefD := ⟨("musts", none), "musts", "musts", defArgs s_musts, defBody s_musts, defScope s_musts, [], []⟩
def d_must : He.DefD := ⟨("must", none), "must", "must", defArgs s_must, defBody s_must, defScope s_must, [], []⟩
def d_soft_pairs : He.DefD := ⟨("soft_pairs", none), "soft_pairs", "soft_pairs", defArgs s_soft_pairs, defBody s_soft_pairs, defScope s_soft_pairs, [], []⟩
def d_between_by : He.DefD := ⟨("between_by", none), "between_by", "between_by", defArgs s_between_by, defBody s_between_by, defScope s_between_by, [], []⟩
def d_between : He.DefD := ⟨("between", none), "between", "between", defArgs s_between, defBody s_between, defScope s_between, [], []⟩
def d_ahead_of_each : He.DefD := ⟨("ahead_of_each", none), "ahead_of_each", "ahead_of_each", defArgs s_ahead_of_each, defBody s_ahead_of_each, defScope s_ahead_of_each, [], []⟩
def d_order_by : He.DefD := ⟨("order_by", none), "order_by", "order_by", defArgs s_order_by, defBody s_order_by, defScope s_order_by, [], []⟩
def d_order_of : He.DefD := ⟨("order_of", none), "order_of", "order_of", defArgs s_order_of, defBody s_order_of, defScope s_order_of, [], []⟩
def d_behind_each : He.DefD := ⟨("behind_each", none), "behind_each", "behind_each", defArgs s_behind_each, defBody s_behind_each, defScope s_behind_each, [], []⟩
def d_way_back : He.DefD := ⟨("way_back", none), "way_back", "way_back", defArgs s_way_back, defBody s_way_back, defScope s_way_back, [], []⟩
def d_ring_by : He.DefD := ⟨("ring_by", none), "ring_by", "ring_by", defArgs s_ring_by, defBody s_ring_by, defScope s_ring_by, [], []⟩
def d_ring_of : He.DefD := ⟨("ring_of", none), "ring_of", "ring_of", defArgs s_ring_of, defBody s_ring_of, defScope s_ring_of, [], []⟩
def d_are_numbers : He.DefD := ⟨("are_numbers", none), "are_numbers", "are_numbers", defArgs s_are_numbers, defBody s_are_numbers, defScope s_are_numbers, [], []⟩
def d_is_ring : He.DefD := ⟨("is_ring", none), "is_ring", "is_ring", defArgs s_is_ring, defBody s_is_ring, defScope s_is_ring, [], []⟩
def d_L_draw : He.DefD := ⟨("_law_draw", none), "_law_draw", "_law_draw", defArgs s_L_draw, defBody s_L_draw, defScope s_L_draw, [], []⟩
def d_L_names : He.DefD := ⟨("_law_names", none), "_law_names", "_law_names", defArgs s_L_names, defBody s_L_names, defScope s_L_names, [], []⟩
def d_L_marks : He.DefD := ⟨("_law_marks", none), "_law_marks", "_law_marks", defArgs s_L_marks, defBody s_L_marks, defScope s_L_marks, [], []⟩
def d_L_steps : He.DefD := ⟨("_law_steps", none), "_law_steps", "_law_steps", defArgs s_L_steps, defBody s_L_steps, defScope s_L_steps, [], []⟩
def d_L_book : He.DefD := ⟨("_law_book", none), "_law_book", "_law_book", defArgs s_L_book, defBody s_L_book, defScope s_L_book, [], []⟩
def d_L_pool : He.DefD := ⟨("_law_pool", none), "_law_pool", "_law_pool", defArgs s_L_pool, defBody s_L_pool, defScope s_L_pool, [], []⟩
def d_L_keys : He.DefD := ⟨("_law_keys", none), "_law_keys", "_law_keys", defArgs s_L_keys, defBody s_L_keys, defScope s_L_keys, [], []⟩
def d_L_left : He.DefD := ⟨("_law_left", none), "_law_left", "_law_left", defArgs s_L_left, defBody s_L_left, defScope s_L_left, [], []⟩
def d_L_next : He.DefD := ⟨("_law_next", none), "_law_next", "_law_next", defArgs s_L_next, defBody s_L_next, defScope s_L_next, [], []⟩
def d_L_wrote : He.DefD := ⟨("_law_wrote", none), "_law_wrote", "_law_wrote", defArgs s_L_wrote, defBody s_L_wrote, defScope s_L_wrote, [], []⟩
def d_L_last : He.DefD := ⟨("_law_last", none), "_law_last", "_law_last", defArgs s_L_last, defBody s_L_last, defScope s_L_last, [], []⟩
def d_L_step : He.DefD := ⟨("_law_step", none), "_law_step", "_law_step", defArgs s_L_step, defBody s_L_step, defScope s_L_step, [], []⟩
def d_L_is_off : He.DefD := ⟨("_law_is_off", none), "_law_is_off", "_law_is_off", defArgs s_L_is_off, defBody s_L_is_off, defScope s_L_is_off, [], []⟩
def d_L_do : He.DefD := ⟨("_law_do", none), "_law_do", "_law_do", defArgs s_L_do, defBody s_L_do, defScope s_L_do, [], []⟩
def d_L_ended : He.DefD := ⟨("_law_ended", none), "_law_ended", "_law_ended", defArgs s_L_ended, defBody s_L_ended, defScope s_L_ended, [], []⟩
def d_L_run : He.DefD := ⟨("_law_run", none), "_law_run", "_law_run", defArgs s_L_run, defBody s_L_run, defScope s_L_run, [], []⟩
def d_L_gone : He.DefD := ⟨("_law_gone", none), "_law_gone", "_law_gone", defArgs s_L_gone, defBody s_L_gone, defScope s_L_gone, [], []⟩
def d_L_right : He.DefD := ⟨("_law_right", none), "_law_right", "_law_right", defArgs s_L_right, defBody s_L_right, defScope s_L_right, [], []⟩
def d_law : He.DefD := ⟨("law", none), "law", "law", defArgs s_law, defBody s_law, defScope s_law, [], []⟩
def fn : List He.DefD := [d_is_whole, d_is_pair, d_dealing_copied, d_book_copied, d_number_by, d_dealing_by, d_is_key_by, d_are_keys, d_Deal_init, d_Deal_next_deed, d_Deal_steps_left, d_Deal_written, d_Deal_read_so, d_Deal_closed, d_Stepper_init, d_Stepper_begin, d_Stepper_deal_by, d_Stepper_open_deal, d_Stepper_last_writer, d_Stepper_step, d_Stepper_is_called_off, d_Stepper_look_at_end, d_Stepper_close, d_Stepper_shut, d_Stepper_end, d_Stepper_drop, d_is_row_form, d_told_by, d_played, d_those_that_stand, d_Span_init, d_Span_overlaps, d_span_of, d_spans_of, d_by_reading, d_by_writing, d_musts, d_must, d_soft_pairs, d_between_by, d_between, d_ahead_of_each, d_order_by, d_order_of, d_behind_each, d_way_back, d_ring_by, d_ring_of, d_are_numbers, d_is_ring, d_L_draw, d_L_names, d_L_marks, d_L_steps, d_L_book, d_L_pool, d_L_keys, d_L_left, d_L_next, d_L_wrote, d_L_last, d_L_step, d_L_is_off, d_L_do, d_L_ended, d_L_run, d_L_gone, d_L_right, d_law]
def fa0 : List He.Fa := [.glo "is_whole", .glo "is_pair", .glo "dealing_copied", .glo "book_copied", .glo "number_by", .glo "dealing_by", .glo "is_key_by", .glo "are_keys", .glo "is_row_form", .glo "told_by", .glo "played", .glo "those_that_stand", .glo "span_of", .glo "spans_of", .glo "by_reading", .glo "by_writing", .glo "musts", .glo "must", .glo "soft_pairs", .glo "between_by", .glo "between", .glo "ahead_of_each", .glo "order_by", .glo "order_of", .glo "behind_each", .glo "way_back", .glo "ring_by", .glo "ring_of", .glo "are_numbers", .glo "is_ring"]
def fa1 : List He.Fa := [.glo "_law_draw", .glo "_law_names", .glo "_law_marks", .glo "_law_steps", .glo "_law_book", .glo "_law_pool", .glo "_law_keys", .glo "_law_left", .glo "_law_next", .glo "_law_wrote", .glo "_law_last", .glo "_law_step", .glo "_law_is_off", .glo "_law_do", .glo "_law_ended", .glo "_law_run", .glo "_law_gone", .glo "_law_right", .glo "law", .glo "Deal", .cls "Deal", .mkr "Deal", .noat "Deal" "title", .noat "Deal" "given", .noat "Deal" "key_by", .noat "Deal" "ahead", .noat "Deal" "told", .noat "Deal" "begun", .noat "Deal" "ended", .noat "Deal" "word"]
def fa2 : List He.Fa := [.meth "Deal" "next_deed", .meth "Deal" "steps_left", .meth "Deal" "written", .meth "Deal" "read_so", .meth "Deal" "closed", .glo "Stepper", .cls "Stepper", .mkr "Stepper", .noat "Stepper" "own_book", .noat "Stepper" "deals", .noat "Stepper" "log", .meth "Stepper" "begin", .meth "Stepper" "deal_by", .meth "Stepper" "open_deal", .meth "Stepper" "last_writer", .meth "Stepper" "step", .meth "Stepper" "is_called_off", .meth "Stepper" "look_at_end", .meth "Stepper" "close", .meth "Stepper" "shut", .meth "Stepper" "end", .meth "Stepper" "drop", .glo "Span", .cls "Span", .mkr "Span", .noat "Span" "first", .noat "Span" "last", .meth "Span" "overlaps", .free "isinstance", .free "len"]
def fa3 : List He.Fa := [.free "list", .free "dict", .free "enumerate", .free "zip", .free "max", .free "min", .free "any", .free "all", .free "sorted", .free "set", .free "range", .free "int", .free "tuple", .free "bool", .free "str", .int "MOST_BEGUN" 40, .int "MOST_ROWS" 400, .str "SEEN" "seen", .str "OVER" "over", .str "PAST" "past", .glo "NUMBERED"]
def fa : List He.Fa := fa0 ++ fa1 ++ fa2 ++ fa3
def ex (K : PySem.W.Frag) : Bool := He.tupB K "NUMBERED" [.str "step", .str "end", .str "drop"] && !decide ((He.cT K ("Stepper", some "last_writer")).2 = (He.cT K ("order_by", none)).2)
def tf : List He.Defn := [("Stepper", some "last_writer"), ("order_by", none)]
def need0 : List Str := ["is_whole", "is_pair", "dealing_copied", "book_copied", "number_by", "dealing_by", "is_key_by", "are_keys", "is_row_form", "told_by", "played", "those_that_stand", "span_of", "spans_of", "by_reading", "by_writing", "musts", "must", "soft_pairs", "between_by", "between", "ahead_of_each", "order_by", "order_of", "behind_each", "way_back", "ring_by", "ring_of", "are_numbers", "is_ring"]
def need1 : List Str := ["_law_draw", "_law_names", "_law_marks", "_law_steps", "_law_book", "_law_pool", "_law_keys", "_law_left", "_law_next", "_law_wrote", "_law_last", "_law_step", "_law_is_off", "_law_do", "_law_ended", "_law_run", "_law_gone", "_law_right", "law", "Deal", "Stepper", "Span", "NUMBERED"]
def need : List Str := need0 ++ need1
structure Tx (K : PySem.W.Frag) (mg : Str → Option Value) : Prop where
  d : He.SaysD fa fn K
  ht : ∃ h : Heap, K.In h ∧ h.Ns mainGlobals mg
  num : ex K = true
section
variable {P : Program} {w : World} {K : PySem.W.Frag} {mg : Str → Option Value} {base : Heap}
theorem Tx.glo (T : Tx K mg) (i : Nat) {x : Str} (h : fa[i]? = some (.glo x) := by rfl) : mg x = some (.ref (He.ga K x)) := by
  obtain ⟨h0, X, G⟩ := T.ht
  exact He.glo_ok X G (T.d.fact i h)
theorem Tx.fre (T : Tx K mg) (i : Nat) {x : Str} (h : fa[i]? = some (.free x) := by rfl) : mg x = none := by
  obtain ⟨h0, X, G⟩ := T.ht
  exact He.free_ok X G (T.d.fact i h)
theorem Tx.int_ (T : Tx K mg) (i : Nat) {x : Str} {n : Int} (h : fa[i]? = some (.int x n) := by rfl) : ∃ u, mg x = some u ∧ RelV (.int n) u := by
  obtain ⟨h0, X, G⟩ := T.ht
  obtain ⟨t, e⟩ := He.int_ok X G (T.d.fact i h)
  exact ⟨_, e, t, rfl⟩
theorem Tx.str_ (T : Tx K mg) (i : Nat) {x z : Str} (h : fa[i]? = some (.str x z) := by rfl) : ∃ u, mg x = some u ∧ RelV (.str z) u := by
  obtain ⟨h0, X, G⟩ := T.ht
  obtain ⟨t, e⟩ := He.str_ok X G (T.d.fact i h)
  exact ⟨_, e, t, rfl⟩
theorem Tx.numbered (T : Tx K mg) (H : Hp) : SqT K H (He.ga K "NUMBERED") [.str "step", .str "end", .str "drop"] := He.tupB_ok (Bool.and_eq_true_iff.mp T.num).1 H
theorem Tx.apart (T : Tx K mg) : (He.cT K ("Stepper", some "last_writer")).2 ≠ (He.cT K ("order_by", none)).2 := by
  have h := (Bool.and_eq_true_iff.mp T.num).2
  simpa using h
/-- a def of the module by its body -/
theorem Tx.cal (T : Tx K mg) {x : Str} {st : Stmt} {N ps : List Str} {k : Nat} {sp : Sp} (D : ∃ fd, FunD K x x (defArgs st) (defBody st) (defScope st) [] [] (He.ga K x) fd) (g : mg x = some (.ref (He.ga K x)))
    (hb : ∀ (kV doc pm : Value) (an : Option Addr) (cdv ct : Value) (us : List Value), us.length = ps.length → bindArgs (PySem.W.fnOf x x (defArgs st) (defBody st) (defScope st) .none kV doc pm an cdv ct) ⟨us, []⟩ = pure (ps.zip us))
    (S : FnScope N ps (defScope st)) (len : ∀ vs H Q E, sp vs H Q E → vs.length = ps.length)
    (hbody : ∀ (cdv : Value) (A : Around) (outer : List Env) (s : Shared) (H : Hp) (vs : List V) (Q : VK) (E : XK), Room k (A.deeper (envOfC x (defScope st) s.heap.objs.size (He.ga K x) cdv)) → sp vs H Q E →
      ∃ t, PSs (cxOf L2.CX0 P w K mg base N x (defScope st) (He.ga K x) cdv A outer s H E).nox (defBody st) t ∧ t { nx := fun _ H' => Q .non H', rt := Q } (start N vs) H) : C8.Cal P w K mg base (k + 1) x sp [] := by
  obtain ⟨fd, F⟩ := D
  refine ⟨_, fd, ps, [], F.ok S len fun cdv A outer s H vs Q E hr h => ?_, g, F.kp, F.bindsN hb, .nil⟩
  obtain ⟨t, h1, h2⟩ := hbody cdv A outer s H vs Q E hr h
  exact ⟨t, h1.nox, h2⟩
/-- a method -/
theorem Tx.met (T : Tx K mg) {C m qual : Str} {st : Stmt} {N ps : List Str} {k : Nat} {sp : Sp} (D : ∃ fd, FunD K m qual (defArgs st) (defBody st) (defScope st) [] [] (He.ma K (He.ga K C) m) fd) (c : Cls K (He.ga K C)) (me : Meth K (He.ga K C) m (He.ma K (He.ga K C) m))
    (hb : ∀ (kV doc pm : Value) (an : Option Addr) (cdv ct : Value) (us : List Value), us.length = ps.length → bindArgs (PySem.W.fnOf m qual (defArgs st) (defBody st) (defScope st) .none kV doc pm an cdv ct) ⟨us, []⟩ = pure (ps.zip us))
    (S : FnScope N ps (defScope st)) (len : ∀ vs H Q E, sp vs H Q E → vs.length = ps.length)
    (hbody : ∀ (cdv : Value) (A : Around) (outer : List Env) (s : Shared) (H : Hp) (vs : List V) (Q : VK) (E : XK), Room k (A.deeper (envOfC qual (defScope st) s.heap.objs.size (He.ma K (He.ga K C) m) cdv)) → sp vs H Q E →
      ∃ t, PSs (cxOf L2.CX0 P w K mg base N qual (defScope st) (He.ma K (He.ga K C) m) cdv A outer s H E).nox (defBody st) t ∧ t { nx := fun _ H' => Q .non H', rt := Q } (start N vs) H) : C8.Met P w K mg base (k + 1) (He.ga K C) m sp [] := by
  obtain ⟨fd, F⟩ := D
  refine ⟨_, fd, ps, [], c, me, F.ok S len fun cdv A outer s H vs Q E hr h => ?_, F.bindsN hb, .nil⟩
  obtain ⟨t, h1, h2⟩ := hbody cdv A outer s H vs Q E hr h
  exact ⟨t, h1.nox, h2⟩
/-- a class, by its __init__ -/
theorem Tx.mak (T : Tx K mg) {C qual : Str} {st : Stmt} {N ps : List Str} {k : Nat} {sp : Sp} (D : ∃ fd, FunD K "__init__" qual (defArgs st) (defBody st) (defScope st) [] [] (He.ma K (He.ga K C) "__init__") fd) (M : Mk K (He.ga K C) (He.ma K (He.ga K C) "__init__")) (g : mg C = some (.ref (He.ga K C)))
    (hb : ∀ (kV doc pm : Value) (an : Option Addr) (cdv ct : Value) (us : List Value), us.length = ps.length → bindArgs (PySem.W.fnOf "__init__" qual (defArgs st) (defBody st) (defScope st) .none kV doc pm an cdv ct) ⟨us, []⟩ = pure (ps.zip us))
    (S : FnScope N ps (defScope st)) (len : ∀ vs H Q E, sp vs H Q E → vs.length = ps.length)
    (hbody : ∀ (cdv : Value) (A : Around) (outer : List Env) (s : Shared) (H : Hp) (vs : List V) (Q : VK) (E : XK), Room k (A.deeper (envOfC qual (defScope st) s.heap.objs.size (He.ma K (He.ga K C) "__init__") cdv)) → sp vs H Q E →
      ∃ t, PSs (cxOf L2.CX0 P w K mg base N qual (defScope st) (He.ma K (He.ga K C) "__init__") cdv A outer s H E).nox (defBody st) t ∧ t { nx := fun _ H' => Q .non H', rt := Q } (start N vs) H) : C8.Mak P w K mg base (k + 1) C (He.ga K C) sp [] := by
  obtain ⟨fd, F⟩ := D
  refine ⟨_, fd, ps, [], M, F.ok S len fun cdv A outer s H vs Q E hr h => ?_, g, F.bindsN hb, .nil⟩
  obtain ⟨t, h1, h2⟩ := hbody cdv A outer s H vs Q E hr h
  exact ⟨t, h1.nox, h2⟩
/-- a method whose code object is asked for -/
theorem Tx.metC (T : Tx K mg) {C m qual : Str} {st : Stmt} {N ps : List Str} {k : Nat} {sp : Sp} (D : ∃ fd, FunD K m qual (defArgs st) (defBody st) (defScope st) [] [] (He.ma K (He.ga K C) m) fd) (c : Cls K (He.ga K C)) (me : Meth K (He.ga K C) m (He.ma K (He.ga K C) m))
    (hb : ∀ (kV doc pm : Value) (an : Option Addr) (cdv ct : Value) (us : List Value), us.length = ps.length → bindArgs (PySem.W.fnOf m qual (defArgs st) (defBody st) (defScope st) .none kV doc pm an cdv ct) ⟨us, []⟩ = pure (ps.zip us))
    (S : FnScope N ps (defScope st)) (len : ∀ vs H Q E, sp vs H Q E → vs.length = ps.length)
    (hbody : ∀ (A : Around) (outer : List Env) (s : Shared) (H : Hp) (vs : List V) (Q : VK) (E : XK), Room k (A.deeper (envOfC qual (defScope st) s.heap.objs.size (He.ma K (He.ga K C) m) (.ref (He.cT K (C, some m)).1))) → sp vs H Q E →
      ∃ t, PSs (cxOf L2.CX0 P w K mg base N qual (defScope st) (He.ma K (He.ga K C) m) (.ref (He.cT K (C, some m)).1) A outer s H E).nox (defBody st) t ∧ t { nx := fun _ H' => Q .non H', rt := Q } (start N vs) H) : C8.Met P w K mg base (k + 1) (He.ga K C) m sp [] := by
  obtain ⟨fd, F⟩ := D
  have F0 := F
  obtain ⟨oc, od, dV, kV, doc, pm, an, cdv, ct, osl, rfl, lk, hcd, hD, hK⟩ := F.ex
  obtain ⟨c', rfl⟩ := He.codeIn_ref hcd
  have e : (He.cT K (C, some m)).1 = c' := He.codeOf_eq (p := (C, some m)) lk rfl
  subst e
  refine ⟨_, _, ps, [], c, me, fn_of lk hcd S len fun A outer s H vs Q E hr h => ?_, F0.bindsN hb, .nil⟩
  obtain ⟨t, h1, h2⟩ := hbody A outer s H vs Q E hr h
  exact ⟨t, h1.nox, h2⟩
/-- a def of the module whose code object is asked for -/
theorem Tx.calC (T : Tx K mg) {x : Str} {st : Stmt} {N ps : List Str} {k : Nat} {sp : Sp} (D : ∃ fd, FunD K x x (defArgs st) (defBody st) (defScope st) [] [] (He.ga K x) fd) (g : mg x = some (.ref (He.ga K x)))
    (hb : ∀ (kV doc pm : Value) (an : Option Addr) (cdv ct : Value) (us : List Value), us.length = ps.length → bindArgs (PySem.W.fnOf x x (defArgs st) (defBody st) (defScope st) .none kV doc pm an cdv ct) ⟨us, []⟩ = pure (ps.zip us))
    (S : FnScope N ps (defScope st)) (len : ∀ vs H Q E, sp vs H Q E → vs.length = ps.length)
    (hbody : ∀ (A : Around) (outer : List Env) (s : Shared) (H : Hp) (vs : List V) (Q : VK) (E : XK), Room k (A.deeper (envOfC x (defScope st) s.heap.objs.size (He.ga K x) (.ref (He.cT K (x, none)).1))) → sp vs H Q E →
      ∃ t, PSs (cxOf L2.CX0 P w K mg base N x (defScope st) (He.ga K x) (.ref (He.cT K (x, none)).1) A outer s H E).nox (defBody st) t ∧ t { nx := fun _ H' => Q .non H', rt := Q } (start N vs) H) : C8.Cal P w K mg base (k + 1) x sp [] := by
  obtain ⟨fd, F⟩ := D
  have F0 := F
  obtain ⟨oc, od, dV, kV, doc, pm, an, cdv, ct, osl, rfl, lk, hcd, hD, hK⟩ := F.ex
  obtain ⟨c', rfl⟩ := He.codeIn_ref hcd
  have e : (He.cT K (x, none)).1 = c' := He.codeOf_eq (p := (x, none)) lk rfl
  subst e
  refine ⟨_, _, ps, [], fn_of lk hcd S len fun A outer s H vs Q E hr h => ?_, g, F0.kp, F0.bindsN hb, .nil⟩
  obtain ⟨t, h1, h2⟩ := hbody A outer s H vs Q E hr h
  exact ⟨t, h1.nox, h2⟩
end
section
variable {P : Program} {w : World} {K : PySem.W.Frag} {mg : Str → Option Value} {base : Heap}
theorem Tx.g_is_whole (T : Tx K mg) : mg "is_whole" = some (.ref (He.ga K "is_whole")) := T.glo 0
theorem Tx.g_is_pair (T : Tx K mg) : mg "is_pair" = some (.ref (He.ga K "is_pair")) := T.glo 1
theorem Tx.g_dealing_copied (T : Tx K mg) : mg "dealing_copied" = some (.ref (He.ga K "dealing_copied")) := T.glo 2
theorem Tx.g_book_copied (T : Tx K mg) : mg "book_copied" = some (.ref (He.ga K "book_copied")) := T.glo 3
theorem Tx.g_number_by (T : Tx K mg) : mg "number_by" = some (.ref (He.ga K "number_by")) := T.glo 4
theorem Tx.g_dealing_by (T : Tx K mg) : mg "dealing_by" = some (.ref (He.ga K "dealing_by")) := T.glo 5
theorem Tx.g_is_key_by (T : Tx K mg) : mg "is_key_by" = some (.ref (He.ga K "is_key_by")) := T.glo 6
theorem Tx.g_are_keys (T : Tx K mg) : mg "are_keys" = some (.ref (He.ga K "are_keys")) := T.glo 7
theorem Tx.g_is_row_form (T : Tx K mg) : mg "is_row_form" = some (.ref (He.ga K "is_row_form")) := T.glo 8
theorem Tx.g_told_by (T : Tx K mg) : mg "told_by" = some (.ref (He.ga K "told_by")) := T.glo 9
theorem Tx.g_played (T : Tx K mg) : mg "played" = some (.ref (He.ga K "played")) := T.glo 10
theorem Tx.g_those_that_stand (T : Tx K mg) : mg "those_that_stand" = some (.ref (He.ga K "those_that_stand")) := T.glo 11
theorem Tx.g_span_of (T : Tx K mg) : mg "span_of" = some (.ref (He.ga K "span_of")) := T.glo 12
theorem Tx.g_spans_of (T : Tx K mg) : mg "spans_of" = some (.ref (He.ga K "spans_of")) := T.glo 13
theorem Tx.g_by_reading (T : Tx K mg) : mg "by_reading" = some (.ref (He.ga K "by_reading")) := T.glo 14
theorem Tx.g_by_writing (T : Tx K mg) : mg "by_writing" = some (.ref (He.ga K "by_writing")) := T.glo 15
theorem Tx.g_musts (T : Tx K mg) : mg "musts" = some (.ref (He.ga K "musts")) := T.glo 16
theorem Tx.g_must (T : Tx K mg) : mg "must" = some (.ref (He.ga K "must")) := T.glo 17
theorem Tx.g_soft_pairs (T : Tx K mg) : mg "soft_pairs" = some (.ref (He.ga K "soft_pairs")) := T.glo 18
theorem Tx.g_between_by (T : Tx K mg) : mg "between_by" = some (.ref (He.ga K "between_by")) := T.glo 19
theorem Tx.g_between (T : Tx K mg) : mg "between" = some (.ref (He.ga K "between")) := T.glo 20
theorem Tx.g_ahead_of_each (T : Tx K mg) : mg "ahead_of_each" = some (.ref (He.ga K "ahead_of_each")) := T.glo 21
theorem Tx.g_order_by (T : Tx K mg) : mg "order_by" = some (.ref (He.ga K "order_by")) := T.glo 22
theorem Tx.g_order_of (T : Tx K mg) : mg "order_of" = some (.ref (He.ga K "order_of")) := T.glo 23
theorem Tx.g_behind_each (T : Tx K mg) : mg "behind_each" = some (.ref (He.ga K "behind_each")) := T.glo 24
theorem Tx.g_way_back (T : Tx K mg) : mg "way_back" = some (.ref (He.ga K "way_back")) := T.glo 25
theorem Tx.g_ring_by (T : Tx K mg) : mg "ring_by" = some (.ref (He.ga K "ring_by")) := T.glo 26
theorem Tx.g_ring_of (T : Tx K mg) : mg "ring_of" = some (.ref (He.ga K "ring_of")) := T.glo 27
theorem Tx.g_are_numbers (T : Tx K mg) : mg "are_numbers" = some (.ref (He.ga K "are_numbers")) := T.glo 28
theorem Tx.g_is_ring (T : Tx K mg) : mg "is_ring" = some (.ref (He.ga K "is_ring")) := T.glo 29
theorem Tx.g_L_draw (T : Tx K mg) : mg "_law_draw" = some (.ref (He.ga K "_law_draw")) := T.glo 30
theorem Tx.g_L_names (T : Tx K mg) : mg "_law_names" = some (.ref (He.ga K "_law_names")) := T.glo 31
theorem Tx.g_L_marks (T : Tx K mg) : mg "_law_marks" = some (.ref (He.ga K "_law_marks")) := T.glo 32
theorem Tx.g_L_steps (T : Tx K mg) : mg "_law_steps" = some (.ref (He.ga K "_law_steps")) := T.glo 33
theorem Tx.g_L_book (T : Tx K mg) : mg "_law_book" = some (.ref (He.ga K "_law_book")) := T.glo 34
theorem Tx.g_L_pool (T : Tx K mg) : mg "_law_pool" = some (.ref (He.ga K "_law_pool")) := T.glo 35
theorem Tx.g_L_keys (T : Tx K mg) : mg "_law_keys" = some (.ref (He.ga K "_law_keys")) := T.glo 36
theorem Tx.g_L_left (T : Tx K mg) : mg "_law_left" = some (.ref (He.ga K "_law_left")) := T.glo 37
theorem Tx.g_L_next (T : Tx K mg) : mg "_law_next" = some (.ref (He.ga K "_law_next")) := T.glo 38
theorem Tx.g_L_wrote (T : Tx K mg) : mg "_law_wrote" = some (.ref (He.ga K "_law_wrote")) := T.glo 39
theorem Tx.g_L_last (T : Tx K mg) : mg "_law_last" = some (.ref (He.ga K "_law_last")) := T.glo 40
theorem Tx.g_L_step (T : Tx K mg) : mg "_law_step" = some (.ref (He.ga K "_law_step")) := T.glo 41
theorem Tx.g_L_is_off (T : Tx K mg) : mg "_law_is_off" = some (.ref (He.ga K "_law_is_off")) := T.glo 42
theorem Tx.g_L_do (T : Tx K mg) : mg "_law_do" = some (.ref (He.ga K "_law_do")) := T.glo 43
theorem Tx.g_L_ended (T : Tx K mg) : mg "_law_ended" = some (.ref (He.ga K "_law_ended")) := T.glo 44
theorem Tx.g_L_run (T : Tx K mg) : mg "_law_run" = some (.ref (He.ga K "_law_run")) := T.glo 45
theorem Tx.g_L_gone (T : Tx K mg) : mg "_law_gone" = some (.ref (He.ga K "_law_gone")) := T.glo 46
theorem Tx.g_L_right (T : Tx K mg) : mg "_law_right" = some (.ref (He.ga K "_law_right")) := T.glo 47
theorem Tx.g_law (T : Tx K mg) : mg "law" = some (.ref (He.ga K "law")) := T.glo 48
theorem Tx.g_Deal (T : Tx K mg) : mg "Deal" = some (.ref (He.ga K "Deal")) := T.glo 49
theorem Tx.cls_Deal (T : Tx K mg) : Cls K (He.ga K "Deal") := He.cls_ok (T.d.fact 50 (f := .cls "Deal") rfl)
theorem Tx.mkr_Deal (T : Tx K mg) : Mk K (He.ga K "Deal") (He.ma K (He.ga K "Deal") "__init__") := He.mkr_ok (T.d.fact 51 (f := .mkr "Deal") rfl)
theorem Tx.no_Deal_title (T : Tx K mg) : NoAttr K (He.ga K "Deal") "title" := He.noat_ok (T.d.fact 52 (f := .noat "Deal" "title") rfl)
theorem Tx.no_Deal_given (T : Tx K mg) : NoAttr K (He.ga K "Deal") "given" := He.noat_ok (T.d.fact 53 (f := .noat "Deal" "given") rfl)
theorem Tx.no_Deal_key_by (T : Tx K mg) : NoAttr K (He.ga K "Deal") "key_by" := He.noat_ok (T.d.fact 54 (f := .noat "Deal" "key_by") rfl)
theorem Tx.no_Deal_ahead (T : Tx K mg) : NoAttr K (He.ga K "Deal") "ahead" := He.noat_ok (T.d.fact 55 (f := .noat "Deal" "ahead") rfl)
theorem Tx.no_Deal_told (T : Tx K mg) : NoAttr K (He.ga K "Deal") "told" := He.noat_ok (T.d.fact 56 (f := .noat "Deal" "told") rfl)
theorem Tx.no_Deal_begun (T : Tx K mg) : NoAttr K (He.ga K "Deal") "begun" := He.noat_ok (T.d.fact 57 (f := .noat "Deal" "begun") rfl)
theorem Tx.no_Deal_ended (T : Tx K mg) : NoAttr K (He.ga K "Deal") "ended" := He.noat_ok (T.d.fact 58 (f := .noat "Deal" "ended") rfl)
theorem Tx.no_Deal_word (T : Tx K mg) : NoAttr K (He.ga K "Deal") "word" := He.noat_ok (T.d.fact 59 (f := .noat "Deal" "word") rfl)
theorem Tx.me_Deal_next_deed (T : Tx K mg) : Meth K (He.ga K "Deal") "next_deed" (He.ma K (He.ga K "Deal") "next_deed") := He.meth_ok (T.d.fact 60 (f := .meth "Deal" "next_deed") rfl)
theorem Tx.me_Deal_steps_left (T : Tx K mg) : Meth K (He.ga K "Deal") "steps_left" (He.ma K (He.ga K "Deal") "steps_left") := He.meth_ok (T.d.fact 61 (f := .meth "Deal" "steps_left") rfl)
theorem Tx.me_Deal_written (T : Tx K mg) : Meth K (He.ga K "Deal") "written" (He.ma K (He.ga K "Deal") "written") := He.meth_ok (T.d.fact 62 (f := .meth "Deal" "written") rfl)
theorem Tx.me_Deal_read_so (T : Tx K mg) : Meth K (He.ga K "Deal") "read_so" (He.ma K (He.ga K "Deal") "read_so") := He.meth_ok (T.d.fact 63 (f := .meth "Deal" "read_so") rfl)
theorem Tx.me_Deal_closed (T : Tx K mg) : Meth K (He.ga K "Deal") "closed" (He.ma K (He.ga K "Deal") "closed") := He.meth_ok (T.d.fact 64 (f := .meth "Deal" "closed") rfl)
theorem Tx.g_Stepper (T : Tx K mg) : mg "Stepper" = some (.ref (He.ga K "Stepper")) := T.glo 65
theorem Tx.cls_Stepper (T : Tx K mg) : Cls K (He.ga K "Stepper") := He.cls_ok (T.d.fact 66 (f := .cls "Stepper") rfl)
theorem Tx.mkr_Stepper (T : Tx K mg) : Mk K (He.ga K "Stepper") (He.ma K (He.ga K "Stepper") "__init__") := He.mkr_ok (T.d.fact 67 (f := .mkr "Stepper") rfl)
theorem Tx.no_Stepper_own_book (T : Tx K mg) : NoAttr K (He.ga K "Stepper") "own_book" := He.noat_ok (T.d.fact 68 (f := .noat "Stepper" "own_book") rfl)
theorem Tx.no_Stepper_deals (T : Tx K mg) : NoAttr K (He.ga K "Stepper") "deals" := He.noat_ok (T.d.fact 69 (f := .noat "Stepper" "deals") rfl)
theorem Tx.no_Stepper_log (T : Tx K mg) : NoAttr K (He.ga K "Stepper") "log" := He.noat_ok (T.d.fact 70 (f := .noat "Stepper" "log") rfl)
theorem Tx.me_Stepper_begin (T : Tx K mg) : Meth K (He.ga K "Stepper") "begin" (He.ma K (He.ga K "Stepper") "begin") := He.meth_ok (T.d.fact 71 (f := .meth "Stepper" "begin") rfl)
theorem Tx.me_Stepper_deal_by (T : Tx K mg) : Meth K (He.ga K "Stepper") "deal_by" (He.ma K (He.ga K "Stepper") "deal_by") := He.meth_ok (T.d.fact 72 (f := .meth "Stepper" "deal_by") rfl)
theorem Tx.me_Stepper_open_deal (T : Tx K mg) : Meth K (He.ga K "Stepper") "open_deal" (He.ma K (He.ga K "Stepper") "open_deal") := He.meth_ok (T.d.fact 73 (f := .meth "Stepper" "open_deal") rfl)
theorem Tx.me_Stepper_last_writer (T : Tx K mg) : Meth K (He.ga K "Stepper") "last_writer" (He.ma K (He.ga K "Stepper") "last_writer") := He.meth_ok (T.d.fact 74 (f := .meth "Stepper" "last_writer") rfl)
theorem Tx.me_Stepper_step (T : Tx K mg) : Meth K (He.ga K "Stepper") "step" (He.ma K (He.ga K "Stepper") "step") := He.meth_ok (T.d.fact 75 (f := .meth "Stepper" "step") rfl)
theorem Tx.me_Stepper_is_called_off (T : Tx K mg) : Meth K (He.ga K "Stepper") "is_called_off" (He.ma K (He.ga K "Stepper") "is_called_off") := He.meth_ok (T.d.fact 76 (f := .meth "Stepper" "is_called_off") rfl)
theorem Tx.me_Stepper_look_at_end (T : Tx K mg) : Meth K (He.ga K "Stepper") "look_at_end" (He.ma K (He.ga K "Stepper") "look_at_end") := He.meth_ok (T.d.fact 77 (f := .meth "Stepper" "look_at_end") rfl)
theorem Tx.me_Stepper_close (T : Tx K mg) : Meth K (He.ga K "Stepper") "close" (He.ma K (He.ga K "Stepper") "close") := He.meth_ok (T.d.fact 78 (f := .meth "Stepper" "close") rfl)
theorem Tx.me_Stepper_shut (T : Tx K mg) : Meth K (He.ga K "Stepper") "shut" (He.ma K (He.ga K "Stepper") "shut") := He.meth_ok (T.d.fact 79 (f := .meth "Stepper" "shut") rfl)
theorem Tx.me_Stepper_end (T : Tx K mg) : Meth K (He.ga K "Stepper") "end" (He.ma K (He.ga K "Stepper") "end") := He.meth_ok (T.d.fact 80 (f := .meth "Stepper" "end") rfl)
theorem Tx.me_Stepper_drop (T : Tx K mg) : Meth K (He.ga K "Stepper") "drop" (He.ma K (He.ga K "Stepper") "drop") := He.meth_ok (T.d.fact 81 (f := .meth "Stepper" "drop") rfl)
theorem Tx.g_Span (T : Tx K mg) : mg "Span" = some (.ref (He.ga K "Span")) := T.glo 82
theorem Tx.cls_Span (T : Tx K mg) : Cls K (He.ga K "Span") := He.cls_ok (T.d.fact 83 (f := .cls "Span") rfl)
theorem Tx.mkr_Span (T : Tx K mg) : Mk K (He.ga K "Span") (He.ma K (He.ga K "Span") "__init__") := He.mkr_ok (T.d.fact 84 (f := .mkr "Span") rfl)
theorem Tx.no_Span_first (T : Tx K mg) : NoAttr K (He.ga K "Span") "first" := He.noat_ok (T.d.fact 85 (f := .noat "Span" "first") rfl)
theorem Tx.no_Span_last (T : Tx K mg) : NoAttr K (He.ga K "Span") "last" := He.noat_ok (T.d.fact 86 (f := .noat "Span" "last") rfl)
theorem Tx.me_Span_overlaps (T : Tx K mg) : Meth K (He.ga K "Span") "overlaps" (He.ma K (He.ga K "Span") "overlaps") := He.meth_ok (T.d.fact 87 (f := .meth "Span" "overlaps") rfl)
theorem Tx.fr_isinstance (T : Tx K mg) : mg "isinstance" = none := T.fre 88
theorem Tx.fr_len (T : Tx K mg) : mg "len" = none := T.fre 89
theorem Tx.fr_list (T : Tx K mg) : mg "list" = none := T.fre 90
theorem Tx.fr_dict (T : Tx K mg) : mg "dict" = none := T.fre 91
theorem Tx.fr_enumerate (T : Tx K mg) : mg "enumerate" = none := T.fre 92
theorem Tx.fr_zip (T : Tx K mg) : mg "zip" = none := T.fre 93
theorem Tx.fr_max (T : Tx K mg) : mg "max" = none := T.fre 94
theorem Tx.fr_min (T : Tx K mg) : mg "min" = none := T.fre 95
theorem Tx.fr_any (T : Tx K mg) : mg "any" = none := T.fre 96
theorem Tx.fr_all (T : Tx K mg) : mg "all" = none := T.fre 97
theorem Tx.fr_sorted (T : Tx K mg) : mg "sorted" = none := T.fre 98
theorem Tx.fr_set (T : Tx K mg) : mg "set" = none := T.fre 99
theorem Tx.fr_range (T : Tx K mg) : mg "range" = none := T.fre 100
theorem Tx.fr_int (T : Tx K mg) : mg "int" = none := T.fre 101
theorem Tx.fr_tuple (T : Tx K mg) : mg "tuple" = none := T.fre 102
theorem Tx.fr_bool (T : Tx K mg) : mg "bool" = none := T.fre 103
theorem Tx.fr_str (T : Tx K mg) : mg "str" = none := T.fre 104
theorem Tx.v_MOST_BEGUN (T : Tx K mg) : ∃ u, mg "MOST_BEGUN" = some u ∧ RelV (.int 40) u := T.int_ 105
theorem Tx.v_MOST_ROWS (T : Tx K mg) : ∃ u, mg "MOST_ROWS" = some u ∧ RelV (.int 400) u := T.int_ 106
theorem Tx.v_SEEN (T : Tx K mg) : ∃ u, mg "SEEN" = some u ∧ RelV (.str "seen") u := T.str_ 107
theorem Tx.v_OVER (T : Tx K mg) : ∃ u, mg "OVER" = some u ∧ RelV (.str "over") u := T.str_ 108
theorem Tx.v_PAST (T : Tx K mg) : ∃ u, mg "PAST" = some u ∧ RelV (.str "past") u := T.str_ 109
theorem Tx.v_NUMBERED (T : Tx K mg) : ∃ u, mg "NUMBERED" = some u ∧ RelV (.ref (He.ga K "NUMBERED")) u := ⟨_, T.glo 110, rfl⟩
theorem boots : bootBuiltins "isinstance" = some (.builtin "isinstance") ∧ bootBuiltins "len" = some (.builtin "len") ∧ bootBuiltins "list" = some (.type "list") ∧ bootBuiltins "dict" = some (.type "dict") ∧ bootBuiltins "enumerate" = some (.type "enumerate") ∧ bootBuiltins "zip" = some (.type "zip") ∧ bootBuiltins "max" = some (.builtin "max") ∧ bootBuiltins "min" = some (.builtin "min") ∧ bootBuiltins "any" = some (.builtin "any") ∧ bootBuiltins "all" = some (.builtin "all") ∧ bootBuiltins "sorted" = some (.builtin "sorted") ∧ bootBuiltins "set" = some (.type "set") ∧ bootBuiltins "range" = some (.type "range") ∧ bootBuiltins "int" = some (.type "int") ∧ bootBuiltins "tuple" = some (.type "tuple") ∧ bootBuiltins "bool" = some (.type "bool") ∧ bootBuiltins "str" = some (.type "str") := by decide +kernel
theorem bt_isinstance : bootBuiltins "isinstance" = some (.builtin "isinstance") := boots.1
theorem bt_len : bootBuiltins "len" = some (.builtin "len") := boots.2.1
theorem bt_list : bootBuiltins "list" = some (.type "list") := boots.2.2.1
theorem bt_dict : bootBuiltins "dict" = some (.type "dict") := boots.2.2.2.1
theorem bt_enumerate : bootBuiltins "enumerate" = some (.type "enumerate") := boots.2.2.2.2.1
theorem bt_zip : bootBuiltins "zip" = some (.type "zip") := boots.2.2.2.2.2.1
theorem bt_max : bootBuiltins "max" = some (.builtin "max") := boots.2.2.2.2.2.2.1
theorem bt_min : bootBuiltins "min" = some (.builtin "min") := boots.2.2.2.2.2.2.2.1
theorem bt_any : bootBuiltins "any" = some (.builtin "any") := boots.2.2.2.2.2.2.2.2.1
theorem bt_all : bootBuiltins "all" = some (.builtin "all") := boots.2.2.2.2.2.2.2.2.2.1
theorem bt_sorted : bootBuiltins "sorted" = some (.builtin "sorted") := boots.2.2.2.2.2.2.2.2.2.2.1
theorem bt_set : bootBuiltins "set" = some (.type "set") := boots.2.2.2.2.2.2.2.2.2.2.2.1
theorem bt_range : bootBuiltins "range" = some (.type "range") := boots.2.2.2.2.2.2.2.2.2.2.2.2.1
theorem bt_int : bootBuiltins "int" = some (.type "int") := boots.2.2.2.2.2.2.2.2.2.2.2.2.2.1
theorem bt_tuple : bootBuiltins "tuple" = some (.type "tuple") := boots.2.2.2.2.2.2.2.2.2.2.2.2.2.2.1
theorem bt_bool : bootBuiltins "bool" = some (.type "bool") := boots.2.2.2.2.2.2.2.2.2.2.2.2.2.2.2.1
theorem bt_str : bootBuiltins "str" = some (.type "str") := boots.2.2.2.2.2.2.2.2.2.2.2.2.2.2.2.2
theorem Tx.D_is_whole (T : Tx K mg) : ∃ fd, FunD K "is_whole" "is_whole" (defArgs s_is_whole) (defBody s_is_whole) (defScope s_is_whole) [] [] (He.ga K "is_whole") fd := T.d.def_ 0 (d := d_is_whole) rfl
theorem b_is_whole (kV doc pm : Value) (an : Option Addr) (cdv ct : Value) (us : List Value) (hl : us.length = (["thing"] : List Str).length) : bindArgs (PySem.W.fnOf "is_whole" "is_whole" (defArgs s_is_whole) (defBody s_is_whole) (defScope s_is_whole) .none kV doc pm an cdv ct) ⟨us, []⟩ = pure ((["thing"] : List Str).zip us) := match us, hl with | [_], _ => by kernel_rfl
theorem Tx.D_is_pair (T : Tx K mg) : ∃ fd, FunD K "is_pair" "is_pair" (defArgs s_is_pair) (defBody s_is_pair) (defScope s_is_pair) [] [] (He.ga K "is_pair") fd := T.d.def_ 1 (d := d_is_pair) rfl
theorem b_is_pair (kV doc pm : Value) (an : Option Addr) (cdv ct : Value) (us : List Value) (hl : us.length = (["thing"] : List Str).length) : bindArgs (PySem.W.fnOf "is_pair" "is_pair" (defArgs s_is_pair) (defBody s_is_pair) (defScope s_is_pair) .none kV doc pm an cdv ct) ⟨us, []⟩ = pure ((["thing"] : List Str).zip us) := match us, hl with | [_], _ => by kernel_rfl
theorem Tx.D_dealing_copied (T : Tx K mg) : ∃ fd, FunD K "dealing_copied" "dealing_copied" (defArgs s_dealing_copied) (defBody s_dealing_copied) (defScope s_dealing_copied) [] [] (He.ga K "dealing_copied") fd := T.d.def_ 2 (d := d_dealing_copied) rfl
theorem b_dealing_copied (kV doc pm : Value) (an : Option Addr) (cdv ct : Value) (us : List Value) (hl : us.length = (["dealing"] : List Str).length) : bindArgs (PySem.W.fnOf "dealing_copied" "dealing_copied" (defArgs s_dealing_copied) (defBody s_dealing_copied) (defScope s_dealing_copied) .none kV doc pm an cdv ct) ⟨us, []⟩ = pure ((["dealing"] : List Str).zip us) := match us, hl with | [_], _ => by kernel_rfl
theorem Tx.D_book_copied (T : Tx K mg) : ∃ fd, FunD K "book_copied" "book_copied" (defArgs s_book_copied) (defBody s_book_copied) (defScope s_book_copied) [] [] (He.ga K "book_copied") fd := T.d.def_ 3 (d := d_book_copied) rfl
theorem b_book_copied (kV doc pm : Value) (an : Option Addr) (cdv ct : Value) (us : List Value) (hl : us.length = (["book"] : List Str).length) : bindArgs (PySem.W.fnOf "book_copied" "book_copied" (defArgs s_book_copied) (defBody s_book_copied) (defScope s_book_copied) .none kV doc pm an cdv ct) ⟨us, []⟩ = pure ((["book"] : List Str).zip us) := match us, hl with | [_], _ => by kernel_rfl
theorem Tx.D_number_by (T : Tx K mg) : ∃ fd, FunD K "number_by" "number_by" (defArgs s_number_by) (defBody s_number_by) (defScope s_number_by) [] [] (He.ga K "number_by") fd := T.d.def_ 4 (d := d_number_by) rfl
theorem b_number_by (kV doc pm : Value) (an : Option Addr) (cdv ct : Value) (us : List Value) (hl : us.length = (["book", "name"] : List Str).length) : bindArgs (PySem.W.fnOf "number_by" "number_by" (defArgs s_number_by) (defBody s_number_by) (defScope s_number_by) .none kV doc pm an cdv ct) ⟨us, []⟩ = pure ((["book", "name"] : List Str).zip us) := match us, hl with | [_, _], _ => by kernel_rfl
theorem Tx.D_dealing_by (T : Tx K mg) : ∃ fd, FunD K "dealing_by" "dealing_by" (defArgs s_dealing_by) (defBody s_dealing_by) (defScope s_dealing_by) [] [] (He.ga K "dealing_by") fd := T.d.def_ 5 (d := d_dealing_by) rfl
theorem b_dealing_by (kV doc pm : Value) (an : Option Addr) (cdv ct : Value) (us : List Value) (hl : us.length = (["book", "name"] : List Str).length) : bindArgs (PySem.W.fnOf "dealing_by" "dealing_by" (defArgs s_dealing_by) (defBody s_dealing_by) (defScope s_dealing_by) .none kV doc pm an cdv ct) ⟨us, []⟩ = pure ((["book", "name"] : List Str).zip us) := match us, hl with | [_, _], _ => by kernel_rfl
theorem Tx.D_is_key_by (T : Tx K mg) : ∃ fd, FunD K "is_key_by" "is_key_by" (defArgs s_is_key_by) (defBody s_is_key_by) (defScope s_is_key_by) [] [] (He.ga K "is_key_by") fd := T.d.def_ 6 (d := d_is_key_by) rfl
theorem b_is_key_by (kV doc pm : Value) (an : Option Addr) (cdv ct : Value) (us : List Value) (hl : us.length = (["kinds", "thing"] : List Str).length) : bindArgs (PySem.W.fnOf "is_key_by" "is_key_by" (defArgs s_is_key_by) (defBody s_is_key_by) (defScope s_is_key_by) .none kV doc pm an cdv ct) ⟨us, []⟩ = pure ((["kinds", "thing"] : List Str).zip us) := match us, hl with | [_, _], _ => by kernel_rfl
theorem Tx.D_are_keys (T : Tx K mg) : ∃ fd, FunD K "are_keys" "are_keys" (defArgs s_are_keys) (defBody s_are_keys) (defScope s_are_keys) [] [] (He.ga K "are_keys") fd := T.d.def_ 7 (d := d_are_keys) rfl
theorem b_are_keys (kV doc pm : Value) (an : Option Addr) (cdv ct : Value) (us : List Value) (hl : us.length = (["book", "name", "thing"] : List Str).length) : bindArgs (PySem.W.fnOf "are_keys" "are_keys" (defArgs s_are_keys) (defBody s_are_keys) (defScope s_are_keys) .none kV doc pm an cdv ct) ⟨us, []⟩ = pure ((["book", "name", "thing"] : List Str).zip us) := match us, hl with | [_, _, _], _ => by kernel_rfl
theorem Tx.D_Deal_init (T : Tx K mg) : ∃ fd, FunD K "__init__" "Deal.__init__" (defArgs s_Deal_init) (defBody s_Deal_init) (defScope s_Deal_init) [] [] (He.ma K (He.ga K "Deal") "__init__") fd := T.d.def_ 8 (d := d_Deal_init) rfl
theorem b_Deal_init (kV doc pm : Value) (an : Option Addr) (cdv ct : Value) (us : List Value) (hl : us.length = (["self", "dealing", "keys", "row"] : List Str).length) : bindArgs (PySem.W.fnOf "__init__" "Deal.__init__" (defArgs s_Deal_init) (defBody s_Deal_init) (defScope s_Deal_init) .none kV doc pm an cdv ct) ⟨us, []⟩ = pure ((["self", "dealing", "keys", "row"] : List Str).zip us) := match us, hl with | [_, _, _, _], _ => by kernel_rfl
theorem Tx.D_Deal_next_deed (T : Tx K mg) : ∃ fd, FunD K "next_deed" "Deal.next_deed" (defArgs s_Deal_next_deed) (defBody s_Deal_next_deed) (defScope s_Deal_next_deed) [] [] (He.ma K (He.ga K "Deal") "next_deed") fd := T.d.def_ 9 (d := d_Deal_next_deed) rfl
theorem b_Deal_next_deed (kV doc pm : Value) (an : Option Addr) (cdv ct : Value) (us : List Value) (hl : us.length = (["self"] : List Str).length) : bindArgs (PySem.W.fnOf "next_deed" "Deal.next_deed" (defArgs s_Deal_next_deed) (defBody s_Deal_next_deed) (defScope s_Deal_next_deed) .none kV doc pm an cdv ct) ⟨us, []⟩ = pure ((["self"] : List Str).zip us) := match us, hl with | [_], _ => by kernel_rfl
theorem Tx.D_Deal_steps_left (T : Tx K mg) : ∃ fd, FunD K "steps_left" "Deal.steps_left" (defArgs s_Deal_steps_left) (defBody s_Deal_steps_left) (defScope s_Deal_steps_left) [] [] (He.ma K (He.ga K "Deal") "steps_left") fd := T.d.def_ 10 (d := d_Deal_steps_left) rfl
theorem b_Deal_steps_left (kV doc pm : Value) (an : Option Addr) (cdv ct : Value) (us : List Value) (hl : us.length = (["self"] : List Str).length) : bindArgs (PySem.W.fnOf "steps_left" "Deal.steps_left" (defArgs s_Deal_steps_left) (defBody s_Deal_steps_left) (defScope s_Deal_steps_left) .none kV doc pm an cdv ct) ⟨us, []⟩ = pure ((["self"] : List Str).zip us) := match us, hl with | [_], _ => by kernel_rfl
theorem Tx.D_Deal_written (T : Tx K mg) : ∃ fd, FunD K "written" "Deal.written" (defArgs s_Deal_written) (defBody s_Deal_written) (defScope s_Deal_written) [] [] (He.ma K (He.ga K "Deal") "written") fd := T.d.def_ 11 (d := d_Deal_written) rfl
theorem b_Deal_written (kV doc pm : Value) (an : Option Addr) (cdv ct : Value) (us : List Value) (hl : us.length = (["self"] : List Str).length) : bindArgs (PySem.W.fnOf "written" "Deal.written" (defArgs s_Deal_written) (defBody s_Deal_written) (defScope s_Deal_written) .none kV doc pm an cdv ct) ⟨us, []⟩ = pure ((["self"] : List Str).zip us) := match us, hl with | [_], _ => by kernel_rfl
theorem Tx.D_Deal_read_so (T : Tx K mg) : ∃ fd, FunD K "read_so" "Deal.read_so" (defArgs s_Deal_read_so) (defBody s_Deal_read_so) (defScope s_Deal_read_so) [] [] (He.ma K (He.ga K "Deal") "read_so") fd := T.d.def_ 12 (d := d_Deal_read_so) rfl
theorem b_Deal_read_so (kV doc pm : Value) (an : Option Addr) (cdv ct : Value) (us : List Value) (hl : us.length = (["self"] : List Str).length) : bindArgs (PySem.W.fnOf "read_so" "Deal.read_so" (defArgs s_Deal_read_so) (defBody s_Deal_read_so) (defScope s_Deal_read_so) .none kV doc pm an cdv ct) ⟨us, []⟩ = pure ((["self"] : List Str).zip us) := match us, hl with | [_], _ => by kernel_rfl
theorem Tx.D_Deal_closed (T : Tx K mg) : ∃ fd, FunD K "closed" "Deal.closed" (defArgs s_Deal_closed) (defBody s_Deal_closed) (defScope s_Deal_closed) [] [] (He.ma K (He.ga K "Deal") "closed") fd := T.d.def_ 13 (d := d_Deal_closed) rfl
theorem b_Deal_closed (kV doc pm : Value) (an : Option Addr) (cdv ct : Value) (us : List Value) (hl : us.length = (["self", "word", "row"] : List Str).length) : bindArgs (PySem.W.fnOf "closed" "Deal.closed" (defArgs s_Deal_closed) (defBody s_Deal_closed) (defScope s_Deal_closed) .none kV doc pm an cdv ct) ⟨us, []⟩ = pure ((["self", "word", "row"] : List Str).zip us) := match us, hl with | [_, _, _], _ => by kernel_rfl
theorem Tx.D_Stepper_init (T : Tx K mg) : ∃ fd, FunD K "__init__" "Stepper.__init__" (defArgs s_Stepper_init) (defBody s_Stepper_init) (defScope s_Stepper_init) [] [] (He.ma K (He.ga K "Stepper") "__init__") fd := T.d.def_ 14 (d := d_Stepper_init) rfl
theorem b_Stepper_init (kV doc pm : Value) (an : Option Addr) (cdv ct : Value) (us : List Value) (hl : us.length = (["self", "book"] : List Str).length) : bindArgs (PySem.W.fnOf "__init__" "Stepper.__init__" (defArgs s_Stepper_init) (defBody s_Stepper_init) (defScope s_Stepper_init) .none kV doc pm an cdv ct) ⟨us, []⟩ = pure ((["self", "book"] : List Str).zip us) := match us, hl with | [_, _], _ => by kernel_rfl
theorem Tx.D_Stepper_begin (T : Tx K mg) : ∃ fd, FunD K "begin" "Stepper.begin" (defArgs s_Stepper_begin) (defBody s_Stepper_begin) (defScope s_Stepper_begin) [.non] [] (He.ma K (He.ga K "Stepper") "begin") fd := T.d.def_ 15 (d := d_Stepper_begin) rfl
theorem Tx.D_Stepper_deal_by (T : Tx K mg) : ∃ fd, FunD K "deal_by" "Stepper.deal_by" (defArgs s_Stepper_deal_by) (defBody s_Stepper_deal_by) (defScope s_Stepper_deal_by) [] [] (He.ma K (He.ga K "Stepper") "deal_by") fd := T.d.def_ 16 (d := d_Stepper_deal_by) rfl
theorem b_Stepper_deal_by (kV doc pm : Value) (an : Option Addr) (cdv ct : Value) (us : List Value) (hl : us.length = (["self", "number"] : List Str).length) : bindArgs (PySem.W.fnOf "deal_by" "Stepper.deal_by" (defArgs s_Stepper_deal_by) (defBody s_Stepper_deal_by) (defScope s_Stepper_deal_by) .none kV doc pm an cdv ct) ⟨us, []⟩ = pure ((["self", "number"] : List Str).zip us) := match us, hl with | [_, _], _ => by kernel_rfl
theorem Tx.D_Stepper_open_deal (T : Tx K mg) : ∃ fd, FunD K "open_deal" "Stepper.open_deal" (defArgs s_Stepper_open_deal) (defBody s_Stepper_open_deal) (defScope s_Stepper_open_deal) [] [] (He.ma K (He.ga K "Stepper") "open_deal") fd := T.d.def_ 17 (d := d_Stepper_open_deal) rfl
theorem b_Stepper_open_deal (kV doc pm : Value) (an : Option Addr) (cdv ct : Value) (us : List Value) (hl : us.length = (["self", "number"] : List Str).length) : bindArgs (PySem.W.fnOf "open_deal" "Stepper.open_deal" (defArgs s_Stepper_open_deal) (defBody s_Stepper_open_deal) (defScope s_Stepper_open_deal) .none kV doc pm an cdv ct) ⟨us, []⟩ = pure ((["self", "number"] : List Str).zip us) := match us, hl with | [_, _], _ => by kernel_rfl
theorem Tx.D_Stepper_last_writer (T : Tx K mg) : ∃ fd, FunD K "last_writer" "Stepper.last_writer" (defArgs s_Stepper_last_writer) (defBody s_Stepper_last_writer) (defScope s_Stepper_last_writer) [] [] (He.ma K (He.ga K "Stepper") "last_writer") fd := T.d.def_ 18 (d := d_Stepper_last_writer) rfl
theorem b_Stepper_last_writer (kV doc pm : Value) (an : Option Addr) (cdv ct : Value) (us : List Value) (hl : us.length = (["self", "key", "row"] : List Str).length) : bindArgs (PySem.W.fnOf "last_writer" "Stepper.last_writer" (defArgs s_Stepper_last_writer) (defBody s_Stepper_last_writer) (defScope s_Stepper_last_writer) .none kV doc pm an cdv ct) ⟨us, []⟩ = pure ((["self", "key", "row"] : List Str).zip us) := match us, hl with | [_, _, _], _ => by kernel_rfl
theorem Tx.D_Stepper_step (T : Tx K mg) : ∃ fd, FunD K "step" "Stepper.step" (defArgs s_Stepper_step) (defBody s_Stepper_step) (defScope s_Stepper_step) [] [] (He.ma K (He.ga K "Stepper") "step") fd := T.d.def_ 19 (d := d_Stepper_step) rfl
theorem b_Stepper_step (kV doc pm : Value) (an : Option Addr) (cdv ct : Value) (us : List Value) (hl : us.length = (["self", "number"] : List Str).length) : bindArgs (PySem.W.fnOf "step" "Stepper.step" (defArgs s_Stepper_step) (defBody s_Stepper_step) (defScope s_Stepper_step) .none kV doc pm an cdv ct) ⟨us, []⟩ = pure ((["self", "number"] : List Str).zip us) := match us, hl with | [_, _], _ => by kernel_rfl
theorem Tx.D_Stepper_is_called_off (T : Tx K mg) : ∃ fd, FunD K "is_called_off" "Stepper.is_called_off" (defArgs s_Stepper_is_called_off) (defBody s_Stepper_is_called_off) (defScope s_Stepper_is_called_off) [] [] (He.ma K (He.ga K "Stepper") "is_called_off") fd := T.d.def_ 20 (d := d_Stepper_is_called_off) rfl
theorem b_Stepper_is_called_off (kV doc pm : Value) (an : Option Addr) (cdv ct : Value) (us : List Value) (hl : us.length = (["self", "number"] : List Str).length) : bindArgs (PySem.W.fnOf "is_called_off" "Stepper.is_called_off" (defArgs s_Stepper_is_called_off) (defBody s_Stepper_is_called_off) (defScope s_Stepper_is_called_off) .none kV doc pm an cdv ct) ⟨us, []⟩ = pure ((["self", "number"] : List Str).zip us) := match us, hl with | [_, _], _ => by kernel_rfl
theorem Tx.D_Stepper_look_at_end (T : Tx K mg) : ∃ fd, FunD K "look_at_end" "Stepper.look_at_end" (defArgs s_Stepper_look_at_end) (defBody s_Stepper_look_at_end) (defScope s_Stepper_look_at_end) [] [] (He.ma K (He.ga K "Stepper") "look_at_end") fd := T.d.def_ 21 (d := d_Stepper_look_at_end) rfl
theorem b_Stepper_look_at_end (kV doc pm : Value) (an : Option Addr) (cdv ct : Value) (us : List Value) (hl : us.length = (["self", "number"] : List Str).length) : bindArgs (PySem.W.fnOf "look_at_end" "Stepper.look_at_end" (defArgs s_Stepper_look_at_end) (defBody s_Stepper_look_at_end) (defScope s_Stepper_look_at_end) .none kV doc pm an cdv ct) ⟨us, []⟩ = pure ((["self", "number"] : List Str).zip us) := match us, hl with | [_, _], _ => by kernel_rfl
theorem Tx.D_Stepper_close (T : Tx K mg) : ∃ fd, FunD K "close" "Stepper.close" (defArgs s_Stepper_close) (defBody s_Stepper_close) (defScope s_Stepper_close) [] [] (He.ma K (He.ga K "Stepper") "close") fd := T.d.def_ 22 (d := d_Stepper_close) rfl
theorem b_Stepper_close (kV doc pm : Value) (an : Option Addr) (cdv ct : Value) (us : List Value) (hl : us.length = (["self", "number", "stands"] : List Str).length) : bindArgs (PySem.W.fnOf "close" "Stepper.close" (defArgs s_Stepper_close) (defBody s_Stepper_close) (defScope s_Stepper_close) .none kV doc pm an cdv ct) ⟨us, []⟩ = pure ((["self", "number", "stands"] : List Str).zip us) := match us, hl with | [_, _, _], _ => by kernel_rfl
theorem Tx.D_Stepper_shut (T : Tx K mg) : ∃ fd, FunD K "shut" "Stepper.shut" (defArgs s_Stepper_shut) (defBody s_Stepper_shut) (defScope s_Stepper_shut) [] [] (He.ma K (He.ga K "Stepper") "shut") fd := T.d.def_ 23 (d := d_Stepper_shut) rfl
theorem b_Stepper_shut (kV doc pm : Value) (an : Option Addr) (cdv ct : Value) (us : List Value) (hl : us.length = (["self", "number"] : List Str).length) : bindArgs (PySem.W.fnOf "shut" "Stepper.shut" (defArgs s_Stepper_shut) (defBody s_Stepper_shut) (defScope s_Stepper_shut) .none kV doc pm an cdv ct) ⟨us, []⟩ = pure ((["self", "number"] : List Str).zip us) := match us, hl with | [_, _], _ => by kernel_rfl
theorem Tx.D_Stepper_end (T : Tx K mg) : ∃ fd, FunD K "end" "Stepper.end" (defArgs s_Stepper_end) (defBody s_Stepper_end) (defScope s_Stepper_end) [] [] (He.ma K (He.ga K "Stepper") "end") fd := T.d.def_ 24 (d := d_Stepper_end) rfl
theorem b_Stepper_end (kV doc pm : Value) (an : Option Addr) (cdv ct : Value) (us : List Value) (hl : us.length = (["self", "number"] : List Str).length) : bindArgs (PySem.W.fnOf "end" "Stepper.end" (defArgs s_Stepper_end) (defBody s_Stepper_end) (defScope s_Stepper_end) .none kV doc pm an cdv ct) ⟨us, []⟩ = pure ((["self", "number"] : List Str).zip us) := match us, hl with | [_, _], _ => by kernel_rfl
theorem Tx.D_Stepper_drop (T : Tx K mg) : ∃ fd, FunD K "drop" "Stepper.drop" (defArgs s_Stepper_drop) (defBody s_Stepper_drop) (defScope s_Stepper_drop) [] [] (He.ma K (He.ga K "Stepper") "drop") fd := T.d.def_ 25 (d := d_Stepper_drop) rfl
theorem b_Stepper_drop (kV doc pm : Value) (an : Option Addr) (cdv ct : Value) (us : List Value) (hl : us.length = (["self", "number"] : List Str).length) : bindArgs (PySem.W.fnOf "drop" "Stepper.drop" (defArgs s_Stepper_drop) (defBody s_Stepper_drop) (defScope s_Stepper_drop) .none kV doc pm an cdv ct) ⟨us, []⟩ = pure ((["self", "number"] : List Str).zip us) := match us, hl with | [_, _], _ => by kernel_rfl
theorem Tx.D_is_row_form (T : Tx K mg) : ∃ fd, FunD K "is_row_form" "is_row_form" (defArgs s_is_row_form) (defBody s_is_row_form) (defScope s_is_row_form) [] [] (He.ga K "is_row_form") fd := T.d.def_ 26 (d := d_is_row_form) rfl
theorem b_is_row_form (kV doc pm : Value) (an : Option Addr) (cdv ct : Value) (us : List Value) (hl : us.length = (["thing"] : List Str).length) : bindArgs (PySem.W.fnOf "is_row_form" "is_row_form" (defArgs s_is_row_form) (defBody s_is_row_form) (defScope s_is_row_form) .none kV doc pm an cdv ct) ⟨us, []⟩ = pure ((["thing"] : List Str).zip us) := match us, hl with | [_], _ => by kernel_rfl
theorem Tx.D_told_by (T : Tx K mg) : ∃ fd, FunD K "told_by" "told_by" (defArgs s_told_by) (defBody s_told_by) (defScope s_told_by) [] [] (He.ga K "told_by") fd := T.d.def_ 27 (d := d_told_by) rfl
theorem b_told_by (kV doc pm : Value) (an : Option Addr) (cdv ct : Value) (us : List Value) (hl : us.length = (["stepper", "row"] : List Str).length) : bindArgs (PySem.W.fnOf "told_by" "told_by" (defArgs s_told_by) (defBody s_told_by) (defScope s_told_by) .none kV doc pm an cdv ct) ⟨us, []⟩ = pure ((["stepper", "row"] : List Str).zip us) := match us, hl with | [_, _], _ => by kernel_rfl
theorem Tx.D_played (T : Tx K mg) : ∃ fd, FunD K "played" "played" (defArgs s_played) (defBody s_played) (defScope s_played) [] [] (He.ga K "played") fd := T.d.def_ 28 (d := d_played) rfl
theorem b_played (kV doc pm : Value) (an : Option Addr) (cdv ct : Value) (us : List Value) (hl : us.length = (["book", "thing"] : List Str).length) : bindArgs (PySem.W.fnOf "played" "played" (defArgs s_played) (defBody s_played) (defScope s_played) .none kV doc pm an cdv ct) ⟨us, []⟩ = pure ((["book", "thing"] : List Str).zip us) := match us, hl with | [_, _], _ => by kernel_rfl
theorem Tx.D_those_that_stand (T : Tx K mg) : ∃ fd, FunD K "those_that_stand" "those_that_stand" (defArgs s_those_that_stand) (defBody s_those_that_stand) (defScope s_those_that_stand) [] [] (He.ga K "those_that_stand") fd := T.d.def_ 29 (d := d_those_that_stand) rfl
theorem b_those_that_stand (kV doc pm : Value) (an : Option Addr) (cdv ct : Value) (us : List Value) (hl : us.length = (["stepper"] : List Str).length) : bindArgs (PySem.W.fnOf "those_that_stand" "those_that_stand" (defArgs s_those_that_stand) (defBody s_those_that_stand) (defScope s_those_that_stand) .none kV doc pm an cdv ct) ⟨us, []⟩ = pure ((["stepper"] : List Str).zip us) := match us, hl with | [_], _ => by kernel_rfl
theorem Tx.D_Span_init (T : Tx K mg) : ∃ fd, FunD K "__init__" "Span.__init__" (defArgs s_Span_init) (defBody s_Span_init) (defScope s_Span_init) [] [] (He.ma K (He.ga K "Span") "__init__") fd := T.d.def_ 30 (d := d_Span_init) rfl
theorem b_Span_init (kV doc pm : Value) (an : Option Addr) (cdv ct : Value) (us : List Value) (hl : us.length = (["self", "first", "last"] : List Str).length) : bindArgs (PySem.W.fnOf "__init__" "Span.__init__" (defArgs s_Span_init) (defBody s_Span_init) (defScope s_Span_init) .none kV doc pm an cdv ct) ⟨us, []⟩ = pure ((["self", "first", "last"] : List Str).zip us) := match us, hl with | [_, _, _], _ => by kernel_rfl
theorem Tx.D_Span_overlaps (T : Tx K mg) : ∃ fd, FunD K "overlaps" "Span.overlaps" (defArgs s_Span_overlaps) (defBody s_Span_overlaps) (defScope s_Span_overlaps) [] [] (He.ma K (He.ga K "Span") "overlaps") fd := T.d.def_ 31 (d := d_Span_overlaps) rfl
theorem b_Span_overlaps (kV doc pm : Value) (an : Option Addr) (cdv ct : Value) (us : List Value) (hl : us.length = (["self", "other"] : List Str).length) : bindArgs (PySem.W.fnOf "overlaps" "Span.overlaps" (defArgs s_Span_overlaps) (defBody s_Span_overlaps) (defScope s_Span_overlaps) .none kV doc pm an cdv ct) ⟨us, []⟩ = pure ((["self", "other"] : List Str).zip us) := match us, hl with | [_, _], _ => by kernel_rfl
theorem Tx.D_span_of (T : Tx K mg) : ∃ fd, FunD K "span_of" "span_of" (defArgs s_span_of) (defBody s_span_of) (defScope s_span_of) [] [] (He.ga K "span_of") fd := T.d.def_ 32 (d := d_span_of) rfl
theorem b_span_of (kV doc pm : Value) (an : Option Addr) (cdv ct : Value) (us : List Value) (hl : us.length = (["deal"] : List Str).length) : bindArgs (PySem.W.fnOf "span_of" "span_of" (defArgs s_span_of) (defBody s_span_of) (defScope s_span_of) .none kV doc pm an cdv ct) ⟨us, []⟩ = pure ((["deal"] : List Str).zip us) := match us, hl with | [_], _ => by kernel_rfl
theorem Tx.D_spans_of (T : Tx K mg) : ∃ fd, FunD K "spans_of" "spans_of" (defArgs s_spans_of) (defBody s_spans_of) (defScope s_spans_of) [] [] (He.ga K "spans_of") fd := T.d.def_ 33 (d := d_spans_of) rfl
theorem b_spans_of (kV doc pm : Value) (an : Option Addr) (cdv ct : Value) (us : List Value) (hl : us.length = (["book", "run"] : List Str).length) : bindArgs (PySem.W.fnOf "spans_of" "spans_of" (defArgs s_spans_of) (defBody s_spans_of) (defScope s_spans_of) .none kV doc pm an cdv ct) ⟨us, []⟩ = pure ((["book", "run"] : List Str).zip us) := match us, hl with | [_, _], _ => by kernel_rfl
theorem Tx.D_by_reading (T : Tx K mg) : ∃ fd, FunD K "by_reading" "by_reading" (defArgs s_by_reading) (defBody s_by_reading) (defScope s_by_reading) [] [] (He.ga K "by_reading") fd := T.d.def_ 34 (d := d_by_reading) rfl
theorem b_by_reading (kV doc pm : Value) (an : Option Addr) (cdv ct : Value) (us : List Value) (hl : us.length = (["deals", "stand", "own"] : List Str).length) : bindArgs (PySem.W.fnOf "by_reading" "by_reading" (defArgs s_by_reading) (defBody s_by_reading) (defScope s_by_reading) .none kV doc pm an cdv ct) ⟨us, []⟩ = pure ((["deals", "stand", "own"] : List Str).zip us) := match us, hl with | [_, _, _], _ => by kernel_rfl
theorem Tx.D_by_writing (T : Tx K mg) : ∃ fd, FunD K "by_writing" "by_writing" (defArgs s_by_writing) (defBody s_by_writing) (defScope s_by_writing) [] [] (He.ga K "by_writing") fd := T.d.def_ 35 (d := d_by_writing) rfl
theorem b_by_writing (kV doc pm : Value) (an : Option Addr) (cdv ct : Value) (us : List Value) (hl : us.length = (["deals", "stand", "own"] : List Str).length) : bindArgs (PySem.W.fnOf "by_writing" "by_writing" (defArgs s_by_writing) (defBody s_by_writing) (defScope s_by_writing) .none kV doc pm an cdv ct) ⟨us, []⟩ = pure ((["deals", "stand", "own"] : List Str).zip us) := match us, hl with | [_, _, _], _ => by kernel_rfl
theorem Tx.D_musts (T : Tx K mg) : ∃ fd, FunD K "musts" "musts" (defArgs s_musts) (defBody s_musts) (defScope s_musts) [] [] (He.ga K "musts") fd := T.d.def_ 36 (d := d_musts) rfl
theorem b_musts (kV doc pm : Value) (an : Option Addr) (cdv ct : Value) (us : List Value) (hl : us.length = (["stepper"] : List Str).length) : bindArgs (PySem.W.fnOf "musts" "musts" (defArgs s_musts) (defBody s_musts) (defScope s_musts) .none kV doc pm an cdv ct) ⟨us, []⟩ = pure ((["stepper"] : List Str).zip us) := match us, hl with | [_], _ => by kernel_rfl
theorem Tx.D_must (T : Tx K mg) : ∃ fd, FunD K "must" "must" (defArgs s_must) (defBody s_must) (defScope s_must) [] [] (He.ga K "must") fd := T.d.def_ 37 (d := d_must) rfl
theorem b_must (kV doc pm : Value) (an : Option Addr) (cdv ct : Value) (us : List Value) (hl : us.length = (["book", "run"] : List Str).length) : bindArgs (PySem.W.fnOf "must" "must" (defArgs s_must) (defBody s_must) (defScope s_must) .none kV doc pm an cdv ct) ⟨us, []⟩ = pure ((["book", "run"] : List Str).zip us) := match us, hl with | [_, _], _ => by kernel_rfl
theorem Tx.D_soft_pairs (T : Tx K mg) : ∃ fd, FunD K "soft_pairs" "soft_pairs" (defArgs s_soft_pairs) (defBody s_soft_pairs) (defScope s_soft_pairs) [] [] (He.ga K "soft_pairs") fd := T.d.def_ 38 (d := d_soft_pairs) rfl
theorem b_soft_pairs (kV doc pm : Value) (an : Option Addr) (cdv ct : Value) (us : List Value) (hl : us.length = (["stepper"] : List Str).length) : bindArgs (PySem.W.fnOf "soft_pairs" "soft_pairs" (defArgs s_soft_pairs) (defBody s_soft_pairs) (defScope s_soft_pairs) .none kV doc pm an cdv ct) ⟨us, []⟩ = pure ((["stepper"] : List Str).zip us) := match us, hl with | [_], _ => by kernel_rfl
theorem Tx.D_between_by (T : Tx K mg) : ∃ fd, FunD K "between_by" "between_by" (defArgs s_between_by) (defBody s_between_by) (defScope s_between_by) [] [] (He.ga K "between_by") fd := T.d.def_ 39 (d := d_between_by) rfl
theorem b_between_by (kV doc pm : Value) (an : Option Addr) (cdv ct : Value) (us : List Value) (hl : us.length = (["stepper"] : List Str).length) : bindArgs (PySem.W.fnOf "between_by" "between_by" (defArgs s_between_by) (defBody s_between_by) (defScope s_between_by) .none kV doc pm an cdv ct) ⟨us, []⟩ = pure ((["stepper"] : List Str).zip us) := match us, hl with | [_], _ => by kernel_rfl
theorem Tx.D_between (T : Tx K mg) : ∃ fd, FunD K "between" "between" (defArgs s_between) (defBody s_between) (defScope s_between) [] [] (He.ga K "between") fd := T.d.def_ 40 (d := d_between) rfl
theorem b_between (kV doc pm : Value) (an : Option Addr) (cdv ct : Value) (us : List Value) (hl : us.length = (["book", "run"] : List Str).length) : bindArgs (PySem.W.fnOf "between" "between" (defArgs s_between) (defBody s_between) (defScope s_between) .none kV doc pm an cdv ct) ⟨us, []⟩ = pure ((["book", "run"] : List Str).zip us) := match us, hl with | [_, _], _ => by kernel_rfl
theorem Tx.D_ahead_of_each (T : Tx K mg) : ∃ fd, FunD K "ahead_of_each" "ahead_of_each" (defArgs s_ahead_of_each) (defBody s_ahead_of_each) (defScope s_ahead_of_each) [] [] (He.ga K "ahead_of_each") fd := T.d.def_ 41 (d := d_ahead_of_each) rfl
theorem b_ahead_of_each (kV doc pm : Value) (an : Option Addr) (cdv ct : Value) (us : List Value) (hl : us.length = (["stepper"] : List Str).length) : bindArgs (PySem.W.fnOf "ahead_of_each" "ahead_of_each" (defArgs s_ahead_of_each) (defBody s_ahead_of_each) (defScope s_ahead_of_each) .none kV doc pm an cdv ct) ⟨us, []⟩ = pure ((["stepper"] : List Str).zip us) := match us, hl with | [_], _ => by kernel_rfl
theorem Tx.D_order_by (T : Tx K mg) : ∃ fd, FunD K "order_by" "order_by" (defArgs s_order_by) (defBody s_order_by) (defScope s_order_by) [] [] (He.ga K "order_by") fd := T.d.def_ 42 (d := d_order_by) rfl
theorem b_order_by (kV doc pm : Value) (an : Option Addr) (cdv ct : Value) (us : List Value) (hl : us.length = (["stepper"] : List Str).length) : bindArgs (PySem.W.fnOf "order_by" "order_by" (defArgs s_order_by) (defBody s_order_by) (defScope s_order_by) .none kV doc pm an cdv ct) ⟨us, []⟩ = pure ((["stepper"] : List Str).zip us) := match us, hl with | [_], _ => by kernel_rfl
theorem Tx.D_order_of (T : Tx K mg) : ∃ fd, FunD K "order_of" "order_of" (defArgs s_order_of) (defBody s_order_of) (defScope s_order_of) [] [] (He.ga K "order_of") fd := T.d.def_ 43 (d := d_order_of) rfl
theorem b_order_of (kV doc pm : Value) (an : Option Addr) (cdv ct : Value) (us : List Value) (hl : us.length = (["book", "run"] : List Str).length) : bindArgs (PySem.W.fnOf "order_of" "order_of" (defArgs s_order_of) (defBody s_order_of) (defScope s_order_of) .none kV doc pm an cdv ct) ⟨us, []⟩ = pure ((["book", "run"] : List Str).zip us) := match us, hl with | [_, _], _ => by kernel_rfl
theorem Tx.D_behind_each (T : Tx K mg) : ∃ fd, FunD K "behind_each" "behind_each" (defArgs s_behind_each) (defBody s_behind_each) (defScope s_behind_each) [] [] (He.ga K "behind_each") fd := T.d.def_ 44 (d := d_behind_each) rfl
theorem b_behind_each (kV doc pm : Value) (an : Option Addr) (cdv ct : Value) (us : List Value) (hl : us.length = (["stepper"] : List Str).length) : bindArgs (PySem.W.fnOf "behind_each" "behind_each" (defArgs s_behind_each) (defBody s_behind_each) (defScope s_behind_each) .none kV doc pm an cdv ct) ⟨us, []⟩ = pure ((["stepper"] : List Str).zip us) := match us, hl with | [_], _ => by kernel_rfl
theorem Tx.D_way_back (T : Tx K mg) : ∃ fd, FunD K "way_back" "way_back" (defArgs s_way_back) (defBody s_way_back) (defScope s_way_back) [] [] (He.ga K "way_back") fd := T.d.def_ 45 (d := d_way_back) rfl
theorem b_way_back (kV doc pm : Value) (an : Option Addr) (cdv ct : Value) (us : List Value) (hl : us.length = (["behind", "start"] : List Str).length) : bindArgs (PySem.W.fnOf "way_back" "way_back" (defArgs s_way_back) (defBody s_way_back) (defScope s_way_back) .none kV doc pm an cdv ct) ⟨us, []⟩ = pure ((["behind", "start"] : List Str).zip us) := match us, hl with | [_, _], _ => by kernel_rfl
theorem Tx.D_ring_by (T : Tx K mg) : ∃ fd, FunD K "ring_by" "ring_by" (defArgs s_ring_by) (defBody s_ring_by) (defScope s_ring_by) [] [] (He.ga K "ring_by") fd := T.d.def_ 46 (d := d_ring_by) rfl
theorem b_ring_by (kV doc pm : Value) (an : Option Addr) (cdv ct : Value) (us : List Value) (hl : us.length = (["stepper"] : List Str).length) : bindArgs (PySem.W.fnOf "ring_by" "ring_by" (defArgs s_ring_by) (defBody s_ring_by) (defScope s_ring_by) .none kV doc pm an cdv ct) ⟨us, []⟩ = pure ((["stepper"] : List Str).zip us) := match us, hl with | [_], _ => by kernel_rfl
theorem Tx.D_ring_of (T : Tx K mg) : ∃ fd, FunD K "ring_of" "ring_of" (defArgs s_ring_of) (defBody s_ring_of) (defScope s_ring_of) [] [] (He.ga K "ring_of") fd := T.d.def_ 47 (d := d_ring_of) rfl
theorem b_ring_of (kV doc pm : Value) (an : Option Addr) (cdv ct : Value) (us : List Value) (hl : us.length = (["book", "run"] : List Str).length) : bindArgs (PySem.W.fnOf "ring_of" "ring_of" (defArgs s_ring_of) (defBody s_ring_of) (defScope s_ring_of) .none kV doc pm an cdv ct) ⟨us, []⟩ = pure ((["book", "run"] : List Str).zip us) := match us, hl with | [_, _], _ => by kernel_rfl
theorem Tx.D_are_numbers (T : Tx K mg) : ∃ fd, FunD K "are_numbers" "are_numbers" (defArgs s_are_numbers) (defBody s_are_numbers) (defScope s_are_numbers) [] [] (He.ga K "are_numbers") fd := T.d.def_ 48 (d := d_are_numbers) rfl
theorem b_are_numbers (kV doc pm : Value) (an : Option Addr) (cdv ct : Value) (us : List Value) (hl : us.length = (["thing", "stand"] : List Str).length) : bindArgs (PySem.W.fnOf "are_numbers" "are_numbers" (defArgs s_are_numbers) (defBody s_are_numbers) (defScope s_are_numbers) .none kV doc pm an cdv ct) ⟨us, []⟩ = pure ((["thing", "stand"] : List Str).zip us) := match us, hl with | [_, _], _ => by kernel_rfl
theorem Tx.D_is_ring (T : Tx K mg) : ∃ fd, FunD K "is_ring" "is_ring" (defArgs s_is_ring) (defBody s_is_ring) (defScope s_is_ring) [] [] (He.ga K "is_ring") fd := T.d.def_ 49 (d := d_is_ring) rfl
theorem b_is_ring (kV doc pm : Value) (an : Option Addr) (cdv ct : Value) (us : List Value) (hl : us.length = (["book", "run", "thing"] : List Str).length) : bindArgs (PySem.W.fnOf "is_ring" "is_ring" (defArgs s_is_ring) (defBody s_is_ring) (defScope s_is_ring) .none kV doc pm an cdv ct) ⟨us, []⟩ = pure ((["book", "run", "thing"] : List Str).zip us) := match us, hl with | [_, _, _], _ => by kernel_rfl
theorem Tx.D_L_draw (T : Tx K mg) : ∃ fd, FunD K "_law_draw" "_law_draw" (defArgs s_L_draw) (defBody s_L_draw) (defScope s_L_draw) [] [] (He.ga K "_law_draw") fd := T.d.def_ 50 (d := d_L_draw) rfl
theorem b_L_draw (kV doc pm : Value) (an : Option Addr) (cdv ct : Value) (us : List Value) (hl : us.length = (["_law_pool_here", "_law_many"] : List Str).length) : bindArgs (PySem.W.fnOf "_law_draw" "_law_draw" (defArgs s_L_draw) (defBody s_L_draw) (defScope s_L_draw) .none kV doc pm an cdv ct) ⟨us, []⟩ = pure ((["_law_pool_here", "_law_many"] : List Str).zip us) := match us, hl with | [_, _], _ => by kernel_rfl
theorem Tx.D_L_names (T : Tx K mg) : ∃ fd, FunD K "_law_names" "_law_names" (defArgs s_L_names) (defBody s_L_names) (defScope s_L_names) [] [] (He.ga K "_law_names") fd := T.d.def_ 51 (d := d_L_names) rfl
theorem b_L_names (kV doc pm : Value) (an : Option Addr) (cdv ct : Value) (us : List Value) (hl : us.length = (["_law_pool_here", "_law_many"] : List Str).length) : bindArgs (PySem.W.fnOf "_law_names" "_law_names" (defArgs s_L_names) (defBody s_L_names) (defScope s_L_names) .none kV doc pm an cdv ct) ⟨us, []⟩ = pure ((["_law_pool_here", "_law_many"] : List Str).zip us) := match us, hl with | [_, _], _ => by kernel_rfl
theorem Tx.D_L_marks (T : Tx K mg) : ∃ fd, FunD K "_law_marks" "_law_marks" (defArgs s_L_marks) (defBody s_L_marks) (defScope s_L_marks) [] [] (He.ga K "_law_marks") fd := T.d.def_ 52 (d := d_L_marks) rfl
theorem b_L_marks (kV doc pm : Value) (an : Option Addr) (cdv ct : Value) (us : List Value) (hl : us.length = (["_law_pool_here", "_law_many"] : List Str).length) : bindArgs (PySem.W.fnOf "_law_marks" "_law_marks" (defArgs s_L_marks) (defBody s_L_marks) (defScope s_L_marks) .none kV doc pm an cdv ct) ⟨us, []⟩ = pure ((["_law_pool_here", "_law_many"] : List Str).zip us) := match us, hl with | [_, _], _ => by kernel_rfl
theorem Tx.D_L_steps (T : Tx K mg) : ∃ fd, FunD K "_law_steps" "_law_steps" (defArgs s_L_steps) (defBody s_L_steps) (defScope s_L_steps) [] [] (He.ga K "_law_steps") fd := T.d.def_ 53 (d := d_L_steps) rfl
theorem b_L_steps (kV doc pm : Value) (an : Option Addr) (cdv ct : Value) (us : List Value) (hl : us.length = (["_law_pool_here", "_law_marks_here"] : List Str).length) : bindArgs (PySem.W.fnOf "_law_steps" "_law_steps" (defArgs s_L_steps) (defBody s_L_steps) (defScope s_L_steps) .none kV doc pm an cdv ct) ⟨us, []⟩ = pure ((["_law_pool_here", "_law_marks_here"] : List Str).zip us) := match us, hl with | [_, _], _ => by kernel_rfl
theorem Tx.D_L_book (T : Tx K mg) : ∃ fd, FunD K "_law_book" "_law_book" (defArgs s_L_book) (defBody s_L_book) (defScope s_L_book) [] [] (He.ga K "_law_book") fd := T.d.def_ 54 (d := d_L_book) rfl
theorem b_L_book (kV doc pm : Value) (an : Option Addr) (cdv ct : Value) (us : List Value) (hl : us.length = (["_law_pool_here", "_law_most_kinds", "_law_most_dealings"] : List Str).length) : bindArgs (PySem.W.fnOf "_law_book" "_law_book" (defArgs s_L_book) (defBody s_L_book) (defScope s_L_book) .none kV doc pm an cdv ct) ⟨us, []⟩ = pure ((["_law_pool_here", "_law_most_kinds", "_law_most_dealings"] : List Str).zip us) := match us, hl with | [_, _, _], _ => by kernel_rfl
theorem Tx.D_L_pool (T : Tx K mg) : ∃ fd, FunD K "_law_pool" "_law_pool" (defArgs s_L_pool) (defBody s_L_pool) (defScope s_L_pool) [] [] (He.ga K "_law_pool") fd := T.d.def_ 55 (d := d_L_pool) rfl
theorem b_L_pool (kV doc pm : Value) (an : Option Addr) (cdv ct : Value) (us : List Value) (hl : us.length = (["_law_script", "_law_k"] : List Str).length) : bindArgs (PySem.W.fnOf "_law_pool" "_law_pool" (defArgs s_L_pool) (defBody s_L_pool) (defScope s_L_pool) .none kV doc pm an cdv ct) ⟨us, []⟩ = pure ((["_law_script", "_law_k"] : List Str).zip us) := match us, hl with | [_, _], _ => by kernel_rfl
theorem Tx.D_L_keys (T : Tx K mg) : ∃ fd, FunD K "_law_keys" "_law_keys" (defArgs s_L_keys) (defBody s_L_keys) (defScope s_L_keys) [] [] (He.ga K "_law_keys") fd := T.d.def_ 56 (d := d_L_keys) rfl
theorem b_L_keys (kV doc pm : Value) (an : Option Addr) (cdv ct : Value) (us : List Value) (hl : us.length = (["_law_pool_here", "_law_book_here", "_law_number", "_law_span"] : List Str).length) : bindArgs (PySem.W.fnOf "_law_keys" "_law_keys" (defArgs s_L_keys) (defBody s_L_keys) (defScope s_L_keys) .none kV doc pm an cdv ct) ⟨us, []⟩ = pure ((["_law_pool_here", "_law_book_here", "_law_number", "_law_span"] : List Str).zip us) := match us, hl with | [_, _, _, _], _ => by kernel_rfl
theorem Tx.D_L_left (T : Tx K mg) : ∃ fd, FunD K "_law_left" "_law_left" (defArgs s_L_left) (defBody s_L_left) (defScope s_L_left) [] [] (He.ga K "_law_left") fd := T.d.def_ 57 (d := d_L_left) rfl
theorem b_L_left (kV doc pm : Value) (an : Option Addr) (cdv ct : Value) (us : List Value) (hl : us.length = (["_law_book_here", "_law_deal"] : List Str).length) : bindArgs (PySem.W.fnOf "_law_left" "_law_left" (defArgs s_L_left) (defBody s_L_left) (defScope s_L_left) .none kV doc pm an cdv ct) ⟨us, []⟩ = pure ((["_law_book_here", "_law_deal"] : List Str).zip us) := match us, hl with | [_, _], _ => by kernel_rfl
theorem Tx.D_L_next (T : Tx K mg) : ∃ fd, FunD K "_law_next" "_law_next" (defArgs s_L_next) (defBody s_L_next) (defScope s_L_next) [] [] (He.ga K "_law_next") fd := T.d.def_ 58 (d := d_L_next) rfl
theorem b_L_next (kV doc pm : Value) (an : Option Addr) (cdv ct : Value) (us : List Value) (hl : us.length = (["_law_pool_here", "_law_book_here", "_law_world", "_law_most", "_law_span"] : List Str).length) : bindArgs (PySem.W.fnOf "_law_next" "_law_next" (defArgs s_L_next) (defBody s_L_next) (defScope s_L_next) .none kV doc pm an cdv ct) ⟨us, []⟩ = pure ((["_law_pool_here", "_law_book_here", "_law_world", "_law_most", "_law_span"] : List Str).zip us) := match us, hl with | [_, _, _, _, _], _ => by kernel_rfl
theorem Tx.D_L_wrote (T : Tx K mg) : ∃ fd, FunD K "_law_wrote" "_law_wrote" (defArgs s_L_wrote) (defBody s_L_wrote) (defScope s_L_wrote) [] [] (He.ga K "_law_wrote") fd := T.d.def_ 59 (d := d_L_wrote) rfl
theorem b_L_wrote (kV doc pm : Value) (an : Option Addr) (cdv ct : Value) (us : List Value) (hl : us.length = (["_law_deal"] : List Str).length) : bindArgs (PySem.W.fnOf "_law_wrote" "_law_wrote" (defArgs s_L_wrote) (defBody s_L_wrote) (defScope s_L_wrote) .none kV doc pm an cdv ct) ⟨us, []⟩ = pure ((["_law_deal"] : List Str).zip us) := match us, hl with | [_], _ => by kernel_rfl
theorem Tx.D_L_last (T : Tx K mg) : ∃ fd, FunD K "_law_last" "_law_last" (defArgs s_L_last) (defBody s_L_last) (defScope s_L_last) [] [] (He.ga K "_law_last") fd := T.d.def_ 60 (d := d_L_last) rfl
theorem b_L_last (kV doc pm : Value) (an : Option Addr) (cdv ct : Value) (us : List Value) (hl : us.length = (["_law_world", "_law_key", "_law_row"] : List Str).length) : bindArgs (PySem.W.fnOf "_law_last" "_law_last" (defArgs s_L_last) (defBody s_L_last) (defScope s_L_last) .none kV doc pm an cdv ct) ⟨us, []⟩ = pure ((["_law_world", "_law_key", "_law_row"] : List Str).zip us) := match us, hl with | [_, _, _], _ => by kernel_rfl
theorem Tx.D_L_step (T : Tx K mg) : ∃ fd, FunD K "_law_step" "_law_step" (defArgs s_L_step) (defBody s_L_step) (defScope s_L_step) [] [] (He.ga K "_law_step") fd := T.d.def_ 61 (d := d_L_step) rfl
theorem b_L_step (kV doc pm : Value) (an : Option Addr) (cdv ct : Value) (us : List Value) (hl : us.length = (["_law_book_here", "_law_world", "_law_number"] : List Str).length) : bindArgs (PySem.W.fnOf "_law_step" "_law_step" (defArgs s_L_step) (defBody s_L_step) (defScope s_L_step) .none kV doc pm an cdv ct) ⟨us, []⟩ = pure ((["_law_book_here", "_law_world", "_law_number"] : List Str).zip us) := match us, hl with | [_, _, _], _ => by kernel_rfl
theorem Tx.D_L_is_off (T : Tx K mg) : ∃ fd, FunD K "_law_is_off" "_law_is_off" (defArgs s_L_is_off) (defBody s_L_is_off) (defScope s_L_is_off) [] [] (He.ga K "_law_is_off") fd := T.d.def_ 62 (d := d_L_is_off) rfl
theorem b_L_is_off (kV doc pm : Value) (an : Option Addr) (cdv ct : Value) (us : List Value) (hl : us.length = (["_law_world", "_law_deal"] : List Str).length) : bindArgs (PySem.W.fnOf "_law_is_off" "_law_is_off" (defArgs s_L_is_off) (defBody s_L_is_off) (defScope s_L_is_off) .none kV doc pm an cdv ct) ⟨us, []⟩ = pure ((["_law_world", "_law_deal"] : List Str).zip us) := match us, hl with | [_, _], _ => by kernel_rfl
theorem Tx.D_L_do (T : Tx K mg) : ∃ fd, FunD K "_law_do" "_law_do" (defArgs s_L_do) (defBody s_L_do) (defScope s_L_do) [] [] (He.ga K "_law_do") fd := T.d.def_ 63 (d := d_L_do) rfl
theorem b_L_do (kV doc pm : Value) (an : Option Addr) (cdv ct : Value) (us : List Value) (hl : us.length = (["_law_book_here", "_law_world", "_law_rows", "_law_row"] : List Str).length) : bindArgs (PySem.W.fnOf "_law_do" "_law_do" (defArgs s_L_do) (defBody s_L_do) (defScope s_L_do) .none kV doc pm an cdv ct) ⟨us, []⟩ = pure ((["_law_book_here", "_law_world", "_law_rows", "_law_row"] : List Str).zip us) := match us, hl with | [_, _, _, _], _ => by kernel_rfl
theorem Tx.D_L_ended (T : Tx K mg) : ∃ fd, FunD K "_law_ended" "_law_ended" (defArgs s_L_ended) (defBody s_L_ended) (defScope s_L_ended) [] [] (He.ga K "_law_ended") fd := T.d.def_ 64 (d := d_L_ended) rfl
theorem b_L_ended (kV doc pm : Value) (an : Option Addr) (cdv ct : Value) (us : List Value) (hl : us.length = (["_law_book_here", "_law_world", "_law_rows"] : List Str).length) : bindArgs (PySem.W.fnOf "_law_ended" "_law_ended" (defArgs s_L_ended) (defBody s_L_ended) (defScope s_L_ended) .none kV doc pm an cdv ct) ⟨us, []⟩ = pure ((["_law_book_here", "_law_world", "_law_rows"] : List Str).zip us) := match us, hl with | [_, _, _], _ => by kernel_rfl
theorem Tx.D_L_run (T : Tx K mg) : ∃ fd, FunD K "_law_run" "_law_run" (defArgs s_L_run) (defBody s_L_run) (defScope s_L_run) [] [] (He.ga K "_law_run") fd := T.d.def_ 65 (d := d_L_run) rfl
theorem b_L_run (kV doc pm : Value) (an : Option Addr) (cdv ct : Value) (us : List Value) (hl : us.length = (["_law_script", "_law_first", "_law_book_here", "_law_most", "_law_span"] : List Str).length) : bindArgs (PySem.W.fnOf "_law_run" "_law_run" (defArgs s_L_run) (defBody s_L_run) (defScope s_L_run) .none kV doc pm an cdv ct) ⟨us, []⟩ = pure ((["_law_script", "_law_first", "_law_book_here", "_law_most", "_law_span"] : List Str).zip us) := match us, hl with | [_, _, _, _, _], _ => by kernel_rfl
theorem Tx.D_L_gone (T : Tx K mg) : ∃ fd, FunD K "_law_gone" "_law_gone" (defArgs s_L_gone) (defBody s_L_gone) (defScope s_L_gone) [] [] (He.ga K "_law_gone") fd := T.d.def_ 66 (d := d_L_gone) rfl
theorem b_L_gone (kV doc pm : Value) (an : Option Addr) (cdv ct : Value) (us : List Value) (hl : us.length = (["_law_pool_here", "_law_pairs", "_law_start"] : List Str).length) : bindArgs (PySem.W.fnOf "_law_gone" "_law_gone" (defArgs s_L_gone) (defBody s_L_gone) (defScope s_L_gone) .none kV doc pm an cdv ct) ⟨us, []⟩ = pure ((["_law_pool_here", "_law_pairs", "_law_start"] : List Str).zip us) := match us, hl with | [_, _, _], _ => by kernel_rfl
theorem Tx.D_L_right (T : Tx K mg) : ∃ fd, FunD K "_law_right" "_law_right" (defArgs s_L_right) (defBody s_L_right) (defScope s_L_right) [] [] (He.ga K "_law_right") fd := T.d.def_ 67 (d := d_L_right) rfl
theorem b_L_right (kV doc pm : Value) (an : Option Addr) (cdv ct : Value) (us : List Value) (hl : us.length = (["_law_book_here", "_law_rows", "_law_ring", "_law_past", "_law_spans"] : List Str).length) : bindArgs (PySem.W.fnOf "_law_right" "_law_right" (defArgs s_L_right) (defBody s_L_right) (defScope s_L_right) .none kV doc pm an cdv ct) ⟨us, []⟩ = pure ((["_law_book_here", "_law_rows", "_law_ring", "_law_past", "_law_spans"] : List Str).zip us) := match us, hl with | [_, _, _, _, _], _ => by kernel_rfl
theorem Tx.D_law (T : Tx K mg) : ∃ fd, FunD K "law" "law" (defArgs s_law) (defBody s_law) (defScope s_law) [] [] (He.ga K "law") fd := T.d.def_ 68 (d := d_law) rfl
theorem b_law (kV doc pm : Value) (an : Option Addr) (cdv ct : Value) (us : List Value) (hl : us.length = (["_law_script"] : List Str).length) : bindArgs (PySem.W.fnOf "law" "law" (defArgs s_law) (defBody s_law) (defScope s_law) .none kV doc pm an cdv ct) ⟨us, []⟩ = pure ((["_law_script"] : List Str).zip us) := match us, hl with | [_], _ => by kernel_rfl
end
end Sn
set_option Elab.async false
set_option linter.all false
set_option maxRecDepth 100000
set_option maxHeartbeats 0
namespace Sn
open PySem PySem.Spec PyProof.Rows L2

/-! the part of the heap that is looked at: what the needed names reach -/
def frcN {α : Type} : List Nat → (List Nat → α) → α
  | [], k => k []
  | a :: r, k => HandSHeadRun.frNat a fun a => frcN r fun r => k (a :: r)
theorem frcN_eq {α : Type} : ∀ (l : List Nat) (k : List Nat → α), frcN l k = k l
  | [], k => rfl
  | a :: r, k => by
    show HandSHeadRun.frNat a (fun a => frcN r fun r => k (a :: r)) = k (a :: r)
    rw [HandSHeadRun.frNat_eq, frcN_eq r]
def lvl (g : Addr → Option Obj) (as : List Addr) : List Addr := as.flatMap fun a => match g a with
  | some o => He.refsD o
  | none => []
def lv1 (g : Addr → Option Obj) : List Addr := need.map fun x => He.ga (He.frG g [mainGlobals]) x
def asS (g : Addr → Option Obj) : List Addr :=
  mainGlobals :: (lv1 g ++ (lvl g (lv1 g) ++ (lvl g (lvl g (lv1 g)) ++ lvl g (lvl g (lvl g (lv1 g))))))
abbrev AlS : Type := He.AlD × Bool
def obsK (g : Addr → Option Obj) (as : List Addr) : AlS := (He.obsD fa fn (He.frT g as), ex (He.frT g as) && He.tabsB g tf (He.frT g as))
def obsS (g : Addr → Option Obj) : AlS := frcN (lv1 g) fun l1 => frcN (lvl g l1) fun l2 => frcN (lvl g l2) fun l3 => frcN (lvl g l3) fun l4 => obsK g (mainGlobals :: (l1 ++ (l2 ++ (l3 ++ l4))))
theorem obsS_eq (g : Addr → Option Obj) : obsS g = obsK g (asS g) := by
  unfold obsS asS
  rw [frcN_eq, frcN_eq, frcN_eq, frcN_eq]
structure SaysS (h : Heap) (K : PySem.W.Frag) : Prop where
  d : He.SaysD fa fn K
  more : ex K = true
  hd : ∀ p ∈ tf, PySem.W.codeHdIn K (He.cT K p).1 (He.cT K p).2 = true
  out : ∀ p ∈ tf, K.lookup (He.cT K p).2 = none
  empty : ∀ p ∈ tf, h.get? (He.cT K p).2 = some { cls := .none, data := .fields #[] }
theorem saysS_of {h : Heap} {as : List Addr} (e : obsK h.get? as = (He.valD fn, true)) : SaysS h (He.frT h.get? as) := by
  have e1 : He.obsD fa fn (He.frT h.get? as) = He.valD fn := congrArg (fun z : AlS => z.1) e
  have e2 : (ex (He.frT h.get? as) && He.tabsB h.get? tf (He.frT h.get? as)) = true := congrArg (fun z : AlS => z.2) e
  obtain ⟨h1, h2⟩ := He.ba e2
  have key : ∀ p ∈ tf, PySem.W.codeHdIn (He.frT h.get? as) (He.cT (He.frT h.get? as) p).1 (He.cT (He.frT h.get? as) p).2 = true ∧ ∃ o, h.get? (He.cT (He.frT h.get? as) p).2 = some o ∧ He.emptyTab o = true := fun p hp => by
    obtain ⟨h3, h4⟩ := He.ba (List.all_eq_true.mp h2 p hp)
    refine ⟨h3, ?_⟩
    cases q : h.get? (He.cT (He.frT h.get? as) p).2 with
    | none =>
      rw [q] at h4
      cases h4
    | some o =>
      rw [q] at h4
      exact ⟨o, rfl, h4⟩
  exact ⟨e1, h1, fun p hp => (key p hp).1, fun p hp => by
    obtain ⟨_, o, q, z⟩ := key p hp
    exact He.frT_none q z, fun p hp => by
    obtain ⟨_, o, q, z⟩ := key p hp
    rw [q, He.emptyTab_eq z]⟩
def hkS : PySem.W.Hook where
  α := AlS
  obs := fun s => obsS s.heap.get?
  val := fun _ => (He.valD fn, true)
  says := fun _ h => ∃ K : PySem.W.Frag, K.In h ∧ SaysS h K
  of := fun _ s e => ⟨_, He.frT_in, saysS_of ((obsS_eq _).symm.trans e)⟩
  keeps := fun _ _ _ ⟨K, hK, c⟩ k => ⟨K, PySem.W.Frag.In.keeps hK k, ⟨c.d, c.more, c.hd, c.out, fun p hp => k _ _ (c.empty p hp)⟩⟩
def obTop (s : PySem.W.SharedT) : AlS := obsS (HandSHeadRun.getT s)
theorem obS_eq (s : PySem.W.SharedT) : obTop s = hkS.obs s.abs := by
  have e : HandSHeadRun.getT s = s.abs.heap.get? := funext (HandSHeadRun.getT_eq s)
  show obsS (HandSHeadRun.getT s) = obsS s.abs.heap.get?
  rw [e]
abbrev rowS : PySem.W.OpenRow := PySem.W.OpenLaw.row PySem.Challenge.rw_snapsure_k42_whole_rings_have_one_betwee
theorem runTop (w : World) : HandSHeadRun.RunEq rowS (PySem.W.view rowS.prog [79]) hkS obTop 20000 names w := by
  intro os
  kernel_rfl
end Sn
set_option Elab.async false
set_option linter.all false
set_option maxRecDepth 100000
set_option maxHeartbeats 4000000
/-! The mirror of a run, and what is true of it. No program in sight. -/
namespace Sn
open PySem

abbrev KeyD : Type := Str × Int
/-- a dealing that was begun -/
structure DM where
  ahead : List (Str × KeyD)
  told : List (Str × KeyD × Option Nat)
  begun : Nat
  ended : Option Nat
  word : Str
inductive RowM where
  | begin (ahead : List (Str × KeyD))
  | step (i : Nat)
  | fin (i : Nat)
  | drop (i : Nat)

def DM.wrote (d : DM) : List KeyD := (d.told.filter fun t => decide (t.1 ≠ ("read" : Str))).map fun t => t.2.1
def DM.reads (d : DM) : List (KeyD × Option Nat) := (d.told.filter fun t => decide (t.1 ≠ ("write" : Str))).map fun t => t.2
/-- the i-th one stands, and ended by the row e -/
structure Stands (ds : List DM) (i : Nat) (d : DM) (e : Nat) : Prop where
  at_ : ds[i]? = some d
  word : d.word = ("stands" : Str)
  ended : d.ended = some e

theorem Stands.inj {ds : List DM} {i : Nat} {d d' : DM} {e e' : Nat} (h : Stands ds i d e) (h' : Stands ds i d' e') : d = d' ∧ e = e' := by
  have h1 := h.at_.symm.trans h'.at_
  have h2 : d = d' := Option.some.inj h1
  subst h2
  exact ⟨rfl, Option.some.inj (h.ended.symm.trans h'.ended)⟩

/-- the last one that wrote a key, of those that ended ahead of a row -/
def IsLast (ds : List DM) (k : KeyD) (row i : Nat) : Prop :=
  ∃ d e, Stands ds i d e ∧ e < row ∧ k ∈ d.wrote ∧ ∀ j d' e', Stands ds j d' e' → e' < row → k ∈ d'.wrote → e' ≤ e
open Classical in
noncomputable def lastW (ds : List DM) (k : KeyD) (row : Nat) : Option Nat := if h : ∃ i, IsLast ds k row i then some h.choose else none
/-- some one that stands ended behind the begin and wrote a key that d wrote -/
def Off (ds : List DM) (d : DM) : Prop := ∃ j d' e, Stands ds j d' e ∧ d.begun < e ∧ ∃ k, k ∈ d'.wrote ∧ k ∈ d.wrote

/-- what is seen by the next step of the i-th one -/
noncomputable def seenBy (ds : List DM) (i : Nat) (d : DM) (deed : Str) (k : KeyD) : Option Nat :=
  if deed = ("write" : Str) then none else if k ∈ d.wrote then some i else lastW ds k d.begun
open Classical in
noncomputable def doM (n : Nat) (ds : List DM) : RowM → List DM
  | .begin ah => ds ++ [⟨ah, [], n, none, ("open" : Str)⟩]
  | .step i => match ds[i]? with
    | some d => (match d.ahead[d.told.length]? with
      | some (deed, k) => ds.set i { d with told := d.told ++ [(deed, k, seenBy ds i d deed k)] }
      | none => ds)
    | none => ds
  | .fin i => match ds[i]? with
    | some d => ds.set i { d with word := if Off ds d then ("off" : Str) else ("stands" : Str), ended := some n }
    | none => ds
  | .drop i => match ds[i]? with
    | some d => ds.set i { d with word := ("off" : Str), ended := some n }
    | none => ds
/-- a row can be done -/
def RowOk (ds : List DM) : RowM → Prop
  | .begin ah => ds.length < 40 ∧ ah.length ≤ 8
  | .step i => ∃ d, ds[i]? = some d ∧ d.word = ("open" : Str) ∧ d.told.length < d.ahead.length
  | .fin i => ∃ d, ds[i]? = some d ∧ d.word = ("open" : Str) ∧ d.told.length = d.ahead.length
  | .drop i => ∃ d, ds[i]? = some d ∧ d.word = ("open" : Str)
/-- rows done one behind the other, from the n-th on -/
noncomputable def playF (n : Nat) (ds : List DM) : List RowM → List DM
  | [] => ds
  | r :: rs => playF (n + 1) (doM n ds r) rs
def OkF (n : Nat) (ds : List DM) : List RowM → Prop
  | [] => True
  | r :: rs => RowOk ds r ∧ OkF (n + 1) (doM n ds r) rs
noncomputable abbrev play (rs : List RowM) : List DM := playF 0 [] rs
abbrev Goes (rs : List RowM) : Prop := OkF 0 [] rs

theorem playF_append (n : Nat) (ds : List DM) (rs qs : List RowM) : playF n ds (rs ++ qs) = playF (n + rs.length) (playF n ds rs) qs := by
  induction rs generalizing n ds with
  | nil => rfl
  | cons r rs ih =>
    show playF (n + 1) (doM n ds r) (rs ++ qs) = playF (n + (rs.length + 1)) (playF (n + 1) (doM n ds r) rs) qs
    rw [ih]
    have e : n + 1 + rs.length = n + (rs.length + 1) := by omega
    rw [e]
theorem okF_append (n : Nat) (ds : List DM) (rs qs : List RowM) : OkF n ds (rs ++ qs) ↔ OkF n ds rs ∧ OkF (n + rs.length) (playF n ds rs) qs := by
  induction rs generalizing n ds with
  | nil => exact ⟨fun h => ⟨trivial, h⟩, fun h => h.2⟩
  | cons r rs ih =>
    show (RowOk ds r ∧ OkF (n + 1) (doM n ds r) (rs ++ qs)) ↔ (RowOk ds r ∧ OkF (n + 1) (doM n ds r) rs) ∧ OkF (n + (rs.length + 1)) (playF (n + 1) (doM n ds r) rs) qs
    rw [ih]
    have e : n + 1 + rs.length = n + (rs.length + 1) := by omega
    rw [e]
    exact ⟨fun ⟨a, b, c⟩ => ⟨⟨a, b⟩, c⟩, fun ⟨⟨a, b⟩, c⟩ => ⟨a, b, c⟩⟩
theorem play_snoc (rs : List RowM) (r : RowM) : play (rs ++ [r]) = doM rs.length (play rs) r := by
  show playF 0 [] (rs ++ [r]) = _
  rw [playF_append, Nat.zero_add] <;> rfl
theorem goes_snoc {rs : List RowM} {r : RowM} (h : Goes rs) (hr : RowOk (play rs) r) : Goes (rs ++ [r]) :=
  (okF_append 0 [] rs [r]).mpr ⟨h, hr, trivial⟩

/-! ### what stays true -/
structure WF (n : Nat) (ds : List DM) : Prop where
  few : ds.length ≤ 40
  beg : ∀ (i : Nat) d, ds[i]? = some d → d.begun < n
  fin : ∀ (i : Nat) d e, ds[i]? = some d → d.ended = some e → d.begun < e ∧ e < n
  opn : ∀ (i : Nat) d, ds[i]? = some d → (d.word = ("open" : Str) ↔ d.ended = none)
  wrd : ∀ (i : Nat) d, ds[i]? = some d → d.word = ("open" : Str) ∨ d.word = ("stands" : Str) ∨ d.word = ("off" : Str)
  len : ∀ (i : Nat) d, ds[i]? = some d → d.told.length ≤ d.ahead.length ∧ d.ahead.length ≤ 8
  uniq : ∀ (i j : Nat) d d' e, ds[i]? = some d → ds[j]? = some d' → d.ended = some e → d'.ended = some e → i = j
  apart : ∀ (i j : Nat) d d' e, ds[i]? = some d → ds[j]? = some d' → d.ended = some e → d'.begun ≠ e
  seen : ∀ (i : Nat) d deed k s, ds[i]? = some d → (deed, k, some s) ∈ d.told → s ≠ i → ∃ d' e, Stands ds s d' e ∧ e < d.begun
  over : ∀ i j d d' e e' k, Stands ds i d e → Stands ds j d' e' → e < e' → k ∈ d.wrote → k ∈ d'.wrote → e < d'.begun
theorem WF.nil : WF 0 [] where
  few := by decide
  beg := fun i d h => by simp at h
  fin := fun i d e h => by simp at h
  opn := fun i d h => by simp at h
  wrd := fun i d h => by simp at h
  len := fun i d h => by simp at h
  uniq := fun i j d d' e h => by simp at h
  apart := fun i j d d' e h => by simp at h
  seen := fun i d deed k s h => by simp at h
  over := fun i j d d' e e' k h => by have := h.at_; simp at this

theorem open_ne_stands : ¬ ("open" : Str) = ("stands" : Str) := by decide +kernel
theorem open_ne_off : ¬ ("open" : Str) = ("off" : Str) := by decide +kernel
theorem off_ne_stands : ¬ ("off" : Str) = ("stands" : Str) := by decide +kernel
theorem read_ne_write : ¬ ("read" : Str) = ("write" : Str) := by decide +kernel

/-- one that was not the i-th, or the new i-th -/
theorem set_cases {ds : List DM} {i j : Nat} {x d : DM} (h : (ds.set i x)[j]? = some d) : (j = i ∧ d = x ∧ i < ds.length) ∨ (j ≠ i ∧ ds[j]? = some d) := by
  by_cases c : j = i
  · subst c
    by_cases hl : j < ds.length
    · rw [List.getElem?_set_self hl] at h
      exact .inl ⟨rfl, (Option.some.inj h).symm, hl⟩
    · rw [List.getElem?_eq_none_iff.mpr (by rw [List.length_set]; omega)] at h
      cases h
  · rw [List.getElem?_set_ne (fun z => c z.symm)] at h
    exact .inr ⟨c, h⟩
theorem stands_set {ds : List DM} {i j : Nat} {x d0 d : DM} {e : Nat} (h0 : ds[i]? = some d0) (hx : d0.word = ("open" : Str)) (h : Stands (ds.set i x) j d e) :
    (j = i ∧ d = x) ∨ (j ≠ i ∧ Stands ds j d e) := by
  rcases set_cases h.at_ with ⟨a, b, _⟩ | ⟨a, b⟩
  · exact .inl ⟨a, b⟩
  · exact .inr ⟨a, b, h.word, h.ended⟩
theorem stands_keep {ds : List DM} {i j : Nat} {x d0 d : DM} {e : Nat} (h0 : ds[i]? = some d0) (hx : d0.word = ("open" : Str)) (h : Stands ds j d e) : Stands (ds.set i x) j d e := by
  have hne : j ≠ i := fun z => by
    have h1 := h.at_
    rw [z, h0] at h1
    have h2 := h.word
    rw [← Option.some.inj h1, hx] at h2
    exact open_ne_stands h2
  exact ⟨by rw [List.getElem?_set_ne (fun z => hne z.symm)]; exact h.at_, h.word, h.ended⟩

theorem isLast_uniq {n : Nat} {ds : List DM} (W : WF n ds) {k : KeyD} {row i j : Nat} (h : IsLast ds k row i) (h' : IsLast ds k row j) : i = j := by
  obtain ⟨d, e, s, l, m, a⟩ := h
  obtain ⟨d', e', s', l', m', a'⟩ := h'
  have h1 := a j d' e' s' l' m'
  have h2 := a' i d e s l m
  have he : e = e' := by omega
  subst he
  exact W.uniq i j d d' e s.at_ s'.at_ s.ended s'.ended
theorem lastW_eq {n : Nat} {ds : List DM} (W : WF n ds) {k : KeyD} {row i : Nat} (h : IsLast ds k row i) : lastW ds k row = some i := by
  unfold lastW
  have hx : ∃ i, IsLast ds k row i := ⟨i, h⟩
  rw [dif_pos hx]
  exact congrArg some (isLast_uniq W hx.choose_spec h)
theorem lastW_none {ds : List DM} {k : KeyD} {row : Nat} (h : ∀ i d e, Stands ds i d e → e < row → k ∉ d.wrote) : lastW ds k row = none := by
  unfold lastW
  rw [dif_neg]
  rintro ⟨i, d, e, s, l, m, _⟩
  exact h i d e s l m
theorem lastW_some {ds : List DM} {k : KeyD} {row s : Nat} (h : lastW ds k row = some s) : IsLast ds k row s := by
  unfold lastW at h
  split at h
  · rename_i hx
    rw [← Option.some.inj h]
    exact hx.choose_spec
  · cases h

theorem wrote_snoc (d : DM) (deed : Str) (k : KeyD) (s : Option Nat) : ({ d with told := d.told ++ [(deed, k, s)] } : DM).wrote = d.wrote ++ (if deed = ("read" : Str) then [] else [k]) := by
  unfold DM.wrote
  show (List.filter _ (d.told ++ [(deed, k, s)])).map _ = _
  rw [List.filter_append, List.map_append]
  by_cases c : deed = ("read" : Str)
  · simp [c]
  · simp [c]

theorem WF.step {n : Nat} {ds : List DM} (W : WF n ds) {r : RowM} (hr : RowOk ds r) : WF (n + 1) (doM n ds r) := by
  cases r with
  | begin ah =>
    obtain ⟨hl, ha⟩ := hr
    have at_ : ∀ {j : Nat} {d : DM}, (ds ++ [(⟨ah, [], n, none, ("open" : Str)⟩ : DM)])[j]? = some d → (ds[j]? = some d) ∨ (j = ds.length ∧ d = ⟨ah, [], n, none, ("open" : Str)⟩) := fun {j d} h => by
      rcases Nat.lt_trichotomy j ds.length with c | c | c
      · rw [List.getElem?_append_left c] at h
        exact .inl h
      · subst c
        rw [List.getElem?_append_right (Nat.le_refl _), Nat.sub_self] at h
        exact .inr ⟨rfl, (Option.some.inj h).symm⟩
      · rw [List.getElem?_eq_none_iff.mpr (by simp; omega)] at h
        cases h
    have st_ : ∀ {j : Nat} {d : DM} {e : Nat}, Stands (ds ++ [(⟨ah, [], n, none, ("open" : Str)⟩ : DM)]) j d e → Stands ds j d e := fun {j d e} h => by
      rcases at_ h.at_ with z | ⟨_, z⟩
      · exact ⟨z, h.word, h.ended⟩
      · have := h.ended
        rw [z] at this
        cases this
    have st2 : ∀ {j : Nat} {d : DM} {e : Nat}, Stands ds j d e → Stands (ds ++ [(⟨ah, [], n, none, ("open" : Str)⟩ : DM)]) j d e := fun {j d e} h =>
      ⟨by rw [List.getElem?_append_left (List.getElem?_eq_some_iff.mp h.at_).1]; exact h.at_, h.word, h.ended⟩
    show WF (n + 1) (ds ++ [_])
    refine ⟨by simp; omega, fun i d h => ?_, fun i d e h he => ?_, fun i d h => ?_, fun i d h => ?_, fun i d h => ?_, fun i j d d' e h h' he he' => ?_, fun i j d d' e h h' he => ?_, fun i d deed k s h hm hs => ?_, fun i j d d' e e' k h h' hlt hk hk' => ?_⟩
    · rcases at_ h with z | ⟨_, z⟩
      · exact Nat.lt_succ_of_lt (W.beg i d z)
      · rw [z]; exact Nat.lt_succ_self n
    · rcases at_ h with z | ⟨_, z⟩
      · obtain ⟨a, b⟩ := W.fin i d e z he
        exact ⟨a, Nat.lt_succ_of_lt b⟩
      · rw [z] at he; cases he
    · rcases at_ h with z | ⟨_, z⟩
      · exact W.opn i d z
      · rw [z]; exact ⟨fun _ => rfl, fun _ => rfl⟩
    · rcases at_ h with z | ⟨_, z⟩
      · exact W.wrd i d z
      · rw [z]; exact .inl rfl
    · rcases at_ h with z | ⟨_, z⟩
      · exact W.len i d z
      · rw [z]; exact ⟨Nat.zero_le _, ha⟩
    · rcases at_ h with z | ⟨_, z⟩
      · rcases at_ h' with z' | ⟨_, z'⟩
        · exact W.uniq i j d d' e z z' he he'
        · rw [z'] at he'; cases he'
      · rw [z] at he; cases he
    · rcases at_ h with z | ⟨_, z⟩
      · rcases at_ h' with z' | ⟨_, z'⟩
        · exact W.apart i j d d' e z z' he
        · rw [z']
          have := (W.fin i d e z he).2
          show n ≠ e
          omega
      · rw [z] at he; cases he
    · rcases at_ h with z | ⟨_, z⟩
      · obtain ⟨d', e, a, b⟩ := W.seen i d deed k s z hm hs
        exact ⟨d', e, st2 a, b⟩
      · rw [z] at hm; cases hm
    · exact W.over i j d d' e e' k (st_ h) (st_ h') hlt hk hk'
  | step i =>
    obtain ⟨d0, h0, ho, hl⟩ := hr
    obtain ⟨⟨deed, k0⟩, hk0⟩ : ∃ p, d0.ahead[d0.told.length]? = some p := ⟨_, List.getElem?_eq_getElem hl⟩
    have e0 : doM n ds (.step i) = ds.set i { d0 with told := d0.told ++ [(deed, k0, seenBy ds i d0 deed k0)] } := by
      unfold doM
      simp only [h0, hk0]
    rw [e0]
    have hen : d0.ended = none := (W.opn i d0 h0).mp ho
    have st_ : ∀ {j : Nat} {d : DM} {e : Nat}, Stands (ds.set i { d0 with told := d0.told ++ [(deed, k0, seenBy ds i d0 deed k0)] }) j d e → Stands ds j d e := fun {j d e} h => by
      rcases stands_set h0 ho h with ⟨_, z⟩ | ⟨_, z⟩
      · have := h.ended
        rw [z] at this
        have this : d0.ended = some e := this
        rw [hen] at this
        cases this
      · exact z
    refine ⟨by rw [List.length_set]; exact W.few, fun j d h => ?_, fun j d e h he => ?_, fun j d h => ?_, fun j d h => ?_, fun j d h => ?_, fun j j' d d' e h h' he he' => ?_, fun j j' d d' e h h' he => ?_, fun j d dd k s h hm hs => ?_, fun j j' d d' e e' k h h' hlt hk hk' => ?_⟩
    · rcases set_cases h with ⟨_, z, _⟩ | ⟨_, z⟩
      · rw [z]; exact Nat.lt_succ_of_lt (W.beg i d0 h0)
      · exact Nat.lt_succ_of_lt (W.beg j d z)
    · rcases set_cases h with ⟨_, z, _⟩ | ⟨_, z⟩
      · rw [z] at he
        have he : d0.ended = some e := he
        rw [hen] at he; cases he
      · obtain ⟨a, b⟩ := W.fin j d e z he
        exact ⟨a, Nat.lt_succ_of_lt b⟩
    · rcases set_cases h with ⟨_, z, _⟩ | ⟨_, z⟩
      · rw [z]; exact W.opn i d0 h0
      · exact W.opn j d z
    · rcases set_cases h with ⟨_, z, _⟩ | ⟨_, z⟩
      · rw [z]; exact W.wrd i d0 h0
      · exact W.wrd j d z
    · rcases set_cases h with ⟨_, z, _⟩ | ⟨_, z⟩
      · rw [z]
        refine ⟨?_, (W.len i d0 h0).2⟩
        show (d0.told ++ [_]).length ≤ d0.ahead.length
        rw [List.length_append]
        show d0.told.length + 1 ≤ _
        omega
      · exact W.len j d z
    · rcases set_cases h with ⟨_, z, _⟩ | ⟨_, z⟩
      · rw [z] at he
        have he : d0.ended = some e := he
        rw [hen] at he; cases he
      · rcases set_cases h' with ⟨_, z', _⟩ | ⟨_, z'⟩
        · rw [z'] at he'
          have he' : d0.ended = some e := he'
          rw [hen] at he'; cases he'
        · exact W.uniq j j' d d' e z z' he he'
    · rcases set_cases h with ⟨_, z, _⟩ | ⟨_, z⟩
      · rw [z] at he
        have he : d0.ended = some e := he
        rw [hen] at he; cases he
      · rcases set_cases h' with ⟨_, z', _⟩ | ⟨_, z'⟩
        · rw [z']; exact W.apart j i d d0 e z h0 he
        · exact W.apart j j' d d' e z z' he
    · have old : ∀ {j : Nat} {d : DM}, ds[j]? = some d → (dd, k, some s) ∈ d.told → s ≠ j → ∃ d' e, Stands (ds.set i { d0 with told := d0.told ++ [(deed, k0, seenBy ds i d0 deed k0)] }) s d' e ∧ e < d.begun := fun {j d} z hm hs => by
        obtain ⟨d', e, a, b⟩ := W.seen j d dd k s z hm hs
        exact ⟨d', e, stands_keep h0 ho a, b⟩
      rcases set_cases h with ⟨hj, z, _⟩ | ⟨_, z⟩
      · subst hj
        rw [z] at hm ⊢
        have hm : (dd, k, some s) ∈ d0.told ++ [(deed, k0, seenBy ds j d0 deed k0)] := hm
        rcases List.mem_append.mp hm with hm | hm
        · exact old (d := d0) h0 hm hs
        · have hm := List.mem_singleton.mp hm
          have e1 : some s = seenBy ds j d0 deed k0 := congrArg (fun t => t.2.2) hm
          unfold seenBy at e1
          split at e1
          · cases e1
          · split at e1
            · exact absurd (Option.some.inj e1) hs
            · obtain ⟨d', e, a, b, _⟩ := lastW_some e1.symm
              exact ⟨d', e, stands_keep h0 ho a, b⟩
      · exact old z hm hs
    · exact W.over j j' d d' e e' k (st_ h) (st_ h') hlt hk hk'
  | fin i =>
    obtain ⟨d0, h0, ho, hl⟩ := hr
    obtain ⟨wd, hwd, hoff⟩ : ∃ wd : Str, doM n ds (.fin i) = ds.set i { d0 with word := wd, ended := some n } ∧ ((wd = ("off" : Str)) ∨ (wd = ("stands" : Str) ∧ ¬ Off ds d0)) := by
      refine ⟨_, by unfold doM; simp only [h0]; rfl, ?_⟩
      by_cases c : Off ds d0
      · left; exact if_pos c
      · right; exact ⟨if_neg c, c⟩
    rw [hwd]
    have hen : d0.ended = none := (W.opn i d0 h0).mp ho
    refine ⟨by rw [List.length_set]; exact W.few, fun j d h => ?_, fun j d e h he => ?_, fun j d h => ?_, fun j d h => ?_, fun j d h => ?_, fun j j' d d' e h h' he he' => ?_, fun j j' d d' e h h' he => ?_, fun j d dd k s h hm hs => ?_, fun j j' d d' e e' k h h' hlt hk hk' => ?_⟩
    · rcases set_cases h with ⟨_, z, _⟩ | ⟨_, z⟩
      · rw [z]; exact Nat.lt_succ_of_lt (W.beg i d0 h0)
      · exact Nat.lt_succ_of_lt (W.beg j d z)
    · rcases set_cases h with ⟨_, z, _⟩ | ⟨_, z⟩
      · rw [z] at he ⊢
        have e1 : n = e := Option.some.inj he
        have := W.beg i d0 h0
        show d0.begun < e ∧ e < n + 1
        omega
      · obtain ⟨a, b⟩ := W.fin j d e z he
        exact ⟨a, Nat.lt_succ_of_lt b⟩
    · rcases set_cases h with ⟨_, z, _⟩ | ⟨_, z⟩
      · rw [z]
        constructor
        · intro q
          have q : wd = ("open" : Str) := q
          rcases hoff with c | ⟨c, _⟩
          · rw [c] at q; exact absurd q.symm open_ne_off
          · rw [c] at q; exact absurd q.symm open_ne_stands
        · intro q; cases q
      · exact W.opn j d z
    · rcases set_cases h with ⟨_, z, _⟩ | ⟨_, z⟩
      · rw [z]
        show wd = _ ∨ wd = _ ∨ wd = _
        rcases hoff with c | ⟨c, _⟩
        · exact .inr (.inr c)
        · exact .inr (.inl c)
      · exact W.wrd j d z
    · rcases set_cases h with ⟨_, z, _⟩ | ⟨_, z⟩
      · rw [z]; exact W.len i d0 h0
      · exact W.len j d z
    · rcases set_cases h with ⟨hj, z, _⟩ | ⟨hj, z⟩
      · rcases set_cases h' with ⟨hj', z', _⟩ | ⟨hj', z'⟩
        · omega
        · rw [z] at he
          have e1 : n = e := Option.some.inj he
          have := (W.fin j' d' e z' he').2
          omega
      · rcases set_cases h' with ⟨hj', z', _⟩ | ⟨hj', z'⟩
        · rw [z'] at he'
          have e1 : n = e := Option.some.inj he'
          have := (W.fin j d e z he).2
          omega
        · exact W.uniq j j' d d' e z z' he he'
    · have hb : d'.begun < n := by
        rcases set_cases h' with ⟨_, z', _⟩ | ⟨_, z'⟩
        · rw [z']; exact W.beg i d0 h0
        · exact W.beg j' d' z'
      rcases set_cases h with ⟨_, z, _⟩ | ⟨_, z⟩
      · rw [z] at he
        have e1 : n = e := Option.some.inj he
        omega
      · rcases set_cases h' with ⟨_, z', _⟩ | ⟨_, z'⟩
        · rw [z']; exact W.apart j i d d0 e z h0 he
        · exact W.apart j j' d d' e z z' he
    · have old : ∀ {j : Nat} {d : DM}, ds[j]? = some d → (dd, k, some s) ∈ d.told → s ≠ j → ∃ d' e, Stands (ds.set i { d0 with word := wd, ended := some n }) s d' e ∧ e < d.begun := fun {j d} z hm hs => by
        obtain ⟨d', e, a, b⟩ := W.seen j d dd k s z hm hs
        exact ⟨d', e, stands_keep h0 ho a, b⟩
      rcases set_cases h with ⟨hj, z, _⟩ | ⟨_, z⟩
      · subst hj
        rw [z] at hm ⊢
        exact old (d := d0) h0 hm hs
      · exact old z hm hs
    · rcases stands_set h0 ho h with ⟨hj, z⟩ | ⟨hj, z⟩
      · have e1 : n = e := by
          have := h.ended
          rw [z] at this
          exact Option.some.inj this
        rcases stands_set h0 ho h' with ⟨hj', z'⟩ | ⟨hj', z'⟩
        · have e2 : n = e' := by
            have := h'.ended
            rw [z'] at this
            exact Option.some.inj this
          omega
        · have := (W.fin j' d' e' z'.at_ z'.ended).2
          omega
      · rcases stands_set h0 ho h' with ⟨hj', z'⟩ | ⟨hj', z'⟩
        · have hw : wd = ("stands" : Str) := by
            have := h'.word
            rw [z'] at this
            exact this
          have hno : ¬ Off ds d0 := by
            rcases hoff with c | ⟨_, c⟩
            · rw [c] at hw; exact absurd hw off_ne_stands
            · exact c
          rw [z'] at hk' ⊢
          show e < d0.begun
          rcases Nat.lt_trichotomy e d0.begun with c | c | c
          · exact c
          · exact absurd c.symm (W.apart j i d d0 e z.at_ h0 z.ended)
          · exact absurd ⟨j, d, e, z, c, k, hk, hk'⟩ hno
        · exact W.over j j' d d' e e' k z z' hlt hk hk'
  | drop i =>
    obtain ⟨d0, h0, ho⟩ := hr
    have e0 : doM n ds (.drop i) = ds.set i { d0 with word := ("off" : Str), ended := some n } := by
      unfold doM
      simp only [h0]
    rw [e0]
    have st_ : ∀ {j : Nat} {d : DM} {e : Nat}, Stands (ds.set i { d0 with word := ("off" : Str), ended := some n }) j d e → Stands ds j d e := fun {j d e} h => by
      rcases stands_set h0 ho h with ⟨_, z⟩ | ⟨_, z⟩
      · have := h.word
        rw [z] at this
        exact absurd this off_ne_stands
      · exact z
    refine ⟨by rw [List.length_set]; exact W.few, fun j d h => ?_, fun j d e h he => ?_, fun j d h => ?_, fun j d h => ?_, fun j d h => ?_, fun j j' d d' e h h' he he' => ?_, fun j j' d d' e h h' he => ?_, fun j d dd k s h hm hs => ?_, fun j j' d d' e e' k h h' hlt hk hk' => ?_⟩
    · rcases set_cases h with ⟨_, z, _⟩ | ⟨_, z⟩
      · rw [z]; exact Nat.lt_succ_of_lt (W.beg i d0 h0)
      · exact Nat.lt_succ_of_lt (W.beg j d z)
    · rcases set_cases h with ⟨_, z, _⟩ | ⟨_, z⟩
      · rw [z] at he ⊢
        have e1 : n = e := Option.some.inj he
        have := W.beg i d0 h0
        show d0.begun < e ∧ e < n + 1
        omega
      · obtain ⟨a, b⟩ := W.fin j d e z he
        exact ⟨a, Nat.lt_succ_of_lt b⟩
    · rcases set_cases h with ⟨_, z, _⟩ | ⟨_, z⟩
      · rw [z]
        exact ⟨fun q => absurd (show ("off" : Str) = ("open" : Str) from q).symm open_ne_off, fun q => by cases q⟩
      · exact W.opn j d z
    · rcases set_cases h with ⟨_, z, _⟩ | ⟨_, z⟩
      · rw [z]; exact .inr (.inr rfl)
      · exact W.wrd j d z
    · rcases set_cases h with ⟨_, z, _⟩ | ⟨_, z⟩
      · rw [z]; exact W.len i d0 h0
      · exact W.len j d z
    · rcases set_cases h with ⟨hj, z, _⟩ | ⟨hj, z⟩
      · rcases set_cases h' with ⟨hj', z', _⟩ | ⟨hj', z'⟩
        · omega
        · rw [z] at he
          have e1 : n = e := Option.some.inj he
          have := (W.fin j' d' e z' he').2
          omega
      · rcases set_cases h' with ⟨hj', z', _⟩ | ⟨hj', z'⟩
        · rw [z'] at he'
          have e1 : n = e := Option.some.inj he'
          have := (W.fin j d e z he).2
          omega
        · exact W.uniq j j' d d' e z z' he he'
    · have hb : d'.begun < n := by
        rcases set_cases h' with ⟨_, z', _⟩ | ⟨_, z'⟩
        · rw [z']; exact W.beg i d0 h0
        · exact W.beg j' d' z'
      rcases set_cases h with ⟨_, z, _⟩ | ⟨_, z⟩
      · rw [z] at he
        have e1 : n = e := Option.some.inj he
        omega
      · rcases set_cases h' with ⟨_, z', _⟩ | ⟨_, z'⟩
        · rw [z']; exact W.apart j i d d0 e z h0 he
        · exact W.apart j j' d d' e z z' he
    · have old : ∀ {j : Nat} {d : DM}, ds[j]? = some d → (dd, k, some s) ∈ d.told → s ≠ j → ∃ d' e, Stands (ds.set i { d0 with word := ("off" : Str), ended := some n }) s d' e ∧ e < d.begun := fun {j d} z hm hs => by
        obtain ⟨d', e, a, b⟩ := W.seen j d dd k s z hm hs
        exact ⟨d', e, stands_keep h0 ho a, b⟩
      rcases set_cases h with ⟨hj, z, _⟩ | ⟨_, z⟩
      · subst hj
        rw [z] at hm ⊢
        exact old (d := d0) h0 hm hs
      · exact old z hm hs
    · exact W.over j j' d d' e e' k (st_ h) (st_ h') hlt hk hk'
theorem WF.playF : ∀ (rs : List RowM) (n : Nat) (ds : List DM), WF n ds → OkF n ds rs → WF (n + rs.length) (playF n ds rs)
  | [], n, ds, W, _ => W
  | r :: rs, n, ds, W, h => by
    have q := WF.playF rs (n + 1) (doM n ds r) (W.step h.1) h.2
    have e : n + 1 + rs.length = n + (r :: rs).length := by rw [List.length_cons]; omega
    rw [e] at q
    exact q
theorem wf_play {rs : List RowM} (h : Goes rs) : WF rs.length (play rs) := by
  have q := WF.playF rs 0 [] WF.nil h
  rw [Nat.zero_add] at q
  exact q
end Sn
set_option Elab.async false
set_option linter.all false
set_option maxRecDepth 100000
set_option maxHeartbeats 4000000
/-! Who must come ahead of whom; rings. -/
namespace Sn
open PySem

def standL (ds : List DM) : List Nat := (List.range ds.length).filter fun i => match ds[i]? with
  | some d => decide (d.word = ("stands" : Str))
  | none => false
theorem mem_standL {ds : List DM} {i : Nat} : i ∈ standL ds ↔ ∃ d, ds[i]? = some d ∧ d.word = ("stands" : Str) := by
  unfold standL
  rw [List.mem_filter, List.mem_range]
  constructor
  · rintro ⟨hl, h⟩
    cases e : ds[i]? with
    | none => rw [e] at h; cases h
    | some d =>
      rw [e] at h
      exact ⟨d, rfl, of_decide_eq_true h⟩
  · rintro ⟨d, e, h⟩
    refine ⟨(List.getElem?_eq_some_iff.mp e).1, ?_⟩
    rw [e]
    exact decide_eq_true h
theorem standL_nodup (ds : List DM) : (standL ds).Nodup := List.Nodup.sublist List.filter_sublist List.nodup_range
theorem stands_of {n : Nat} {ds : List DM} (W : WF n ds) {i : Nat} (h : i ∈ standL ds) : ∃ d e, Stands ds i d e := by
  obtain ⟨d, h1, h2⟩ := mem_standL.mp h
  cases e : d.ended with
  | none =>
    have := (W.opn i d h1).mpr e
    rw [h2] at this
    exact absurd this.symm open_ne_stands
  | some e' => exact ⟨d, e', h1, h2, e⟩
theorem Stands.mem {ds : List DM} {i : Nat} {d : DM} {e : Nat} (h : Stands ds i d e) : i ∈ standL ds := mem_standL.mpr ⟨d, h.at_, h.word⟩

/-- one must come ahead of other, by a word and a key -/
inductive Must (ds : List DM) : Nat → Nat → Str → KeyD → Prop where
  | seen {s own : Nat} {d : DM} {e : Nat} {k : KeyD} : Stands ds own d e → (k, some s) ∈ d.reads → s ≠ own → Must ds s own ("seen" : Str) k
  | past {own other : Nat} {d d' : DM} {e e' : Nat} {k : KeyD} {sn : Option Nat} : Stands ds own d e → Stands ds other d' e' → (k, sn) ∈ d.reads → sn ≠ some own → other ≠ own → k ∈ d'.wrote → d.begun < e' → Must ds own other ("past" : Str) k
  | over {own other : Nat} {d d' : DM} {e e' : Nat} {k : KeyD} : Stands ds own d e → Stands ds other d' e' → e < e' → k ∈ d.wrote → k ∈ d'.wrote → Must ds own other ("over" : Str) k
def Edge (ds : List DM) (i j : Nat) : Prop := ∃ w k, Must ds i j w k
/-- by past, and they overlap -/
def Soft (ds : List DM) (i j : Nat) : Prop := (∃ k, Must ds i j ("past" : Str) k) ∧ ∃ d e d' e', Stands ds i d e ∧ Stands ds j d' e' ∧ d.begun < e' ∧ d'.begun < e

theorem mem_reads_told {d : DM} {k : KeyD} {sn : Option Nat} (h : (k, sn) ∈ d.reads) : ∃ deed, (deed, k, sn) ∈ d.told := by
  unfold DM.reads at h
  obtain ⟨t, ht, e⟩ := List.mem_map.mp h
  obtain ⟨deed, k', sn'⟩ := t
  have e : (k', sn') = (k, sn) := e
  injection e with e1 e2
  subst e1 e2
  exact ⟨deed, (List.mem_filter.mp ht).1⟩
theorem past_ne_seen : ¬ ("past" : Str) = ("seen" : Str) := by decide +kernel
theorem past_ne_over : ¬ ("past" : Str) = ("over" : Str) := by decide +kernel
theorem seen_ne_over : ¬ ("seen" : Str) = ("over" : Str) := by decide +kernel

section
variable {n : Nat} {ds : List DM}
/-- both ends of an edge stand, and what the word says of the rows -/
theorem Must.ends (W : WF n ds) {i j : Nat} {w : Str} {k : KeyD} (h : Must ds i j w k) :
    i ≠ j ∧ ∃ d e d' e', Stands ds i d e ∧ Stands ds j d' e' ∧ ((w = ("past" : Str) ∧ d.begun < e') ∨ (w ≠ ("past" : Str) ∧ e < d'.begun)) := by
  cases h with
  | seen h1 h2 h3 =>
    obtain ⟨deed, hm⟩ := mem_reads_told h2
    obtain ⟨d', e', s, l⟩ := W.seen _ _ _ _ _ h1.at_ hm h3
    exact ⟨h3, d', e', _, _, s, h1, .inr ⟨fun z => past_ne_seen z.symm, l⟩⟩
  | past h1 h2 h3 h4 h5 h6 h7 => exact ⟨fun z => h5 z.symm, _, _, _, _, h1, h2, .inl ⟨rfl, h7⟩⟩
  | over h1 h2 h3 h4 h5 =>
    refine ⟨fun z => ?_, _, _, _, _, h1, h2, .inr ⟨fun z => past_ne_over z.symm, W.over _ _ _ _ _ _ _ h1 h2 h3 h4 h5⟩⟩
    subst z
    obtain ⟨_, he⟩ := h1.inj h2
    omega
theorem Edge.ne (W : WF n ds) {i j : Nat} (h : Edge ds i j) : i ≠ j := by
  obtain ⟨w, k, h⟩ := h
  exact (h.ends W).1
theorem Edge.left (W : WF n ds) {i j : Nat} (h : Edge ds i j) : i ∈ standL ds := by
  obtain ⟨w, k, h⟩ := h
  obtain ⟨_, d, e, d', e', s, _, _⟩ := h.ends W
  exact s.mem
theorem Edge.right (W : WF n ds) {i j : Nat} (h : Edge ds i j) : j ∈ standL ds := by
  obtain ⟨w, k, h⟩ := h
  obtain ⟨_, d, e, d', e', _, s, _⟩ := h.ends W
  exact s.mem

/-- the heart: C ends first of the three; B ahead of it, A ahead of B -/
theorem pivot_of (W : WF n ds) {A B C : Nat} (hAB : Edge ds A B) (hBC : Edge ds B C)
    {dA dB dC : DM} {eA eB eC : Nat} (sA : Stands ds A dA eA) (sB : Stands ds B dB eB) (sC : Stands ds C dC eC) (h1 : eC ≤ eA) (h2 : eC ≤ eB) : Soft ds A B ∧ Soft ds B C := by
  have hBCne := hBC.ne W
  have hlt : eC < eB := by
    rcases Nat.lt_or_ge eC eB with c | c
    · exact c
    · have : eB = eC := by omega
      subst this
      exact absurd (W.uniq B C dB dC eB sB.at_ sC.at_ sB.ended sC.ended) hBCne
  have fC := (W.fin C dC eC sC.at_ sC.ended).1
  have fB := (W.fin B dB eB sB.at_ sB.ended).1
  have fA := (W.fin A dA eA sA.at_ sA.ended).1
  obtain ⟨w, k, m⟩ := hBC
  obtain ⟨_, d, e, d', e', t1, t2, hw⟩ := m.ends W
  obtain ⟨rfl, rfl⟩ := t1.inj sB
  obtain ⟨rfl, rfl⟩ := t2.inj sC
  obtain ⟨rfl, hb⟩ : w = ("past" : Str) ∧ d.begun < e' := by
    rcases hw with z | ⟨_, z⟩
    · exact z
    · omega
  obtain ⟨w2, k2, m2⟩ := hAB
  obtain ⟨_, d2, e2, d3, e3, t3, t4, hw2⟩ := m2.ends W
  obtain ⟨rfl, rfl⟩ := t3.inj sA
  obtain ⟨rfl, rfl⟩ := t4.inj sB
  obtain ⟨rfl, hb2⟩ : w2 = ("past" : Str) ∧ d2.begun < e3 := by
    rcases hw2 with z | ⟨_, z⟩
    · exact z
    · omega
  exact ⟨⟨⟨k2, m2⟩, d2, e2, d3, e3, sA, sB, hb2, by omega⟩, ⟨⟨k, m⟩, d3, e3, d', e', sB, sC, hb, by omega⟩⟩
end

/-! ### rings -/
/-- the one ahead of the i-th place -/
def preR (rs : List Nat) (i : Nat) : Nat := if i = 0 then rs.getLastD 0 else rs.getD (i - 1) 0
structure Ring (ds : List DM) (rs : List Nat) : Prop where
  nd : rs.Nodup
  two : 2 ≤ rs.length
  edge : ∀ (i : Nat) x, rs[i]? = some x → Edge ds (preR rs i) x
theorem preR_zero {rs : List Nat} {l : Nat} (h : rs[rs.length - 1]? = some l) : preR rs 0 = l := by
  unfold preR
  rw [if_pos rfl, List.getLastD_eq_getLast?, List.getLast?_eq_getElem?, h] <;> rfl
theorem preR_succ {rs : List Nat} {i x : Nat} (h : rs[i]? = some x) : preR rs (i + 1) = x := by
  unfold preR
  rw [if_neg (Nat.succ_ne_zero i), Nat.add_sub_cancel, List.getD_eq_getElem?_getD, h] <;> rfl
/-- the place behind the i-th -/
def nxt (rs : List Nat) (i : Nat) : Nat := (i + 1) % rs.length
theorem least_place : ∀ (l : List Nat) (f : Nat → Nat), l ≠ [] → ∃ (i : Nat) (x : Nat), l[i]? = some x ∧ ∀ y ∈ l, f x ≤ f y
  | [], _, h => absurd rfl h
  | [a], f, _ => ⟨0, a, rfl, fun y hy => by rw [List.mem_singleton.mp hy]; exact Nat.le_refl _⟩
  | a :: b :: r, f, _ => by
    obtain ⟨i, x, h1, h2⟩ := least_place (b :: r) f (List.cons_ne_nil _ _)
    by_cases c : f a ≤ f x
    · refine ⟨0, a, rfl, fun y hy => ?_⟩
      rcases List.mem_cons.mp hy with e | hy
      · rw [e]; exact Nat.le_refl _
      · exact Nat.le_trans c (h2 y hy)
    · refine ⟨i + 1, x, h1, fun y hy => ?_⟩
      rcases List.mem_cons.mp hy with e | hy
      · rw [e]; omega
      · exact h2 y hy
/-- THE LAW: in each ring some one is between -/
theorem ring_pivot {n : Nat} {ds : List DM} (W : WF n ds) {rs : List Nat} (R : Ring ds rs) :
    ∃ (i B C : Nat), rs[i]? = some B ∧ rs[nxt rs i]? = some C ∧ Soft ds (preR rs i) B ∧ Soft ds B C := by
  have hlen := R.two
  have hne : rs ≠ [] := fun z => by rw [z] at hlen; simp at hlen
  have stm : ∀ x ∈ rs, x ∈ standL ds := fun x hx => by
    obtain ⟨i, hi, e⟩ := List.getElem_of_mem hx
    have e2 : rs[i]? = some x := by rw [List.getElem?_eq_getElem hi, e]
    exact (R.edge i x e2).right W
  let f : Nat → Nat := fun x => match ds[x]? with
    | some d => d.ended.getD 0
    | none => 0
  have fe : ∀ {x d e}, Stands ds x d e → f x = e := fun {x d e} h => by
    show (match ds[x]? with | some d => d.ended.getD 0 | none => 0) = e
    rw [h.at_]
    show d.ended.getD 0 = e
    rw [h.ended] <;> rfl
  obtain ⟨i, C, hC, hmin⟩ := least_place rs f hne
  have hi := (List.getElem?_eq_some_iff.mp hC).1
  -- the place ahead of i
  obtain ⟨p, hp, hpn, hpB⟩ : ∃ p, p < rs.length ∧ nxt rs p = i ∧ rs[p]? = some (preR rs i) := by
    cases i with
    | zero =>
      refine ⟨rs.length - 1, by omega, ?_, ?_⟩
      · unfold nxt
        rw [show rs.length - 1 + 1 = rs.length by omega, Nat.mod_self]
      · obtain ⟨l, hl⟩ : ∃ l, rs[rs.length - 1]? = some l := ⟨_, List.getElem?_eq_getElem (by omega)⟩
        rw [preR_zero hl, hl]
    | succ k =>
      refine ⟨k, by omega, ?_, ?_⟩
      · unfold nxt
        exact Nat.mod_eq_of_lt hi
      · obtain ⟨l, hl⟩ : ∃ l, rs[k]? = some l := ⟨_, List.getElem?_eq_getElem (by omega)⟩
        rw [preR_succ hl, hl]
  have e1 := R.edge i C hC
  have e2 := R.edge p _ hpB
  have hA : preR rs p ∈ rs := by
    cases p with
    | zero =>
      obtain ⟨l, hl⟩ : ∃ l, rs[rs.length - 1]? = some l := ⟨_, List.getElem?_eq_getElem (by omega)⟩
      rw [preR_zero hl]
      exact List.mem_of_getElem? hl
    | succ k =>
      obtain ⟨l, hl⟩ : ∃ l, rs[k]? = some l := ⟨_, List.getElem?_eq_getElem (by omega)⟩
      rw [preR_succ hl]
      exact List.mem_of_getElem? hl
  obtain ⟨dA, eA, sA⟩ := stands_of W (stm _ hA)
  obtain ⟨dB, eB, sB⟩ := stands_of W (stm _ (List.mem_of_getElem? hpB))
  obtain ⟨dC, eC, sC⟩ := stands_of W (stm _ (List.mem_of_getElem? hC))
  have m1 := hmin _ hA
  have m2 := hmin _ (List.mem_of_getElem? hpB)
  rw [fe sC, fe sA] at m1
  rw [fe sC, fe sB] at m2
  obtain ⟨q1, q2⟩ := pivot_of W e2 e1 sA sB sC m1 m2
  exact ⟨p, _, C, hpB, by rw [hpn]; exact hC, q1, q2⟩

/-! ### cycles -/
inductive Way (ds : List DM) : Nat → Nat → Prop where
  | one {i j : Nat} : Edge ds i j → Way ds i j
  | more {i j k : Nat} : Way ds i j → Edge ds j k → Way ds i k
theorem Way.trans {ds : List DM} {i j k : Nat} (a : Way ds i j) (b : Way ds j k) : Way ds i k := by
  induction b with
  | one e => exact .more a e
  | more _ e ih => exact .more ih e
def Cyc (ds : List DM) : Prop := ∃ x, Way ds x x
theorem Ring.way {ds : List DM} {rs : List Nat} (R : Ring ds rs) : Cyc ds := by
  have hl := R.two
  obtain ⟨a, ha⟩ : ∃ a, rs[0]? = some a := ⟨_, List.getElem?_eq_getElem (by omega)⟩
  have key : ∀ (k x : Nat), rs[k + 1]? = some x → Way ds a x := by
    intro k
    induction k with
    | zero =>
      intro x hx
      have := R.edge 1 x hx
      rw [preR_succ ha] at this
      exact .one this
    | succ k ih =>
      intro x hx
      have hk : k + 1 < rs.length := by
        have := (List.getElem?_eq_some_iff.mp hx).1
        omega
      obtain ⟨y, hy⟩ : ∃ y, rs[k + 1]? = some y := ⟨_, List.getElem?_eq_getElem hk⟩
      have := R.edge (k + 2) x hx
      rw [preR_succ hy] at this
      exact .more (ih y hy) this
  obtain ⟨l, hl'⟩ : ∃ l, rs[rs.length - 1]? = some l := ⟨_, List.getElem?_eq_getElem (by omega)⟩
  have w1 := key (rs.length - 2) l (by rw [show rs.length - 2 + 1 = rs.length - 1 by omega]; exact hl')
  have w2 := R.edge 0 a ha
  rw [preR_zero hl'] at w2
  exact ⟨a, .more w1 w2⟩
/-- no order: everyone that is left has someone left ahead of it -/
theorem min_exists {R : Nat → Nat → Prop} (tr : ∀ a b c, R a b → R b c → R a c) (ir : ∀ a, ¬ R a a) : ∀ (S : List Nat), S ≠ [] → ∃ m ∈ S, ∀ x ∈ S, ¬ R x m
  | [], h => absurd rfl h
  | [a], _ => ⟨a, List.mem_singleton.mpr rfl, fun x hx => by rw [List.mem_singleton.mp hx]; exact ir a⟩
  | a :: b :: r, _ => by
    obtain ⟨m, hm, h⟩ := min_exists tr ir (b :: r) (List.cons_ne_nil _ _)
    rcases Classical.em (R a m) with c | c
    · refine ⟨a, List.mem_cons_self, fun x hx hR => ?_⟩
      rcases List.mem_cons.mp hx with e | hx
      · rw [e] at hR; exact ir a hR
      · exact h x hx (tr _ _ _ hR c)
    · refine ⟨m, List.mem_cons_of_mem _ hm, fun x hx hR => ?_⟩
      rcases List.mem_cons.mp hx with e | hx
      · rw [e] at hR; exact c hR
      · exact h x hx hR
theorem cyc_of_stuck {n : Nat} {ds : List DM} (W : WF n ds) {found : List Nat} {j0 : Nat} (h0 : j0 ∈ standL ds) (h1 : j0 ∉ found)
    (h : ∀ j ∈ standL ds, j ∉ found → ∃ i, Edge ds i j ∧ i ∉ found) : Cyc ds := by
  rcases Classical.em (Cyc ds) with c | c
  · exact c
  · exfalso
    have hS : (standL ds).filter (fun j => decide (j ∉ found)) ≠ [] := fun z => by
      have : j0 ∈ (standL ds).filter (fun j => decide (j ∉ found)) := List.mem_filter.mpr ⟨h0, decide_eq_true h1⟩
      rw [z] at this
      cases this
    obtain ⟨m, hm, hmin⟩ := min_exists (R := Way ds) (fun _ _ _ => Way.trans) (fun a q => c ⟨a, q⟩) _ hS
    obtain ⟨m1, m2⟩ := List.mem_filter.mp hm
    obtain ⟨i, hi, hi2⟩ := h m m1 (of_decide_eq_true m2)
    exact hmin i (List.mem_filter.mpr ⟨hi.left W, decide_eq_true hi2⟩) (.one hi)
/-- an order: who must come ahead stands ahead -/
structure Ordered (ds : List DM) (found : List Nat) : Prop where
  nd : found.Nodup
  sub : ∀ x ∈ found, x ∈ standL ds
  ahead : ∀ (k j : Nat), found[k]? = some j → ∀ i, Edge ds i j → i ∈ found.take k
theorem Ordered.nil (ds : List DM) : Ordered ds [] := ⟨List.nodup_nil, fun x h => absurd h (List.not_mem_nil), fun k j h => absurd h (by simp)⟩
theorem Ordered.snoc {ds : List DM} {found : List Nat} (O : Ordered ds found) {j : Nat} (h1 : j ∈ standL ds) (h2 : j ∉ found) (h3 : ∀ i, Edge ds i j → i ∈ found) : Ordered ds (found ++ [j]) := by
  refine ⟨?_, fun x hx => ?_, fun k x hx i he => ?_⟩
  · refine List.nodup_append.mpr ⟨O.nd, by simp, fun a ha b hb => ?_⟩
    rw [List.mem_singleton.mp hb]
    intro z
    exact h2 (z ▸ ha)
  · rcases List.mem_append.mp hx with z | z
    · exact O.sub x z
    · rw [List.mem_singleton.mp z]; exact h1
  · rcases Nat.lt_trichotomy k found.length with c | c | c
    · rw [List.getElem?_append_left c] at hx
      rw [List.take_append_of_le_length (Nat.le_of_lt c)]
      exact O.ahead k x hx i he
    · subst c
      rw [List.getElem?_append_right (Nat.le_refl _), Nat.sub_self] at hx
      have e : j = x := Option.some.inj hx
      rw [List.take_append_of_le_length (Nat.le_refl _), List.take_length]
      exact h3 i (e ▸ he)
    · rw [List.getElem?_eq_none_iff.mpr (by simp; omega)] at hx
      cases hx
theorem Ordered.acyclic {n : Nat} {ds : List DM} (W : WF n ds) {found : List Nat} (O : Ordered ds found) (all : ∀ x ∈ standL ds, x ∈ found) : ¬ Cyc ds := by
  have step : ∀ {i j : Nat}, Edge ds i j → ∀ k : Nat, found[k]? = some j → ∃ k' : Nat, k' < k ∧ found[k']? = some i := fun {i j} he k hk => by
    have hm := O.ahead k j hk i he
    obtain ⟨k', hk', e⟩ := List.getElem_of_mem hm
    rw [List.length_take] at hk'
    refine ⟨k', by omega, ?_⟩
    have e2 : (found.take k)[k']? = some i := by rw [List.getElem?_eq_getElem (by rw [List.length_take]; omega), e]
    rw [List.getElem?_take, if_pos (by omega)] at e2
    exact e2
  have way : ∀ {i j : Nat}, Way ds i j → ∀ k : Nat, found[k]? = some j → ∃ k' : Nat, k' < k ∧ found[k']? = some i := by
    intro i j h
    induction h with
    | one e => exact step e
    | more _ e ih =>
      intro k hk
      obtain ⟨k1, h1, h2⟩ := step e k hk
      obtain ⟨k2, h3, h4⟩ := ih k1 h2
      exact ⟨k2, by omega, h4⟩
  rintro ⟨x, hx⟩
  have hs : x ∈ standL ds := by
    cases hx with
    | one e => exact e.right W
    | more _ e => exact e.right W
  obtain ⟨k, hk, e⟩ := List.getElem_of_mem (all x hs)
  have e2 : found[k]? = some x := by rw [List.getElem?_eq_getElem hk, e]
  obtain ⟨k', h1, h2⟩ := way hx k e2
  have := (List.getElem?_inj (l := found) (by have := (List.getElem?_eq_some_iff.mp h2).1; exact this) O.nd).mp (h2.trans e2.symm)
  omega

/-! ### the way back -/
/-- a path: each must come ahead of the next -/
structure Path (ds : List DM) (p : List Nat) : Prop where
  nd : p.Nodup
  step : ∀ (i : Nat) x y, p[i]? = some x → p[i + 1]? = some y → Edge ds x y
theorem Path.one (ds : List DM) (x : Nat) : Path ds [x] := ⟨by simp, fun i a b h1 h2 => by simp at h2⟩
theorem Path.snoc {ds : List DM} {p : List Nat} {x y : Nat} (P : Path ds p) (hl : p.getLast? = some x) (he : Edge ds x y) (hn : y ∉ p) : Path ds (p ++ [y]) := by
  refine ⟨List.nodup_append.mpr ⟨P.nd, by simp, fun a ha b hb => by rw [List.mem_singleton.mp hb]; exact fun z => hn (z ▸ ha)⟩, fun i a b h1 h2 => ?_⟩
  rcases Nat.lt_trichotomy (i + 1) p.length with c | c | c
  · rw [List.getElem?_append_left (by omega)] at h1
    rw [List.getElem?_append_left c] at h2
    exact P.step i a b h1 h2
  · rw [List.getElem?_append_left (by omega)] at h1
    rw [List.getElem?_append_right (by omega), c, Nat.sub_self] at h2
    rw [List.getLast?_eq_getElem?, show p.length - 1 = i by omega, h1] at hl
    have e1 : a = x := Option.some.inj hl
    have e2 : y = b := Option.some.inj h2
    rw [e1, ← e2]
    exact he
  · rw [List.getElem?_eq_none_iff.mpr (by simp; omega)] at h2
    cases h2
/-- a path that comes back is a ring -/
theorem Path.ring {n : Nat} {ds : List DM} (W : WF n ds) {p : List Nat} {a x : Nat} (P : Path ds p) (h0 : p[0]? = some a) (hl : p.getLast? = some x) (he : Edge ds x a) : Ring ds p := by
  have hne : x ≠ a := he.ne W
  have hlast : p[p.length - 1]? = some x := by rw [← List.getLast?_eq_getElem?]; exact hl
  have hlen := (List.getElem?_eq_some_iff.mp h0).1
  refine ⟨P.nd, ?_, fun i y hy => ?_⟩
  · rcases Nat.lt_or_ge 1 p.length with c | c
    · exact c
    · have : p.length - 1 = 0 := by omega
      rw [this, h0] at hlast
      exact absurd (Option.some.inj hlast).symm hne
  · cases i with
    | zero =>
      rw [h0] at hy
      rw [preR_zero hlast, ← Option.some.inj hy]
      exact he
    | succ i =>
      have : i < p.length := by have := (List.getElem?_eq_some_iff.mp hy).1; omega
      obtain ⟨z, hz⟩ : ∃ z, p[i]? = some z := ⟨_, List.getElem?_eq_getElem this⟩
      rw [preR_succ hz]
      exact P.step i z y hz hy
/-- the end of a path from a place on is a path -/
theorem Path.drop {ds : List DM} {p : List Nat} (P : Path ds p) (k : Nat) : Path ds (p.drop k) :=
  ⟨P.nd.sublist (List.drop_sublist _ _), fun i x y h1 h2 => by
    rw [List.getElem?_drop] at h1 h2
    exact P.step (k + i) x y h1 (by rw [show k + i + 1 = k + (i + 1) by omega]; exact h2)⟩
/-- all that is met from start on is in a closed list without a step back -/
theorem no_way_back {ds : List DM} {row : List Nat} {start : Nat} (h0 : start ∈ row) (h : ∀ y ∈ row, ∀ z, Edge ds y z → z ∈ row ∧ z ≠ start) : ¬ Way ds start start := by
  have key : ∀ {i j : Nat}, Way ds i j → i = start → j ∈ row ∧ j ≠ start := by
    intro i j w
    induction w with
    | one e => intro z; subst z; exact h _ h0 _ e
    | more _ e ih => intro z; exact h _ (ih z).1 _ e
  exact fun w => (key w rfl).2 rfl
theorem Way.mem {n : Nat} {ds : List DM} (W : WF n ds) {i j : Nat} (w : Way ds i j) : j ∈ standL ds := by
  cases w with
  | one e => exact e.right W
  | more _ e => exact e.right W
theorem not_cyc {n : Nat} {ds : List DM} (W : WF n ds) (h : ∀ x ∈ standL ds, ¬ Way ds x x) : ¬ Cyc ds := fun ⟨x, w⟩ => h x (w.mem W) w
end Sn
set_option Elab.async false
set_option linter.all false
set_option maxRecDepth 100000
set_option maxHeartbeats 4000000
/-! Frames, things in the heap, freezing. -/
namespace Sn
open PySem PySem.Spec PyProof.Rows L2

/-! ### rules whose fragment is named apart (for the bodies of comprehensions) -/
section
variable {X : Cx} {K : PySem.W.Frag} {es : List Expr} {e : Expr} {k n : Nat} {pos : Pos} {t : TGs} {ta : TE} {f : Str}
theorem pg_tupK (hK : X.K = K) (hc : X.calm = true) (h : PGs X es t) (hn : (assignEach es X.env).length = n := by rfl) (hst : (assignEach es X.env).findIdx? (·.1) = none := by rfl) : PG X (.Tuple es k pos) (gTup K n t) := by subst hK; exact pg_tup hc h hn hst
theorem ix_listK (hK : X.K = K) : IxR X (rIxL K) := by subst hK; exact ix_list
theorem ix_tupK (hK : X.K = K) : IxR X (rIxT K) := by subst hK; exact ix_tup
theorem pe_fldK (hK : X.K = K) (he : PE X e ta) (hb : attributeBase e f X.env (eval e X.env) = eval e X.env) : PE X (.Attribute e f pos) (tFld K ta f) := by subst hK; exact pe_fld he hb
theorem op_in_seqK (hK : X.K = K) : OpR X (compareOp .In) (rIn K false) := by subst hK; exact op_in_seq
theorem op_notIn_seqK (hK : X.K = K) : OpR X (compareOp .NotIn) (rIn K true) := by subst hK; exact op_notIn_seq
theorem call_len_seqK (hK : X.K = K) : CallR X (.builtin "len") (fun xs H Q => ∃ p ys, xs = [.ref p] ∧ (SqL K H p ys ∨ SqT K H p ys) ∧ Q (.int ys.length) H) := by subst hK; exact call_len_seq
theorem call_list_ofK (hK : X.K = K) : CallR X (.type "list") (fun xs H Q => ∃ p ys, xs = [.ref p] ∧ (SqL K H p ys ∨ SqT K H p ys) ∧ ∀ l, H l = none → Q (.ref l) (upd H l (.lst ys))) := by subst hK; exact call_list_of
theorem op_eqDK (hK : X.K = K) (hu : X.A.units + 64 < cLine) : OpR X (compareOp .Eq) (rEqD K) := by subst hK; exact op_eqD hu
theorem op_inDK (hK : X.K = K) (hu : X.A.units + 65 < cLine) : OpR X (compareOp .In) (rInD K) := by subst hK; exact op_inD hu
theorem op_notInDK (hK : X.K = K) (hu : X.A.units + 65 < cLine) : OpR X (compareOp .NotIn) (rNotInD K) := by subst hK; exact op_notInD hu
end

/-! ### pairs of lists -/
theorem pd_get {α β : Type} {F : α → β → Prop} : ∀ {as : List α} {bs : List β}, Paired F as bs → ∀ {i : Nat} {b : β}, bs[i]? = some b → ∃ a, as[i]? = some a ∧ F a b
  | _, _, .nil, i, b, h => by simp at h
  | _, _, .cons r t, 0, b, h => by
    simp at h
    subst h
    exact ⟨_, rfl, r⟩
  | _, _, .cons r t, i + 1, b, h => by
    obtain ⟨a, h1, h2⟩ := pd_get t (i := i) (by simpa using h)
    exact ⟨a, by simpa using h1, h2⟩
theorem pd_getL {α β : Type} {F : α → β → Prop} : ∀ {as : List α} {bs : List β}, Paired F as bs → ∀ {i : Nat} {a : α}, as[i]? = some a → ∃ b, bs[i]? = some b ∧ F a b
  | _, _, .nil, i, b, h => by simp at h
  | _, _, .cons r t, 0, b, h => by
    simp at h
    subst h
    exact ⟨_, rfl, r⟩
  | _, _, .cons r t, i + 1, b, h => by
    obtain ⟨a, h1, h2⟩ := pd_getL t (i := i) (by simpa using h)
    exact ⟨a, by simpa using h1, h2⟩
theorem pd_map {α β : Type} {F G : α → β → Prop} {as : List α} {bs : List β} (p : Paired F as bs) (f : ∀ a b, F a b → G a b) : Paired G as bs := Paired.mono f p
theorem pd_snoc {α β : Type} {F : α → β → Prop} {as : List α} {bs : List β} {a : α} {b : β} (p : Paired F as bs) (h : F a b) : Paired F (as ++ [a]) (bs ++ [b]) := Paired.snoc p h
theorem pd_len {α β : Type} {F : α → β → Prop} {as : List α} {bs : List β} (p : Paired F as bs) : as.length = bs.length := Paired.length p
theorem pd_set {α β : Type} {F : α → β → Prop} : ∀ {as : List α} {bs : List β}, Paired F as bs → ∀ (i : Nat) {a : α} {b : β}, F a b → Paired F (as.set i a) (bs.set i b)
  | _, _, .nil, _, _, _, _ => .nil
  | _, _, .cons r t, 0, _, _, h => .cons h t
  | _, _, .cons r t, i + 1, _, _, h => .cons r (pd_set t i h)
theorem pd_of {α β : Type} {F : α → β → Prop} : ∀ {as : List α} {bs : List β}, as.length = bs.length → (∀ (i : Nat) a b, as[i]? = some a → bs[i]? = some b → F a b) → Paired F as bs
  | [], [], _, _ => .nil
  | [], _ :: _, h, _ => by simp at h
  | _ :: _, [], h, _ => by simp at h
  | a :: as, b :: bs, h, f => .cons (f 0 a b rfl rfl) (pd_of (by simpa using h) fun i x y h1 h2 => f (i + 1) x y (by simpa using h1) (by simpa using h2))
theorem map_get {α β : Type} {f : α → β} {l : List α} {i : Nat} {y : β} (h : (l.map f)[i]? = some y) : ∃ x, l[i]? = some x ∧ y = f x := by
  rw [List.getElem?_map] at h
  cases e : l[i]? with
  | none => rw [e] at h; cases h
  | some x => rw [e] at h; exact ⟨x, rfl, (Option.some.inj h).symm⟩
theorem get_map {α β : Type} {f : α → β} {l : List α} {i : Nat} {x : α} (h : l[i]? = some x) : (l.map f)[i]? = some (f x) := by
  rw [List.getElem?_map, h] <;> rfl
theorem take_snoc {α : Type} {l : List α} {i : Nat} {x : α} (h : l[i]? = some x) : l.take (i + 1) = l.take i ++ [x] := by
  rw [List.take_succ, h] <;> rfl

/-! ### frames: what stays -/
def Imm : HO → Prop
  | .tup _ => True
  | .frz _ _ => True
  | _ => False
def Wr : HO → Prop
  | .lst _ => True
  | .dK _ => True
  | .ins _ _ _ => True
  | _ => False
/-- the tables of code objects that the lambda of last_writer and can_go of order_by use -/
def TB (K : PySem.W.Frag) : List (Addr × Str) := [((He.cT K ("Stepper", some "last_writer")).2, "Stepper.last_writer.<locals>.<lambda>"), ((He.cT K ("order_by", none)).2, "order_by.<locals>.can_go")]
/-- all but S stays; tuples and frozen things always; the tables may grow -/
structure Fr (K : PySem.W.Frag) (S : Addr → Prop) (H H' : Hp) : Prop where
  keep : ∀ b o, H b = some o → ¬ S b → (∀ ps, o ≠ .tbl ps) → H' b = some o
  imm : ∀ b o, H b = some o → Imm o → H' b = some o
  tabs : LamX.Tabs (TB K) H → LamX.Tabs (TB K) H'
abbrev No : Addr → Prop := fun _ => False
abbrev Fr0 (K : PySem.W.Frag) : Hp → Hp → Prop := Fr K No
section
variable {K : PySem.W.Frag} {S S' : Addr → Prop} {H H1 H2 : Hp} {a p : Addr} {o : HO} {xs : List V}
theorem Fr.refl (H : Hp) : Fr K S H H := ⟨fun _ _ h _ _ => h, fun _ _ h _ => h, fun h => h⟩
theorem Fr.trans (f : Fr K S H H1) (g : Fr K S H1 H2) : Fr K S H H2 :=
  ⟨fun b o h n t => g.keep b o (f.keep b o h n t) n t, fun b o h i => g.imm b o (f.imm b o h i) i, fun h => g.tabs (f.tabs h)⟩
theorem Fr.mono (f : Fr K S H H1) (h : ∀ b, S b → S' b) : Fr K S' H H1 := ⟨fun b o e n t => f.keep b o e (fun z => n (h b z)) t, f.imm, f.tabs⟩
theorem Fr.wide (f : Fr0 K H H1) : Fr K S H H1 := f.mono fun _ z => z.elim
theorem Fr.same (h : ∀ b o, H b = some o → H1 b = some o) : Fr K S H H1 := ⟨fun b o e _ _ => h b o e, fun b o e _ => h b o e, fun t => t.ext h⟩
theorem Fr.new (h : H p = none) : Fr K S H (upd H p o) := .same fun b u e => by rw [upd_ne (ne_of_none e h)]; exact e
theorem Fr.new2 (f : Fr K S H H1) (h : H1 p = none) : Fr K S H (upd H1 p o) := f.trans (.new h)
/-- an object of S is written -/
theorem Fr.at_ {u : HO} (hS : S a) (ha : H a = some u) (hw : Wr u) : Fr K S H (upd H a o) := by
  have ne : ∀ {b : Addr} {v : HO}, H b = some v → ¬ Wr v → b ≠ a := fun {b v} e n z => by
    rw [z, ha] at e
    rw [← Option.some.inj e] at n
    exact n hw
  refine ⟨fun b v e n _ => ?_, fun b v e i => ?_, fun t q hq => ?_⟩
  · rw [upd_ne (fun z => n (by rw [z]; exact hS))]; exact e
  · rw [upd_ne (ne e (fun w => by cases v <;> first | exact w | exact i))]; exact e
  · obtain ⟨ps, h1, h2, h3⟩ := t q hq
    refine ⟨ps, by rw [upd_ne (ne h1 fun z => z)]; exact h1, h2, fun pos cv hc => ?_⟩
    obtain ⟨c, e1, e2⟩ := h3 pos cv hc
    exact ⟨c, e1, by rw [upd_ne (ne e2 fun z => z)]; exact e2⟩
theorem Fr.at2 {u : HO} (f : Fr K S H H1) (hS : S a) (ha : H1 a = some u) (hw : Wr u) : Fr K S H (upd H1 a o) := f.trans (.at_ hS ha hw)
/-- not there ahead (or a table) -/
def Nw (H : Hp) (p : Addr) : Prop := ∀ o, H p = some o → ∃ ps, o = HO.tbl ps
theorem Nw.of (h : H p = none) : Nw H p := fun o e => by rw [h] at e; cases e
theorem Nw.ne {b : Addr} (h : Nw H p) (e : H b = some o) (t : ∀ ps, o ≠ .tbl ps) : b ≠ p := fun z => by
  obtain ⟨ps, q⟩ := h o (z ▸ e)
  exact t ps q
theorem Fr.nw (f : Fr K S H H1) (n : ¬ S p) (h : Nw H1 p) : Nw H p := fun o e => by
  cases o with
  | tbl ps => exact ⟨ps, rfl⟩
  | _ => exact h _ (f.keep p _ e n fun ps z => nomatch z)
/-- a thing that was not there ahead is written -/
theorem Fr.own {u : HO} (f : Fr K S H H1) (h : Nw H a) (ha : H1 a = some u) (hw : Wr u) : Fr K S H (upd H1 a o) := by
  have g : Fr K (fun b => b = a) H1 (upd H1 a o) := .at_ rfl ha hw
  exact ⟨fun b v e n t => g.keep b v (f.keep b v e n t) (h.ne e t) t, fun b v e i => g.imm b v (f.imm b v e i) i, fun t => g.tabs (f.tabs t)⟩
/-- what S holds may be written, and nothing else was there ahead -/
theorem Fr.narrow (f : Fr K S' H H1) (h : ∀ b, S' b → S b ∨ Nw H b) : Fr K S H H1 :=
  ⟨fun b v e n t => f.keep b v e (fun z => (h b z).elim n fun q => q.ne e t rfl) t, f.imm, f.tabs⟩
theorem Fr.lst (f : Fr K S H H1) (h : H a = some (.lst xs)) (n : ¬ S a) : H1 a = some (.lst xs) := f.keep _ _ h n fun _ z => nomatch z
theorem Fr.ins {C dx : Addr} {fs : List (Str × V)} (f : Fr K S H H1) (h : H a = some (.ins C dx fs)) (n : ¬ S a) : H1 a = some (.ins C dx fs) := f.keep _ _ h n fun _ z => nomatch z
theorem Fr.dK {kvs : List (Key × V)} (f : Fr K S H H1) (h : H a = some (.dK kvs)) (n : ¬ S a) : H1 a = some (.dK kvs) := f.keep _ _ h n fun _ z => nomatch z
theorem Fr.tup (f : Fr K S H H1) (h : SqT K H a xs) : SqT K H1 a xs := by
  rcases h with (h | ⟨o, h⟩) | h
  · exact .inl (.inl (f.imm _ _ h trivial))
  · exact .inl (.inr ⟨o, f.imm _ _ h trivial⟩)
  · exact .inr h
end

/-! ### frozen things -/
def FzL (H : Hp) (a : Addr) (xs : List V) : Prop := ∃ o, H a = some (.frz o (.lst xs))
theorem FzL.seq {K : PySem.W.Frag} {H : Hp} {a : Addr} {xs : List V} (h : FzL H a xs) : SqL K H a xs := .inl (.inr h)
theorem Fr.fzl {K : PySem.W.Frag} {S : Addr → Prop} {H H1 : Hp} {a : Addr} {xs : List V} (f : Fr K S H H1) (h : FzL H a xs) : FzL H1 a xs := by
  obtain ⟨o, h⟩ := h
  exact ⟨o, f.imm _ _ h trivial⟩
/-- the things at as are frozen, all else is as it was -/
structure FrzOf (as : List Addr) (H H2 : Hp) : Prop where
  other : ∀ b, b ∉ as → H2 b = H b
  at_ : ∀ b ∈ as, ∀ u, H b = some u → ∃ o, H2 b = some (.frz o u)
theorem inv_frz {X : Cx} {pins : List (Addr × Obj)} {σ : L2.St} {H : Hp} {s : Shared} (I : L2.Inv X pins σ H s) (as : List Addr) (hm : ∀ a ∈ as, Mut (H a)) : ∃ H2, FrzOf as H H2 ∧ L2.Inv X pins σ H2 s := by
  let H2 : Hp := fun b => if b ∈ as then (match H b with
    | some u => (match s.heap.get? b with
      | some o => some (.frz o u)
      | none => some u)
    | none => none) else H b
  have at_ : ∀ b, b ∈ as → ∀ u, H b = some u → ∃ o, s.heap.get? b = some o ∧ H2 b = some (.frz o u) := fun b hb u hu => by
    have hlt := (I.hok b u hu).lt
    cases e : s.heap.get? b with
    | none =>
      exfalso
      have ok := I.hok b u hu
      have mu := hm b hb
      rw [hu] at mu
      cases u with
      | lst xs => obtain ⟨_, _, _, _, z⟩ := ok; rw [e] at z; cases z
      | dK kvs => obtain ⟨_, _, _, _, _, _, _, z, _⟩ := ok; rw [e] at z; cases z
      | dT kvs => obtain ⟨_, _, _, _, _, _, _, z, _⟩ := ok; rw [e] at z; cases z
      | set S n => obtain ⟨_, _, _, _, z, _⟩ := ok; rw [e] at z; cases z
      | ins C dx fs => obtain ⟨_, _, _, z, _⟩ := ok; rw [e] at z; cases z
      | ext φ => obtain ⟨_, ⟨_, z⟩, _⟩ := ok; rw [e] at z; cases z
      | _ => exact mu
    | some o =>
      refine ⟨o, rfl, ?_⟩
      show (if b ∈ as then _ else _) = _
      rw [if_pos hb, hu, e]
  have out : ∀ b, b ∉ as → H2 b = H b := fun b hb => if_neg hb
  have keep : ∀ b u, H b = some u → ¬ Mut (some u) → H2 b = some u := fun b u e n => by
    rw [out b (fun hb => n (by have := hm b hb; rw [e] at this; exact this))]; exact e
  have none_ : ∀ b, H b = none → H2 b = none := fun b e => by
    by_cases hb : b ∈ as
    · show (if b ∈ as then _ else _) = _
      rw [if_pos hb, e]
    · rw [out b hb]; exact e
  have hok : HOk X.prog X.w H2 s.heap := fun b o e => by
    have st : ∀ {u : HO}, ObjOk X.prog X.w H s.heap b u → ObjOk X.prog X.w H2 s.heap b u := fun {u} x => x.stay (fun _ _ _ q => q) (fun c q => keep c _ q fun z => z) fun c xs q => keep c _ q fun z => z
    by_cases hb : b ∈ as
    · cases e' : H b with
      | none => rw [none_ b e'] at e; cases e
      | some u =>
        obtain ⟨o', h1, h2⟩ := at_ b hb u e'
        rw [h2] at e
        have e := Option.some.inj e
        subst e
        exact ⟨h1, st (I.hok b u e')⟩
    · rw [out b hb] at e
      exact st (I.hok b o e)
  refine ⟨H2, ⟨out, fun b hb u hu => let ⟨o, _, h2⟩ := at_ b hb u hu; ⟨o, h2⟩⟩, ?_⟩
  exact I.un (h' := s.heap) (t' := s.toks) ⟨fun _ _ e _ _ _ => e, fun b o e _ _ _ => ⟨o.slots, e⟩, fun b o _ n _ => none_ b n, fun b o e _ => ⟨o, e⟩, fun b xs e => keep b _ e fun z => z, fun b o u e => keep b _ e fun z => z, fun b ps e => ⟨#[], by rw [keep b _ e fun z => z]; simp⟩⟩ hok
/-- an expression behind which things are frozen -/
def tFrz (t : TE) : TE := fun σ H Q => t σ H fun v H1 => ∃ as : List Addr, (∀ a ∈ as, Mut (H1 a)) ∧ ∀ H2, FrzOf as H1 H2 → Q v H2
theorem pe_frz {X : Cx} {e : Expr} {t : TE} (h : PE X e t) : PE X e (tFrz t) := ⟨fun pins s σ H Q I hw => by
  refine thn (h.run pins s σ H _ I hw) fun u s1 ⟨v, H1, I1, r, as, hm, q⟩ => ?_
  obtain ⟨H2, hf, I2⟩ := inv_frz I1 as hm
  exact ⟨v, H2, I2, r, q H2 hf⟩⟩
section
variable {K : PySem.W.Frag} {S : Addr → Prop} {H H1 H2 : Hp} {as : List Addr} {a p : Addr} {xs : List V}
theorem FrzOf.lst (f : FrzOf as H H2) (ha : a ∈ as) (h : H a = some (.lst xs)) : FzL H2 a xs := f.at_ a ha _ h
theorem FrzOf.keep {u : HO} (f : FrzOf as H H2) (hm : ∀ a ∈ as, Mut (H a)) (h : H a = some u) (n : ¬ Mut (some u)) : H2 a = some u := by
  rw [f.other a (fun z => n (by have := hm a z; rw [h] at this; exact this))]; exact h
/-- what was not there ahead may be frozen -/
theorem FrzOf.fr (f : FrzOf as H1 H2) (hm : ∀ a ∈ as, Mut (H1 a)) (hx : ∀ a ∈ as, ∀ u, H1 a = some u → Wr u) (g : Fr K S H H1) (hn : ∀ a ∈ as, Nw H a ∨ S a) : Fr K S H H2 := by
  have ne : ∀ {b : Addr} {v : HO}, H1 b = some v → ¬ Wr v → b ∉ as := fun {b v} e n z => n (hx b z v e)
  refine ⟨fun b o e n t => ?_, fun b o e i => ?_, fun t q hq => ?_⟩
  · have h1 := g.keep b o e n t
    rw [f.other b (fun z => (hn b z).elim (fun q => q.ne e t rfl) n)]
    exact h1
  · have h1 := g.imm b o e i
    rw [f.other b (ne h1 (fun w => by cases o <;> first | exact w | exact i))]
    exact h1
  · obtain ⟨ps, h1, h2, h3⟩ := g.tabs t q hq
    refine ⟨ps, by rw [f.other _ (ne h1 fun z => z)]; exact h1, h2, fun pos cv hc => ?_⟩
    obtain ⟨c, e1, e2⟩ := h3 pos cv hc
    exact ⟨c, e1, by rw [f.other _ (ne e2 fun z => z)]; exact e2⟩
end

theorem mut_lst {H : Hp} {a : Addr} {xs : List V} (h : H a = some (.lst xs)) : ∀ b ∈ [a], Mut (H b) := fun b hb => by
  rw [List.mem_singleton.mp hb, h]; trivial
theorem wr_lst {H : Hp} {a : Addr} {xs : List V} (h : H a = some (.lst xs)) : ∀ b ∈ [a], ∀ u, H b = some u → Wr u := fun b hb u e => by
  rw [List.mem_singleton.mp hb, h] at e
  rw [← Option.some.inj e]; trivial
theorem in_one {a : Addr} : a ∈ [a] := List.mem_singleton.mpr rfl
theorem b01 (c : Bool) : -(2 ^ 64) < (if c = true then (1 : Int) else 0) ∧ (if c = true then (1 : Int) else 0) < 2 ^ 64 := by cases c <;> decide
section
variable {K : PySem.W.Frag} {S : Addr → Prop} {H H1 H2 : Hp} {l p q : Addr} {xs : List V}
/-- a new list, frozen at once -/
theorem frz_new (hl : H l = none) (f : FrzOf [l] (upd H l (.lst xs)) H2) : Fr K S H H2 ∧ FzL H2 l xs :=
  ⟨f.fr (mut_lst upd_same) (wr_lst upd_same) (.new hl) fun b hb => .inl (by rw [List.mem_singleton.mp hb]; exact .of hl), f.lst in_one upd_same⟩
/-- an own list, frozen -/
theorem frz_own (g : Fr K S H H1) (hn : Nw H l) (h : H1 l = some (.lst xs)) (f : FrzOf [l] H1 H2) : Fr K S H H2 ∧ FzL H2 l xs ∧ Fr K (fun b => b = l) H1 H2 :=
  ⟨f.fr (mut_lst h) (wr_lst h) g fun b hb => .inl (by rw [List.mem_singleton.mp hb]; exact hn), f.lst in_one h, f.fr (mut_lst h) (wr_lst h) (.refl _) fun b hb => .inr (List.mem_singleton.mp hb)⟩
/-- a new tuple -/
theorem tup_new (hp : H p = none) : Fr K S H (upd H p (.tup xs)) ∧ SqT K (upd H p (.tup xs)) p xs := ⟨.new hp, .of upd_same⟩
end

/-! ### keys, rows of letters, dealings, books -/
def KeyAt (K : PySem.W.Frag) (H : Hp) (a : Addr) (k : KeyD) : Prop := SqT K H a [.str k.1, .int k.2] ∧ PyData.strOk k.1 = true
structure DealD where
  name : Str
  letters : List (Str × Str)
  steps : List (Str × Str)
structure BookD where
  kinds : List (Str × Bool)
  deals : List DealD
/-- a frozen list of pairs of texts -/
def PairsAt (K : PySem.W.Frag) (H : Hp) (l : Addr) (ps : List (Str × Str)) : Prop := ∃ as : List Addr, FzL H l (as.map V.ref) ∧ Paired (fun a (p : Str × Str) => SqT K H a [.str p.1, .str p.2]) as ps
def DealAt (K : PySem.W.Frag) (H : Hp) (a : Addr) (d : DealD) : Prop := ∃ la sa, SqT K H a [.str d.name, .ref la, .ref sa] ∧ PairsAt K H la d.letters ∧ PairsAt K H sa d.steps
def KindsAt (K : PySem.W.Frag) (H : Hp) (l : Addr) (ps : List (Str × Bool)) : Prop := ∃ as : List Addr, FzL H l (as.map V.ref) ∧ Paired (fun a (p : Str × Bool) => SqT K H a [.str p.1, .bl p.2]) as ps
def DealsAt (K : PySem.W.Frag) (H : Hp) (l : Addr) (ds : List DealD) : Prop := ∃ as : List Addr, FzL H l (as.map V.ref) ∧ Paired (DealAt K H) as ds
def BookAt (K : PySem.W.Frag) (H : Hp) (a : Addr) (b : BookD) : Prop := ∃ ka da, SqT K H a [.ref ka, .ref da] ∧ KindsAt K H ka b.kinds ∧ DealsAt K H da b.deals
/-- a frozen list of keys -/
def KeysAt (K : PySem.W.Frag) (H : Hp) (l : Addr) (ks : List KeyD) : Prop := ∃ as : List Addr, FzL H l (as.map V.ref) ∧ Paired (KeyAt K H) as ks
section
variable {K : PySem.W.Frag} {S : Addr → Prop} {H H1 : Hp} {a : Addr}
theorem Fr.key {k : KeyD} (f : Fr K S H H1) (h : KeyAt K H a k) : KeyAt K H1 a k := ⟨f.tup h.1, h.2⟩
theorem Fr.pairs {ps : List (Str × Str)} (f : Fr K S H H1) (h : PairsAt K H a ps) : PairsAt K H1 a ps := by
  obtain ⟨as, h1, h2⟩ := h
  exact ⟨as, f.fzl h1, pd_map h2 fun _ _ z => f.tup z⟩
theorem Fr.deal {d : DealD} (f : Fr K S H H1) (h : DealAt K H a d) : DealAt K H1 a d := by
  obtain ⟨la, sa, h1, h2, h3⟩ := h
  exact ⟨la, sa, f.tup h1, f.pairs h2, f.pairs h3⟩
theorem Fr.kinds {ps : List (Str × Bool)} (f : Fr K S H H1) (h : KindsAt K H a ps) : KindsAt K H1 a ps := by
  obtain ⟨as, h1, h2⟩ := h
  exact ⟨as, f.fzl h1, pd_map h2 fun _ _ z => f.tup z⟩
theorem Fr.dealsAt {ds : List DealD} (f : Fr K S H H1) (h : DealsAt K H a ds) : DealsAt K H1 a ds := by
  obtain ⟨as, h1, h2⟩ := h
  exact ⟨as, f.fzl h1, pd_map h2 fun _ _ z => f.deal z⟩
theorem Fr.book {b : BookD} (f : Fr K S H H1) (h : BookAt K H a b) : BookAt K H1 a b := by
  obtain ⟨ka, da, h1, h2, h3⟩ := h
  exact ⟨ka, da, f.tup h1, f.kinds h2, f.dealsAt h3⟩
theorem Fr.keys {ks : List KeyD} (f : Fr K S H H1) (h : KeysAt K H a ks) : KeysAt K H1 a ks := by
  obtain ⟨as, h1, h2⟩ := h
  exact ⟨as, f.fzl h1, pd_map h2 fun _ _ z => f.key z⟩
end

/-! ### keys as data -/
def kdD (k : KeyD) : PyData := .tuple [.str k.1, .int k.2]
theorem dp_key {K : PySem.W.Frag} {H : Hp} {a : Addr} {k : KeyD} (h : KeyAt K H a k) : Dp K H (.ref a) (kdD k) := .tup h.1 (.cons (.str _) (.cons (.int _) .nil))
theorem dpAll_keys {K : PySem.W.Frag} {H : Hp} : ∀ {as : List Addr} {ks : List KeyD}, Paired (KeyAt K H) as ks → DpAll K H (as.map V.ref) (ks.map kdD)
  | _, _, .nil => .nil
  | _, _, .cons h t => .cons (dp_key h) (dpAll_keys t)
theorem dp_keys {K : PySem.W.Frag} {H : Hp} {p : Addr} {as : List Addr} {ks : List KeyD} (hp : SqL K H p (as.map V.ref)) (h : Paired (KeyAt K H) as ks) : Dp K H (.ref p) (.list (ks.map kdD)) := .lst hp (dpAll_keys h)
theorem can_keys {K : PySem.W.Frag} {H : Hp} : ∀ {as : List Addr} {ks : List KeyD}, Paired (KeyAt K H) as ks → PyData.canLayAll0 (ks.map kdD) = true ∧ PyData.depthAll (ks.map kdD) ≤ 1
  | _, _, .nil => ⟨rfl, Nat.zero_le _⟩
  | _, _, .cons (b := k) h t => by
    obtain ⟨i1, i2⟩ := can_keys t
    refine ⟨?_, ?_⟩
    · rw [List.map_cons]
      simp only [PyData.canLayAll0, kdD, PyData.canLay0, h.2, i1, Bool.and_true, Bool.true_and]
    · rw [List.map_cons]
      simp only [PyData.depthAll, kdD, PyData.depth]
      omega
theorem shaped_key {K : PySem.W.Frag} {H : Hp} {a : Addr} {k : KeyD} (h : KeyAt K H a k) : SeqAt.shaped (kdD k) = true := by
  unfold SeqAt.shaped kdD
  simp only [PyData.canLayAll0, PyData.canLay0, h.2, PyData.depth, PyData.depthAll]
  rfl
theorem shaped_keys {K : PySem.W.Frag} {H : Hp} {as : List Addr} {ks : List KeyD} (h : Paired (KeyAt K H) as ks) : SeqAt.shaped (.list (ks.map kdD)) = true := by
  obtain ⟨h1, h2⟩ := can_keys h
  unfold SeqAt.shaped
  rw [show PyData.canLay0 (.list (ks.map kdD)) = true from h1, Bool.true_and]
  exact decide_eq_true (show PyData.depthAll (ks.map kdD) + 1 ≤ 64 by omega)
theorem eqv_key (k k' : KeyD) : PyData.eqv (kdD k) (kdD k') = decide (k = k') := by
  obtain ⟨a, b⟩ := k
  obtain ⟨c, d⟩ := k'
  simp only [kdD, PyData.eqv, PyData.eqvAll, Bool.and_true]
  by_cases h1 : a = c
  · subst h1
    by_cases h2 : b = d
    · subst h2; simp
    · simp [h2]
  · simp [h1]
theorem any_key (ks : List KeyD) (k : KeyD) : ((ks.map kdD).any fun z => PyData.eqv z (kdD k)) = decide (k ∈ ks) := by
  induction ks with
  | nil => simp
  | cons x xs ih =>
    rw [List.map_cons, List.any_cons, ih, eqv_key]
    by_cases h : x = k
    · subst h; simp
    · have h' : ¬ k = x := fun z => h z.symm
      by_cases h2 : k ∈ xs <;> simp [h, h2, h']
theorem u65_of {A : Around} {k : Nat} (hr : Room k A) : A.units + 65 < cLine := by have := hr.un; omega

/-! ### isinstance -/
theorem kit_tt : kitB "tuple" "tuple" = some true := by decide +kernel
theorem kit_ll : kitB "list" "list" = some true := by decide +kernel
theorem kit_ii : kitB "int" "int" = some true := by decide +kernel
theorem kit_ib : kitB "int" "bool" = some false := by decide +kernel
theorem kit_ss : kitB "str" "str" = some true := by decide +kernel
theorem tyx_tup {K : PySem.W.Frag} {H : Hp} {a : Addr} {xs : List V} (h : SqT K H a xs) : TyX K H (.ref a) (.type "tuple") := by
  rcases h with (h | ⟨o, h⟩) | ⟨o, its, n, h1, h2, _⟩
  · exact .base (.tup h)
  · exact .fTuple h
  · exact .kTuple h1 h2
theorem tyx_list {K : PySem.W.Frag} {H : Hp} {a : Addr} {xs : List V} (h : SqL K H a xs) : TyX K H (.ref a) (.type "list") := by
  rcases h with (h | ⟨o, h⟩) | ⟨o, its, n, h1, h2, _⟩
  · exact .base (.lst h)
  · exact .base (.frz h)
  · exact .kList h1 h2
theorem isi_ok {K : PySem.W.Frag} {H : Hp} {x : V} {t n : String} {b : Bool} {Q : VK} (ty : TyX K H x (.type t)) (k : kitB t n = some b) (q : Q (.bl b) H) : rIsi K [x, .ty n] H Q := ⟨x, .ty n, .type t, .type n, b, rfl, .ty n, ty, kit_ty k, q⟩
theorem small8 : (8 : Nat) < sizeLine := by decide

/-! ### a book as the law makes it -/
structure DealOk (kn : Str) (d : DealD) : Prop where
  lets : 1 ≤ d.letters.length ∧ d.letters.length ≤ 4
  marks : (d.letters.map (·.1)).Nodup
  kind : ∀ p ∈ d.letters, p.2 = kn
  stps : 1 ≤ d.steps.length ∧ d.steps.length ≤ 8
  deed : ∀ p ∈ d.steps, (p.1 = ("read" : Str) ∨ p.1 = ("write" : Str) ∨ p.1 = ("ask" : Str)) ∧ p.2 ∈ d.letters.map (·.1)
structure BookOk (b : BookD) : Prop where
  kinds : ∃ kn many, b.kinds = [(kn, many)] ∧ ∀ d ∈ b.deals, DealOk kn d
  some_ : 1 ≤ b.deals.length ∧ b.deals.length ≤ 3
  names : (b.deals.map (·.name)).Nodup
end Sn
set_option Elab.async false
set_option linter.all false
set_option maxRecDepth 100000
set_option maxHeartbeats 4000000
/-! The program's books and keys. -/
namespace Sn
open PySem PySem.Spec PyProof.Rows L2
section
variable {P : Program} {w : World} {K : PySem.W.Frag} {mg : Str → Option Value} {base : Heap}
def spIsWhole : Sp := fun vs H Q _ => ∃ i : Int, vs = [.int i] ∧ Q (.bl true) H
theorem c_is_whole (T : Tx K mg) : C8.Cal P w K mg base 1 "is_whole" spIsWhole [] := by
  refine T.cal T.D_is_whole T.g_is_whole b_is_whole sc_is_whole (fun vs H Q E h => ?_) (fun cdv A outer s H vs Q E hr h => ?_)
  · obtain ⟨i, rfl, _⟩ := h
    rfl
  · obtain ⟨i, rfl, k⟩ := h
    refine ⟨_, (pss_one (ps_ret (pe_and (pe_callB call_isi (by rfl) T.fr_isinstance bt_isinstance (pa_cons (pv 0) (pa_cons (pe_bltn (v := .ty "int") (by rfl) T.fr_int bt_int rfl) pa_nil))) (pe_one (pe_not (pe_callB call_isi (by rfl) T.fr_isinstance bt_isinstance (pa_cons (pv 0) (pa_cons (pe_bltn (v := .ty "bool") (by rfl) T.fr_bool bt_bool rfl) pa_nil)))))))), ?_⟩
    exact ⟨_, rfl, _, _, _, _, _, rfl, .ty _, .base (.int i), kit_ty kit_ii, _, rfl, iteT ⟨_, rfl, _, _, _, _, _, rfl, .ty _, .base (.int i), kit_ty kit_ib, _, rfl, k⟩⟩
def spIsPair (K : PySem.W.Frag) : Sp := fun vs H Q _ => ∃ (a : Addr) (x y : V), vs = [.ref a] ∧ SqT K H a [x, y] ∧ Q (.bl true) H
theorem c_is_pair (T : Tx K mg) : C8.Cal P w K mg base 1 "is_pair" (spIsPair K) [] := by
  refine T.cal T.D_is_pair T.g_is_pair b_is_pair sc_is_pair (fun vs H Q E h => ?_) (fun cdv A outer s H vs Q E hr h => ?_)
  · obtain ⟨a, x, y, rfl, _⟩ := h
    rfl
  · obtain ⟨a, x, y, rfl, ht, k⟩ := h
    refine ⟨_, (pss_one (ps_ret (pe_and (pe_callB call_isi (by rfl) T.fr_isinstance bt_isinstance (pa_cons (pv 0) (pa_cons (pe_bltn (v := .ty "tuple") (by rfl) T.fr_tuple bt_tuple rfl) pa_nil))) (pe_one (pe_cmpR op_eq (pe_callB call_len_seq (by rfl) T.fr_len bt_len (pa_cons (pv 0) pa_nil)) pe_int (nomark _)))))), ?_⟩
    exact ⟨_, rfl, _, _, _, _, _, rfl, .ty _, tyx_tup ht, kit_ty kit_tt, _, rfl, iteT ⟨_, rfl, a, _, rfl, .inr ht, rfl, k⟩⟩
def spDealingCopied (K : PySem.W.Frag) : Sp := fun vs H Q _ => ∃ (a : Addr) (d : DealD), vs = [.ref a] ∧ DealAt K H a d ∧ ∀ (p : Addr) (H' : Hp), Fr0 K H H' → DealAt K H' p d → Q (.ref p) H'
theorem c_dealing_copied (T : Tx K mg) : C8.Cal P w K mg base 1 "dealing_copied" (spDealingCopied K) [] := by
  refine T.cal T.D_dealing_copied T.g_dealing_copied b_dealing_copied sc_dealing_copied (fun vs H Q E h => ?_) (fun cdv A outer s H vs Q E hr h => ?_)
  · obtain ⟨a, d, rfl, _⟩ := h
    rfl
  · obtain ⟨a, d, rfl, ⟨la, sa, h1, ⟨as, h2, h3⟩, ⟨bs, h4, h5⟩⟩, k⟩ := h
    refine ⟨_, (pss_cons (ps_asg (pv 0) (pg_tup rfl (pgs_cons (pg_name (i := 1) sc_dealing_copied.nd rfl (Or.inl rfl)) (pgs_cons (pg_name (i := 2) sc_dealing_copied.nd rfl (Or.inl rfl)) (pgs_cons (pg_name (i := 3) sc_dealing_copied.nd rfl (Or.inl rfl)) pgs_nil)))))
      (pss_one (ps_ret (pe_tup (pa_cons (pv 1) (pa_cons (pe_frz (pe_callTy call_list_of (by rfl) T.fr_list bt_list (pa_cons (pv 2) pa_nil))) (pa_cons (pe_frz (pe_callTy call_list_of (by rfl) T.fr_list bt_list (pa_cons (pv 3) pa_nil))) pa_nil))))))), ?_⟩
    refine ⟨_, rfl, a, _, rfl, h1, rfl, _, _, rfl, _, _, rfl, _, _, rfl, rfl, ?_⟩
    refine ⟨_, rfl, _, rfl, la, _, rfl, .inl h2.seq, fun l hl => ⟨[l], mut_lst upd_same, fun H2 f2 => ?_⟩⟩
    have g2 : Fr0 K H H2 := f2.fr (mut_lst upd_same) (wr_lst upd_same) (.new hl) fun b hb => .inl (by rw [List.mem_singleton.mp hb]; exact .of hl)
    have q2 : FzL H2 l (as.map V.ref) := f2.lst in_one upd_same
    refine ⟨_, rfl, sa, _, rfl, .inl (g2.fzl h4).seq, fun m hm => ⟨[m], mut_lst upd_same, fun H3 f3 => ?_⟩⟩
    have g3 : Fr0 K H2 H3 := f3.fr (mut_lst upd_same) (wr_lst upd_same) (.new hm) fun b hb => .inl (by rw [List.mem_singleton.mp hb]; exact .of hm)
    have q3 : FzL H3 m (bs.map V.ref) := f3.lst in_one upd_same
    refine ⟨(by show 3 ≤ sizeLine; decide), fun p hp => ?_⟩
    have g4 : Fr0 K H3 (upd H3 p (.tup [.str d.name, .ref l, .ref m])) := .new hp
    have g34 : Fr0 K H _ := (g2.trans g3).trans g4
    exact k p _ g34 ⟨l, m, .of upd_same, ⟨as, (g3.trans g4).fzl q2, pd_map h3 fun _ _ z => g34.tup z⟩, ⟨bs, g4.fzl q3, pd_map h5 fun _ _ z => g34.tup z⟩⟩
def spBookCopied (K : PySem.W.Frag) : Sp := fun vs H Q _ => ∃ (a : Addr) (b : BookD), vs = [.ref a] ∧ BookAt K H a b ∧ b.deals.length ≤ 8 ∧ ∀ (p : Addr) (H' : Hp), Fr0 K H H' → BookAt K H' p b → Q (.ref p) H'
theorem c_book_copied (T : Tx K mg) : C8.Cal P w K mg base 2 "book_copied" (spBookCopied K) [] := by
  have c_dealing_copied : C8.Cal P w K mg base 1 "dealing_copied" (spDealingCopied K) [] := c_dealing_copied T
  refine T.cal T.D_book_copied T.g_book_copied b_book_copied sc_book_copied (fun vs H Q E h => ?_) (fun cdv A outer s H vs Q E hr h => ?_)
  · obtain ⟨a, b, rfl, _⟩ := h
    rfl
  · obtain ⟨a, b, rfl, ⟨ka, da, h1, ⟨ks, h2, h3⟩, ⟨das, h4, h5⟩⟩, hlen, k⟩ := h
    refine ⟨_, (pss_one (ps_ret (pe_tup (pa_cons (pe_frz (pe_callTy call_list_of (by rfl) T.fr_list bt_list (pa_cons (pe_ix ix_tup (pv 0) pe_int (fun _ _ => rfl)) pa_nil))) (pa_cons (pe_frz (pe_lc (own := [("dealing", 1)]) (by rfl) sc_book_copied.nd (pi_list (pe_ix ix_tup (pv 0) pe_int (fun _ _ => rfl))) (blkOk_by (own := [("dealing", 1)]) (N := n_book_copied) (sc := defScope s_book_copied) (by decide +kernel)) (fun _ _ _ _ _ => (pg_name (i := 1) sc_book_copied.nd rfl (Or.inl rfl))) (fun _ _ _ _ _ => pts_nil) (fun _ _ _ _ _ => (C8.pe_c c_dealing_copied hr (by decide) rfl (pa_cons (pv 1) pa_nil))))) pa_nil))))), ?_⟩
    refine ⟨_, rfl, a, _, _, _, rfl, rfl, h1, rfl, ka, _, rfl, .inl h2.seq, fun l hl => ⟨[l], mut_lst upd_same, fun H2 f2 => ?_⟩⟩
    have g2 : Fr0 K H H2 := f2.fr (mut_lst upd_same) (wr_lst upd_same) (.new hl) fun b hb => .inl (by rw [List.mem_singleton.mp hb]; exact .of hl)
    have q2 : FzL H2 l (ks.map V.ref) := f2.lst in_one upd_same
    refine ⟨_, rfl, a, _, _, _, rfl, rfl, g2.tup h1, rfl, da, rfl, ⟨_, (g2.fzl h4).seq⟩, fun D hD => ?_⟩
    have dl := pd_len h5
    refine lc_it (walk_list (K := K) (a := da) (xs := das.map V.ref)) (fun i H3 => Fr0 K H2 H3 ∧ ∃ qs : List Addr, H3 D = some (.lst (qs.map V.ref)) ∧ Paired (DealAt K H3) qs (b.deals.take i)) ?_ ?_ ?_ ?_
    · exact ⟨.new hD, [], upd_same, .nil⟩
    · rintro i H3 hi ⟨g, _⟩
      exact (g.trans (.refl _)).fzl (g2.fzl h4) |>.seq
    · rintro i x H3 H3' hi ⟨g, qs, hq, hp⟩ ⟨rfl, hx⟩
      obtain ⟨da', e1, rfl⟩ := map_get hx
      obtain ⟨d, e2, hd⟩ := pd_getL h5 e1
      refine ⟨rfl, ?_⟩
      refine ⟨_, rfl, da', d, rfl, g.deal (g2.deal hd), fun p H4 f4 hd4 => ?_⟩
      have hn : Nw H2 D := .of hD
      refine ⟨_, f4.lst hq (fun z => z), ?_, ?_, qs ++ [p], ?_, ?_⟩
      · have := pd_len hp
        rw [List.length_take] at this
        rw [List.length_map]
        exact Nat.lt_of_le_of_lt (by omega) small8
      · exact (g.trans f4).own hn (f4.lst hq (fun z => z)) trivial
      · rw [List.map_append]; exact upd_same
      · rw [take_snoc e2]
        have gg : Fr K (fun b => b = D) H4 (upd H4 D (.lst (qs.map V.ref ++ [V.ref p]))) := .at_ rfl (f4.lst hq (fun z => z)) trivial
        exact pd_snoc (pd_map hp fun _ _ z => gg.deal (f4.deal z)) (gg.deal hd4)
    · rintro H3 ⟨g, qs, hq, hp⟩
      have hfull : b.deals.take (das.map V.ref).length = b.deals := List.take_of_length_le (by rw [List.length_map]; omega)
      rw [hfull] at hp
      refine ⟨[D], mut_lst hq, fun H4 f4 => ?_⟩
      have g4 : Fr0 K H2 H4 := f4.fr (mut_lst hq) (wr_lst hq) g fun b hb => .inl (by rw [List.mem_singleton.mp hb]; exact .of hD)
      have g34 : Fr K (fun b => b = D) H3 H4 := f4.fr (mut_lst hq) (wr_lst hq) (.refl _) fun b hb => .inr (List.mem_singleton.mp hb)
      refine ⟨(by show 2 ≤ sizeLine; decide), fun p hp' => ?_⟩
      have g5 : Fr0 K H4 (upd H4 p (.tup [.ref l, .ref D])) := .new hp'
      refine k p _ ((g2.trans g4).trans g5) ⟨l, D, .of upd_same, ⟨ks, (g4.trans g5).fzl q2, pd_map h3 fun _ _ z => ((g2.trans g4).trans g5).tup z⟩, ⟨qs, g5.fzl (f4.lst in_one hq), pd_map hp fun _ _ z => g5.deal (g34.deal z)⟩⟩
end
end Sn
set_option Elab.async false
set_option linter.all false
set_option maxRecDepth 100000
set_option maxHeartbeats 4000000
/-! The program's dealings by name, keys. -/
namespace Sn
open PySem PySem.Spec PyProof.Rows L2
section
variable {P : Program} {w : World} {K : PySem.W.Frag} {mg : Str → Option Value} {base : Heap}
def spNumberBy (K : PySem.W.Frag) : Sp := fun vs H Q _ => ∃ (a : Addr) (b : BookD) (j : Nat) (d : DealD), vs = [.ref a, .str d.name] ∧ BookAt K H a b ∧ (b.deals.map (·.name)).Nodup ∧ b.deals.length ≤ 8 ∧ b.deals[j]? = some d ∧
  ∀ H', Fr0 K H H' → Q (.int (j : Nat)) H'
theorem nd_inj {α β : Type} {f : α → β} {l : List α} (h : (l.map f).Nodup) {i j : Nat} {x y : α} (hx : l[i]? = some x) (hy : l[j]? = some y) (e : f x = f y) : i = j := by
  have hi : i < (l.map f).length := by rw [List.length_map]; exact (List.getElem?_eq_some_iff.mp hx).1
  exact (List.getElem?_inj hi h).mp (by rw [get_map hx, get_map hy, e])
theorem c_number_by (T : Tx K mg) : C8.Cal P w K mg base 1 "number_by" (spNumberBy K) [] := by
  refine T.cal T.D_number_by T.g_number_by b_number_by sc_number_by (fun vs H Q E h => ?_) (fun cdv A outer s H vs Q E hr h => ?_)
  · obtain ⟨a, b, j, d, rfl, _⟩ := h
    rfl
  · obtain ⟨a, b, j, d, rfl, ⟨ka, da, h1, h2, ⟨das, h4, h5⟩⟩, nd, hl, hj, k⟩ := h
    have hu := hu_of hr
    refine ⟨_, (pss_cons (ps_set (i := 2) sc_number_by.nd rfl (Or.inl rfl) pe_dnewK)
      (pss_cons (ps_for PassesOwn.never rfl (pi_enum (by rfl) T.fr_enumerate (pa_cons (pe_ix ix_tup (pv 0) pe_int (fun _ _ => rfl)) pa_nil)) (pg_tup rfl (pgs_cons (pg_name (i := 3) sc_number_by.nd rfl (Or.inl rfl)) (pgs_cons (pg_name (i := 4) sc_number_by.nd rfl (Or.inl rfl)) pgs_nil)))
        (pss_one (ps_dput hu (pv 2) (pe_ix ix_tup (pv 4) pe_int (fun _ _ => rfl)) (pv 3) rfl)))
      (pss_cons (ps_if (pt_not (pt_val (pe_callB call_isi (by rfl) T.fr_isinstance bt_isinstance (pa_cons (pv 1) (pa_cons (pe_bltn (v := .ty "str") (by rfl) T.fr_str bt_str rfl) pa_nil)))))
        (pss_one ps_never)
        pss_nil)
      (pss_one (ps_try_thru0 
        (pss_one (ps_ret (pe_dget hu (pv 2) (pv 1) (fun _ _ => rfl))))))))), ?_⟩
    refine fun D hD => ?_
    have g1 : Fr0 K H (upd H D (.dK [])) := .new hD
    refine ⟨_, rfl, a, _, _, _, rfl, rfl, g1.tup h1, rfl, da, _, rfl, (g1.fzl h4).seq, ?_⟩
    refine for_it (walk_enum (K := K) (a := da) (xs := das.map V.ref)) (fun i σ' H' => (∃ x y, σ' = [some (.ref a), some (.str d.name), some (.ref D), x, y, none]) ∧ Fr0 K H H' ∧ ∃ kvs : List (Key × V), H' D = some (.dK kvs) ∧ kvs.length ≤ i ∧
      ∀ (m : Nat) e, m < i → b.deals[m]? = some e → valV kvs (.inr e.name) = some (.int (m : Nat))) ?_ ?_ ?_ ?_
    · exact ⟨⟨none, none, rfl⟩, g1, [], upd_same, Nat.le_refl _, fun m e hm => absurd hm (Nat.not_lt_zero _)⟩
    · rintro i σ' H' _ ⟨_, g, _⟩
      exact (g.fzl h4).seq
    · rintro i x σ' H' H'' hi ⟨⟨x', y', rfl⟩, g, kvs, hk, hkl, hv⟩ ⟨t, u, v, rfl, ht, rfl, hu1, hu2⟩
      obtain ⟨da', e1, rfl⟩ := map_get hu2
      obtain ⟨e, e2, hd⟩ := pd_getL h5 e1
      obtain rfl := Option.some.inj hu1
      have gt : Fr0 K H' (upd H' t (.tup [.int (i : Nat), .ref da'])) := .new ht
      obtain ⟨la, sa, hdt, _⟩ := (g.trans gt).deal hd
      refine ⟨t, _, rfl, .of upd_same, rfl, _, _, rfl, _, _, rfl, rfl, ?_⟩
      refine ⟨_, rfl, _, rfl, _, rfl, da', _, _, _, rfl, rfl, hdt, rfl, ?_⟩
      have hkD : upd H' t (.tup [.int (i : Nat), .ref da']) D = some (.dK kvs) := gt.dK hk (fun z => z)
      have hlt : i < b.deals.length := (List.getElem?_eq_some_iff.mp e2).1
      refine ⟨D, _, rfl, DPut.k (k := .inr e.name) hkD (Nat.lt_of_le_of_lt (by omega) small8), ⟨_, _, rfl⟩, ?_, _, upd_same, Nat.le_trans (length_putK _ _ _) (by omega), ?_⟩
      · exact (g.trans gt).own (.of hD) hkD trivial
      · intro m e' hm he'
        rw [valV_put]
        split
        · rename_i hc
          rw [nd_inj nd he' e2 (Sum.inr.inj hc)]
        · rename_i hc
          have : m ≠ i := fun z => by
            rw [z, e2] at he'
            exact hc (by rw [Option.some.inj he'])
          exact hv m e' (by omega) he'
    · rintro σ' H' ⟨⟨x', y', rfl⟩, g, kvs, hk, hkl, hv⟩
      refine ⟨_, rfl, _, _, _, _, _, rfl, .ty _, .base (.str _), kit_ty kit_ss, _, rfl, ?_⟩
      refine ⟨_, rfl, _, rfl, D, _, rfl, ?_, k _ g⟩
      have hj' : j < (das.map V.ref).length := by
        rw [List.length_map, pd_len h5]
        exact (List.getElem?_eq_some_iff.mp hj).1
      have := DGet.k (k := .inr d.name) hk
      rwa [hv j d hj' hj] at this
def spDealingBy (K : PySem.W.Frag) : Sp := fun vs H Q _ => ∃ (a : Addr) (b : BookD) (j : Nat) (d : DealD), vs = [.ref a, .str d.name] ∧ BookAt K H a b ∧ (b.deals.map (·.name)).Nodup ∧ b.deals.length ≤ 8 ∧ b.deals[j]? = some d ∧
  ∀ (p : Addr) (H' : Hp), Fr0 K H H' → DealAt K H' p d → Q (.ref p) H'
theorem c_dealing_by (T : Tx K mg) : C8.Cal P w K mg base 2 "dealing_by" (spDealingBy K) [] := by
  have c_dealing_copied : C8.Cal P w K mg base 1 "dealing_copied" (spDealingCopied K) [] := c_dealing_copied T
  have c_number_by : C8.Cal P w K mg base 1 "number_by" (spNumberBy K) [] := c_number_by T
  refine T.cal T.D_dealing_by T.g_dealing_by b_dealing_by sc_dealing_by (fun vs H Q E h => ?_) (fun cdv A outer s H vs Q E hr h => ?_)
  · obtain ⟨a, b, j, d, rfl, _⟩ := h
    rfl
  · obtain ⟨a, b, j, d, rfl, hb, nd, hl, hj, k⟩ := h
    obtain ⟨ka, da, h1, h2, ⟨das, h4, h5⟩⟩ := hb
    refine ⟨_, (pss_one (ps_ret (C8.pe_c c_dealing_copied hr (by decide) rfl (pa_cons (pe_ix ix_list (pe_ix ix_tup (pv 0) pe_int (fun _ _ => rfl)) (C8.pe_c c_number_by hr (by decide) rfl (pa_cons (pv 0) (pa_cons (pv 1) pa_nil))) (fun _ _ => rfl)) pa_nil)))), ?_⟩
    refine ⟨_, rfl, a, _, _, _, rfl, rfl, h1, rfl, _, rfl, _, rfl, a, b, j, d, rfl, ⟨ka, da, h1, h2, ⟨das, h4, h5⟩⟩, nd, hl, hj, fun H1 g1 => ?_⟩
    obtain ⟨da', e1, hd⟩ := pd_get h5 hj
    exact ⟨da, _, _, .ref da', rfl, rfl, (g1.fzl h4).seq, at_of rfl (get_map e1), da', d, rfl, g1.deal hd, fun p H2 g2 hp => k p H2 (g1.trans g2) hp⟩
/-- a key that fits its kind -/
def spIsKeyBy (K : PySem.W.Frag) : Sp := fun vs H Q _ => ∃ (D a : Addr) (k : KeyD) (many : Bool), vs = [.ref D, .ref a] ∧ Rd H D (.dK [(.inr k.1, .bl many)]) ∧ KeyAt K H a k ∧ 0 ≤ k.2 ∧ (many = true ∨ k.2 = 0) ∧ Q (.bl true) H
theorem c_is_key_by (T : Tx K mg) : C8.Cal P w K mg base 2 "is_key_by" (spIsKeyBy K) [] := by
  have c_is_pair : C8.Cal P w K mg base 1 "is_pair" (spIsPair K) [] := c_is_pair T
  have c_is_whole : C8.Cal P w K mg base 1 "is_whole" spIsWhole [] := c_is_whole T
  refine T.cal T.D_is_key_by T.g_is_key_by b_is_key_by sc_is_key_by (fun vs H Q E h => ?_) (fun cdv A outer s H vs Q E hr h => ?_)
  · obtain ⟨D, a, k, many, rfl, _⟩ := h
    rfl
  · obtain ⟨D, a, k, many, rfl, hD, hk, h0, hm, q⟩ := h
    have hu := hu_of hr
    refine ⟨_, (pss_cons (ps_if (PW.pt (pw_or (pt_not (pt_val (C8.pe_c c_is_pair hr (by decide) rfl (pa_cons (pv 1) pa_nil)))) (pw_or (pt_not (pt_val (pe_callB call_isi (by rfl) T.fr_isinstance bt_isinstance (pa_cons (pe_ix ix_tup (pv 1) pe_int (fun _ _ => rfl)) (pa_cons (pe_bltn (v := .ty "str") (by rfl) T.fr_str bt_str rfl) pa_nil))))) (pw_or (pt_not (pt_val (C8.pe_c c_is_whole hr (by decide) rfl (pa_cons (pe_ix ix_tup (pv 1) pe_int (fun _ _ => rfl)) pa_nil)))) (pw_or1 (pt_cmpR op_lt (pe_ix ix_tup (pv 1) pe_int (fun _ _ => rfl)) pe_int (nomark _)))))))
        (pss_one (ps_ret pe_bl))
        pss_nil)
      (pss_one (ps_ret (pe_and (pe_cmp (pc_din hu (pe_ix ix_tup (pv 1) pe_int (fun _ _ => rfl)) (pv 0))) (pe_one (pe_or (pe_dget hu (pv 0) (pe_ix ix_tup (pv 1) pe_int (fun _ _ => rfl)) (fun _ _ => rfl)) (pe_one (pe_cmpR op_eq (pe_ix ix_tup (pv 1) pe_int (fun _ _ => rfl)) pe_int (nomark _))))))))), ?_⟩
    have hv : valV [((.inr k.1 : Key), V.bl many)] (.inr k.1) = some (.bl many) := valV_pos rfl
    have hd := fun r (e : r = valV [((.inr k.1 : Key), V.bl many)] (.inr k.1)) => (.inl ⟨_, (.inr k.1 : Key), hD, rfl, e⟩ : DGet H D (.str k.1) r)
    have n0 : decide (k.2 < 0) = false := decide_eq_false (by omega)
    refine ⟨_, rfl, a, _, _, rfl, hk.1, _, rfl, ?_⟩
    refine ⟨_, rfl, a, _, _, _, rfl, rfl, hk.1, rfl, _, _, _, _, _, rfl, .ty _, .base (.str _), kit_ty kit_ss, _, rfl, ?_⟩
    refine ⟨_, rfl, a, _, _, _, rfl, rfl, hk.1, rfl, _, rfl, _, rfl, ?_⟩
    refine ⟨_, rfl, a, _, _, _, rfl, rfl, hk.1, rfl, _, _, rfl, rfl, _, rfl, ?_⟩
    rw [n0]
    refine ⟨_, rfl, a, _, _, _, rfl, rfl, hk.1, rfl, _, rfl, D, _, rfl, hd _ hv.symm, _, rfl, iteT ?_⟩
    refine ⟨_, rfl, _, rfl, a, _, _, _, rfl, rfl, hk.1, rfl, D, _, rfl, hd _ hv.symm, _, rfl, ?_⟩
    cases many with
    | true => exact q
    | false =>
      have z : k.2 = 0 := hm.resolve_left (by decide)
      refine ⟨_, rfl, a, _, _, _, rfl, rfl, hk.1, rfl, rfl, ?_⟩
      rw [z]
      exact q
end
end Sn
set_option Elab.async false
set_option linter.all false
set_option maxRecDepth 100000
set_option maxHeartbeats 4000000
/-! for x, y in zip(a, b, strict=True) of two lists of one length. -/
namespace PySem
/-- a strict zip -/
abbrev IsZipS (h : Heap) (z TI TO : Addr) (f0 : Value) : Prop :=
  h.get? z = some { cls := .type "zip", dict := none, data := .fields #[f0, .bool false, .bool true, .ref TI, .ref TO], slots := #[] }
theorem tc_zipS (a b c : Value) : checkTypeCall "zip" ⟨[a, b], [(Str.ofString "strict", c)]⟩ = pure () := by kernel_rfl
theorem nc_zipS (a b c : Value) : checkBuiltinCall "zip.__new__" ⟨[.type "zip", a, b], [(Str.ofString "strict", c)]⟩ = pure () := by kernel_rfl
theorem oi_zipS (obj a b c : Value) : argsOk "object.__init__" ⟨[obj, a, b], [(Str.ofString "strict", c)]⟩ := by unfold argsOk; kernel_rfl
abbrev zipS5 (h : Heap) (l1 l2 : Addr) : Heap := (zipH4 h l1 l2).push { cls := .type "zip", data := .fields #[.none, .bool false, .bool true, .ref (zipH2 h l1 l2).objs.size, .ref (zipH3 h l1 l2).objs.size] }
theorem meets_zipS (l1 l2 : Addr) (xs ys : Array Value) :
    Meets (Builtin.«zip.__new__» ⟨[.type "zip", .ref l1, .ref l2], [(Str.ofString "strict", .bool true)]⟩) (fun _ R s => s.heap.IsList l1 xs ∧ s.heap.IsList l2 ys ∧
      R (.ok (.ret (.ref (zipH4 s.heap l1 l2).objs.size))) { s with heap := zipS5 s.heap l1 l2 }) :=
  .of_wp fun prog w A R s h => by
    obtain ⟨hp, g, d, tk, os⟩ := s; obtain ⟨hl1, hl2, h⟩ := h
    have hsub := sub_zip
    have hL1 : Heap.IsList (Shared.heap ⟨hp, g, d, tk, os⟩) l1 xs := hl1
    have hL2 : Heap.IsList (Shared.heap ⟨hp.push { cls := .type "list_iterator", data := .fields #[.ref l1, .int 0 0] }, g, d, tk, os⟩) l2 ys := Heap.IsList.push hl2 _
    have e2 : (Str.ofString "strict" != ("strict" : Str)) = false := by decide +kernel
    wp_walk using wpAny_pyIter_list hL1, wpAny_pyIter_list hL2
    exact ⟨_, rfl, h⟩
section
variable {prog : Program} {w : World} {A : Around} {E : Value → Shared → Prop} {s : Shared}
theorem call_zipS {l1 l2 : Addr} {xs ys : Array Value} {Q : Value → Shared → Prop} (hl1 : s.heap.IsList l1 xs) (hl2 : s.heap.IsList l2 ys)
    (h : ∀ h', IsZipS h' (s.heap.objs.size + 4) (s.heap.objs.size + 2) (s.heap.objs.size + 3) .none → IsPair h' (s.heap.objs.size + 2) (.ref s.heap.objs.size) (.ref (s.heap.objs.size + 1)) →
      IsPair h' (s.heap.objs.size + 3) .none .none → h'.IsListIter s.heap.objs.size l1 0 → h'.IsListIter (s.heap.objs.size + 1) l2 0 →
      (∀ c o, s.heap.get? c = some o → h'.get? c = some o) → Q (.ref (s.heap.objs.size + 4)) { s with heap := h' }) :
    wpAny (model prog w) A (call (.type "zip") [.ref l1, .ref l2] [(Str.ofString "strict", .bool true)]) Q E s := by
  refine callType_newKw F.called_zip (by decide) (tc_zipS _ _ _) (nc_zipS _ _ _) (fun obj => oi_zipS obj _ _ _) F.entry_zip_new (meets_zipS l1 l2 xs ys) ⟨hl1, hl2, ?_⟩
  have z1 : (zipH1 s.heap l1).objs.size = s.heap.objs.size + 1 := Heap.size_push ..
  have z2 : (zipH2 s.heap l1 l2).objs.size = s.heap.objs.size + 2 := by rw [Heap.size_push, z1]
  have z3 : (zipH3 s.heap l1 l2).objs.size = s.heap.objs.size + 3 := by rw [Heap.size_push, z2]
  have z4 : (zipH4 s.heap l1 l2).objs.size = s.heap.objs.size + 4 := by rw [Heap.size_push, z3]
  have up : ∀ c o, (zipH4 s.heap l1 l2).get? c = some o → (zipS5 s.heap l1 l2).get? c = some o := fun c o e => Heap.get?_push_of_some _ e
  have up4 : ∀ c o, (zipH3 s.heap l1 l2).get? c = some o → (zipS5 s.heap l1 l2).get? c = some o := fun c o e => up c o (Heap.get?_push_of_some _ e)
  have up3 : ∀ c o, (zipH2 s.heap l1 l2).get? c = some o → (zipS5 s.heap l1 l2).get? c = some o := fun c o e => up4 c o (Heap.get?_push_of_some _ e)
  have up2 : ∀ c o, (zipH1 s.heap l1).get? c = some o → (zipS5 s.heap l1 l2).get? c = some o := fun c o e => up3 c o (Heap.get?_push_of_some _ e)
  have hz : IsZipS (zipS5 s.heap l1 l2) (s.heap.objs.size + 4) (s.heap.objs.size + 2) (s.heap.objs.size + 3) .none := by
    have := Heap.get?_push_size (zipH4 s.heap l1 l2) (o := { cls := .type "zip", data := .fields #[.none, .bool false, .bool true, .ref (zipH2 s.heap l1 l2).objs.size, .ref (zipH3 s.heap l1 l2).objs.size] }) rfl
    rw [z4] at this
    refine this.trans ?_
    rw [z2, z3]
  show _ ∧ _
  rw [z4]
  refine ⟨⟨_, hz, rfl⟩, h _ hz ?_ ?_ ?_ ?_ fun c o e => up2 c o (Heap.get?_push_of_some _ e)⟩
  · have := up4 _ _ (Heap.get?_push_size (zipH2 s.heap l1 l2) (o := { cls := .type "tuple", data := .seq #[.ref s.heap.objs.size, .ref (zipH1 s.heap l1).objs.size] }) rfl)
    rw [z2, z1] at this
    exact this
  · have := up _ _ (Heap.get?_push_size (zipH3 s.heap l1 l2) (o := { cls := .type "tuple", data := .seq #[.none, .none] }) rfl)
    rw [z3] at this
    exact this
  · exact ⟨_, up2 _ _ (Heap.get?_push_size s.heap rfl), rfl, rfl⟩
  · have := up3 _ _ (Heap.get?_push_size (zipH1 s.heap l1) (o := { cls := .type "list_iterator", data := .fields #[.ref l2, .int 0 0] }) rfl)
    rw [z1] at this
    exact ⟨_, this, rfl, rfl⟩
theorem nextOrEnd_item {it l : Addr} {i : Nat} {items} {x : Value} {Q : Option Value → Shared → Prop} (hit : s.heap.IsListIter it l i) (hl : s.heap.IsList l items) (hx : items[i]? = some x)
    (hQ : ∀ h', h'.IsListIter it l (i + 1) → Heap.SameBut it s.heap h' → Q (some x) { s with heap := h' }) : wpAny (model prog w) A (Builtin.SmallTypes.nextOrEnd (.ref it)) Q E s := by
  unfold Builtin.SmallTypes.nextOrEnd
  exact wpAny_bind (wpAny_attempt (wpAny_nextOf_list_item hit hl hx fun h' a b => wpAny_pure (hQ h' a b)))
theorem nextOrEnd_end {it l : Addr} {i : Nat} {items} {Q : Option Value → Shared → Prop} (hh : A.handled = none) (hit : s.heap.IsListIter it l i) (hl : s.heap.IsList l items) (hx : items[i]? = none)
    (hQ : ∀ h', Heap.ExtBut it s.heap h' → Q none { s with heap := h' }) : wpAny (model prog w) A (Builtin.SmallTypes.nextOrEnd (.ref it)) Q E s := by
  unfold Builtin.SmallTypes.nextOrEnd
  refine wpAny_bind (wpAny_attempt (wpAny_nextOf_list_end hh hit hl hx fun h' e hb ⟨o, ho, hc⟩ => ?_))
  exact wpAny_bind (wpAny_isInstance (T := "StopIteration") (b := true) ⟨o, ho, hc⟩ isSubtype_stop (wpAny_pure (hQ h' hb)))
theorem stopS {α : Type} {Q : α → Shared → Prop} (hh : A.handled = none) (hE : ∀ h' e, (∀ c o, s.heap.get? c = some o → h'.get? c = some o) → (∃ o, h'.get? e = some o ∧ o.cls = .type "StopIteration") → E (.ref e) { s with heap := h' }) :
    wpAny (model prog w) A (Builtin.SmallTypes.stopIteration (α := α)) Q E s := by
  show wpAny _ _ (newExc (.type "StopIteration") [] >>= _) _ _ _
  refine wpAny_bind ?_
  simp only [newExc, newTuple]
  refine wpAny_bind (wpAny_newObj_type ?_ (by size_fits))
  refine wpAny_bind (m := firstArgMember _ _) (wpAny_of_eq (a := Value.none) (by first | rfl | (simp only [firstArgMember]; rfl)) ?_)
  refine wpAny_newObj_type ?_ (by size_fits)
  simp only [raiseNew]
  refine wpAny_bind (wpAny_handled ?_)
  first | rw [show A.in1.handled = none from hh] | rw [hh]
  refine wpAny_bind (wpAny_pure (wpAny_throw ?_))
  exact hE _ _ (fun c o x => Heap.get?_push_of_some _ (Heap.get?_push_of_some _ x)) ⟨_, Heap.get?_push_size _ rfl, rfl⟩
/-- the step of a strict zip -/
theorem zipS_item {z TI TO i1 i2 l1 l2 : Addr} {k1 k2 : Nat} {xs ys : Array Value} {x y a b : Value} {Q : Value → Shared → Prop} (D : ZipApart z TI TO i1 i2 l1 l2)
    (hz : IsZipS s.heap z TI TO .none) (hTI : IsPair s.heap TI (.ref i1) (.ref i2)) (hTO : IsPair s.heap TO a b)
    (h1 : s.heap.IsListIter i1 l1 k1) (h2 : s.heap.IsListIter i2 l2 k2) (hl1 : s.heap.IsList l1 xs) (hl2 : s.heap.IsList l2 ys) (hx : xs[k1]? = some x) (hy : ys[k2]? = some y)
    (hQ : ∀ h', IsZipS h' z TI TO (rawInt s.heap.objs.size) → IsPair h' TO x y → h'.IsListIter i1 l1 (k1 + 1) → h'.IsListIter i2 l2 (k2 + 1) → IsPair h' s.heap.objs.size x y →
      (∀ c o, c ≠ z → c ≠ TO → c ≠ i1 → c ≠ i2 → s.heap.get? c = some o → h'.get? c = some o) → Q (.ref s.heap.objs.size) { s with heap := h' }) :
    wpAny (model prog w) A (Builtin.«zip.__next__» ⟨[.ref z], []⟩) (fun fin s' => ∃ v, fin = .done (.ret v) ∧ Q v s') E s := by
  show wpAny _ _ (field (.ref z) 2 >>= _) _ _ _
  refine wpAny_bind (wpAny_field hz rfl (x := .bool true) rfl ?_)
  show wpAny _ _ (field (.ref z) 3 >>= _) _ _ _
  refine wpAny_bind (wpAny_field hz rfl (x := .ref TI) rfl ?_)
  refine wpAny_bind (wpAny_seqItems hTI rfl ?_)
  show wpAny _ _ (Builtin.SmallTypes.ownedTupleIsFree (.ref z) >>= _) _ _ _
  refine wpAny_bind ?_
  unfold Builtin.SmallTypes.ownedTupleIsFree
  refine wpAny_bind (wpAny_field hz rfl (x := .none) rfl (wpAny_pure ?_))
  simp only [if_true]
  refine wpAny_bind (wpAny_rule ?_)
  refine wpAny_bind (wpAny_field hz rfl (x := .ref TO) rfl ?_)
  refine wpAny_bind (wpAny_setField_rec hz (by simp) fun g1 hz1 hs1 => ?_)
  replace hz1 : IsZipS g1 z TI TO .ellipsis := hz1
  refine wpAny_bind ?_
  simp only [List.zipIdx_cons, List.zipIdx_nil, List.forIn_cons, List.forIn_nil]
  refine wpAny_bind (wpAny_bind (wpAny_onRaise ?_))
  show wpAny _ _ (Builtin.SmallTypes.nextOrEnd (.ref i1)) _ _ _
  refine nextOrEnd_item (h1.extBut hs1.extBut D.i1z) (hl1.extBut hs1.extBut D.l1z) hx fun g2 h12 hs2 => ?_
  have hTO2 : IsPair g2 TO a b := hs2.extBut _ _ D.TOi1 (hs1.extBut _ _ D.TOz hTO)
  refine wpAny_bind (wpAny_seqItems hTO2 rfl ?_)
  refine wpAny_bind (wpAny_updateSeq_pair hTO2 fun g3 hTO3 hs3 => ?_)
  replace hTO3 : IsPair g3 TO x b := hTO3
  refine wpAny_bind (wpAny_letGo (wpAny_pure ?_))
  refine wpAny_bind (wpAny_bind (wpAny_onRaise ?_))
  show wpAny _ _ (Builtin.SmallTypes.nextOrEnd (.ref i2)) _ _ _
  refine nextOrEnd_item (((h2.extBut hs1.extBut D.i2z).extBut hs2.extBut D.i12.symm).extBut hs3.extBut D.TOi2.symm)
    (((hl2.extBut hs1.extBut D.l2z).extBut hs2.extBut D.l2i1).extBut hs3.extBut D.l2TO) hy fun g4 h24 hs4 => ?_
  have hTO4 : IsPair g4 TO x b := hs4.extBut _ _ D.TOi2 hTO3
  refine wpAny_bind (wpAny_seqItems hTO4 rfl ?_)
  refine wpAny_bind (wpAny_updateSeq_pair hTO4 fun g5 hTO5 hs5 => ?_)
  replace hTO5 : IsPair g5 TO x y := hTO5
  refine wpAny_bind (wpAny_letGo (wpAny_pure (wpAny_pure ?_)))
  refine wpAny_bind (wpAny_seqItems hTO5 rfl ?_)
  refine wpAny_bind (wpAny_newTuple ?_)
  have hsz : g5.objs.size = s.heap.objs.size := by rw [hs5.1, hs4.1, hs3.1, hs2.1, hs1.1]
  have hz5 : IsZipS g5 z TI TO .ellipsis := hs5.extBut _ _ D.TOz.symm (hs4.extBut _ _ D.i2z.symm (hs3.extBut _ _ D.TOz.symm (hs2.extBut _ _ D.i1z.symm hz1)))
  have hk5 : ∀ c o, c ≠ z → c ≠ TO → c ≠ i1 → c ≠ i2 → s.heap.get? c = some o → g5.get? c = some o := fun c o c1 c2 c3 c4 e =>
    hs5.extBut _ _ c2 (hs4.extBut _ _ c4 (hs3.extBut _ _ c2 (hs2.extBut _ _ c3 (hs1.extBut _ _ c1 e))))
  have h15 : g5.IsListIter i1 l1 (k1 + 1) := ((h12.extBut hs3.extBut D.TOi1.symm).extBut hs4.extBut D.i12).extBut hs5.extBut D.TOi1.symm
  have h25 : g5.IsListIter i2 l2 (k2 + 1) := h24.extBut hs5.extBut D.TOi2.symm
  have hzlt : z < g5.objs.size := Heap.lt_size hz5
  show wpAny _ _ (Builtin.SmallTypes.ownedTupleHandOut (.ref z) (.ref g5.objs.size) >>= _) _ _ _
  refine wpAny_bind ?_
  unfold Builtin.SmallTypes.ownedTupleHandOut
  have hz6 : IsZipS (g5.push { cls := .type "tuple", data := .seq #[x, y] }) z TI TO .ellipsis := Heap.get?_push_of_some _ hz5
  refine wpAny_bind (wpAny_setField_rec hz6 (by simp) fun g7 hz7 hs7 => ?_)
  replace hz7 : IsZipS g7 z TI TO (rawInt g5.objs.size) := hz7
  refine wpAny_setField_rec hz7 (by simp) fun g8 hz8 hs8 => ?_
  replace hz8 : IsZipS g8 z TI TO (rawInt g5.objs.size) := hz8
  have up : ∀ c o, c ≠ z → g5.get? c = some o → g8.get? c = some o := fun c o c1 e => hs8.extBut _ _ c1 (hs7.extBut _ _ c1 (Heap.get?_push_of_some _ e))
  have hT8 : IsPair g8 g5.objs.size x y := hs8.extBut _ _ (Nat.ne_of_gt hzlt) (hs7.extBut _ _ (Nat.ne_of_gt hzlt) (Heap.get?_push_size _ rfl))
  rw [hsz] at hz8 hT8
  refine wpAny_pure ⟨_, rfl, ?_⟩
  show Q (.ref g5.objs.size) _
  rw [hsz]
  exact hQ g8 hz8 (up _ _ D.TOz hTO5) (h15.at fun o e => up _ o D.i1z e) (h25.at fun o e => up _ o D.i2z e) hT8 fun c o c1 c2 c3 c4 e => up c o c1 (hk5 c o c1 c2 c3 c4 e)
theorem zipS_end {z TI TO i1 i2 l1 l2 : Addr} {k1 k2 : Nat} {xs ys : Array Value} {a b : Value} {Q : Fin → Shared → Prop} (hh : A.handled = none) (D : ZipApart z TI TO i1 i2 l1 l2)
    (hz : IsZipS s.heap z TI TO .none) (hTI : IsPair s.heap TI (.ref i1) (.ref i2)) (hTO : IsPair s.heap TO a b)
    (h1 : s.heap.IsListIter i1 l1 k1) (h2 : s.heap.IsListIter i2 l2 k2) (hl1 : s.heap.IsList l1 xs) (hl2 : s.heap.IsList l2 ys) (hx : xs[k1]? = none) (hy : ys[k2]? = none)
    (hE : ∀ h' e, (∀ c o, c ≠ z → c ≠ TO → c ≠ i1 → c ≠ i2 → s.heap.get? c = some o → h'.get? c = some o) → (∃ o, h'.get? e = some o ∧ o.cls = .type "StopIteration") → E (.ref e) { s with heap := h' }) :
    wpAny (model prog w) A (Builtin.«zip.__next__» ⟨[.ref z], []⟩) Q E s := by
  show wpAny _ _ (field (.ref z) 2 >>= _) _ _ _
  refine wpAny_bind (wpAny_field hz rfl (x := .bool true) rfl ?_)
  show wpAny _ _ (field (.ref z) 3 >>= _) _ _ _
  refine wpAny_bind (wpAny_field hz rfl (x := .ref TI) rfl ?_)
  refine wpAny_bind (wpAny_seqItems hTI rfl ?_)
  show wpAny _ _ (Builtin.SmallTypes.ownedTupleIsFree (.ref z) >>= _) _ _ _
  refine wpAny_bind ?_
  unfold Builtin.SmallTypes.ownedTupleIsFree
  refine wpAny_bind (wpAny_field hz rfl (x := .none) rfl (wpAny_pure ?_))
  simp only [if_true]
  refine wpAny_bind (wpAny_rule ?_)
  refine wpAny_bind (wpAny_field hz rfl (x := .ref TO) rfl ?_)
  refine wpAny_bind (wpAny_setField_rec hz (by simp) fun g1 hz1 hs1 => ?_)
  replace hz1 : IsZipS g1 z TI TO .ellipsis := hz1
  refine wpAny_bind ?_
  simp only [List.zipIdx_cons, List.zipIdx_nil, List.forIn_cons, List.forIn_nil]
  refine wpAny_bind (wpAny_bind (wpAny_onRaise ?_))
  show wpAny _ _ (Builtin.SmallTypes.nextOrEnd (.ref i1)) _ _ _
  refine nextOrEnd_end hh (h1.extBut hs1.extBut D.i1z) (hl1.extBut hs1.extBut D.l1z) hx fun g2 hs2 => ?_
  have hz2 : IsZipS g2 z TI TO .ellipsis := hs2 _ _ D.i1z.symm hz1
  refine wpAny_bind (wpAny_setField_rec hz2 (by simp) fun g3 hz3 hs3 => ?_)
  refine wpAny_bind (wpAny_bind ?_)
  show wpAny _ _ (forIn [(Value.ref i2, 1)] PUnit.unit _) _ _ _
  simp only [List.forIn_cons, List.forIn_nil]
  refine wpAny_bind (wpAny_bind (nextOrEnd_end hh (((h2.extBut hs1.extBut D.i2z).extBut hs2 D.i12.symm).extBut hs3.extBut D.i2z) (((hl2.extBut hs1.extBut D.l2z).extBut hs2 D.l2i1).extBut hs3.extBut D.l2z) hy fun g4 hs4 => ?_))
  refine wpAny_pure (wpAny_pure (wpAny_bind (wpAny_rule ?_)))
  refine stopS hh fun g5 e hs5 he => hE g5 e (fun c o c1 c2 c3 c4 x => hs5 _ _ (hs4 _ _ c4 (hs3.extBut _ _ c1 (hs2 _ _ c3 (hs1.extBut _ _ c1 x))))) he
theorem next_zipS_item {z TI TO i1 i2 l1 l2 : Addr} {k1 k2 : Nat} {xs ys : Array Value} {x y a b : Value} {Q : Option Value → Shared → Prop} (D : ZipApart z TI TO i1 i2 l1 l2)
    (hz : IsZipS s.heap z TI TO .none) (hTI : IsPair s.heap TI (.ref i1) (.ref i2)) (hTO : IsPair s.heap TO a b)
    (h1 : s.heap.IsListIter i1 l1 k1) (h2 : s.heap.IsListIter i2 l2 k2) (hl1 : s.heap.IsList l1 xs) (hl2 : s.heap.IsList l2 ys) (hx : xs[k1]? = some x) (hy : ys[k2]? = some y)
    (hQ : ∀ h', IsZipS h' z TI TO (rawInt s.heap.objs.size) → IsPair h' TO x y → h'.IsListIter i1 l1 (k1 + 1) → h'.IsListIter i2 l2 (k2 + 1) → IsPair h' s.heap.objs.size x y →
      (∀ c o, c ≠ z → c ≠ TO → c ≠ i1 → c ≠ i2 → s.heap.get? c = some o → h'.get? c = some o) → Q (some (.ref s.heap.objs.size)) { s with heap := h' }) :
    wpAny (model prog w) A (pyNext (.ref z)) Q E s := by
  have hT : s.TypeIs (.ref z) "zip" := ⟨_, hz, rfl⟩
  unfold pyNext
  exact wpAny_bind (wpAny_attempt (wpAny_callSpecial?_slot (name := Str.ofString "__next__") hT F.slot_zip_next
    (wpAny_call_entry F.slot_zip_next hT F.entry_zip_next (zipS_item D hz hTI hTO h1 h2 hl1 hl2 hx hy fun h' a1 a2 a3 a4 a5 a6 => wpAny_pure (hQ h' a1 a2 a3 a4 a5 a6)) (F.args_zip_next_1 _))))
theorem next_zipS_end {z TI TO i1 i2 l1 l2 : Addr} {k1 k2 : Nat} {xs ys : Array Value} {a b : Value} {Q : Option Value → Shared → Prop} (hh : A.handled = none) (D : ZipApart z TI TO i1 i2 l1 l2)
    (hz : IsZipS s.heap z TI TO .none) (hTI : IsPair s.heap TI (.ref i1) (.ref i2)) (hTO : IsPair s.heap TO a b)
    (h1 : s.heap.IsListIter i1 l1 k1) (h2 : s.heap.IsListIter i2 l2 k2) (hl1 : s.heap.IsList l1 xs) (hl2 : s.heap.IsList l2 ys) (hx : xs[k1]? = none) (hy : ys[k2]? = none)
    (hQ : ∀ h', (∀ c o, c ≠ z → c ≠ TO → c ≠ i1 → c ≠ i2 → s.heap.get? c = some o → h'.get? c = some o) → Q none { s with heap := h' }) : wpAny (model prog w) A (pyNext (.ref z)) Q E s := by
  have hT : s.TypeIs (.ref z) "zip" := ⟨_, hz, rfl⟩
  unfold pyNext
  refine wpAny_bind (wpAny_attempt (wpAny_callSpecial?_slot (name := Str.ofString "__next__") hT F.slot_zip_next
    (wpAny_call_entry F.slot_zip_next hT F.entry_zip_next (zipS_end hh D hz hTI hTO h1 h2 hl1 hl2 hx hy fun h' e hk ⟨o, ho, hc⟩ => ?_) (F.args_zip_next_1 _))))
  exact wpAny_bind (wpAny_isInstance (T := "StopIteration") (b := true) ⟨o, ho, hc⟩ isSubtype_stop (wpAny_pure (hQ _ hk)))
theorem letGo_zipS {elts : List Expr} {x1} {pos : Pos} {z TI TO T : Addr} {Q : Unit → Shared → Prop} (hz : IsZipS s.heap z TI TO (rawInt T))
    (hQ : ∀ h', IsZipS h' z TI TO .none → Heap.SameBut z s.heap h' → Q () { s with heap := h' }) :
    wpAny (model prog w) A (letOwnedTupleGo (.Tuple elts x1 pos) (.ref z) (.ref T)) Q E s := by
  unfold letOwnedTupleGo
  refine wpAny_bind (wpAny_load hz ?_)
  show wpAny _ _ (if (["enumerate", "zip", "dict_itemiterator", "dict_reverseitemiterator", "odict_iterator", "itertools.zip_longest", "itertools.pairwise"].contains "zip" &&
      (#[rawInt T, .bool false, .bool true, .ref TI, .ref TO] : Array Value)[0]? == some (rawInt T)) = true then _ else _) Q E s
  rw [if_pos (by simp)]
  refine wpAny_bind (wpAny_rule ?_)
  show wpAny _ _ (setField (.ref z) 0 .none) Q E s
  exact wpAny_setField_rec hz (by simp) fun h' hz' hs' => hQ h' hz' hs'
theorem pyIter_zipS {z TI TO : Addr} {f0 : Value} {Q : Value → Shared → Prop} (hz : IsZipS s.heap z TI TO f0) (h : Q (.ref z) s) : wpAny (model prog w) A (pyIter (.ref z)) Q E s := by
  have hT : s.TypeIs (.ref z) "zip" := ⟨_, hz, rfl⟩
  refine wpAny_pyIter_slot hT F.slot_zip_iter (wpAny_call_entry F.slot_zip_iter hT F.entry_zip_iter ?_ (F.args_zip_iter_1 _))
  show wpAny _ _ (ret (.ref z)) _ _ s
  exact wpAny_pure ⟨_, rfl, "zip", _, hT, F.slot_zip_next.lookup, h⟩
end
end PySem
namespace Sn
open PySem PySem.Spec PyProof.Rows L2
/-- two lists of one length, item by item in new pairs -/
def ItzS (K : PySem.W.Frag) (a b : Addr) : It :=
  ⟨fun i H => ∃ (xs ys : List V) (x y : V), SqL K H a xs ∧ SqL K H b ys ∧ xs[i]? = some x ∧ ys[i]? = some y,
    fun i H v H' => ∃ T x y, v = .ref T ∧ H T = none ∧ H' = upd H T (.tup [x, y]) ∧ (∀ xs, SqL K H a xs → xs[i]? = some x) ∧ ∀ ys, SqL K H b ys → ys[i]? = some y,
    fun i H => ∃ xs ys : List V, SqL K H a xs ∧ SqL K H b ys ∧ xs.length ≤ i ∧ ys.length ≤ i⟩
theorem turn_zipS {P : Program} {w : World} {K : PySem.W.Frag} {elts : List Expr} {kk : Nat} {tpos : Pos} {a b z TI TO i1 i2 : Addr} (D : ZipApart z TI TO i1 i2 a b) :
    Turn P w K (.Tuple elts kk tpos) (ItzS K a b) [z, TI, TO, i1, i2] z (fun i h => IsZipS h z TI TO .none ∧ IsPair h TI (.ref i1) (.ref i2) ∧ (∃ x y, IsPair h TO x y) ∧ h.IsListIter i1 a i ∧ h.IsListIter i2 b i) where
  mem := by simp
  obj := fun i h st c hc => by
    obtain ⟨hz, hTI, ⟨x, y, hTO⟩, ⟨o1, e1, _, d1⟩, ⟨o2, e2, _, d2⟩⟩ := st
    simp only [List.mem_cons, List.not_mem_nil, or_false] at hc
    rcases hc with rfl | rfl | rfl | rfl | rfl
    · exact ⟨_, hz, fun v q => nomatch q⟩
    · exact ⟨_, hTI, fun v q => nomatch q⟩
    · exact ⟨_, hTO, fun v q => nomatch q⟩
    · exact ⟨o1, e1, fun v q => by rw [d1] at q; cases q⟩
    · exact ⟨o2, e2, fun v q => by rw [d2] at q; cases q⟩
  keep := fun i h h' st k => by
    obtain ⟨hz, hTI, ⟨x, y, hTO⟩, h1, h2⟩ := st
    exact ⟨k z (by simp) _ hz, k TI (by simp) _ hTI, ⟨x, y, k TO (by simp) _ hTO⟩, h1.at fun o q => k i1 (by simp) o q, h2.at fun o q => k i2 (by simp) o q⟩
  item := by
    intro X hP hw hK hc i pins s σ H E I hf st hg
    subst hP hw hK
    obtain ⟨hz, hTI, ⟨x0, y0, hTO⟩, h1, h2⟩ := st
    obtain ⟨xs, ys, x, y, hqx, hqy, hx, hy⟩ := hg
    obtain ⟨its, rv, p, _⟩ := I.list hqx
    obtain ⟨its2, rv2, p2, _⟩ := I.list hqy
    obtain ⟨u, hu, ru⟩ := rv.get hx
    obtain ⟨u2, hu2, ru2⟩ := rv2.get hy
    have hzl : z < s.heap.objs.size := Heap.lt_size hz
    have nin : ∀ {c : Addr}, c ∉ [z, TI, TO, i1, i2] → c ≠ z ∧ c ≠ TO ∧ c ≠ i1 ∧ c ≠ i2 := fun hb => ⟨fun q => hb (by simp [q]), fun q => hb (by simp [q]), fun q => hb (by simp [q]), fun q => hb (by simp [q])⟩
    refine next_zipS_item D hz hTI hTO h1 h2 p.isList p2.isList (x := u) (y := u2) (by simpa using hu) (by simpa using hu2) fun h' z' TO' h1' h2' hT hk => ?_
    refine ⟨_, rfl, letGo_zipS (s := { s with heap := h' }) z' fun h'' z'' sb => ?_⟩
    have hT2 : h''.get? s.heap.objs.size = some { cls := .type "tuple", data := .seq #[u, u2] } := (sb.2 _ (Nat.ne_of_gt hzl)).trans hT
    have new : ObjOk X.prog X.w (upd H s.heap.objs.size (.tup [x, y])) h'' s.heap.objs.size (.tup [x, y]) :=
      ⟨by show 2 ≤ sizeLine; decide, [u, u2], .cons ru (.cons ru2 .nil), ⟨_, hT2, rfl, _, rfl⟩⟩
    have I1 : L2.Inv X pins σ (upd H s.heap.objs.size (.tup [x, y])) { s with heap := h'' } :=
      I.turnedNew (t' := s.toks) (ch := [z, TI, TO, i1, i2]) (fun c o hb q => (sb.2 c (nin hb).1).trans (hk c o (nin hb).1 (nin hb).2.1 (nin hb).2.2.1 (nin hb).2.2.2 q)) hf (Nat.le_refl _) new
    refine ⟨.ref s.heap.objs.size, _, I1, rfl, ⟨_, x, y, rfl, I.hok.fresh (Nat.le_refl _), rfl, fun l hl => by rw [I.list_inj hl hqx]; exact hx, fun l hl => by rw [I.list_inj hl hqy]; exact hy⟩, ⟨z'', ?_, ⟨u, u2, ?_⟩, ?_, ?_⟩, fun c hcm => ?_⟩
    · exact (sb.2 _ D.TIz).trans (hk _ _ D.TIz D.TITO D.TIi1 D.TIi2 hTI)
    · exact (sb.2 _ D.TOz).trans TO'
    · exact h1'.at fun o q => (sb.2 _ D.i1z).trans q
    · exact h2'.at fun o q => (sb.2 _ D.i2z).trans q
    · have hlt : c < s.heap.objs.size := by
        simp only [List.mem_cons, List.not_mem_nil, or_false] at hcm
        obtain ⟨_, e1, _⟩ := h1
        obtain ⟨_, e2, _⟩ := h2
        rcases hcm with rfl | rfl | rfl | rfl | rfl
        · exact hzl
        · exact Heap.lt_size hTI
        · exact Heap.lt_size hTO
        · exact Heap.lt_size e1
        · exact Heap.lt_size e2
      rw [upd_ne (Nat.ne_of_lt hlt)]
      exact (hf c hcm).1
  done := by
    intro X hP hw hK hc i pins s σ H E I hf st hg
    subst hP hw hK
    obtain ⟨hz, hTI, ⟨x0, y0, hTO⟩, h1, h2⟩ := st
    obtain ⟨xs, ys, hqx, hqy, e1, e2⟩ := hg
    obtain ⟨its, rv, p, _⟩ := I.list hqx
    obtain ⟨its2, rv2, p2, _⟩ := I.list hqy
    have l1 := rv.length
    have l2 := rv2.length
    have nin : ∀ {c : Addr}, c ∉ [z, TI, TO, i1, i2] → c ≠ z ∧ c ≠ TO ∧ c ≠ i1 ∧ c ≠ i2 := fun hb => ⟨fun q => hb (by simp [q]), fun q => hb (by simp [q]), fun q => hb (by simp [q]), fun q => hb (by simp [q])⟩
    exact next_zipS_end (I.ok.hd hc) D hz hTI hTO h1 h2 p.isList p2.isList (by simp; omega) (by simp; omega) fun h' hk => ⟨rfl, I.turnedL (t' := s.toks) (ch := [z, TI, TO, i1, i2]) (fun c o hb q =>
      hk c o (nin hb).1 (nin hb).2.1 (nin hb).2.2.1 (nin hb).2.2.2 q) hf⟩
  self := fun A i s Q E st h => pyIter_zipS st.1 h
def iZipS (K : PySem.W.Frag) (ta : TA) : TI := fun σ H R => ta σ H fun vs H1 => ∃ a b xs ys, vs = [.ref a, .ref b] ∧ SqL K H1 a xs ∧ SqL K H1 b ys ∧ R (ItzS K a b) H1
/-- a type of the machine called with keywords -/
theorem callWith_tyKw {M : Model} {A : Around} {E : Value → Shared → Prop} {s : Shared} {env : Env} {pos : Pos} {T : String} {e : Expr} {rest : List Expr} {kws : List Keyword} {Q : Value → Shared → Prop} (hall : (backToKw pos (keywordEach kws env)).all (·.1.isSome) = true)
    (h : wpAny M A (spliced (backTo pos (starEach (e :: rest) env))) (fun vs s1 => wpAny M A (evalAll ((backToKw pos (keywordEach kws env)).map (·.2))) (fun ks s2 => wpAny M A (call (.type T) vs (((backToKw pos (keywordEach kws env)).filterMap (·.1)).zip ks)) Q E s2) E s1) E s)
    (hplain : ((backTo pos (starEach (e :: rest) env)).any (·.1) || (backToKw pos (keywordEach kws env)).any (·.1.isNone)) = false) (he : starEach (e :: rest) env = (false, eval e env) :: starEach rest env) :
    wpAny M A (callWith pos (.type T) [] (backTo pos (starEach (e :: rest) env)) (backToKw pos (keywordEach kws env))) Q E s := by
  unfold callWith
  refine wpAny_bind (wpAny_holding (wpAny_mono (evalArgs_kw2 (f := .type T) (Q := fun a s2 => wpAny M A (call (.type T) a.pos a.kw) Q E s2) hall h he) (fun a s1 h1 => wpAny_bind (wpAny_standAt ?_)) fun _ _ x => x))
  simp only [hplain]
  refine wpAny_bind (wpAny_pure ?_)
  exact wpAny_bind (wpAny_mono h1 (fun r s2 hr => wpAny_bind (wpAny_holding (wpAny_point (wpAny_pure hr)))) fun _ _ x => x)
theorem pi_zipS {X : Cx} {e e2 : Expr} {ta : TA} {p pos tpos kp cp : Pos} {elts : List Expr} {kk kj : Nat} (hg : Gl X "zip") (hm : X.mg "zip" = none) (ha : PA X [e, e2] ta)
    (hs : starEach [e, e2] X.env = (false, eval e X.env) :: starEach [e2] X.env := by rfl) (hpl : ((backTo pos (starEach [e, e2] X.env)).any (·.1) || (backToKw pos (keywordEach [⟨some "strict", .Constant (.bool true) kj cp, kp⟩] X.env)).any (·.1.isNone)) = false := by rfl) :
    PI X (.Tuple elts kk tpos) (.Call (.Name "zip" p) [e, e2] [⟨some "strict", .Constant (.bool true) kj cp, kp⟩] pos) (iZipS X.K ta) := by
  refine ⟨fun pins s σ H R I h => ?_⟩
  refine wpAny_Call_Name_kw (ld_blt I hg hm PyProof.Rows.boot_zip ?_)
  refine callWith_tyKw rfl (thn (ha.run pos pins s σ H _ I h) fun us s1 ⟨vs, H1, I1, r1, a, b, xs, ys, ex, hqx, hqy, q⟩ =>
    thn ((pk_cons (X := X) (nm := some "strict") (kpos := kp) (pe_bl (b := true) (j := kj) (pos := cp)) pk_nil).run pos pins s1 σ H1 (fun zs H2 => zs = [.bl true] ∧ H2 = H1) I1 ⟨rfl, rfl⟩) fun ws s2 ⟨zs, H2, I2, r2, e2, e3⟩ => ?_) hpl hs
  subst ex e2 e3
  obtain ⟨u, u2, rfl, ru, ru2⟩ := vals2 r1
  cases ru
  cases ru2
  obtain ⟨u3, rfl, ru3⟩ := vals1 r2
  cases ru3
  obtain ⟨its, rv, p1, _⟩ := I2.list hqx
  obtain ⟨its2, rv2, p2, _⟩ := I2.list hqy
  have la : a < s2.heap.objs.size := p1.lt
  have lb : b < s2.heap.objs.size := p2.lt
  refine call_zipS p1.isList p2.isList fun h' hz hTI hTO h1 h2 hk => pyIter_zipS hz ?_
  have I3 : L2.Inv X pins σ H2 { s2 with heap := h' } := I2.kept (t' := s2.toks) hk
  refine ⟨s2.heap.objs.size + 4, [s2.heap.objs.size + 4, s2.heap.objs.size + 2, s2.heap.objs.size + 3, s2.heap.objs.size, s2.heap.objs.size + 1], _, _, H2, rfl, I3, turn_zipS (PySem.W.ktu_apart s2.heap.objs.size a b la lb), ⟨hz, hTI, ⟨_, _, hTO⟩, h1, h2⟩, fun c hcm => ?_, q⟩
  simp only [List.mem_cons, List.not_mem_nil, or_false] at hcm
  have hle : s2.heap.objs.size ≤ c := by rcases hcm with rfl | rfl | rfl | rfl | rfl <;> omega
  exact I2.fpOk hle (I2.hok.fresh hle)
theorem walk_zipS {K : PySem.W.Frag} {a b : Addr} {xs ys : List V} (hn : xs.length = ys.length) : Walk (ItzS K a b) xs.length (fun H => SqL K H a xs ∧ SqL K H b ys) (YPair (fun i => xs[i]?) (fun i => ys[i]?)) :=
  ⟨fun i H hi q => ⟨xs, ys, xs[i], ys[i]'(by omega), q.1, q.2, by simp [hi], by simp [show i < ys.length by omega]⟩, fun H q => ⟨xs, ys, q.1, q.2, Nat.le_refl _, by omega⟩,
    fun i H x H' hi q ⟨T, x1, y1, e1, e2, e3, e4, e5⟩ => ⟨T, x1, y1, e1, e2, e3, e4 xs q.1, e5 ys q.2⟩⟩
end Sn
set_option Elab.async false
set_option linter.all false
set_option maxRecDepth 100000
set_option maxHeartbeats 4000000
/-! dict(zip(a, b)). -/
namespace Sn
open PySem PySem.Spec PyProof.Rows L2
def tDZ (K : PySem.W.Frag) (ta : TA) : TE := fun σ H Q => ta σ H fun vs H1 => ∃ (a b : Addr) (ks : List Key) (ys : List V), vs = [.ref a, .ref b] ∧ SqL K H1 a (ks.map kV) ∧ SqL K H1 b ys ∧ ks.length = ys.length ∧
  ∀ p, H1 p = none → Q (.ref p) (upd H1 p (.dK (mergeK [] (ks.zip ys))))
theorem kv_zip {ks : List Key} {us ws : List Value} {ys : List V} (r : Vals (ks.map kV) us) (r' : Vals ys ws) : KV (ks.zip ys) (ks.zip ws) := by
  induction ks generalizing us ys ws with
  | nil => exact .nil
  | cons k ks ih =>
    cases r with
    | cons h t =>
      cases r' with
      | nil => exact .nil
      | cons h' t' => exact .cons ⟨rfl, h'⟩ (ih t t')
theorem pe_dictzip {X : Cx} {e e2 : Expr} {ta : TA} {p1 p pos pos1 : Pos} (hgd : Gl X "dict") (hmd : X.mg "dict" = none) (hvd : bootBuiltins "dict" = some (.type "dict")) (hgz : Gl X "zip") (hmz : X.mg "zip" = none) (hcalm : X.calm = true) (ha : PA X [e, e2] ta)
    (hs : starEach [e, e2] X.env = (false, eval e X.env) :: starEach [e2] X.env := by rfl) (hpl : (backTo pos (starEach [e2] X.env)).any (·.1) = false := by rfl) :
    PE X (.Call (.Name "dict" p1) [.Call (.Name "zip" p) [e, e2] [] pos] [] pos1) (tDZ X.K ta) := by
  refine ⟨fun pins s σ H Q I h => ?_⟩
  refine wpAny_Call_Name_kw (ld_blt I hgd hmd hvd ?_)
  refine PyProof.Rows.callWith_type1 ?_ rfl rfl
  show wpAny _ _ (spliced [(false, _)]) _ _ s
  refine Calls.spliced_cons ?_
  refine Call_ (ld_blt I hgz hmz PyProof.Rows.boot_zip (PyProof.Rows.callWith_type1 (thn (ha.run pos pins s σ H _ I h) fun us s1 ⟨vs, H1, I1, r1, q1⟩ => ?_) hs hpl))
  obtain ⟨a, b, ks, ys, ex, hqx, hqy, hlen, q⟩ := q1
  subst ex
  obtain ⟨u, u2, rfl, ru, ru2⟩ := vals2 r1
  cases ru
  cases ru2
  obtain ⟨its, rv, p1, _⟩ := I1.list hqx
  obtain ⟨its2, rv2, p2, hz2⟩ := I1.list hqy
  have la : a < s1.heap.objs.size := p1.lt
  have lb : b < s1.heap.objs.size := p2.lt
  refine call_zip_2 p1.isList p2.isList fun h' hz hTI hTO h1 h2 hsz hk => ?_
  refine Calls.spliced_nil ?_
  have l1 := rv.length
  have l2 := rv2.length
  rw [List.length_map] at l1
  have hmin : min its.toArray.size its2.toArray.size = (ks.zip its2).length := by simp [← l1]
  have ok := PairArg.zip (prog := X.prog) (w := X.w) (s1.heap.objs.size + 4) (s1.heap.objs.size + 2) (s1.heap.objs.size + 3) s1.heap.objs.size (s1.heap.objs.size + 1) a b (PySem.W.ktu_apart s1.heap.objs.size a b la lb) its.toArray its2.toArray
  refine PySem.call_dict_pairs (knd := mixKind X.prog X.w) (kvs := ks.zip its2) ok (I.ok.hd hcalm) ⟨hz, hTI, ⟨_, _, hTO⟩, h1, h2, p1.isList.at fun o e => hk _ o e, p2.isList.at fun o e => hk _ o e⟩ ⟨hmin.symm, fun i key v hr => ?_⟩ ?_ fun h'' tk hd k => ?_
  · obtain ⟨e1, e2⟩ := hr
    have hi : i < ks.length := by
      have := (List.getElem?_eq_some_iff.mp (show its[i]? = some key by simpa using e1)).1
      omega
    obtain ⟨u, hu, hru⟩ := rv.get (i := i) (x := kV ks[i]) (by simp [hi])
    have : u = key := by
      have h3 : its[i]? = some key := by simpa using e1
      exact Option.some.inj (hu.symm.trans h3)
    subst this
    refine ⟨ks[i], ?_, kV_is hru⟩
    rw [List.getElem?_zip_eq_some]
    exact ⟨by simp [hi], by simpa using e2⟩
  · have := hz2
    rw [hmin, List.length_zip]
    omega
  · have hlen' : (mergeK [] (ks.zip ys)).length ≤ sizeLine := by
      refine Nat.le_trans (length_mergeK _ []) ?_
      rw [List.length_nil, Nat.zero_add, List.length_zip]
      omega
    have big := I1.big
    have hm : (h'.objs.size == sysModules) = false := beq_eq_false_iff_ne.mpr (by rw [hsz]; exact Nat.ne_of_gt (Nat.lt_of_lt_of_le big (Nat.le_add_right _ 5)))
    have kk : ∀ b o, s1.heap.get? b = some o → h''.get? b = some o := fun b o e => by
      have hb := Heap.lt_size e
      refine k b o (fun hm => ?_) (hk b o e)
      have n : ∀ j : Nat, b = s1.heap.objs.size + j → False := fun j z => absurd hb (by rw [z]; exact Nat.not_lt.mpr (Nat.le_add_right _ _))
      simp only [List.mem_cons, List.not_mem_nil, or_false] at hm
      rcases hm with z | z | z | z
      · exact n 4 z
      · exact n 3 z
      · exact n 0 z
      · exact n 1 z
    refine ⟨.ref h'.objs.size, upd H1 h'.objs.size (.dK (mergeK [] (ks.zip ys))), I1.laid (t' := tk) kk (by rw [hsz]; omega) (show ObjOk X.prog X.w _ _ _ (.dK (mergeK [] (ks.zip ys))) from ⟨hlen', hm, merged [] (ks.zip its2), KV.merge (kv_zip rv rv2) .nil, hd⟩), rfl, q _ (I1.hok.fresh (by rw [hsz]; omega))⟩
end Sn
set_option Elab.async false
set_option linter.all false
set_option maxRecDepth 100000
set_option maxHeartbeats 4000000
/-! are_keys; the class Deal. -/
namespace Sn
open PySem PySem.Spec PyProof.Rows L2
/-- keys that fit a dealing -/
structure KeysFit (b : BookD) (d : DealD) (ks : List KeyD) : Prop where
  len : ks.length = d.letters.length
  each : ∃ kn many, b.kinds = [(kn, many)] ∧ (∀ p ∈ d.letters, p.2 = kn) ∧ ∀ k ∈ ks, k.1 = kn ∧ 0 ≤ k.2 ∧ (many = true ∨ k.2 = 0)
/-- the step's key -/
def keyOf (d : DealD) (ks : List KeyD) (mark : Str) : KeyD := (ks[(d.letters.map (·.1)).idxOf mark]?).getD default
def resolve (d : DealD) (ks : List KeyD) : List (Str × KeyD) := d.steps.map fun p => (p.1, keyOf d ks p.2)
theorem merge_out {k : Key} : ∀ {kvs acc : List (Key × V)}, k ∉ kvs.map (·.1) → valV (mergeK acc kvs) k = valV acc k
  | [], acc, _ => rfl
  | p :: r, acc, h => by
    rw [List.map_cons, List.mem_cons, not_or] at h
    show valV (mergeK (putK acc p.1 p.2) r) k = _
    rw [merge_out h.2, valV_put, if_neg h.1]
theorem merge_at {k : Key} {v : V} : ∀ {ks : List Key} {vs : List V} {acc : List (Key × V)} {i : Nat}, ks.Nodup → ks[i]? = some k → vs[i]? = some v → valV (mergeK acc (ks.zip vs)) k = some v
  | [], vs, acc, i, _, h, _ => by simp at h
  | _ :: _, [], acc, i, _, _, h => by simp at h
  | k0 :: ks, v0 :: vs, acc, 0, nd, h, h' => by
    simp at h h'
    subst h h'
    rw [List.nodup_cons] at nd
    show valV (mergeK (putK acc k0 v0) (ks.zip vs)) k0 = _
    rw [merge_out (fun z => nd.1 ?_), valV_put, if_pos rfl]
    obtain ⟨p, hp, rfl⟩ := List.mem_map.mp z
    exact (List.of_mem_zip (a := p.1) (b := p.2) hp).1
  | k0 :: ks, v0 :: vs, acc, i + 1, nd, h, h' => by
    rw [List.nodup_cons] at nd
    exact merge_at (acc := putK acc k0 v0) nd.2 (by simpa using h) (by simpa using h')
structure DA where
  a : Addr
  dx : Addr
  kb : Addr
  al : Addr
  tl : Addr
def endV : Option Nat → V
  | none => .non
  | some e => .int (e : Nat)
def ToldAt (K : PySem.W.Frag) (H : Hp) (t : Addr) (x : Str × KeyD × Option Nat) : Prop := ∃ ka, SqT K H t [.str x.1, .ref ka, endV x.2.2] ∧ KeyAt K H ka x.2.1
structure DealObj (K : PySem.W.Frag) (H : Hp) (x : DA) (m : DM) : Prop where
  ins : ∃ ti gi, H x.a = some (.ins (He.ga K "Deal") x.dx [("title", ti), ("given", gi), ("key_by", .ref x.kb), ("ahead", .ref x.al), ("told", .ref x.tl), ("begun", .int (m.begun : Nat)), ("ended", endV m.ended), ("word", .str m.word)])
  told : ∃ ts : List Addr, H x.tl = some (.lst (ts.map V.ref)) ∧ Paired (ToldAt K H) ts m.told
  ahead : ∃ o kvs steps, PairsAt K H x.al steps ∧ H x.kb = some (.frz o (.dK kvs)) ∧ Paired (fun (p : Str × Str) (q : Str × KeyD) => p.1 = q.1 ∧ ∃ ka, valV kvs (.inr p.2) = some (.ref ka) ∧ KeyAt K H ka q.2) steps m.ahead
/-- a list of keys (any) -/
def WKeys (K : PySem.W.Frag) (H : Hp) (p : Addr) (ks : List KeyD) : Prop := ∃ as : List Addr, SqL K H p (as.map V.ref) ∧ Paired (KeyAt K H) as ks
section
variable {P : Program} {w : World} {K : PySem.W.Frag} {mg : Str → Option Value} {base : Heap} {S : Addr → Prop} {H H1 : Hp}
theorem KeysAt.wk {p : Addr} {ks : List KeyD} (h : KeysAt K H p ks) : WKeys K H p ks := let ⟨as, h1, h2⟩ := h; ⟨as, h1.seq, h2⟩
theorem Fr.told {t : Addr} {x : Str × KeyD × Option Nat} (f : Fr K S H H1) (h : ToldAt K H t x) : ToldAt K H1 t x := let ⟨ka, h1, h2⟩ := h; ⟨ka, f.tup h1, f.key h2⟩
theorem Fr.dealObj {x : DA} {m : DM} (f : Fr K S H H1) (h : DealObj K H x m) (n1 : ¬ S x.a) (n2 : ¬ S x.tl) : DealObj K H1 x m := by
  obtain ⟨⟨ti, gi, h1⟩, ⟨ts, h2, h3⟩, ⟨o, kvs, steps, h4, h5, h6⟩⟩ := h
  exact ⟨⟨ti, gi, f.ins h1 n1⟩, ⟨ts, f.lst h2 n2, pd_map h3 fun _ _ z => f.told z⟩, ⟨o, kvs, steps, f.pairs h4, f.imm _ _ h5 trivial, pd_map h6 fun _ _ ⟨e, ka, z1, z2⟩ => ⟨e, ka, z1, f.key z2⟩⟩⟩
def spAreKeys (K : PySem.W.Frag) : Sp := fun vs H Q _ => ∃ (a kl : Addr) (b : BookD) (j : Nat) (d : DealD) (ks : List KeyD), vs = [.ref a, .str d.name, .ref kl] ∧ BookAt K H a b ∧ (b.deals.map (·.name)).Nodup ∧ b.deals.length ≤ 8 ∧ b.deals[j]? = some d ∧ KeysAt K H kl ks ∧ KeysFit b d ks ∧
  ∀ (H' : Hp), Fr0 K H H' → Q (.bl true) H'
theorem c_are_keys (T : Tx K mg) : C8.Cal P w K mg base 3 "are_keys" (spAreKeys K) [] := by
  have c_dealing_by : C8.Cal P w K mg base 2 "dealing_by" (spDealingBy K) [] := c_dealing_by T
  have c_is_key_by : C8.Cal P w K mg base 2 "is_key_by" (spIsKeyBy K) [] := c_is_key_by T
  refine T.cal T.D_are_keys T.g_are_keys b_are_keys sc_are_keys (fun vs H Q E h => ?_) (fun cdv A outer s H vs Q E hr h => ?_)
  · obtain ⟨a, kl, b, j, d, ks, rfl, _⟩ := h
    rfl
  · obtain ⟨a, kl, b, j, d, ks, rfl, hb, nd, hl, hj, ⟨kas, hk1, hk2⟩, ⟨flen, kn, many, fk, flet, feach⟩, k⟩ := h
    refine ⟨_, (pss_cons (ps_set (i := 3) sc_are_keys.nd rfl (Or.inl rfl) (pe_ix ix_tup (C8.pe_c c_dealing_by hr (by decide) rfl (pa_cons (pv 0) (pa_cons (pv 1) pa_nil))) pe_int (fun _ _ => rfl)))
      (pss_cons (ps_if (PW.pt (pw_or (pt_not (pt_val (pe_callB call_isi (by rfl) T.fr_isinstance bt_isinstance (pa_cons (pv 2) (pa_cons (pe_bltn (v := .ty "list") (by rfl) T.fr_list bt_list rfl) pa_nil))))) (pw_or1 (pt_cmpR op_ne (pe_callB call_len_seq (by rfl) T.fr_len bt_len (pa_cons (pv 2) pa_nil)) (pe_callB call_len_seq (by rfl) T.fr_len bt_len (pa_cons (pv 3) pa_nil)) (nomark _)))))
        (pss_one (ps_ret pe_bl))
        pss_nil)
      (pss_cons (ps_set (i := 4) sc_are_keys.nd rfl (Or.inl rfl) (pe_callTy (call_dictP rfl) (by rfl) T.fr_dict bt_dict (pa_cons (pe_ix ix_tup (pv 0) pe_int (fun _ _ => rfl)) pa_nil)))
      (pss_cons (ps_for PassesOwn.never rfl (pi_zipS (by rfl) T.fr_zip (pa_cons (pv 3) (pa_cons (pv 2) pa_nil))) (pg_tup rfl (pgs_cons (pg_name (i := 5) sc_are_keys.nd rfl (Or.inl rfl)) (pgs_cons (pg_name (i := 6) sc_are_keys.nd rfl (Or.inl rfl)) pgs_nil)))
        (pss_one (ps_if (PW.pt (pw_or (pt_not (pt_val (C8.pe_c c_is_key_by hr (by decide) rfl (pa_cons (pv 4) (pa_cons (pv 6) pa_nil))))) (pw_or1 (pt_cmpR op_ne (pe_ix ix_tup (pv 6) pe_int (fun _ _ => rfl)) (pe_ix ix_tup (pv 5) pe_int (fun _ _ => rfl)) (nomark _)))))
          (pss_one (ps_ret pe_bl))
          pss_nil)))
      (pss_one (ps_ret pe_bl)))))), ?_⟩
    refine ⟨_, rfl, _, rfl, a, b, j, d, rfl, hb, nd, hl, hj, fun dp H1 g1 hd => ?_⟩
    obtain ⟨la, sa, hd1, ⟨las, hl1, hl2⟩, _⟩ := hd
    refine ⟨dp, _, _, _, rfl, rfl, hd1, rfl, ?_⟩
    have hkl1 := g1.fzl hk1
    have e1 : kas.length = ks.length := pd_len hk2
    have e2 : las.length = d.letters.length := pd_len hl2
    refine ⟨_, rfl, _, _, _, _, _, rfl, .ty _, tyx_list hkl1.seq, kit_ty kit_ll, _, rfl, ?_⟩
    refine ⟨_, rfl, kl, _, rfl, .inl hkl1.seq, _, rfl, la, _, rfl, .inl hl1.seq, rfl, _, rfl, ?_⟩
    rw [List.length_map, List.length_map, e1, e2, flen]
    refine ite2 (fun c => ?_) (fun _ => ?_)
    · simp at c
    obtain ⟨ka, da, hb1, ⟨kks, hb2, hb3⟩, _⟩ := g1.book hb
    rw [fk] at hb3
    refine ⟨_, rfl, a, _, _, _, rfl, rfl, hb1, rfl, ka, kks, [(.inr kn, .bl many)], rfl, hb2.seq, ?_, fun D hD => ?_⟩
    · cases hb3 with
      | cons h t => cases t; exact .cons h .nil
    have g2 : Fr0 K H1 (upd H1 D (.dK (mergeK [] [(.inr kn, .bl many)]))) := .new hD
    have gD : upd H1 D (.dK (mergeK [] [((.inr kn : Key), V.bl many)])) D = some (.dK [(.inr kn, .bl many)]) := upd_same
    refine ⟨_, rfl, _, rfl, la, kl, _, _, rfl, (g2.fzl hl1).seq, (g2.fzl hkl1).seq, ?_⟩
    refine for_it (walk_zipS (K := K) (a := la) (b := kl) (xs := las.map V.ref) (ys := kas.map V.ref) (by rw [List.length_map, List.length_map]; omega)) (fun i σ' H' => (∃ x y, σ' = [some (.ref a), some (.str d.name), some (.ref kl), some (.ref la), some (.ref D), x, y]) ∧ Fr0 K (upd H1 D (.dK (mergeK [] [(.inr kn, .bl many)]))) H') ⟨⟨none, none, rfl⟩, .refl _⟩ ?_ ?_ ?_
    · rintro i σ' H' _ ⟨_, g⟩
      exact ⟨((g2.trans g).fzl hl1).seq, ((g2.trans g).fzl hkl1).seq⟩
    · rintro i x σ' H' H'' hi ⟨⟨x', y', rfl⟩, g⟩ ⟨t, u, v, rfl, ht, rfl, hu1, hu2⟩
      obtain ⟨l, q1, rfl⟩ := map_get hu1
      obtain ⟨kk, q2, rfl⟩ := map_get hu2
      obtain ⟨lp, q3, hlp⟩ := pd_getL hl2 q1
      obtain ⟨kd, q4, hkd⟩ := pd_getL hk2 q2
      have gt : Fr0 K H' (upd H' t (.tup [.ref l, .ref kk])) := .new ht
      have hlp := gt.tup (g.tup (g2.tup hlp))
      have hkd := gt.key (g.key (g2.key (g1.key hkd)))
      obtain ⟨f1, f2, f3⟩ := feach kd (List.mem_of_getElem? q4)
      have f4 := flet lp (List.mem_of_getElem? q3)
      refine ⟨t, _, rfl, .of upd_same, rfl, _, _, rfl, _, _, rfl, rfl, ?_⟩
      refine ⟨_, rfl, _, rfl, D, kk, kd, many, rfl, .inl (by rw [f1]; exact gt.dK (g.dK gD (fun z => z)) (fun z => z)), hkd, f2, f3, _, rfl, ?_⟩
      refine ⟨_, rfl, kk, _, _, _, rfl, rfl, hkd.1, rfl, _, rfl, l, _, _, _, rfl, rfl, hlp, rfl, rfl, _, rfl, ?_⟩
      rw [f1, f4]
      refine ite2 (fun c => ?_) (fun _ => ?_)
      · simp at c
      · exact ⟨⟨_, _, rfl⟩, g.trans gt⟩
    · rintro σ' H' ⟨_, g⟩
      exact k H' ((g1.trans g2).trans g)
/-! ### the class Deal -/
structure DealFit (d : DealD) (ks : List KeyD) : Prop where
  len : ks.length = d.letters.length
  nd : (d.letters.map (·.1)).Nodup
  stps : ∀ p ∈ d.steps, p.2 ∈ d.letters.map (·.1)
  few : d.letters.length ≤ 8 ∧ d.steps.length ≤ 8
def spDealInit (K : PySem.W.Frag) : Sp := fun vs H Q _ => ∃ (a dx da kl : Addr) (n : Nat) (d : DealD) (ks : List KeyD), vs = [.ref a, .ref da, .ref kl, .int (n : Nat)] ∧ H a = some (.ins (He.ga K "Deal") dx []) ∧ DealAt K H da d ∧ KeysAt K H kl ks ∧ DealFit d ks ∧
  ∀ (x : DA) (H' : Hp), x.a = a → Nw H x.tl → Fr K (fun b => b = a) H H' → DealObj K H' x ⟨resolve d ks, [], n, none, ("open" : Str)⟩ → Q .non H'
theorem c_Deal (T : Tx K mg) : C8.Mak P w K mg base 1 "Deal" (He.ga K "Deal") (spDealInit K) [] := by
  refine T.mak T.D_Deal_init T.mkr_Deal T.g_Deal b_Deal_init sc_Deal_init (fun vs H Q E h => ?_) (fun cdv A outer s H vs Q E hr h => ?_)
  · obtain ⟨a, dx, da, kl, n, d, ks, rfl, _⟩ := h
    rfl
  · obtain ⟨a, dx, da, kl, n, d, ks, rfl, ha, hd, ⟨kas, hk1, hk2⟩, ⟨flen, fnd, fst, few1, few2⟩, k⟩ := h
    refine ⟨_, (pss_cons (ps_fld (pv 0) (pe_ix ix_tup (pv 1) pe_int (fun _ _ => rfl)) rfl)
      (pss_cons (ps_fld (pv 0) (pe_frz (pe_callTy call_list_of (by rfl) T.fr_list bt_list (pa_cons (pv 2) pa_nil))) rfl)
      (pss_cons (ps_fld (pv 0) (pe_frz (pe_dictzip (by rfl) T.fr_dict bt_dict (by rfl) T.fr_zip (by rfl) (pa_cons (pe_lc (own := [("letter", 4), ("kind", 5)]) (by rfl) sc_Deal_init.nd (pi_list (pe_ix ix_tup (pv 1) pe_int (fun _ _ => rfl))) (blkOk_by (own := [("letter", 4), ("kind", 5)]) (N := n_Deal_init) (sc := defScope s_Deal_init) (by decide +kernel)) (fun _ _ _ _ _ => (pg_tupK (K := K) (n := 2) rfl rfl (pgs_cons (pg_name (i := 4) sc_Deal_init.nd rfl (Or.inl rfl)) (pgs_cons (pg_name (i := 5) sc_Deal_init.nd rfl (Or.inl rfl)) pgs_nil)))) (fun _ _ _ _ _ => pts_nil) (fun _ _ _ _ _ => (pv 4))) (pa_cons (pv 2) pa_nil)))) rfl)
      (pss_cons (ps_fld (pv 0) (pe_frz (pe_callTy call_list_of (by rfl) T.fr_list bt_list (pa_cons (pe_ix ix_tup (pv 1) pe_int (fun _ _ => rfl)) pa_nil))) rfl)
      (pss_cons (ps_fld (pv 0) (pe_lst pa_nil) rfl)
      (pss_cons (ps_fld (pv 0) (pv 3) rfl)
      (pss_cons (ps_fld (pv 0) pe_non rfl)
      (pss_one (ps_fld (pv 0) pe_str rfl))))))))), ?_⟩
    have C := T.cls_Deal
    obtain ⟨la, sa, hd1, ⟨las, hl1, hl2⟩, hst⟩ := hd
    refine ⟨_, rfl, da, _, _, _, rfl, rfl, hd1, rfl, _, rfl, a, _, dx, _, rfl, ha, C, T.no_Deal_title, (by decide), ?_⟩
    have f1 : Fr K (fun b => b = a) H (upd H a (.ins (He.ga K "Deal") dx (putF "title" (.str d.name) []))) := .at_ rfl ha trivial
    have a1 : upd H a (.ins (He.ga K "Deal") dx (putF "title" (.str d.name) [])) a = some (.ins (He.ga K "Deal") dx [("title", .str d.name)]) := upd_same
    refine ⟨_, rfl, kl, _, rfl, .inl (f1.fzl hk1).seq, fun l1 hl => ⟨[l1], mut_lst upd_same, fun H2 z2 => ?_⟩⟩
    obtain ⟨f2, q2⟩ := frz_new (K := K) (S := No) hl z2
    have a2 := f2.ins a1 (fun z => z)
    refine ⟨_, rfl, a, _, dx, _, rfl, a2, C, T.no_Deal_given, (by show 1 < 1000; decide), ?_⟩
    have f3 : Fr K (fun b => b = a) H (upd H2 a (.ins (He.ga K "Deal") dx (putF "given" (.ref l1) [("title", .str d.name)]))) := (f1.trans f2.wide).at2 rfl a2 trivial
    have a3 : upd H2 a (.ins (He.ga K "Deal") dx (putF "given" (.ref l1) [("title", .str d.name)])) a = some (.ins (He.ga K "Deal") dx [("title", .str d.name), ("given", .ref l1)]) := upd_same
    generalize upd H2 a (.ins (He.ga K "Deal") dx (putF "given" (.ref l1) [("title", .str d.name)])) = H3 at f3 a3 ⊢
    -- key_by
    refine ⟨_, rfl, da, _, _, _, rfl, rfl, f3.tup hd1, rfl, la, rfl, ⟨_, (f3.fzl hl1).seq⟩, fun D hD => ?_⟩
    have llen := pd_len hl2
    refine lc_it (walk_list (K := K) (a := la) (xs := las.map V.ref)) (fun i H4 => Fr0 K H3 H4 ∧ H4 D = some (.lst ((d.letters.take i).map fun p => V.str p.1))) ⟨.new hD, upd_same⟩ ?_ ?_ ?_
    · rintro i H4 _ ⟨g, _⟩
      exact ((f3.trans g.wide).fzl hl1).seq
    · rintro i x H4 H5 hi ⟨g, hq⟩ ⟨rfl, hx⟩
      obtain ⟨l, e1, rfl⟩ := map_get hx
      obtain ⟨p, e2, hp⟩ := pd_getL hl2 e1
      refine ⟨l, _, rfl, g.tup (f3.tup hp), rfl, _, _, rfl, _, _, rfl, rfl, rfl, ?_⟩
      refine ⟨_, rfl, _, hq, ?_, g.own (.of hD) hq trivial, ?_⟩
      · rw [List.length_map, List.length_take]
        exact Nat.lt_of_le_of_lt (by omega) small8
      · rw [take_snoc e2, List.map_append]
        exact upd_same
    · rintro H4 ⟨g, hq⟩
      rw [List.length_map, llen, List.take_length] at hq
      have f4 := f3.trans g.wide
      refine ⟨_, rfl, D, kl, d.letters.map fun p => .inr p.1, _, rfl, .inl (.inl (by rw [List.map_map]; exact hq)), (f4.fzl hk1).seq, ?_, fun p hp => ⟨[p], ?_, fun H5 z5 => ?_⟩⟩
      · rw [List.length_map, List.length_map, pd_len hk2, flen]
      · intro b hb
        rw [List.mem_singleton.mp hb, upd_same]; trivial
      have hk5 : ∃ o, H5 p = some (.frz o (.dK (mergeK [] ((d.letters.map fun p => (.inr p.1 : Key)).zip (kas.map V.ref))))) := z5.at_ p in_one _ upd_same
      have f5 : Fr K (fun b => b = a) H H5 := z5.fr (fun b hb => by rw [List.mem_singleton.mp hb, upd_same]; trivial) (fun b hb u e => by
        rw [List.mem_singleton.mp hb, upd_same] at e
        rw [← Option.some.inj e]; trivial) (f4.new2 hp) fun b hb => .inl (by rw [List.mem_singleton.mp hb]; exact f4.nw (fun z => by rw [z, g.ins a3 (fun z => z)] at hp; cases hp) (.of hp))
      have a5 : H5 a = some (.ins (He.ga K "Deal") dx [("title", .str d.name), ("given", .ref l1)]) := by
        have : a ≠ p := fun z => by rw [← z, g.ins a3 (fun z => z)] at hp; cases hp
        rw [z5.other a (by simp [this]), upd_ne this]
        exact g.ins a3 fun z => z
      refine ⟨_, rfl, a, _, dx, _, rfl, a5, C, T.no_Deal_key_by, (by show 2 < 1000; decide), ?_⟩
      obtain ⟨ob, hk5⟩ := hk5
      have gp : Fr K (fun b => b = a) H5 (upd H5 a (.ins (He.ga K "Deal") dx (putF "key_by" (.ref p) [("title", .str d.name), ("given", .ref l1)]))) := .at_ rfl a5 trivial
      have f6 := f5.trans gp
      have hk6 := gp.imm _ _ hk5 trivial
      have a6 : upd H5 a (.ins (He.ga K "Deal") dx (putF "key_by" (.ref p) [("title", .str d.name), ("given", .ref l1)])) a = some (.ins (He.ga K "Deal") dx [("title", .str d.name), ("given", .ref l1), ("key_by", .ref p)]) := upd_same
      generalize upd H5 a (.ins (He.ga K "Deal") dx (putF "key_by" (.ref p) [("title", .str d.name), ("given", .ref l1)])) = H6 at f6 hk6 a6 ⊢
      clear gp a5 z5 f5 hk5
      -- ahead
      obtain ⟨sas, hs1, hs2⟩ := hst
      refine ⟨_, rfl, da, _, _, _, rfl, rfl, f6.tup hd1, rfl, sa, _, rfl, .inl (f6.fzl hs1).seq, fun l2 hl2 => ⟨[l2], mut_lst upd_same, fun H7 z7 => ?_⟩⟩
      obtain ⟨g7, q7⟩ := frz_new (K := K) (S := No) hl2 z7
      have a7 := g7.ins a6 (fun z => z)
      have f7 : Fr K (fun b => b = a) H H7 := f6.trans g7.wide
      have hk7 := g7.imm _ _ hk6 trivial
      refine ⟨_, rfl, a, _, dx, _, rfl, a7, C, T.no_Deal_ahead, (by show 3 < 1000; decide), ?_⟩
      have g8 : Fr K (fun b => b = a) H7 (upd H7 a (.ins (He.ga K "Deal") dx (putF "ahead" (.ref l2) [("title", .str d.name), ("given", .ref l1), ("key_by", .ref p)]))) := .at_ rfl a7 trivial
      have f8 := f7.trans g8
      have q8 := g8.fzl q7
      have hk8 := g8.imm _ _ hk7 trivial
      have a8 : upd H7 a (.ins (He.ga K "Deal") dx (putF "ahead" (.ref l2) [("title", .str d.name), ("given", .ref l1), ("key_by", .ref p)])) a = some (.ins (He.ga K "Deal") dx [("title", .str d.name), ("given", .ref l1), ("key_by", .ref p), ("ahead", .ref l2)]) := upd_same
      generalize upd H7 a (.ins (He.ga K "Deal") dx (putF "ahead" (.ref l2) [("title", .str d.name), ("given", .ref l1), ("key_by", .ref p)])) = H8 at f8 q8 hk8 a8 ⊢
      clear g8 a7 z7 f7 hk7 f6 hk6 a6 g7 q7
      -- told
      refine ⟨Nat.zero_le _, fun tl htl => ?_⟩
      have ntl : a ≠ tl := fun z => by rw [← z, a8] at htl; cases htl
      have a9 : upd H8 tl (.lst []) a = _ := (upd_ne ntl).trans a8
      refine ⟨_, rfl, a, _, dx, _, rfl, a9, C, T.no_Deal_told, (by show 4 < 1000; decide), ?_⟩
      refine ⟨_, rfl, _, rfl, a, _, dx, _, rfl, upd_same, C, T.no_Deal_begun, (by show 5 < 1000; decide), ?_⟩
      refine ⟨_, rfl, a, _, dx, _, rfl, upd_same, C, T.no_Deal_ended, (by show 6 < 1000; decide), ?_⟩
      refine ⟨_, rfl, a, _, dx, _, rfl, upd_same, C, T.no_Deal_word, (by show 7 < 1000; decide), ?_⟩
      rw [upd_upd, upd_upd, upd_upd]
      have g9 : Fr K (fun b => b = a) H8 (upd (upd H8 tl (.lst [])) a (.ins (He.ga K "Deal") dx [("title", .str d.name), ("given", .ref l1), ("key_by", .ref p), ("ahead", .ref l2), ("told", .ref tl), ("begun", .int (n : Nat)), ("ended", .non), ("word", .str "open")])) :=
        (Fr.new htl).trans (.at_ rfl a9 trivial)
      have f9 := f8.trans g9
      refine k ⟨a, dx, p, l2, tl⟩ _ rfl (f8.nw (fun z => ntl z.symm) (.of htl)) f9 ⟨⟨_, _, upd_same⟩, ⟨[], (upd_ne (fun z => ntl z.symm)).trans upd_same, .nil⟩, ⟨ob, _, d.steps, ⟨sas, g9.fzl q8, pd_map hs2 fun _ _ z => f9.tup z⟩, g9.imm _ _ hk8 trivial, ?_⟩⟩
      refine pd_of (by rw [resolve, List.length_map]) fun i x y hx hy => ?_
      obtain ⟨x', hx', rfl⟩ := map_get hy
      rw [hx] at hx'
      obtain rfl := Option.some.inj hx'
      refine ⟨rfl, ?_⟩
      have hm := fst x (List.mem_of_getElem? hx)
      have hidx := List.idxOf_lt_length_iff.mpr hm
      have hj : (d.letters.map (·.1))[(d.letters.map (·.1)).idxOf x.2]? = some x.2 := by
        rw [List.getElem?_eq_getElem hidx, List.getElem_idxOf]
      have hjl : (d.letters.map (·.1)).idxOf x.2 < ks.length := by
        rw [flen]; rw [List.length_map] at hidx; exact hidx
      obtain ⟨ky, hky⟩ : ∃ ky, ks[(d.letters.map (·.1)).idxOf x.2]? = some ky := ⟨_, List.getElem?_eq_getElem hjl⟩
      obtain ⟨ka, hka, hkk⟩ := pd_get hk2 hky
      refine ⟨ka, ?_, ?_⟩
      · refine merge_at (i := (d.letters.map (·.1)).idxOf x.2) ?_ ?_ (get_map hka)
        · have : (d.letters.map fun p => (.inr p.1 : Key)) = (d.letters.map (·.1)).map Sum.inr := by rw [List.map_map] <;> rfl
          rw [this]
          exact List.pairwise_map.mpr (List.Pairwise.imp (fun h z => h (Sum.inr.inj z)) fnd)
        · obtain ⟨p', hp1, hp2⟩ := map_get hj
          rw [get_map hp1, hp2]
      · have : keyOf d ks x.2 = ky := by rw [keyOf, hky] <;> rfl
        rw [this]
        exact f9.key hkk
end
end Sn
set_option Elab.async false
set_option linter.all false
set_option maxRecDepth 100000
set_option maxHeartbeats 4000000
/-! Methods of Deal. -/
namespace Sn
open PySem PySem.Spec PyProof.Rows L2
section
variable {P : Program} {w : World} {K : PySem.W.Frag} {mg : Str → Option Value} {base : Heap} {S : Addr → Prop} {H H1 : Hp}
def spStepsLeft (K : PySem.W.Frag) : Sp := fun vs H Q _ => ∃ (x : DA) (m : DM), vs = [.ref x.a] ∧ DealObj K H x m ∧ Q (.int ((m.ahead.length : Int) - (m.told.length : Int))) H
theorem m_steps_left (T : Tx K mg) : C8.Met P w K mg base 1 (He.ga K "Deal") "steps_left" (spStepsLeft K) [] := by
  refine T.met T.D_Deal_steps_left T.cls_Deal T.me_Deal_steps_left b_Deal_steps_left sc_Deal_steps_left (fun vs H Q E h => ?_) (fun cdv A outer s H vs Q E hr h => ?_)
  · obtain ⟨x, m, rfl, _⟩ := h
    rfl
  · obtain ⟨x, m, rfl, ⟨⟨ti, gi, hx⟩, ⟨ts, h2, h3⟩, ⟨o, kvs, steps, ⟨as, h4, h5⟩, h6, h7⟩⟩, k⟩ := h
    refine ⟨_, (pss_one (ps_ret (pe_op op_sub (pe_callB call_len_seq (by rfl) T.fr_len bt_len (pa_cons (pe_fld (pv 0) rfl) pa_nil)) (pe_callB call_len_seq (by rfl) T.fr_len bt_len (pa_cons (pe_fld (pv 0) rfl) pa_nil))))), ?_⟩
    refine ⟨_, rfl, x.a, _, x.dx, _, _, rfl, hx, T.cls_Deal, T.no_Deal_ahead, rfl, x.al, _, rfl, .inl h4.seq, _, rfl, x.a, _, x.dx, _, _, rfl, hx, T.cls_Deal, T.no_Deal_told, rfl, x.tl, _, rfl, .inl (.of h2), _, _, rfl, rfl, ?_⟩
    rw [List.length_map, List.length_map, pd_len h5, pd_len h7, pd_len h3]
    exact k
def spNextDeed (K : PySem.W.Frag) : Sp := fun vs H Q _ => ∃ (x : DA) (m : DM) (deed : Str) (ky : KeyD), vs = [.ref x.a] ∧ DealObj K H x m ∧ m.ahead[m.told.length]? = some (deed, ky) ∧
  ∀ (p ka : Addr) (H' : Hp), Fr0 K H H' → SqT K H' p [.str deed, .ref ka] → KeyAt K H' ka ky → Q (.ref p) H'
theorem m_next_deed (T : Tx K mg) : C8.Met P w K mg base 1 (He.ga K "Deal") "next_deed" (spNextDeed K) [] := by
  refine T.met T.D_Deal_next_deed T.cls_Deal T.me_Deal_next_deed b_Deal_next_deed sc_Deal_next_deed (fun vs H Q E h => ?_) (fun cdv A outer s H vs Q E hr h => ?_)
  · obtain ⟨x, m, deed, ky, rfl, _⟩ := h
    rfl
  · obtain ⟨x, m, deed, ky, rfl, ⟨⟨ti, gi, hx⟩, ⟨ts, h2, h3⟩, ⟨o, kvs, steps, ⟨as, h4, h5⟩, h6, h7⟩⟩, hat, k⟩ := h
    have hu := hu_of hr
    refine ⟨_, (pss_cons (ps_asg (pe_ix ix_list (pe_fld (pv 0) rfl) (pe_callB call_len_seq (by rfl) T.fr_len bt_len (pa_cons (pe_fld (pv 0) rfl) pa_nil)) (fun _ _ => rfl)) (pg_tup rfl (pgs_cons (pg_name (i := 1) sc_Deal_next_deed.nd rfl (Or.inl rfl)) (pgs_cons (pg_name (i := 2) sc_Deal_next_deed.nd rfl (Or.inl rfl)) pgs_nil))))
      (pss_one (ps_ret (pe_tup (pa_cons (pv 1) (pa_cons (pe_dget hu (pe_fld (pv 0) rfl) (pv 2) (fun _ _ => rfl)) pa_nil)))))), ?_⟩
    obtain ⟨st, e1, e2, ka, e3, e4⟩ := pd_get h7 hat
    obtain ⟨sa, e5, e6⟩ := pd_get h5 e1
    have hl := pd_len h3
    refine ⟨_, rfl, x.a, _, x.dx, _, _, rfl, hx, T.cls_Deal, T.no_Deal_ahead, rfl, _, rfl, x.a, _, x.dx, _, _, rfl, hx, T.cls_Deal, T.no_Deal_told, rfl, x.tl, _, rfl, .inl (.of h2), x.al, _, _, .ref sa, rfl, rfl, h4.seq, at_of (by rw [List.length_map, hl]) (get_map e5), sa, _, rfl, e6, rfl, _, _, rfl, _, _, rfl, rfl, ?_⟩
    refine ⟨_, rfl, _, rfl, x.a, _, x.dx, _, _, rfl, hx, T.cls_Deal, T.no_Deal_key_by, rfl, _, rfl, x.kb, _, rfl, .inl ⟨kvs, .inr st.2, .inr ⟨o, h6⟩, rfl, e3.symm⟩, (by show 2 ≤ sizeLine; decide), fun p hp => ?_⟩
    have g : Fr0 K H (upd H p (.tup [.str st.1, .ref ka])) := .new hp
    refine k p ka _ g ?_ (g.key e4)
    rw [show st.1 = deed from e2]
    exact .of upd_same
def spWritten (K : PySem.W.Frag) : Sp := fun vs H Q _ => ∃ (x : DA) (m : DM), vs = [.ref x.a] ∧ DealObj K H x m ∧ m.told.length ≤ 8 ∧
  ∀ (p : Addr) (as : List Addr) (H' : Hp), H p = none → Fr0 K H H' → H' p = some (.lst (as.map V.ref)) → Paired (KeyAt K H') as m.wrote → Q (.ref p) H'
theorem m_written (T : Tx K mg) : C8.Met P w K mg base 1 (He.ga K "Deal") "written" (spWritten K) [] := by
  refine T.met T.D_Deal_written T.cls_Deal T.me_Deal_written b_Deal_written sc_Deal_written (fun vs H Q E h => ?_) (fun cdv A outer s H vs Q E hr h => ?_)
  · obtain ⟨x, m, rfl, _⟩ := h
    rfl
  · obtain ⟨x, m, rfl, ⟨⟨ti, gi, hx⟩, ⟨ts, h2, h3⟩, _⟩, hl8, k⟩ := h
    refine ⟨_, (pss_one (ps_ret (pe_lc (own := [("deed", 1), ("key", 2), ("seen", 3)]) (by rfl) sc_Deal_written.nd (pi_list (pe_fld (pv 0) rfl)) (blkOk_by (own := [("deed", 1), ("key", 2), ("seen", 3)]) (N := n_Deal_written) (sc := defScope s_Deal_written) (by decide +kernel)) (fun _ _ _ _ _ => (pg_tupK (K := K) (n := 3) rfl rfl (pgs_cons (pg_name (i := 1) sc_Deal_written.nd rfl (Or.inl rfl)) (pgs_cons (pg_name (i := 2) sc_Deal_written.nd rfl (Or.inl rfl)) (pgs_cons (pg_name (i := 3) sc_Deal_written.nd rfl (Or.inl rfl)) pgs_nil))))) (fun _ _ _ _ _ => (pts_one (pt_cmpR op_ne (pv 1) pe_str (nomark _)))) (fun _ _ _ _ _ => (pv 2))))), ?_⟩
    refine ⟨_, rfl, x.a, _, x.dx, _, _, rfl, hx, T.cls_Deal, T.no_Deal_told, rfl, x.tl, rfl, ⟨_, .of h2⟩, fun D hD => ?_⟩
    have hl := pd_len h3
    have nD : x.tl ≠ D := fun z => by rw [← z, h2] at hD; cases hD
    refine lc_it (walk_list (K := K) (a := x.tl) (xs := ts.map V.ref)) (fun i H3 => Fr0 K H H3 ∧ ∃ as : List Addr, H3 D = some (.lst (as.map V.ref)) ∧ as.length ≤ i ∧ Paired (KeyAt K H3) as (((m.told.take i).filter fun t => decide (t.1 ≠ ("read" : Str))).map fun t => t.2.1)) ⟨.new hD, [], upd_same, Nat.le_refl _, .nil⟩ ?_ ?_ ?_
    · rintro i H3 _ ⟨g, _⟩
      exact .of (g.lst h2 (fun z => z))
    · rintro i y H0 H3 hi ⟨g, as, hq, hal, hp⟩ ⟨rfl, hy⟩
      obtain ⟨t, e1, rfl⟩ := map_get hy
      obtain ⟨to, e2, ka, ht, hk⟩ := pd_getL h3 e1
      rw [List.length_map] at hi
      refine ⟨t, _, rfl, g.tup ht, rfl, _, _, rfl, _, _, rfl, _, _, rfl, rfl, rfl, ?_⟩
      refine ⟨_, rfl, rfl, _, rfl, ?_⟩
      rw [take_snoc e2, List.filter_append, List.map_append]
      by_cases c : to.1 = ("read" : Str)
      · have c2 : decide (V.str to.1 = V.str "read") = true := by rw [c]; exact decide_eq_true rfl
        rw [c2]
        refine ⟨g, as, hq, by omega, ?_⟩
        have : ([to].filter fun t => decide (t.1 ≠ ("read" : Str))) = [] := by simp [c]
        rw [this, List.map_nil, List.append_nil]
        exact hp
      · have c2 : decide (V.str to.1 = V.str "read") = false := decide_eq_false fun z => c (V.str.inj z)
        rw [c2]
        refine ⟨_, rfl, _, hq, ?_, g.own (.of hD) hq trivial, as ++ [ka], ?_, ?_, ?_⟩
        · rw [List.length_map]
          exact Nat.lt_of_le_of_lt (by omega) small8
        · rw [List.map_append]; exact upd_same
        · rw [List.length_append, List.length_singleton]; omega
        · have : ([to].filter fun t => decide (t.1 ≠ ("read" : Str))) = [to] := by simp [c]
          rw [this]
          have gg : Fr K (fun b => b = D) H3 (upd H3 D (.lst (as.map V.ref ++ [V.ref ka]))) := .at_ rfl hq trivial
          exact pd_snoc (pd_map hp fun _ _ z => gg.key z) (gg.key (g.key hk))
    · rintro H3 ⟨g, as, hq, _, hp⟩
      rw [List.length_map, hl, List.take_length] at hp
      exact k D as H3 hD g hq hp
def ReadAt (K : PySem.W.Frag) (H : Hp) (a : Addr) (r : KeyD × Option Nat) : Prop := ∃ ka, SqT K H a [.ref ka, endV r.2] ∧ KeyAt K H ka r.1
theorem Fr.read {a : Addr} {r : KeyD × Option Nat} (f : Fr K S H H1) (h : ReadAt K H a r) : ReadAt K H1 a r := let ⟨ka, h1, h2⟩ := h; ⟨ka, f.tup h1, f.key h2⟩
def spReadSo (K : PySem.W.Frag) : Sp := fun vs H Q _ => ∃ (x : DA) (m : DM), vs = [.ref x.a] ∧ DealObj K H x m ∧ m.told.length ≤ 8 ∧
  ∀ (p : Addr) (as : List Addr) (H' : Hp), H p = none → Fr0 K H H' → H' p = some (.lst (as.map V.ref)) → Paired (ReadAt K H') as m.reads → Q (.ref p) H'
theorem m_read_so (T : Tx K mg) : C8.Met P w K mg base 1 (He.ga K "Deal") "read_so" (spReadSo K) [] := by
  refine T.met T.D_Deal_read_so T.cls_Deal T.me_Deal_read_so b_Deal_read_so sc_Deal_read_so (fun vs H Q E h => ?_) (fun cdv A outer s H vs Q E hr h => ?_)
  · obtain ⟨x, m, rfl, _⟩ := h
    rfl
  · obtain ⟨x, m, rfl, ⟨⟨ti, gi, hx⟩, ⟨ts, h2, h3⟩, _⟩, hl8, k⟩ := h
    refine ⟨_, (pss_one (ps_ret (pe_lc (own := [("deed", 1), ("key", 2), ("seen", 3)]) (by rfl) sc_Deal_read_so.nd (pi_list (pe_fld (pv 0) rfl)) (blkOk_by (own := [("deed", 1), ("key", 2), ("seen", 3)]) (N := n_Deal_read_so) (sc := defScope s_Deal_read_so) (by decide +kernel)) (fun _ _ _ _ _ => (pg_tupK (K := K) (n := 3) rfl rfl (pgs_cons (pg_name (i := 1) sc_Deal_read_so.nd rfl (Or.inl rfl)) (pgs_cons (pg_name (i := 2) sc_Deal_read_so.nd rfl (Or.inl rfl)) (pgs_cons (pg_name (i := 3) sc_Deal_read_so.nd rfl (Or.inl rfl)) pgs_nil))))) (fun _ _ _ _ _ => (pts_one (pt_cmpR op_ne (pv 1) pe_str (nomark _)))) (fun _ _ _ _ _ => (pe_tup (pa_cons (pv 2) (pa_cons (pv 3) pa_nil))))))), ?_⟩
    refine ⟨_, rfl, x.a, _, x.dx, _, _, rfl, hx, T.cls_Deal, T.no_Deal_told, rfl, x.tl, rfl, ⟨_, .of h2⟩, fun D hD => ?_⟩
    have hl := pd_len h3
    refine lc_it (walk_list (K := K) (a := x.tl) (xs := ts.map V.ref)) (fun i H3 => Fr0 K H H3 ∧ ∃ as : List Addr, H3 D = some (.lst (as.map V.ref)) ∧ as.length ≤ i ∧ Paired (ReadAt K H3) as (((m.told.take i).filter fun t => decide (t.1 ≠ ("write" : Str))).map fun t => t.2)) ⟨.new hD, [], upd_same, Nat.le_refl _, .nil⟩ ?_ ?_ ?_
    · rintro i H3 _ ⟨g, _⟩
      exact .of (g.lst h2 (fun z => z))
    · rintro i y H0 H3 hi ⟨g, as, hq, hal, hp⟩ ⟨rfl, hy⟩
      obtain ⟨t, e1, rfl⟩ := map_get hy
      obtain ⟨to, e2, ka, ht, hk⟩ := pd_getL h3 e1
      rw [List.length_map] at hi
      refine ⟨t, _, rfl, g.tup ht, rfl, _, _, rfl, _, _, rfl, _, _, rfl, rfl, rfl, ?_⟩
      refine ⟨_, rfl, rfl, _, rfl, ?_⟩
      rw [take_snoc e2, List.filter_append, List.map_append]
      by_cases c : to.1 = ("write" : Str)
      · have c2 : decide (V.str to.1 = V.str "write") = true := by rw [c]; exact decide_eq_true rfl
        rw [c2]
        refine ⟨g, as, hq, by omega, ?_⟩
        have : ([to].filter fun t => decide (t.1 ≠ ("write" : Str))) = [] := by simp [c]
        rw [this, List.map_nil, List.append_nil]
        exact hp
      · have c2 : decide (V.str to.1 = V.str "write") = false := decide_eq_false fun z => c (V.str.inj z)
        rw [c2]
        refine ⟨_, rfl, _, rfl, (by show 2 ≤ sizeLine; decide), fun p hp0 => ?_⟩
        have gt : Fr0 K H3 (upd H3 p (.tup [.ref ka, endV to.2.2])) := .new hp0
        have hq' := gt.lst hq (fun z => z)
        refine ⟨_, hq', ?_, (g.trans gt).own (.of hD) hq' trivial, as ++ [p], ?_, ?_, ?_⟩
        · rw [List.length_map]
          exact Nat.lt_of_le_of_lt (by omega) small8
        · rw [List.map_append]; exact upd_same
        · rw [List.length_append, List.length_singleton]; omega
        · have : ([to].filter fun t => decide (t.1 ≠ ("write" : Str))) = [to] := by simp [c]
          rw [this]
          have gg : Fr K (fun b => b = D) H3 (upd (upd H3 p (.tup [.ref ka, endV to.2.2])) D (.lst (as.map V.ref ++ [V.ref p]))) := gt.wide.trans (.at_ rfl hq' trivial)
          have gd : Fr K (fun b => b = D) (upd H3 p (.tup [.ref ka, endV to.2.2])) (upd (upd H3 p (.tup [.ref ka, endV to.2.2])) D (.lst (as.map V.ref ++ [V.ref p]))) := .at_ rfl hq' trivial
          exact pd_snoc (pd_map hp fun _ _ z => gg.read z) ⟨ka, gd.tup (.of upd_same), gg.key (g.key hk)⟩
    · rintro H3 ⟨g, as, hq, _, hp⟩
      rw [List.length_map, hl, List.take_length] at hp
      exact k D as H3 hD g hq hp
def spClosed (K : PySem.W.Frag) : Sp := fun vs H Q _ => ∃ (x : DA) (m : DM) (wd : Str) (n : Nat), vs = [.ref x.a, .str wd, .int (n : Nat)] ∧ DealObj K H x m ∧
  ∀ (H' : Hp), Fr K (fun b => b = x.a) H H' → DealObj K H' x { m with ended := some n, word := wd } → Q .non H'
theorem m_closed (T : Tx K mg) : C8.Met P w K mg base 1 (He.ga K "Deal") "closed" (spClosed K) [] := by
  refine T.met T.D_Deal_closed T.cls_Deal T.me_Deal_closed b_Deal_closed sc_Deal_closed (fun vs H Q E h => ?_) (fun cdv A outer s H vs Q E hr h => ?_)
  · obtain ⟨x, m, wd, n, rfl, _⟩ := h
    rfl
  · obtain ⟨x, m, wd, n, rfl, ⟨⟨ti, gi, hx⟩, ⟨ts, h2, h3⟩, ⟨o, kvs, steps, h4, h6, h7⟩⟩, k⟩ := h
    refine ⟨_, (pss_cons (ps_fld (pv 0) (pv 1) rfl)
      (pss_one (ps_fld (pv 0) (pv 2) rfl))), ?_⟩
    refine ⟨_, rfl, _, rfl, x.a, _, x.dx, _, rfl, hx, T.cls_Deal, T.no_Deal_word, (by show 8 < 1000; decide), ?_⟩
    refine ⟨_, rfl, _, rfl, x.a, _, x.dx, _, rfl, upd_same, T.cls_Deal, T.no_Deal_ended, (by show 8 < 1000; decide), ?_⟩
    rw [upd_upd]
    have g : Fr K (fun b => b = x.a) H (upd H x.a (.ins (He.ga K "Deal") x.dx [("title", ti), ("given", gi), ("key_by", .ref x.kb), ("ahead", .ref x.al), ("told", .ref x.tl), ("begun", .int (m.begun : Nat)), ("ended", .int (n : Nat)), ("word", .str wd)])) := .at_ rfl hx trivial
    refine k _ g ⟨⟨ti, gi, upd_same⟩, ⟨ts, (upd_ne (fun z => by rw [z, hx] at h2; cases h2)).trans h2, pd_map h3 fun _ _ z => g.told z⟩, ⟨o, kvs, steps, g.pairs h4, g.imm _ _ h6 trivial, pd_map h7 fun _ _ ⟨e, ka, z1, z2⟩ => ⟨e, ka, z1, g.key z2⟩⟩⟩
end
end Sn
set_option Elab.async false
set_option linter.all false
set_option maxRecDepth 100000
set_option maxHeartbeats 4000000
/-! max(xs, key=lambda n: .., default=None) of a frozen list of ints. -/
namespace Sn
open PySem PySem.Spec PyProof.Rows L2 NdefX
def tMaxLam (T : List (Addr × Str)) (N : List Str) (js : List Nat) (ta : TA) (tb : TE) : TE := fun σ H Q => ta σ H fun vs H1 => ∃ (a : Addr) (ns : List Int) (key : Nat → Int), vs = [.ref a] ∧ FzL H1 a (ns.map V.int) ∧ LamX.Tabs T H1 ∧
  ∀ H2, LamX.ExtN H1 H2 → LamX.Tabs T H2 → (∀ (i : Nat) (n : Int), ns[i]? = some n → ∀ Q' : VK, Q' (.int (key i)) H2 → tb (startF N [.int n] (js.map (slotAt σ))) H2 Q') ∧ (ns = [] → Q .non H2) ∧
    (∀ (i : Nat) (n : Int), ns[i]? = some n → (∀ j, j < ns.length → key j ≤ key i) → Q (.int n) H2)
section
variable {X : Cx} {K : PySem.W.Frag}
theorem lam_call {pins : List (Addr × Obj)} {σ : L2.St} {H : Hp} {s : Shared} {N fr : List Str} {p : Str} {js : List Nat} {params : Arguments} {body : Expr} {scope : Scope} {f c' : Addr} {pm ctv : Value} {k : Nat} {tb : TE} {v : V} {u : Value} {Q : Value → Shared → Prop} {E : Value → Shared → Prop} {r : V}
    (S : NScope N [p] fr scope) (cp : X.Ok → Caps X (cloFrom X.env.cells scope.names []) fr js) (hr : Room (k + 1) X.A.in1)
    (hbind : ∀ (pm ctv u : Value), bindArgs (PySem.W.kla_fn "<lambda>" (X.env.qual ++ "<lambda>") params body scope (cloFrom X.env.cells scope.names []) pm (.ref c') ctv) ⟨[u], []⟩ = pure [(p, u)])
    (hbody : ∀ (A : Around) (outer : List Env) (s : Shared) (H : Hp), Room k (A.deeper (envF ⟨"<lambda>", X.env.qual ++ "<lambda>", params, [], scope, cloFrom X.env.cells scope.names [], c'⟩ f s.heap.objs.size)) →
      PE (ncx C8.CX0 X.prog X.w X.K X.mg X.base N ⟨"<lambda>", X.env.qual ++ "<lambda>", params, [], scope, cloFrom X.env.cells scope.names [], c'⟩ f A outer s H C8.E0) body tb)
    (I : L2.Inv X pins σ H s) (hf : s.heap.get? f = some (PySem.W.kla_obj "<lambda>" (X.env.qual ++ "<lambda>") params body scope (cloFrom X.env.cells scope.names []) pm c' ctv)) (hc : H c' = some (LamX.CodeO c' (X.env.qual ++ "<lambda>")))
    (rv : L2.RelV v u) (ht : tb (startF N [v] (js.map (slotAt σ))) H fun x H1 => x = r ∧ H1 = H)
    (hQ : ∀ u' s', L2.RelV r u' → L2.Inv X pins σ H s' → (∀ b o, s.heap.get? b = some o → H b = none → b ∉ frs X.stack → s'.heap.get? b = some o) → Q u' s') :
    wpAny (model X.prog X.w) X.A.in1 (call (.ref f) [u]) Q E s := by
  obtain ⟨⟨oc, vs, t, hoc, hdc, hvc⟩, _, _⟩ := I.hok c' _ hc
  have e0 := I.env0.in1
  have lim : s.heap.NoLimit := e0.mod.nolimit.keeps fun b o e => (e0.bs b o e).1
  have rc : codeAny (model X.prog X.w) X.A.in1 (.call (.ref f) ⟨[u], []⟩) (CR C8.CX0 X.stack X.prog X.w H s (fun x H1 => x = r ∧ H1 = H) C8.E0) s := by
    refine PySem.W.kla_callFunE hr.depth hf rfl S.co S.gen rfl ⟨c', oc, vs, t, rfl, hoc, hdc, hvc⟩ ?_
    rw [hbind]
    refine wpAny_pure (wpAny_newFunctionEnv S.nocell (fun ⟨n, _⟩ hy => S.par n (by
      have := List.mem_singleton.mp hy
      rw [Prod.mk.injEq] at this
      rw [this.1]; exact List.mem_singleton.mpr rfl)) (fun h1 hns hsb => ⟨lim.fresh _ hsb, ?_⟩) S.kind)
    show codeAny _ _ (.expr body (envF ⟨"<lambda>", X.env.qual ++ "<lambda>", params, [], scope, cloFrom X.env.cells scope.names [], c'⟩ f s.heap.objs.size)) _ _
    have kp : ∀ b o, s.heap.get? b = some o → h1.get? b = some o := fun b o e => hsb.extBut b o (Nat.ne_of_lt (Heap.lt_size e)) (Heap.get?_push_of_some _ e)
    have J : L2.Inv (ncx C8.CX0 X.prog X.w X.K X.mg X.base N ⟨"<lambda>", X.env.qual ++ "<lambda>", params, [], scope, cloFrom X.env.cells scope.names [], c'⟩ f X.A.in1 X.stack s H C8.E0) [] (startF N [v] (js.map (slotAt σ))) H { s with heap := h1, toks := s.toks + ([(p, u)] : List (Str × Value)).length } :=
      inv_startN (us := [u]) S hr.hd e0 rfl (.cons rv .nil) (cells_of I (cp I.ok)) hns kp
    refine PySem.W.kla_codeExpr (wpAny_mono ((hbody _ _ s H (hr.deeper _)).run [] _ _ H _ J ht) (fun v' s' hq => ?_) fun e s' hq => hq)
    obtain ⟨w', H', J', rv', q⟩ := hq
    exact ⟨w', H', J'.os, J'.bare, J'.base, J'.hok, rv', q⟩
  refine wpAny_call (codeAny_mono rc fun res s' hq => ?_)
  cases res with
  | error e => exact hq.elim
  | ok fl =>
    cases fl with
    | ret u' =>
      have hk := hq
      obtain ⟨x, H1, hos, hba, hun, hok, hrv, rfl, rfl⟩ := hk
      obtain ⟨x', H2, I', _, hx, rfl⟩ := I.after hq
      exact hQ u' s' hrv I' fun b o e n hb => hun.keep b o e n hb (by simp)
    | next => exact False.elim hq
    | brk => exact False.elim hq
    | cont => exact False.elim hq
theorem pe_maxlam {T : List (Addr × Str)} {e : Expr} {ta : TA} {tb : TE} {N fr : List Str} {p : Str} {js : List Nat} {params : Arguments} {body : Expr} {scope : Scope} {lpos np pos kp kp2 cp2 : Pos} {cj k : Nat} {c P : Addr}
    (hcalm : X.calm = true) (hg : Gl X "max") (hm : X.mg "max" = none) (hv : bootBuiltins "max" = some (.builtin "max")) (ha : PA X [e] ta)
    (TB : LamX.TabB X.base X.mg c P) (hcode : X.env.code = .ref c) (hmT : (P, X.env.qual ++ "<lambda>") ∈ T) (hu : ∀ q ∈ T, q.1 = P → q.2 = X.env.qual ++ "<lambda>") (hdef : defaultsOf params X.env = ([], []))
    (hfree : X.Ok → ∀ y ∈ scope.names, y.2 = .free → ∃ c, X.env.cells.lookup y.1 = some c) (S : NScope N [p] fr scope) (cp : X.Ok → Caps X (cloFrom X.env.cells scope.names []) fr js) (hr : Room (k + 2) X.A)
    (hbind : ∀ (c' : Addr) (pm ctv u : Value), bindArgs (PySem.W.kla_fn "<lambda>" (X.env.qual ++ "<lambda>") params body scope (cloFrom X.env.cells scope.names []) pm (.ref c') ctv) ⟨[u], []⟩ = pure [(p, u)])
    (hbody : ∀ (f c' : Addr) (A : Around) (outer : List Env) (s : Shared) (H : Hp), Room k (A.deeper (envF ⟨"<lambda>", X.env.qual ++ "<lambda>", params, [], scope, cloFrom X.env.cells scope.names [], c'⟩ f s.heap.objs.size)) →
      PE (ncx C8.CX0 X.prog X.w X.K X.mg X.base N ⟨"<lambda>", X.env.qual ++ "<lambda>", params, [], scope, cloFrom X.env.cells scope.names [], c'⟩ f A outer s H C8.E0) body tb)
    (hs : backTo pos (starEach [e] X.env) = (false, eval e X.env) :: backTo pos (starEach [] X.env) := by rfl) (hpl : (backTo pos (starEach [e] X.env)).any (·.1) = false := by rfl) :
    PE X (.Call (.Name "max" np) [e] [⟨some "key", .Lambda params body scope lpos, kp⟩, ⟨some "default", .Constant .none cj cp2, kp2⟩] pos) (tMaxLam T N js ta tb) := by
  refine ⟨fun pins s σ H Q I h => ?_⟩
  refine wpAny_Call_Name_kw (ld_blt I hg hm hv ?_)
  refine PyProof.Rows.callWith_kw ?_ hs hpl rfl rfl
  refine thn (ha.run pos pins s σ H _ I h) fun us s1 ⟨vs, H1, I1, r1, a, ns, key, ea, ⟨ob, hfz⟩, hT, hrest⟩ => ?_
  subst ea
  obtain ⟨u, rfl, ru⟩ := vals1 r1
  cases ru
  show wpAny _ _ (evalAll [(do let v ← eval (.Lambda params body scope lpos) X.env; standAt pos; pure v), (do let v ← eval (.Constant .none cj cp2) X.env; standAt pos; pure v)]) _ _ s1
  refine wpAny_evalAll_cons (wpAny_bind (LamX.lam_make2 I1 TB hcode hmT hu hT hdef (hfree I1.ok) fun f c' pm ctv H2 s2 I2 hE hT2 hf hfn hfr hc => wpAny_bind (wpAny_standAt (wpAny_pure ?_))))
  refine wpAny_evalAll_cons (wpAny_bind (Constant_none (wpAny_bind (wpAny_standAt (wpAny_pure (wpAny_pure ?_))))))
  show wpAny _ _ (call (.builtin "max") [.ref a] [(Str.ofString "key", .ref f), (Str.ofString "default", .none)]) _ _ s2
  obtain ⟨hb, h0, hbest⟩ := hrest H2 hE hT2
  have hfz2 : H2 a = some (.frz ob (.lst (ns.map V.int))) := hE _ _ hfz fun ps z => by cases z
  obtain ⟨hob, hlen, its, n, rv, hgt⟩ := I2.hok a _ hfz2
  have hl : s2.heap.IsList a its.toArray := ⟨_, hgt, rfl, _, rfl⟩
  have hfL : f < s2.heap.objs.size := Heap.lt_size hf
  have haL : a < s2.heap.objs.size := Heap.lt_size hgt
  have hcalm1 : X.A.in1.handled = none := I.ok.hd hcalm
  refine call_max_walkKD (iter_anyList hl fun s3 e3 st hfp hlI => ?_)
  have W := (Walks.list (prog := X.prog) (w := X.w) (A := X.A.in1) hcalm1 s2.heap.objs.size a hlI its.toArray).toS
  have lits : its.length = ns.length := by rw [← rv.length, List.length_map]
  have fpS : ∀ b, s2.heap.objs.size ≤ b → FpOk X pins H2 b := fun b hb => I2.fpOk hb (I2.hok.fresh hb)
  have sz3 : s3.heap.objs.size = s2.heap.objs.size + 1 := by rw [e3]; exact Heap.size_push ..
  have I3 : L2.Inv X pins σ H2 s3 := by rw [e3]; exact I2.kept (t' := s2.toks) fun b o e => Heap.get?_push_of_some _ e
  have hf3 : s3.heap.get? f = some (PySem.W.kla_obj "<lambda>" (X.env.qual ++ "<lambda>") params body scope (cloFrom X.env.cells scope.names []) pm c' ctv) := by rw [e3]; exact Heap.get?_push_of_some _ hf
  have hval : ∀ (i : Nat) (v : Value), its.toArray[i]? = some v → ∃ m : Int, ns[i]? = some m ∧ L2.RelV (.int m) v := fun i v hv => by
    have hv : its[i]? = some v := by simpa using hv
    have hi : i < its.length := (List.getElem?_eq_some_iff.mp hv).1
    obtain ⟨m, hm⟩ : ∃ m, ns[i]? = some m := ⟨_, List.getElem?_eq_getElem (by omega)⟩
    obtain ⟨u, hu, ru⟩ := rv.get (get_map hm)
    rw [hv] at hu
    exact ⟨m, hm, by rw [Option.some.inj hu]; exact ru⟩
  have nfr : ∀ b, s2.heap.objs.size ≤ b → b ∉ frs X.stack := fun b hb z => by
    rcases List.mem_cons.mp (I2.stkSub _ z) with e | e
    · exact Nat.lt_irrefl _ (Nat.lt_of_lt_of_le (by rw [e]; exact I2.lt) hb)
    · exact I2.nofs hb e
  refine ⟨_, _, _, _, _, _, _, fun s' => L2.Inv X pins σ H2 s' ∧ s'.heap.get? f = some (PySem.W.kla_obj "<lambda>" (X.env.qual ++ "<lambda>") params body scope (cloFrom X.env.cells scope.names []) pm c' ctv),
    fun i k _ => ∃ t, k = .int (key i) t, fun i j => decide (key i > key j), rfl, W, st, hfp, ?_, ⟨I3, hf3⟩, fun hn s' hJ => ?_, fun hn v s' hP hJ => ?_⟩
  · have notin : ∀ {b : Addr}, b < s2.heap.objs.size → b ∉ s3.heap.objs.size :: [s2.heap.objs.size] := fun {b} hb z => by
      rcases List.mem_cons.mp z with e | e
      · rw [e, sz3] at hb
        exact Nat.lt_irrefl _ (Nat.lt_of_succ_lt hb)
      · rw [List.mem_singleton.mp e] at hb
        exact Nat.lt_irrefl _ hb
    refine ⟨fun s s' ⟨J1, J2⟩ m => ⟨?_, m.heap f _ (notin hfL) J2⟩, fun _ _ _ _ h _ => h, fun i v s4 o Q4 E4 hi hP ⟨J1, J2⟩ hst hS hQ => ?_, fun i j ki kj s4 Q4 E4 _ ⟨t, h1⟩ ⟨t', h2⟩ hq => ?_⟩
    · obtain ⟨hp', g', d', t', os'⟩ := s'
      obtain rfl : g' = s.gens := m.gens
      obtain rfl : d' = s.drawn := m.drawn
      obtain rfl : os' = s.os := m.os
      refine J1.turnedL (t' := t') (ch := s3.heap.objs.size :: [s2.heap.objs.size]) (fun b o hb e => m.heap b o hb e) fun b hb => ?_
      rcases List.mem_cons.mp hb with e | e
      · rw [e, sz3]; exact fpS _ (Nat.le_succ _)
      · rw [List.mem_singleton.mp e]; exact fpS _ (Nat.le_refl _)
    · obtain ⟨m, hm, rm⟩ := hval i v hP
      refine lam_call S cp hr.in1 (hbind c') (hbody f c') J1 J2 hc rm (hb i m hm _ ⟨rfl, rfl⟩) fun u' s5 ru' I5 kp => ?_
      obtain ⟨t, rfl⟩ := ru'
      have kI : ∀ o, s4.heap.get? s2.heap.objs.size = some o → s5.heap.get? s2.heap.objs.size = some o := fun o e => kp _ o e (I2.hok.fresh (Nat.le_refl _)) (nfr _ (Nat.le_refl _))
      refine hQ _ s5 ⟨I5, kp f _ J2 hfn hfr⟩ ⟨hst.1.at kI, ?_⟩ (kp _ o hS (I2.hok.fresh (by rw [sz3]; exact Nat.le_succ _)) (nfr _ (by rw [sz3]; exact Nat.le_succ _))) ⟨t, rfl⟩ fun _ _ h => h
      obtain ⟨h5, _⟩ := I5.hok a _ hfz2
      obtain ⟨h4, _⟩ := J1.hok a _ hfz2
      exact hst.2.at fun o e => by rw [h4] at e; rw [h5]; exact e
    · subst h1 h2
      exact CmpOf.ints_gt (P := fun i v => ∃ t, v = .int (key i) t) key (fun i v z => z) i j _ _ s4 Q4 E4 ⟨t, rfl⟩ ⟨t', rfl⟩ hq
  · have hne : ns = [] := by
      have : its.length = 0 := by simpa using hn
      exact List.length_eq_zero_iff.mp (by omega)
    exact ⟨.non, H2, hJ.1, rfl, h0 hne⟩
  · obtain ⟨g1, g2⟩ := argBest_gt key (its.toArray.size - 1)
    obtain ⟨m, hm, rm⟩ := hval _ v hP
    refine ⟨.int m, H2, hJ.1, rm, hbest _ m hm fun j hj => g2 j ?_⟩
    simp
    omega
end
end Sn
set_option Elab.async false
set_option linter.all false
set_option maxRecDepth 100000
set_option maxHeartbeats 4000000
/-! The class Stepper. -/
namespace Sn
open PySem PySem.Spec PyProof.Rows L2
structure SA where
  st : Addr
  dx : Addr
  bk : Addr
  dl : Addr
  ll : Addr
  xs : List DA
def SA.own (A : SA) : Addr → Prop := fun b => b = A.st ∨ b = A.dl ∨ b = A.ll ∨ ∃ x ∈ A.xs, b = x.a ∨ b = x.tl
structure StepAt (K : PySem.W.Frag) (H : Hp) (A : SA) (b : BookD) (ds : List DM) (n : Nat) : Prop where
  ins : H A.st = some (.ins (He.ga K "Stepper") A.dx [("own_book", .ref A.bk), ("deals", .ref A.dl), ("log", .ref A.ll)])
  book : BookAt K H A.bk b
  deals : H A.dl = some (.lst (A.xs.map fun x => V.ref x.a))
  log : ∃ log, H A.ll = some (.lst log) ∧ log.length = n
  each : Paired (DealObj K H) A.xs ds
  nd : A.dl ≠ A.ll ∧ (A.xs.map (·.a)).Nodup ∧ (A.xs.map (·.tl)).Nodup ∧ A.dl ∉ A.xs.map (·.tl) ∧ A.ll ∉ A.xs.map (·.tl)
  tabs : LamX.Tabs (TB K) H
section
variable {P : Program} {w : World} {K : PySem.W.Frag} {mg : Str → Option Value} {base : Heap} {S : Addr → Prop} {H H1 : Hp} {A : SA} {b : BookD} {ds : List DM} {n : Nat}
theorem StepAt.fr (h : StepAt K H A b ds n) (f : Fr K S H H1) (hn : ∀ b, A.own b → ¬ S b) : StepAt K H1 A b ds n := by
  obtain ⟨log, h1, h2⟩ := h.log
  refine ⟨f.ins h.ins (hn _ (.inl rfl)), f.book h.book, f.lst h.deals (hn _ (.inr (.inl rfl))), ⟨log, f.lst h1 (hn _ (.inr (.inr (.inl rfl)))), h2⟩, ?_, h.nd, f.tabs h.tabs⟩
  refine pd_of (pd_len h.each) fun i x m hx hm => ?_
  obtain ⟨m', e1, e2⟩ := pd_getL h.each hx
  rw [hm] at e1
  rw [Option.some.inj e1]
  have hxm := List.mem_of_getElem? hx
  exact f.dealObj e2 (hn _ (.inr (.inr (.inr ⟨x, hxm, .inl rfl⟩)))) (hn _ (.inr (.inr (.inr ⟨x, hxm, .inr rfl⟩))))
theorem StepAt.fr0 (h : StepAt K H A b ds n) (f : Fr0 K H H1) : StepAt K H1 A b ds n := h.fr f fun _ _ z => z
theorem StepAt.at_ (h : StepAt K H A b ds n) {i : Nat} {m : DM} (hm : ds[i]? = some m) : ∃ x, A.xs[i]? = some x ∧ DealObj K H x m := pd_get h.each hm
theorem StepAt.len (h : StepAt K H A b ds n) : A.xs.length = ds.length := pd_len h.each
/-- the i-th one, the log are written -/
theorem StepAt.set {i : Nat} {x : DA} {m m' : DM} {n' : Nat} (h : StepAt K H A b ds n) (hx : A.xs[i]? = some x) (hm : ds[i]? = some m) (f : Fr K (fun b => b = x.a ∨ b = x.tl ∨ b = A.ll) H H1) (hd : DealObj K H1 x m') (hl : ∃ log, H1 A.ll = some (.lst log) ∧ log.length = n') :
    StepAt K H1 A b (ds.set i m') n' := by
  obtain ⟨log, h1, h2⟩ := h.log
  obtain ⟨d1, d2, d3, d4, d5⟩ := h.nd
  have hxm := List.mem_of_getElem? hx
  obtain ⟨m0, e1, ⟨⟨ti, gi, hxa⟩, ⟨ts, hxt, _⟩, _⟩⟩ := pd_getL h.each hx
  have ne : ∀ {c d : Addr} {u v : HO}, H c = some u → H d = some v → u ≠ v → c ≠ d := fun hc hd n z => n (by rw [z, hd] at hc; exact (Option.some.inj hc).symm)
  refine ⟨f.ins h.ins ?_, f.book h.book, f.lst h.deals ?_, hl, ?_, h.nd, f.tabs h.tabs⟩
  · rintro (z | z | z)
    · exact ne h.ins hxa (fun q => by injection q with _ _ q; simp at q) z
    · exact ne h.ins hxt (fun q => nomatch q) z
    · exact ne h.ins h1 (fun q => nomatch q) z
  · rintro (z | z | z)
    · exact ne h.deals hxa (fun q => nomatch q) z
    · exact d4 (by rw [z]; exact List.mem_map.mpr ⟨x, hxm, rfl⟩)
    · exact d1 z
  · refine pd_of (by rw [List.length_set]; exact h.len) fun j y q hy hq => ?_
    rcases set_cases hq with ⟨rfl, rfl, _⟩ | ⟨hji, hq⟩
    · rw [hx] at hy
      rw [← Option.some.inj hy]
      exact hd
    · obtain ⟨q', e3, e4⟩ := pd_getL h.each hy
      rw [hq] at e3
      rw [Option.some.inj e3]
      obtain ⟨⟨ti', gi', hya⟩, ⟨ts', hyt, _⟩, _⟩ := id e4
      refine f.dealObj e4 ?_ ?_
      · rintro (z | z | z)
        · exact hji (nd_inj (f := DA.a) d2 hy hx z)
        · exact ne hya hxt (fun q => nomatch q) z
        · exact ne hya h1 (fun q => nomatch q) z
      · rintro (z | z | z)
        · exact ne hyt hxa (fun q => nomatch q) z
        · exact hji (nd_inj (f := DA.tl) d3 hy hx z)
        · exact d5 (by rw [← z]; exact List.mem_map.mpr ⟨y, List.mem_of_getElem? hy, rfl⟩)
theorem SA.own_deal {A : SA} {i : Nat} {x : DA} (hx : A.xs[i]? = some x) : ∀ b, (b = x.a ∨ b = x.tl ∨ b = A.ll) → A.own b := fun b z => by
  have hm := List.mem_of_getElem? hx
  rcases z with z | z | z
  · exact .inr (.inr (.inr ⟨x, hm, .inl z⟩))
  · exact .inr (.inr (.inr ⟨x, hm, .inr z⟩))
  · exact .inr (.inr (.inl z))
def spStepperInit (K : PySem.W.Frag) : Sp := fun vs H Q _ => ∃ (a dx bk : Addr) (b : BookD), vs = [.ref a, .ref bk] ∧ H a = some (.ins (He.ga K "Stepper") dx []) ∧ BookAt K H bk b ∧ b.deals.length ≤ 8 ∧ LamX.Tabs (TB K) H ∧
  ∀ (A : SA) (H' : Hp), A.st = a → A.xs = [] → (∀ c, A.own c → c = a ∨ Nw H c) → Fr K (fun c => c = a) H H' → StepAt K H' A b [] 0 → Q .non H'
theorem c_Stepper (T : Tx K mg) : C8.Mak P w K mg base 3 "Stepper" (He.ga K "Stepper") (spStepperInit K) [] := by
  have c_book_copied : C8.Cal P w K mg base 2 "book_copied" (spBookCopied K) [] := c_book_copied T
  refine T.mak T.D_Stepper_init T.mkr_Stepper T.g_Stepper b_Stepper_init sc_Stepper_init (fun vs H Q E h => ?_) (fun cdv A outer s H vs Q E hr h => ?_)
  · obtain ⟨a, dx, bk, b, rfl, _⟩ := h
    rfl
  · obtain ⟨a, dx, bk, b, rfl, ha, hb, hl, ht, k⟩ := h
    refine ⟨_, (pss_cons (ps_fld (pv 0) (C8.pe_c c_book_copied hr (by decide) rfl (pa_cons (pv 1) pa_nil)) rfl)
      (pss_cons (ps_fld (pv 0) (pe_lst pa_nil) rfl)
      (pss_one (ps_fld (pv 0) (pe_lst pa_nil) rfl)))), ?_⟩
    have C := T.cls_Stepper
    refine ⟨_, rfl, bk, b, rfl, hb, hl, fun p H1 g1 hb1 => ?_⟩
    have a1 := g1.ins ha (fun z => z)
    refine ⟨_, rfl, a, _, dx, _, rfl, a1, C, T.no_Stepper_own_book, (by show 0 < 1000; decide), ?_⟩
    have f2 : Fr K (fun c => c = a) H (upd H1 a (.ins (He.ga K "Stepper") dx (putF "own_book" (.ref p) []))) := g1.wide.at2 rfl a1 trivial
    have g2 : Fr K (fun c => c = a) H1 (upd H1 a (.ins (He.ga K "Stepper") dx (putF "own_book" (.ref p) []))) := .at_ rfl a1 trivial
    have hb2 := g2.book hb1
    have a2 : upd H1 a (.ins (He.ga K "Stepper") dx (putF "own_book" (.ref p) [])) a = some (.ins (He.ga K "Stepper") dx [("own_book", .ref p)]) := upd_same
    generalize upd H1 a (.ins (He.ga K "Stepper") dx (putF "own_book" (.ref p) [])) = H2 at f2 hb2 a2 ⊢
    refine ⟨Nat.zero_le _, fun dl hdl => ?_⟩
    have n1 : a ≠ dl := fun z => by rw [← z, a2] at hdl; cases hdl
    refine ⟨_, rfl, a, _, dx, _, rfl, (upd_ne n1).trans a2, C, T.no_Stepper_deals, (by show 1 < 1000; decide), ?_⟩
    refine ⟨Nat.zero_le _, fun ll hll => ?_⟩
    have n2 : ll ≠ a := fun z => by rw [z, upd_same] at hll; cases hll
    rw [upd_ne n2] at hll
    have n3 : ll ≠ dl := fun z => by rw [z, upd_same] at hll; cases hll
    rw [upd_ne n3] at hll
    refine ⟨_, rfl, a, _, dx, _, rfl, (upd_ne (fun z => n2 z.symm)).trans upd_same, C, T.no_Stepper_log, (by show 2 < 1000; decide), ?_⟩
    have b3 : upd H2 dl (.lst []) a = some (.ins (He.ga K "Stepper") dx [("own_book", .ref p)]) := (upd_ne n1).trans a2
    have f3 : Fr K (fun c => c = a) H2 (upd (upd H2 dl (.lst [])) a (.ins (He.ga K "Stepper") dx (putF "deals" (.ref dl) [("own_book", .ref p)]))) := (Fr.new hdl).trans (.at_ rfl b3 trivial)
    have b4 : upd (upd (upd H2 dl (.lst [])) a (.ins (He.ga K "Stepper") dx (putF "deals" (.ref dl) [("own_book", .ref p)]))) ll (.lst []) a = some (.ins (He.ga K "Stepper") dx (putF "deals" (.ref dl) [("own_book", .ref p)])) := (upd_ne (fun z => n2 z.symm)).trans upd_same
    have f4 : Fr K (fun c => c = a) H2 (upd (upd (upd H2 dl (.lst [])) a (.ins (He.ga K "Stepper") dx (putF "deals" (.ref dl) [("own_book", .ref p)]))) ll (.lst [])) := f3.new2 (by rw [upd_ne n2, upd_ne n3]; exact hll)
    have f5 := f4.at2 (o := .ins (He.ga K "Stepper") dx (putF "log" (.ref ll) [("own_book", .ref p), ("deals", .ref dl)])) rfl b4 trivial
    refine k ⟨a, dx, p, dl, ll, []⟩ _ rfl rfl (fun c hc => ?_) (f2.trans f5) ⟨upd_same, f5.book hb2, ?_, ⟨[], ?_, rfl⟩, .nil, ⟨fun z => n3 z.symm, .nil, .nil, List.not_mem_nil, List.not_mem_nil⟩, (f2.trans f5).tabs ht⟩
    · rcases hc with z | z | z | ⟨x, hx, _⟩
      · exact .inl z
      · rw [z]
        exact .inr (f2.nw (fun z => n1 z.symm) (.of hdl))
      · rw [z]
        exact .inr (f2.nw n2 (.of hll))
      · cases hx
    · show (upd _ _ _) dl = _
      rw [upd_ne (fun z => n1 z.symm), upd_ne (fun z => n3 z.symm), upd_ne (fun z => n1 z.symm), upd_same]; rfl
    · show (upd _ _ _) ll = _
      rw [upd_ne n2, upd_same]
def spDealBy (K : PySem.W.Frag) : Sp := fun vs H Q _ => ∃ (A : SA) (b : BookD) (ds : List DM) (n i : Nat) (x : DA), vs = [.ref A.st, .int (i : Nat)] ∧ StepAt K H A b ds n ∧ A.xs[i]? = some x ∧ Q (.ref x.a) H
theorem m_deal_by (T : Tx K mg) : C8.Met P w K mg base 1 (He.ga K "Stepper") "deal_by" (spDealBy K) [] := by
  refine T.met T.D_Stepper_deal_by T.cls_Stepper T.me_Stepper_deal_by b_Stepper_deal_by sc_Stepper_deal_by (fun vs H Q E h => ?_) (fun cdv A outer s H vs Q E hr h => ?_)
  · obtain ⟨A, b, ds, n, i, x, rfl, _⟩ := h
    rfl
  · obtain ⟨A, b, ds, n, i, x, rfl, h, hx, k⟩ := h
    refine ⟨_, (pss_cons (ps_if (PW.pt (pw_or (pt_not (pt_val (pe_callB call_isi (by rfl) T.fr_isinstance bt_isinstance (pa_cons (pv 1) (pa_cons (pe_bltn (v := .ty "int") (by rfl) T.fr_int bt_int rfl) pa_nil))))) (pw_or (pt_val (pe_callB call_isi (by rfl) T.fr_isinstance bt_isinstance (pa_cons (pv 1) (pa_cons (pe_bltn (v := .ty "bool") (by rfl) T.fr_bool bt_bool rfl) pa_nil)))) (pw_or1 (pt_not (pt_chain op_le op_lt pe_int (pv 1) (pe_callB call_len_seq (by rfl) T.fr_len bt_len (pa_cons (pe_fld (pv 0) rfl) pa_nil))))))))
        (pss_one ps_never)
        pss_nil)
      (pss_one (ps_ret (pe_ix ix_list (pe_fld (pv 0) rfl) (pv 1) (fun _ _ => rfl))))), ?_⟩
    have hlt := (List.getElem?_eq_some_iff.mp hx).1
    refine ⟨_, rfl, _, _, _, _, _, rfl, .ty _, .base (.int _), kit_ty kit_ii, _, rfl, ?_⟩
    refine ⟨_, rfl, _, _, _, _, _, rfl, .ty _, .base (.int _), kit_ty kit_ib, _, rfl, ?_⟩
    refine ⟨_, rfl, _, _, rfl, rfl, _, rfl, ?_⟩
    have c0 : decide ((0 : Int) ≤ ((i : Nat) : Int)) = true := decide_eq_true (by omega)
    rw [c0]
    refine ⟨_, rfl, A.st, _, A.dx, _, _, rfl, h.ins, T.cls_Stepper, T.no_Stepper_deals, rfl, A.dl, _, rfl, .inl (.of h.deals), _, _, rfl, rfl, _, rfl, ?_⟩
    have c1 : decide (((i : Nat) : Int) < ((A.xs.map fun x => V.ref x.a).length : Int)) = true := decide_eq_true (by rw [List.length_map]; omega)
    rw [c1]
    exact ⟨_, rfl, A.st, _, A.dx, _, _, rfl, h.ins, T.cls_Stepper, T.no_Stepper_deals, rfl, _, rfl, A.dl, _, _, _, rfl, rfl, .of h.deals, at_of rfl (get_map hx), k⟩
def spOpenDeal (K : PySem.W.Frag) : Sp := fun vs H Q _ => ∃ (A : SA) (b : BookD) (ds : List DM) (n i : Nat) (x : DA) (m : DM), vs = [.ref A.st, .int (i : Nat)] ∧ StepAt K H A b ds n ∧ A.xs[i]? = some x ∧ ds[i]? = some m ∧ m.word = ("open" : Str) ∧ Q (.ref x.a) H
theorem m_open_deal (T : Tx K mg) : C8.Met P w K mg base 2 (He.ga K "Stepper") "open_deal" (spOpenDeal K) [] := by
  have m_deal_by : C8.Met P w K mg base 1 (He.ga K "Stepper") "deal_by" (spDealBy K) [] := m_deal_by T
  refine T.met T.D_Stepper_open_deal T.cls_Stepper T.me_Stepper_open_deal b_Stepper_open_deal sc_Stepper_open_deal (fun vs H Q E h => ?_) (fun cdv A outer s H vs Q E hr h => ?_)
  · obtain ⟨A, b, ds, n, i, x, m, rfl, _⟩ := h
    rfl
  · obtain ⟨A, b, ds, n, i, x, m, rfl, h, hx, hm, ho, k⟩ := h
    refine ⟨_, (pss_cons (ps_set (i := 2) sc_Stepper_open_deal.nd rfl (Or.inl rfl) (C8.pe_mt m_deal_by hr (by decide) (pv 0) (pa_cons (pv 1) pa_nil)))
      (pss_cons (ps_if (pt_cmpR op_ne (pe_fld (pv 2) rfl) pe_str (nomark _))
        (pss_one ps_never)
        pss_nil)
      (pss_one (ps_ret (pv 2))))), ?_⟩
    obtain ⟨x', e1, ⟨⟨ti, gi, hxa⟩, _⟩⟩ := h.at_ hm
    rw [hx] at e1
    obtain rfl := Option.some.inj e1
    refine ⟨_, rfl, A.st, A.dx, _, rfl, h.ins, rfl, _, rfl, A, b, ds, n, i, x, rfl, h, hx, ?_⟩
    refine ⟨_, rfl, x.a, _, x.dx, _, _, rfl, hxa, T.cls_Deal, T.no_Deal_word, rfl, rfl, _, rfl, ?_⟩
    rw [ho]
    refine ite2 (fun c => ?_) (fun _ => ?_)
    · simp at c
    · exact ⟨_, rfl, k⟩
end
end Sn
set_option Elab.async false
set_option linter.all false
set_option maxRecDepth 100000
set_option maxHeartbeats 4000000
namespace Sn
open PySem PySem.Spec PyProof.Rows L2 NdefX
def TbB (K : PySem.W.Frag) (mg : Str → Option Value) (base : Heap) : Prop := ∀ p ∈ tf, LamX.TabB base mg (He.cT K p).1 (He.cT K p).2
section
variable {P : Program} {w : World} {K : PySem.W.Frag} {mg : Str → Option Value} {base : Heap} {S : Addr → Prop} {H H1 : Hp} {A : SA} {b : BookD} {ds : List DM} {n : Nat}
theorem Fr.ofExtN (e : LamX.ExtN H H1) (t : LamX.Tabs (TB K) H1) : Fr K S H H1 :=
  ⟨fun c o h _ n => e c o h n, fun c o h i => e c o h (fun ps z => by rw [z] at i; exact i), fun _ => t⟩
theorem inD_key {ka p : Addr} {as : List Addr} {k : KeyD} {ks : List KeyD} {Q : VK} (hk : KeyAt K H ka k) (hp : SqL K H p (as.map V.ref)) (h : Paired (KeyAt K H) as ks) (q : Q (.bl (decide (k ∈ ks))) H) : rInD K (.ref ka) (.ref p) H Q :=
  ⟨kdD k, ks.map kdD, dp_key hk, dp_keys hp h, shaped_key hk, shaped_keys h, by rw [any_key]; exact q⟩
theorem notInD_key {ka p : Addr} {as : List Addr} {k : KeyD} {ks : List KeyD} {Q : VK} (hk : KeyAt K H ka k) (hp : SqL K H p (as.map V.ref)) (h : Paired (KeyAt K H) as ks) (q : Q (.bl (!decide (k ∈ ks))) H) : rNotInD K (.ref ka) (.ref p) H Q :=
  ⟨kdD k, ks.map kdD, dp_key hk, dp_keys hp h, shaped_key hk, shaped_keys h, by rw [any_key]; exact q⟩
def spLastWriter (K : PySem.W.Frag) : Sp := fun vs H Q _ => ∃ (A : SA) (b : BookD) (ds : List DM) (n row : Nat) (ka : Addr) (k : KeyD), vs = [.ref A.st, .ref ka, .int (row : Nat)] ∧ StepAt K H A b ds n ∧ WF n ds ∧ KeyAt K H ka k ∧
  ∀ H', Fr0 K H H' → Q (endV (lastW ds k row)) H'
theorem m_last_writer (T : Tx K mg) (B : TbB K mg base) : C8.Met P w K mg base 3 (He.ga K "Stepper") "last_writer" (spLastWriter K) [] := by
  have m_written : C8.Met P w K mg base 1 (He.ga K "Deal") "written" (spWritten K) [] := m_written T
  refine T.metC T.D_Stepper_last_writer T.cls_Stepper T.me_Stepper_last_writer b_Stepper_last_writer sc_Stepper_last_writer (fun vs H Q E h => ?_) (fun A outer s H vs Q E hr h => ?_)
  · obtain ⟨A, b, ds, n, row, ka, k, rfl, _⟩ := h
    rfl
  · obtain ⟨SA, b, ds, n, row, ka, k, rfl, hst, W, hk, q⟩ := h
    refine ⟨_, (pss_cons (ps_set (i := 3) sc_Stepper_last_writer.nd rfl (Or.inl rfl) (pe_lst pa_nil))
      (pss_cons (ps_for PassesOwn.never rfl (pi_enum (by rfl) T.fr_enumerate (pa_cons (pe_fld (pv 0) rfl) pa_nil)) (pg_tup rfl (pgs_cons (pg_name (i := 4) sc_Stepper_last_writer.nd rfl (Or.inl rfl)) (pgs_cons (pg_name (i := 5) sc_Stepper_last_writer.nd rfl (Or.inl rfl)) pgs_nil)))
        (pss_one (ps_if (PW.pt (pw_and (pt_cmpR op_eq (pe_fld (pv 5) rfl) pe_str (nomark _)) (pw_and (pt_cmpR op_lt (pe_fld (pv 5) rfl) (pv 2) (nomark _)) (pw_and1 (pt_cmpR (op_inD (u65_of hr)) (pv 1) (C8.pe_mt0 m_written hr (by decide) (pv 5)) (by rfl))))))
          (pss_one (ps_expr (pe_bm PySem.F.plainAttrs_list PySem.F.slot_list_append PySem.F.type_list_append mt_append (pv 3) (pa_cons (pv 4) pa_nil))))
          pss_nil)))
      (pss_one (ps_ret (pe_maxlam (T := TB K) (N := ["number", "self"]) (fr := ["self"]) (p := "number") (js := [0]) (P := (He.cT K ("Stepper", some "last_writer")).2) (by rfl) (by rfl) T.fr_max bt_max (pa_cons (pe_frz (pv 3)) pa_nil) (B _ (.head _)) rfl (.head _)
        (fun q hq e => by
          rcases List.mem_cons.mp hq with rfl | hq
          · rfl
          · rw [List.mem_singleton.mp hq] at e
            exact absurd e.symm T.apart)
        rfl (fun ok y hy e => ok.has _ ((ndef_free (sc := defScope s_Stepper_last_writer) (fr := ["self"]) (by decide +kernel)) y hy e)) (nscope_by (by decide +kernel)) (fun ok => Caps.made ok (ndef_free (sc := defScope s_Stepper_last_writer) (fr := ["self"]) (by decide +kernel)) (ndef_fr (sc := defScope s_Stepper_last_writer) (fr := ["self"]) (by decide +kernel)) rfl) hr (fun c' pm ctv u => by kernel_rfl)
        (fun f c' A outer s H hr' => pe_fldK (K := K) rfl (pe_ix (ix_listK (K := K) rfl) (pe_fldK (K := K) rfl (pv 1) rfl) (pv 0) (fun _ _ => rfl)) rfl)))))), ?_⟩
    refine ⟨Nat.zero_le _, fun D hD => ?_⟩
    have g1 : Fr0 K H (upd H D (.lst [])) := .new hD
    have hst1 := hst.fr0 g1
    refine ⟨_, rfl, SA.st, _, SA.dx, _, _, rfl, hst1.ins, T.cls_Stepper, T.no_Stepper_deals, rfl, SA.dl, _, rfl, .of hst1.deals, ?_⟩
    let Wj : Nat → Prop := fun j => ∃ d e, Stands ds j d e ∧ e < row ∧ k ∈ d.wrote
    have hlen := hst.len
    refine for_it (walk_enum (K := K) (a := SA.dl) (xs := SA.xs.map fun x => V.ref x.a)) (fun i σ' H' => (∃ x y, σ' = [some (.ref SA.st), some (.ref ka), some (.int (row : Nat)), some (.ref D), x, y]) ∧ Fr0 K H H' ∧ ∃ ns : List Nat, H' D = some (.lst (ns.map fun (j : Nat) => V.int (j : Nat))) ∧ ns.length ≤ i ∧ ∀ j, j ∈ ns ↔ (j < i ∧ Wj j))
      ⟨⟨none, none, rfl⟩, g1, [], upd_same, Nat.le_refl _, fun j => by simp⟩ ?_ ?_ ?_
    · rintro i σ' H' _ ⟨_, g, _⟩
      exact .of (hst.fr0 g).deals
    · rintro i y σ' H' H'' hi ⟨⟨x', y', rfl⟩, g, ns, hq, hl, hm⟩ ⟨t, u, v, rfl, ht, rfl, hu1, hu2⟩
      obtain ⟨x, e1, rfl⟩ := map_get hu2
      obtain ⟨d, e2, hd⟩ := pd_getL hst.each e1
      obtain rfl := Option.some.inj hu1
      have gt : Fr0 K H' (upd H' t (.tup [.int (i : Nat), .ref x.a])) := .new ht
      have gg := g.trans gt
      have hd2 := gg.dealObj hd (fun z => z) (fun z => z)
      have hq2 := gt.lst hq (fun z => z)
      obtain ⟨⟨ti, gi, hx⟩, _⟩ := id hd2
      have skip : ¬ Wj i → ∀ j, j ∈ ns ↔ (j < i + 1 ∧ Wj j) := fun hn j => by
        rw [hm j]
        constructor
        · rintro ⟨a, b⟩; exact ⟨by omega, b⟩
        · rintro ⟨a, b⟩
          refine ⟨?_, b⟩
          rcases Nat.lt_or_ge j i with z | z
          · exact z
          · have : j = i := by omega
            rw [this] at b
            exact absurd b hn
      have hi40 : i < 40 := by
        rw [List.length_map, hlen] at hi
        exact Nat.lt_of_lt_of_le hi W.few
      refine ⟨t, _, rfl, .of upd_same, rfl, _, _, rfl, _, _, rfl, rfl, ?_⟩
      refine ⟨_, rfl, x.a, _, x.dx, _, _, rfl, hx, T.cls_Deal, T.no_Deal_word, rfl, rfl, _, rfl, ?_⟩
      by_cases c : d.word = ("stands" : Str)
      · rw [show decide (V.str d.word = V.str "stands") = true from by rw [c]; exact decide_eq_true rfl]
        obtain ⟨d', e, hS⟩ := stands_of W (mem_standL.mpr ⟨d, e2, c⟩)
        have hdd : d' = d := Option.some.inj (hS.at_.symm.trans e2)
        subst hdd
        have hx2 := hx
        rw [hS.ended] at hx2
        refine ⟨_, rfl, x.a, _, x.dx, _, _, rfl, hx2, T.cls_Deal, T.no_Deal_ended, rfl, _, rfl, _, _, rfl, rfl, _, rfl, ?_⟩
        by_cases c2 : e < row
        · rw [show decide (((e : Nat) : Int) < ((row : Nat) : Int)) = true from decide_eq_true (by omega)]
          refine ⟨_, rfl, _, rfl, x.a, x.dx, _, rfl, hx, rfl, x, d', rfl, hd2, ?_, fun p as H3 hp g3 hq3 hp3 => ?_⟩
          · have := W.len i d' e2
            omega
          refine inD_key ((gg.trans g3).key hk) (.of hq3) hp3 ⟨_, rfl, ?_⟩
          have hq4 := g3.lst hq2 (fun z => z)
          by_cases c3 : k ∈ d'.wrote
          · rw [decide_eq_true c3]
            refine ⟨_, rfl, .inl ⟨rfl, _, .of hq4⟩, _, rfl, D, _, _, rfl, rfl, hq4, ?_, ⟨_, _, rfl⟩, ?_, ns ++ [i], ?_, ?_, fun j => ?_⟩
            · rw [List.length_map]
              exact small1000 (by omega)
            · exact (gg.trans g3).own (.of hD) hq4 trivial
            · rw [List.map_append]; exact upd_same
            · rw [List.length_append, List.length_singleton]; omega
            · rw [List.mem_append, List.mem_singleton, hm j]
              constructor
              · rintro (⟨z1, z2⟩ | rfl)
                · exact ⟨by omega, z2⟩
                · exact ⟨by omega, d', e, hS, c2, c3⟩
              · rintro ⟨z1, z2⟩
                rcases Nat.lt_or_ge j i with z | z
                · exact .inl ⟨z, z2⟩
                · exact .inr (by omega)
          · rw [decide_eq_false c3]
            refine ⟨⟨_, _, rfl⟩, gg.trans g3, ns, hq4, by omega, skip ?_⟩
            rintro ⟨d2, e3, s1, s2, s3⟩
            rw [(s1.inj hS).1] at s3
            exact c3 s3
        · rw [show decide (((e : Nat) : Int) < ((row : Nat) : Int)) = false from decide_eq_false (by omega)]
          refine ⟨⟨_, _, rfl⟩, gg, ns, hq2, by omega, skip ?_⟩
          rintro ⟨d2, e3, s1, s2, s3⟩
          rw [(s1.inj hS).2] at s2
          exact c2 s2
      · rw [show decide (V.str d.word = V.str "stands") = false from decide_eq_false fun z => c (V.str.inj z)]
        refine ⟨⟨_, _, rfl⟩, gg, ns, hq2, by omega, skip ?_⟩
        rintro ⟨d2, e3, s1, s2, s3⟩
        have := s1.at_.symm.trans e2
        rw [← Option.some.inj this] at c
        exact c s1.word
    · rintro σ' H' ⟨⟨x', y', rfl⟩, g, ns, hq, hl, hm⟩
      have hall : ∀ j, j ∈ ns ↔ Wj j := fun j => by
        rw [hm j]
        refine ⟨fun z => z.2, fun z => ⟨?_, z⟩⟩
        obtain ⟨d, e, s, _⟩ := z
        rw [List.length_map, hlen]
        exact (List.getElem?_eq_some_iff.mp s.at_).1
      refine ⟨_, rfl, [D], mut_lst hq, fun H2 z2 => ?_⟩
      obtain ⟨f2, q2, _⟩ := frz_own g (.of hD) hq z2
      let en : Nat → Nat := fun j => ((ds[j]?).bind (·.ended)).getD 0
      have enS : ∀ {j d e}, Stands ds j d e → en j = e := fun {j d e} s => by
        show ((ds[j]?).bind (·.ended)).getD 0 = e
        rw [s.at_]
        show (d.ended).getD 0 = e
        rw [s.ended] <;> rfl
      let key : Nat → Int := fun i => (((ns[i]?).map en).getD 0 : Nat)
      have keyS : ∀ {i j : Nat}, ns[i]? = some j → key i = (en j : Nat) := fun {i j} h => by
        show ((((ns[i]?).map en).getD 0 : Nat) : Int) = _
        rw [h] <;> rfl
      refine ⟨D, ns.map fun (j : Nat) => (j : Int), key, rfl, by rw [List.map_map]; exact q2, f2.tabs hst.tabs, fun H3 hE hT => ?_⟩
      have f3 : Fr0 K H H3 := f2.trans (.ofExtN hE hT)
      refine ⟨fun i m hi Q' hQ' => ?_, fun hn => ?_, fun i m hi hbest => ?_⟩
      · obtain ⟨j, hj, rfl⟩ := map_get hi
        obtain ⟨d, e, s, _⟩ := (hall j).mp (List.mem_of_getElem? hj)
        obtain ⟨x, hx1, hx2⟩ := (hst.fr0 f3).at_ s.at_
        obtain ⟨⟨ti, gi, hx3⟩, _⟩ := hx2
        rw [s.ended] at hx3
        refine ⟨_, rfl, SA.st, _, SA.dx, _, _, rfl, (hst.fr0 f3).ins, T.cls_Stepper, T.no_Stepper_deals, rfl, _, rfl, SA.dl, _, _, .ref x.a, rfl, rfl, .of (hst.fr0 f3).deals, at_of rfl (get_map hx1), x.a, _, x.dx, _, _, rfl, hx3, T.cls_Deal, T.no_Deal_ended, rfl, ?_⟩
        rw [keyS hj, enS s] at hQ'
        exact hQ'
      · have hne : ns = [] := List.map_eq_nil_iff.mp hn
        rw [show (V.non : V) = endV (lastW ds k row) from by
          rw [lastW_none fun i d e s c1 c2 => by
            have := (hall i).mpr ⟨d, e, s, c1, c2⟩
            rw [hne] at this; cases this] <;> rfl]
        exact q _ f3
      · obtain ⟨j, hj, rfl⟩ := map_get hi
        obtain ⟨d, e, s, c1, c2⟩ := (hall j).mp (List.mem_of_getElem? hj)
        have hlast : IsLast ds k row j := ⟨d, e, s, c1, c2, fun j' d' e' s' c1' c2' => by
          obtain ⟨i', hi', hj'⟩ := List.getElem_of_mem ((hall j').mpr ⟨d', e', s', c1', c2'⟩)
          have h1 := hbest i' (by rw [List.length_map]; exact hi')
          have h2 : ns[i']? = some j' := by rw [List.getElem?_eq_getElem hi', hj']
          rw [keyS h2, keyS hj, enS s, enS s'] at h1
          omega⟩
        rw [show (V.int (j : Nat) : V) = endV (lastW ds k row) from by rw [lastW_eq W hlast] <;> rfl]
        exact q _ f3
end
end Sn
set_option Elab.async false
set_option linter.all false
set_option maxRecDepth 100000
set_option maxHeartbeats 4000000
namespace Sn
open PySem PySem.Spec PyProof.Rows L2
section
variable {P : Program} {w : World} {K : PySem.W.Frag} {mg : Str → Option Value} {base : Heap} {S : Addr → Prop} {H H1 : Hp} {A : SA} {b : BookD} {ds : List DM} {n : Nat}
open Classical in
def spIsCalledOff (K : PySem.W.Frag) : Sp := fun vs H Q _ => ∃ (A : SA) (b : BookD) (ds : List DM) (n i : Nat) (d : DM), vs = [.ref A.st, .int (i : Nat)] ∧ StepAt K H A b ds n ∧ WF n ds ∧ ds[i]? = some d ∧
  ∀ H', Fr0 K H H' → Q (.bl (decide (Off ds d))) H'
open Classical in
theorem m_is_called_off (T : Tx K mg) : C8.Met P w K mg base 2 (He.ga K "Stepper") "is_called_off" (spIsCalledOff K) [] := by
  have m_written : C8.Met P w K mg base 1 (He.ga K "Deal") "written" (spWritten K) [] := m_written T
  refine T.met T.D_Stepper_is_called_off T.cls_Stepper T.me_Stepper_is_called_off b_Stepper_is_called_off sc_Stepper_is_called_off (fun vs H Q E h => ?_) (fun cdv A outer s H vs Q E hr h => ?_)
  · obtain ⟨A, b, ds, n, i, d, rfl, _⟩ := h
    rfl
  · obtain ⟨SA, b, ds, n, i, d, rfl, hst, W, hd, q⟩ := h
    refine ⟨_, (pss_cons (ps_set (i := 2) sc_Stepper_is_called_off.nd rfl (Or.inr rfl) (pe_ix ix_list (pe_fld (pv 0) rfl) (pv 1) (fun _ _ => rfl)))
      (pss_cons (ps_for PassesOwn.never rfl (pi_list (pe_fld (pv 0) rfl)) (pg_name (i := 3) sc_Stepper_is_called_off.nd rfl (Or.inl rfl))
        (pss_one (ps_if (PW.pt (pw_and (pt_cmpR op_eq (pe_fld (pv 3) rfl) pe_str (nomark _)) (pw_and1 (pt_cmpR op_gt (pe_fld (pv 3) rfl) (pe_fld (pv 2) rfl) (nomark _)))))
          (pss_one (ps_if (pt_val (pe_callB (cr_any rfl) (by rfl) T.fr_any bt_any (pa_cons (pe_lc (own := [("key", 4)]) (by rfl) sc_Stepper_is_called_off.nd (pi_list (C8.pe_mt0 m_written hr (by decide) (pv 3))) (blkOk_by (own := [("key", 4)]) (N := n_Stepper_is_called_off) (sc := defScope s_Stepper_is_called_off) (by decide +kernel)) (fun _ _ _ _ _ => (pg_name (i := 4) sc_Stepper_is_called_off.nd rfl (Or.inl rfl))) (fun _ _ _ _ _ => pts_nil) (fun _ _ _ _ _ => (pe_cmpR (op_inDK (K := K) rfl (u65_of hr)) (pv 4) (C8.pe_mt0 m_written hr (by decide) (pv 2)) (by rfl)))) pa_nil)))
            (pss_one (ps_ret pe_bl))
            pss_nil))
          pss_nil)))
      (pss_one (ps_ret pe_bl)))), ?_⟩
    obtain ⟨x0, hx0, hd0⟩ := hst.at_ hd
    have hlen := hst.len
    have hl0 := W.len i d hd
    refine ⟨_, rfl, SA.st, _, SA.dx, _, _, rfl, hst.ins, T.cls_Stepper, T.no_Stepper_deals, rfl, _, rfl, SA.dl, _, _, .ref x0.a, rfl, rfl, .of hst.deals, at_of rfl (get_map hx0), ?_⟩
    refine ⟨_, rfl, SA.st, _, SA.dx, _, _, rfl, hst.ins, T.cls_Stepper, T.no_Stepper_deals, rfl, SA.dl, rfl, ⟨_, .of hst.deals⟩, ?_⟩
    let Oj : Nat → Prop := fun j => ∃ d' e, Stands ds j d' e ∧ d.begun < e ∧ ∃ k, k ∈ d'.wrote ∧ k ∈ d.wrote
    refine for_it (walk_list (K := K) (a := SA.dl) (xs := SA.xs.map fun x => V.ref x.a)) (fun j σ' H' => (∃ x y, σ' = [some (.ref SA.st), some (.int (i : Nat)), some (.ref x0.a), x, y]) ∧ Fr0 K H H' ∧ ∀ j', j' < j → ¬ Oj j') ⟨⟨none, none, rfl⟩, .refl _, fun j' z => absurd z (Nat.not_lt_zero _)⟩ ?_ ?_ ?_
    · rintro j σ' H' _ ⟨_, g, _⟩
      exact .of (hst.fr0 g).deals
    · rintro j y σ' H0 H' hi ⟨⟨x', y', rfl⟩, g, hno⟩ ⟨rfl, hy⟩
      obtain ⟨x, e1, rfl⟩ := map_get hy
      obtain ⟨d', e2, hd'⟩ := pd_getL hst.each e1
      have hd2 := g.dealObj hd' (fun z => z) (fun z => z)
      have hd02 := g.dealObj hd0 (fun z => z) (fun z => z)
      obtain ⟨⟨ti, gi, hx⟩, _⟩ := id hd2
      obtain ⟨⟨ti0, gi0, hx0a⟩, _⟩ := id hd02
      have more : ¬ Oj j → ∀ j', j' < j + 1 → ¬ Oj j' := fun hn j' hj' => by
        rcases Nat.lt_or_ge j' j with z | z
        · exact hno j' z
        · have : j' = j := by omega
          rw [this]; exact hn
      refine ⟨_, rfl, x.a, _, x.dx, _, _, rfl, hx, T.cls_Deal, T.no_Deal_word, rfl, rfl, _, rfl, ?_⟩
      by_cases c : d'.word = ("stands" : Str)
      · rw [show decide (V.str d'.word = V.str "stands") = true from by rw [c]; exact decide_eq_true rfl]
        obtain ⟨d'', e, hS⟩ := stands_of W (mem_standL.mpr ⟨d', e2, c⟩)
        obtain rfl : d'' = d' := Option.some.inj (hS.at_.symm.trans e2)
        have hx2 := hx
        rw [hS.ended] at hx2
        refine ⟨_, rfl, x.a, _, x.dx, _, _, rfl, hx2, T.cls_Deal, T.no_Deal_ended, rfl, _, rfl, x0.a, _, x0.dx, _, _, rfl, hx0a, T.cls_Deal, T.no_Deal_begun, rfl, _, _, rfl, rfl, _, rfl, ?_⟩
        by_cases c2 : d.begun < e
        · rw [show decide (((d.begun : Nat) : Int) < ((e : Nat) : Int)) = true from decide_eq_true (by omega)]
          have hl' := W.len j d'' e2
          refine ⟨_, rfl, x.a, x.dx, _, rfl, hx, rfl, x, d'', rfl, hd2, by omega, fun p as H3 hp g3 hq3 hp3 => ?_⟩
          refine ⟨p, rfl, ⟨_, .of hq3⟩, fun D hD => ?_⟩
          have lp := pd_len hp3
          have wl : d''.wrote.length ≤ 8 := by
            have : d''.wrote.length ≤ d''.told.length := by
              unfold DM.wrote
              rw [List.length_map]
              exact List.length_filter_le _ _
            omega
          refine lc_it (walk_list (K := K) (a := p) (xs := as.map V.ref)) (fun m H4 => Fr0 K H3 H4 ∧ ∃ bs : List Bool, H4 D = some (.lst (bs.map V.bl)) ∧ bs = (d''.wrote.take m).map fun k => decide (k ∈ d.wrote)) ⟨.new hD, [], upd_same, by simp⟩ ?_ ?_ ?_
          · rintro m H4 _ ⟨g4, _⟩
            exact .of (g4.lst hq3 (fun z => z))
          · rintro m y H5 H4 hm ⟨g4, bs, hb, rfl⟩ ⟨rfl, hy⟩
            obtain ⟨ka, e3, rfl⟩ := map_get hy
            obtain ⟨k, e4, hk⟩ := pd_getL hp3 e3
            refine ⟨rfl, ?_⟩
            refine ⟨_, rfl, _, rfl, x0.a, x0.dx, _, rfl, (g3.trans g4).ins hx0a (fun z => z), rfl, x0, d, rfl, (g3.trans g4).dealObj hd02 (fun z => z) (fun z => z), by omega, fun p2 as2 H6 hp2 g6 hq6 hp6 => ?_⟩
            refine inD_key (g6.key (g4.key hk)) (.of hq6) hp6 ?_
            refine ⟨_, g6.lst hb (fun z => z), ?_, (g4.trans g6).own (.of hD) (g6.lst hb (fun z => z)) trivial, _, ?_, rfl⟩
            · rw [List.length_map, List.length_map, List.length_take]
              exact Nat.lt_of_le_of_lt (by omega) small8
            · rw [take_snoc e4, List.map_append, List.map_append]
              exact upd_same
          · rintro H4 ⟨g4, bs, hb, rfl⟩
            rw [List.length_map, lp, List.take_length] at hb
            refine ⟨D, _, rfl, .of hb, ?_⟩
            refine ⟨_, rfl, ?_⟩
            rw [List.any_map]
            by_cases c3 : ∃ k, k ∈ d''.wrote ∧ k ∈ d.wrote
            · rw [show (d''.wrote.any (id ∘ fun k => decide (k ∈ d.wrote))) = true from by
                obtain ⟨k, k1, k2⟩ := c3
                exact List.any_eq_true.mpr ⟨k, k1, by simpa using k2⟩]
              have hoff : Off ds d := ⟨j, d'', e, hS, c2, c3⟩
              have := q H4 ((g.trans g3).trans g4)
              rw [decide_eq_true hoff] at this
              exact this
            · rw [show (d''.wrote.any (id ∘ fun k => decide (k ∈ d.wrote))) = false from by
                rw [List.any_eq_false]
                intro k k1 k2
                exact c3 ⟨k, k1, by simpa using k2⟩]
              refine ⟨⟨_, _, rfl⟩, (g.trans g3).trans g4, more ?_⟩
              rintro ⟨d2, e3, s1, _, s3⟩
              rw [(s1.inj hS).1] at s3
              exact c3 s3
        · rw [show decide (((d.begun : Nat) : Int) < ((e : Nat) : Int)) = false from decide_eq_false (by omega)]
          refine ⟨⟨_, _, rfl⟩, g, more ?_⟩
          rintro ⟨d2, e3, s1, s2, _⟩
          rw [(s1.inj hS).2] at s2
          exact c2 s2
      · rw [show decide (V.str d'.word = V.str "stands") = false from decide_eq_false fun z => c (V.str.inj z)]
        refine ⟨⟨_, _, rfl⟩, g, more ?_⟩
        rintro ⟨d2, e3, s1, _⟩
        have := s1.at_.symm.trans e2
        rw [← Option.some.inj this] at c
        exact c s1.word
    · rintro σ' H' ⟨⟨x', y', rfl⟩, g, hno⟩
      have hoff : ¬ Off ds d := by
        rintro ⟨j, d', e, s, c⟩
        refine hno j ?_ ⟨d', e, s, c⟩
        rw [List.length_map, hlen]
        exact (List.getElem?_eq_some_iff.mp s.at_).1
      have := q H' g
      rw [decide_eq_false hoff] at this
      exact this
end
end Sn
set_option Elab.async false
set_option linter.all false
set_option maxRecDepth 100000
set_option maxHeartbeats 4000000
namespace Sn
open PySem PySem.Spec PyProof.Rows L2
section
variable {P : Program} {w : World} {K : PySem.W.Frag} {mg : Str → Option Value} {base : Heap} {S : Addr → Prop} {H H1 : Hp} {A : SA} {b : BookD} {ds : List DM} {n : Nat}
theorem log_some {ll : Addr} (h : ∃ log : List V, H ll = some (.lst log) ∧ log.length = n) (hn : n ≤ 400) : ∃ log : List V, H ll = some (.lst log) ∧ log.length = n ∧ log.length < sizeLine := by
  obtain ⟨log, h1, h2⟩ := h
  exact ⟨log, h1, h2, small1000 (by omega)⟩
def spStep (K : PySem.W.Frag) : Sp := fun vs H Q _ => ∃ (A : SA) (b : BookD) (ds : List DM) (n i : Nat), vs = [.ref A.st, .int (i : Nat)] ∧ StepAt K H A b ds n ∧ WF n ds ∧ n ≤ 400 ∧ RowOk ds (.step i) ∧
  ∀ (v : V) (H' : Hp), Fr K A.own H H' → StepAt K H' A b (doM n ds (.step i)) (n + 1) → Q v H'
theorem m_step (T : Tx K mg) (B : TbB K mg base) : C8.Met P w K mg base 4 (He.ga K "Stepper") "step" (spStep K) [] := by
  have m_open_deal : C8.Met P w K mg base 2 (He.ga K "Stepper") "open_deal" (spOpenDeal K) [] := m_open_deal T
  have m_steps_left : C8.Met P w K mg base 1 (He.ga K "Deal") "steps_left" (spStepsLeft K) [] := m_steps_left T
  have m_next_deed : C8.Met P w K mg base 1 (He.ga K "Deal") "next_deed" (spNextDeed K) [] := m_next_deed T
  have m_written : C8.Met P w K mg base 1 (He.ga K "Deal") "written" (spWritten K) [] := m_written T
  have m_last_writer : C8.Met P w K mg base 3 (He.ga K "Stepper") "last_writer" (spLastWriter K) [] := m_last_writer T B
  refine T.met T.D_Stepper_step T.cls_Stepper T.me_Stepper_step b_Stepper_step sc_Stepper_step (fun vs H Q E h => ?_) (fun cdv A outer s H vs Q E hr h => ?_)
  · obtain ⟨A, b, ds, n, i, rfl, _⟩ := h
    rfl
  · obtain ⟨SA, b, ds, n, i, rfl, hst, W, hn, ⟨d, hd, hop, hleft⟩, q⟩ := h
    refine ⟨_, (pss_cons (ps_set (i := 2) sc_Stepper_step.nd rfl (Or.inl rfl) (C8.pe_mt m_open_deal hr (by decide) (pv 0) (pa_cons (pv 1) pa_nil)))
      (pss_cons (ps_if (pt_cmpR op_eq (C8.pe_mt0 m_steps_left hr (by decide) (pv 2)) pe_int (nomark _))
        (pss_one ps_never)
        pss_nil)
      (pss_cons (ps_asg (C8.pe_mt0 m_next_deed hr (by decide) (pv 2)) (pg_tup rfl (pgs_cons (pg_name (i := 3) sc_Stepper_step.nd rfl (Or.inl rfl)) (pgs_cons (pg_name (i := 4) sc_Stepper_step.nd rfl (Or.inl rfl)) pgs_nil))))
      (pss_cons (ps_set (i := 5) sc_Stepper_step.nd rfl (Or.inl rfl) pe_non)
      (C8.pss_cut (ps_if (pt_cmpR op_ne (pv 3) pe_str (nomark _))
        (pss_cons (ps_set (i := 5) sc_Stepper_step.nd rfl (Or.inl rfl) (pv 1))
        (pss_one (ps_if (pt_cmpR (op_notInD (u65_of hr)) (pv 4) (C8.pe_mt0 m_written hr (by decide) (pv 2)) (by rfl))
          (pss_one (ps_set (i := 5) sc_Stepper_step.nd rfl (Or.inl rfl) (C8.pe_mt m_last_writer hr (by decide) (pv 0) (pa_cons (pv 4) (pa_cons (pe_fld (pv 2) rfl) pa_nil)))))
          pss_nil)))
        pss_nil)
      (pss_cons (ps_expr (pe_bm PySem.F.plainAttrs_list PySem.F.slot_list_append PySem.F.type_list_append mt_append (pe_fld (pv 2) rfl) (pa_cons (pe_tup (pa_cons (pv 3) (pa_cons (pv 4) (pa_cons (pv 5) pa_nil)))) pa_nil)))
      (pss_cons (ps_expr (pe_bm PySem.F.plainAttrs_list PySem.F.slot_list_append PySem.F.type_list_append mt_append (pe_fld (pv 0) rfl) (pa_cons (pe_tup (pa_cons pe_str (pa_cons (pv 1) pa_nil))) pa_nil)))
      (pss_one (ps_ret (pe_tup (pa_cons (pv 3) (pa_cons (pv 4) (pa_cons (pv 5) pa_nil))))))))))))), ?_⟩
    obtain ⟨x, hx, hdo⟩ := hst.at_ hd
    have hl8 := W.len i d hd
    obtain ⟨⟨deed, ky⟩, hat⟩ : ∃ z, d.ahead[d.told.length]? = some z := ⟨_, List.getElem?_eq_getElem hleft⟩
    have hdm : doM n ds (.step i) = ds.set i { d with told := d.told ++ [(deed, ky, seenBy ds i d deed ky)] } := by
      show (match ds[i]? with | some d => _ | none => _) = _
      rw [hd]
      show (match d.ahead[d.told.length]? with | some (deed, k) => _ | none => _) = _
      rw [hat]
    obtain ⟨⟨ti, gi, hxa⟩, _⟩ := id hdo
    refine ⟨_, rfl, SA.st, SA.dx, _, rfl, hst.ins, rfl, _, rfl, SA, b, ds, n, i, x, d, rfl, hst, hx, hd, hop, ?_⟩
    refine ⟨_, rfl, x.a, x.dx, _, rfl, hxa, rfl, x, d, rfl, hdo, rfl, _, rfl, ?_⟩
    refine ite2 (fun c => ?_) (fun _ => ?_)
    · have c := of_decide_eq_true c
      have := V.int.inj c
      omega
    refine ⟨_, rfl, x.a, x.dx, _, rfl, hxa, rfl, x, d, deed, ky, rfl, hdo, hat, fun p ka H1 g1 hp1 hk1 => ?_⟩
    refine ⟨p, _, rfl, hp1, rfl, _, _, rfl, _, _, rfl, rfl, ?_⟩
    have hdo1 := g1.dealObj hdo (fun z => z) (fun z => z)
    have hxa1 := g1.ins hxa (fun z => z)
    refine ⟨fun σ' H' => σ' = [some (.ref SA.st), some (.int (i : Nat)), some (.ref x.a), some (.str deed), some (.ref ka), some (endV (seenBy ds i d deed ky))] ∧ Fr0 K H1 H', ?_, ?_⟩
    · refine ⟨_, rfl, rfl, _, rfl, ?_⟩
      by_cases c : deed = ("write" : Str)
      · rw [show decide (V.str deed = V.str "write") = true from by rw [c]; exact decide_eq_true rfl]
        have e : seenBy ds i d deed ky = none := by unfold seenBy; rw [if_pos c]
        rw [e]
        exact ⟨rfl, .refl _⟩
      · rw [show decide (V.str deed = V.str "write") = false from decide_eq_false fun z => c (V.str.inj z)]
        refine ⟨_, rfl, ?_⟩
        refine ⟨_, rfl, _, rfl, x.a, x.dx, _, rfl, hxa1, rfl, x, d, rfl, hdo1, by omega, fun p2 as H2 hp2 g2 hq2 hp3 => ?_⟩
        refine notInD_key (g2.key hk1) (.of hq2) hp3 ⟨_, rfl, ?_⟩
        by_cases c2 : ky ∈ d.wrote
        · rw [decide_eq_true c2]
          have e : seenBy ds i d deed ky = some i := by unfold seenBy; rw [if_neg c, if_pos c2]
          rw [e]
          exact ⟨rfl, g2⟩
        · rw [decide_eq_false c2]
          have e : seenBy ds i d deed ky = lastW ds ky d.begun := by unfold seenBy; rw [if_neg c, if_neg c2]
          rw [e]
          have hst2 := hst.fr0 (g1.trans g2)
          refine ⟨_, rfl, SA.st, SA.dx, _, rfl, hst2.ins, rfl, _, rfl, _, rfl, x.a, _, x.dx, _, _, rfl, g2.ins hxa1 (fun z => z), T.cls_Deal, T.no_Deal_begun, rfl, SA, b, ds, n, d.begun, ka, ky, rfl, hst2, W, g2.key hk1, fun H3 g3 => ?_⟩
          exact ⟨rfl, g2.trans g3⟩
    · rintro σ' H2 ⟨rfl, g2⟩
      have g12 := g1.trans g2
      have hst2 := hst.fr0 g12
      obtain ⟨⟨ti2, gi2, hx2⟩, ⟨ts, ht1, ht2⟩, hah⟩ := g12.dealObj hdo (fun z => z) (fun z => z)
      have hk2 := g2.key hk1
      refine ⟨_, rfl, x.a, _, x.dx, _, _, rfl, hx2, T.cls_Deal, T.no_Deal_told, rfl, .inl ⟨rfl, _, .of ht1⟩, _, rfl, _, rfl, _, rfl, (by show 3 ≤ sizeLine; decide), fun t ht => ?_⟩
      have g3 : Fr0 K H2 (upd H2 t (.tup [.str deed, .ref ka, endV (seenBy ds i d deed ky)])) := .new ht
      have htt : SqT K (upd H2 t (.tup [.str deed, .ref ka, endV (seenBy ds i d deed ky)])) t [.str deed, .ref ka, endV (seenBy ds i d deed ky)] := .of upd_same
      generalize upd H2 t (.tup [.str deed, .ref ka, endV (seenBy ds i d deed ky)]) = H3 at g3 htt ⊢
      have ht3 := g3.lst ht1 (fun z => z)
      have tl8 := pd_len ht2
      refine ⟨x.tl, _, _, rfl, rfl, ht3, by rw [List.length_map]; exact Nat.lt_of_le_of_lt (by omega) small8, ?_⟩
      have f4 : Fr K (fun c => c = x.a ∨ c = x.tl ∨ c = SA.ll) H3 (upd H3 x.tl (.lst (ts.map V.ref ++ [V.ref t]))) := .at_ (.inr (.inl rfl)) ht3 trivial
      have ht4 : upd H3 x.tl (.lst (ts.map V.ref ++ [V.ref t])) x.tl = some (.lst ((ts ++ [t]).map V.ref)) := by rw [List.map_append]; exact upd_same
      have hll3 := (hst2.fr0 g3).log
      have hst3 := hst2.fr0 g3
      have nll : SA.ll ≠ x.tl := fun z => hst.nd.2.2.2.2 (by rw [z]; exact List.mem_map.mpr ⟨x, List.mem_of_getElem? hx, rfl⟩)
      have nst : SA.st ≠ x.tl := fun z => by
        have := hst3.ins
        rw [z, ht3] at this
        cases this
      have hins4 : upd H3 x.tl (.lst (ts.map V.ref ++ [V.ref t])) SA.st = _ := (upd_ne nst).trans hst3.ins
      have na1 : x.a ≠ x.tl := fun z => by rw [z, ht1] at hx2; cases hx2
      have na2 : x.a ≠ SA.ll := fun z => by
        obtain ⟨l0, l00, _⟩ := hst2.log
        rw [z, l00] at hx2; cases hx2
      have hx4 : upd H3 x.tl (.lst (ts.map V.ref ++ [V.ref t])) x.a = _ := (upd_ne na1).trans (g3.ins hx2 (fun z => z))
      have hll4 : ∃ log : List V, upd H3 x.tl (.lst (ts.map V.ref ++ [V.ref t])) SA.ll = some (.lst log) ∧ log.length = n := by
        obtain ⟨log, l1, l2⟩ := hll3
        exact ⟨log, (upd_ne nll).trans l1, l2⟩
      generalize upd H3 x.tl (.lst (ts.map V.ref ++ [V.ref t])) = H4 at f4 ht4 hins4 hll4 hx4 ⊢
      obtain ⟨log, l1, l2, l3⟩ := log_some hll4 hn
      refine ⟨_, rfl, SA.st, _, SA.dx, _, _, rfl, hins4, T.cls_Stepper, T.no_Stepper_log, rfl, .inl ⟨rfl, _, .of l1⟩, _, rfl, (by show 2 ≤ sizeLine; decide), fun u hu => ?_⟩
      have g5 : Fr0 K H4 (upd H4 u (.tup [.str "step", .int (i : Nat)])) := .new hu
      have l4 := g5.lst l1 (fun z => z)
      have ht5 := g5.lst ht4 (fun z => z)
      have hx5 := g5.ins hx4 (fun z => z)
      generalize upd H4 u (.tup [.str "step", .int (i : Nat)]) = H5 at g5 l4 ht5 hx5 ⊢
      refine ⟨SA.ll, log, _, rfl, rfl, l4, l3, ?_⟩
      have f6 : Fr K (fun c => c = x.a ∨ c = x.tl ∨ c = SA.ll) H5 (upd H5 SA.ll (.lst (log ++ [V.ref u]))) := .at_ (.inr (.inr rfl)) l4 trivial
      have ht6 : upd H5 SA.ll (.lst (log ++ [V.ref u])) x.tl = _ := (upd_ne (fun z => nll z.symm)).trans ht5
      have l6 : upd H5 SA.ll (.lst (log ++ [V.ref u])) SA.ll = some (.lst (log ++ [V.ref u])) := upd_same
      have hx6 : upd H5 SA.ll (.lst (log ++ [V.ref u])) x.a = _ := (upd_ne na2).trans hx5
      generalize upd H5 SA.ll (.lst (log ++ [V.ref u])) = H6 at f6 ht6 l6 hx6 ⊢
      refine ⟨_, rfl, _, rfl, _, rfl, (by show 3 ≤ sizeLine; decide), fun r hr' => ?_⟩
      have g7 : Fr0 K H6 (upd H6 r (.tup [.str deed, .ref ka, endV (seenBy ds i d deed ky)])) := .new hr'
      have ff : Fr K (fun c => c = x.a ∨ c = x.tl ∨ c = SA.ll) H3 (upd H6 r (.tup [.str deed, .ref ka, endV (seenBy ds i d deed ky)])) := ((f4.trans g5.wide).trans f6).trans g7.wide
      have fall : Fr K (fun c => c = x.a ∨ c = x.tl ∨ c = SA.ll) H (upd H6 r (.tup [.str deed, .ref ka, endV (seenBy ds i d deed ky)])) := ((g12.trans g3).wide).trans ff
      refine q _ _ (fall.mono (SA.own_deal hx)) ?_
      rw [hdm]
      refine hst.set hx hd fall ⟨⟨ti2, gi2, ?_⟩, ⟨ts ++ [t], g7.lst ht6 (fun z => z), pd_snoc (pd_map ht2 fun _ _ z => ff.told (g3.told z)) ⟨ka, ff.tup htt, ff.key (g3.key hk2)⟩⟩, ?_⟩ ⟨_, g7.lst l6 (fun z => z), by rw [List.length_append, List.length_singleton, l2]⟩
      · exact g7.ins hx6 (fun z => z)
      · obtain ⟨o, kvs, steps, h4, h6, h7⟩ := hah
        exact ⟨o, kvs, steps, ff.pairs (g3.pairs h4), ff.imm _ _ (g3.imm _ _ h6 trivial) trivial, pd_map h7 fun _ _ ⟨e, ka, z1, z2⟩ => ⟨e, ka, z1, ff.key (g3.key z2)⟩⟩
def spLookAtEnd (K : PySem.W.Frag) : Sp := fun vs H Q _ => ∃ (A : SA) (b : BookD) (ds : List DM) (n i : Nat), vs = [.ref A.st, .int (i : Nat)] ∧ StepAt K H A b ds n ∧ RowOk ds (.fin i) ∧ Q .non H
theorem m_look_at_end (T : Tx K mg) : C8.Met P w K mg base 3 (He.ga K "Stepper") "look_at_end" (spLookAtEnd K) [] := by
  have m_open_deal : C8.Met P w K mg base 2 (He.ga K "Stepper") "open_deal" (spOpenDeal K) [] := m_open_deal T
  have m_steps_left : C8.Met P w K mg base 1 (He.ga K "Deal") "steps_left" (spStepsLeft K) [] := m_steps_left T
  refine T.met T.D_Stepper_look_at_end T.cls_Stepper T.me_Stepper_look_at_end b_Stepper_look_at_end sc_Stepper_look_at_end (fun vs H Q E h => ?_) (fun cdv A outer s H vs Q E hr h => ?_)
  · obtain ⟨A, b, ds, n, i, rfl, _⟩ := h
    rfl
  · obtain ⟨SA, b, ds, n, i, rfl, hst, ⟨d, hd, hop, hleft⟩, q⟩ := h
    refine ⟨_, (pss_cons (ps_set (i := 2) sc_Stepper_look_at_end.nd rfl (Or.inl rfl) (C8.pe_mt m_open_deal hr (by decide) (pv 0) (pa_cons (pv 1) pa_nil)))
      (pss_one (ps_if (pt_cmpR op_gt (C8.pe_mt0 m_steps_left hr (by decide) (pv 2)) pe_int (nomark _))
        (pss_one ps_never)
        pss_nil))), ?_⟩
    obtain ⟨x, hx, hdo⟩ := hst.at_ hd
    obtain ⟨⟨ti, gi, hxa⟩, _⟩ := id hdo
    refine ⟨_, rfl, SA.st, SA.dx, _, rfl, hst.ins, rfl, _, rfl, SA, b, ds, n, i, x, d, rfl, hst, hx, hd, hop, ?_⟩
    refine ⟨_, rfl, x.a, x.dx, _, rfl, hxa, rfl, x, d, rfl, hdo, _, _, rfl, rfl, _, rfl, ?_⟩
    refine ite2 (fun c => ?_) (fun _ => q)
    have c := of_decide_eq_true c
    omega
/-- the i-th one is closed by a word, the log grows -/
theorem close_tail {ds : List DM} {i : Nat} {d : DM} {x : DA} {wd : Str} {rw_ : List V} {Q : Hp → Prop} (hst : StepAt K H A b ds n) (hx : A.xs[i]? = some x) (hd : ds[i]? = some d) (hn : n ≤ 400)
    {H1 : Hp} (g1 : Fr K (fun c => c = x.a) H H1) (hd1 : DealObj K H1 x { d with ended := some n, word := wd })
    (q : ∀ H', Fr K A.own H H' → StepAt K H' A b (ds.set i { d with ended := some n, word := wd }) (n + 1) → Q H') :
    H1 A.st = some (.ins (He.ga K "Stepper") A.dx [("own_book", .ref A.bk), ("deals", .ref A.dl), ("log", .ref A.ll)]) ∧ ∃ log : List V, H1 A.ll = some (.lst log) ∧ log.length = n ∧ ∀ u, H1 u = none → upd H1 u (.tup rw_) A.ll = some (.lst log) ∧ Q (upd (upd H1 u (.tup rw_)) A.ll (.lst (log ++ [V.ref u]))) := by
  obtain ⟨m0, e1, ⟨⟨ti, gi, hxa⟩, ⟨ts, hxt, _⟩, _⟩⟩ := pd_getL hst.each hx
  obtain ⟨log, l1, l2⟩ := hst.log
  have n1 : A.st ≠ x.a := fun z => by
    have := hst.ins
    rw [z, hxa] at this
    simp at this
  have n2 : A.ll ≠ x.a := fun z => by rw [z, hxa] at l1; cases l1
  have l1' := g1.lst l1 n2
  refine ⟨g1.ins hst.ins n1, log, l1', l2, fun u hu => ?_⟩
  have g2 : Fr0 K H1 (upd H1 u (.tup rw_)) := .new hu
  have l3 := g2.lst l1' (fun z => z)
  refine ⟨l3, ?_⟩
  have f3 : Fr K (fun c => c = x.a ∨ c = x.tl ∨ c = A.ll) (upd H1 u (.tup rw_)) (upd (upd H1 u (.tup rw_)) A.ll (.lst (log ++ [V.ref u]))) := .at_ (.inr (.inr rfl)) l3 trivial
  have fall : Fr K (fun c => c = x.a ∨ c = x.tl ∨ c = A.ll) H (upd (upd H1 u (.tup rw_)) A.ll (.lst (log ++ [V.ref u]))) := (g1.mono fun _ z => .inl z).trans (g2.wide.trans f3)
  have hxl : A.ll ∉ A.xs.map (·.tl) := hst.nd.2.2.2.2
  have ff : Fr K (fun c => c = A.ll) H1 (upd (upd H1 u (.tup rw_)) A.ll (.lst (log ++ [V.ref u]))) := g2.wide.trans (.at_ rfl l3 trivial)
  refine q _ (fall.mono (SA.own_deal hx)) (hst.set hx hd fall (ff.dealObj hd1 (fun z => n2 z.symm) fun z => hxl (by rw [← z]; exact List.mem_map.mpr ⟨x, List.mem_of_getElem? hx, rfl⟩)) ⟨_, upd_same, by rw [List.length_append, List.length_singleton, l2]⟩)
open Classical in
def spClose (K : PySem.W.Frag) : Sp := fun vs H Q _ => ∃ (A : SA) (b : BookD) (ds : List DM) (n i : Nat) (d : DM) (o : Bool), vs = [.ref A.st, .int (i : Nat), .bl o] ∧ StepAt K H A b ds n ∧ n ≤ 400 ∧ ds[i]? = some d ∧
  ∀ H', Fr K A.own H H' → StepAt K H' A b (ds.set i { d with ended := some n, word := if o = true then ("stands" : Str) else ("off" : Str) }) (n + 1) → Q (.bl o) H'
theorem m_close (T : Tx K mg) : C8.Met P w K mg base 2 (He.ga K "Stepper") "close" (spClose K) [] := by
  have m_closed : C8.Met P w K mg base 1 (He.ga K "Deal") "closed" (spClosed K) [] := m_closed T
  refine T.met T.D_Stepper_close T.cls_Stepper T.me_Stepper_close b_Stepper_close sc_Stepper_close (fun vs H Q E h => ?_) (fun cdv A outer s H vs Q E hr h => ?_)
  · obtain ⟨A, b, ds, n, i, d, o, rfl, _⟩ := h
    rfl
  · obtain ⟨SA, b, ds, n, i, d, o, rfl, hst, hn, hd, q⟩ := h
    refine ⟨_, (pss_cons (ps_set (i := 3) sc_Stepper_close.nd rfl (Or.inl rfl) (pe_ix ix_list (pe_fld (pv 0) rfl) (pv 1) (fun _ _ => rfl)))
      (pss_cons (ps_expr (C8.pe_mt m_closed hr (by decide) (pv 3) (pa_cons (pe_ix ix_list (pe_lst (pa_cons pe_str (pa_cons pe_str pa_nil))) (pe_callTy call_int1 (by rfl) T.fr_int bt_int (pa_cons (pv 2) pa_nil)) (fun _ _ => rfl)) (pa_cons (pe_callB call_len_seq (by rfl) T.fr_len bt_len (pa_cons (pe_fld (pv 0) rfl) pa_nil)) pa_nil))))
      (pss_cons (ps_expr (pe_bm PySem.F.plainAttrs_list PySem.F.slot_list_append PySem.F.type_list_append mt_append (pe_fld (pv 0) rfl) (pa_cons (pe_tup (pa_cons pe_str (pa_cons (pv 1) pa_nil))) pa_nil)))
      (pss_one (ps_ret (pv 2)))))), ?_⟩
    obtain ⟨x, hx, hdo⟩ := hst.at_ hd
    refine ⟨_, rfl, SA.st, _, SA.dx, _, _, rfl, hst.ins, T.cls_Stepper, T.no_Stepper_deals, rfl, _, rfl, SA.dl, _, _, .ref x.a, rfl, rfl, .of hst.deals, at_of rfl (get_map hx), ?_⟩
    obtain ⟨⟨ti, gi, hxa⟩, _⟩ := id hdo
    refine ⟨_, rfl, x.a, x.dx, _, rfl, hxa, rfl, (by show 2 ≤ sizeLine; decide), fun l hl => ?_⟩
    have g1 : Fr0 K H (upd H l (.lst [.str "off", .str "stands"])) := .new hl
    have hst1 := hst.fr0 g1
    refine ⟨_, rfl, .inr ⟨o, rfl, ?_⟩⟩
    obtain ⟨log, l1, l2⟩ := hst1.log
    have hdo1 := g1.dealObj hdo (fun z => z) (fun z => z)
    refine ⟨l, [.str "off", .str "stands"], _, .str (if o = true then ("stands" : Str) else ("off" : Str)), rfl, rfl, .of upd_same, by cases o <;> rfl, ?_⟩
    refine ⟨_, rfl, SA.st, _, SA.dx, _, _, rfl, hst1.ins, T.cls_Stepper, T.no_Stepper_log, rfl, SA.ll, _, rfl, .inl (.of l1), x, d, (if o = true then ("stands" : Str) else ("off" : Str)), n, (by rw [l2]; rfl), hdo1, fun H2 g2 hd2 => ?_⟩
    obtain ⟨c1, log2, c2, c3, c4⟩ := close_tail (rw_ := [.str "end", .int (i : Nat)]) (Q := fun H' => Q (.bl o) H') hst hx hd hn (g1.wide.trans g2) hd2 q
    refine ⟨_, rfl, SA.st, _, SA.dx, _, _, rfl, c1, T.cls_Stepper, T.no_Stepper_log, rfl, .inl ⟨rfl, _, .of c2⟩, _, rfl, (by show 2 ≤ sizeLine; decide), fun u hu => ?_⟩
    obtain ⟨c5, c6⟩ := c4 u hu
    exact ⟨SA.ll, log2, _, rfl, rfl, c5, small1000 (by omega), _, rfl, c6⟩
def spShut (K : PySem.W.Frag) : Sp := fun vs H Q _ => ∃ (A : SA) (b : BookD) (ds : List DM) (n i : Nat) (d : DM), vs = [.ref A.st, .int (i : Nat)] ∧ StepAt K H A b ds n ∧ n ≤ 400 ∧ ds[i]? = some d ∧
  ∀ H', Fr K A.own H H' → StepAt K H' A b (ds.set i { d with ended := some n, word := ("off" : Str) }) (n + 1) → Q .non H'
theorem m_shut (T : Tx K mg) : C8.Met P w K mg base 2 (He.ga K "Stepper") "shut" (spShut K) [] := by
  have m_closed : C8.Met P w K mg base 1 (He.ga K "Deal") "closed" (spClosed K) [] := m_closed T
  refine T.met T.D_Stepper_shut T.cls_Stepper T.me_Stepper_shut b_Stepper_shut sc_Stepper_shut (fun vs H Q E h => ?_) (fun cdv A outer s H vs Q E hr h => ?_)
  · obtain ⟨A, b, ds, n, i, d, rfl, _⟩ := h
    rfl
  · obtain ⟨SA, b, ds, n, i, d, rfl, hst, hn, hd, q⟩ := h
    refine ⟨_, (pss_cons (ps_set (i := 2) sc_Stepper_shut.nd rfl (Or.inl rfl) (pe_ix ix_list (pe_fld (pv 0) rfl) (pv 1) (fun _ _ => rfl)))
      (pss_cons (ps_expr (C8.pe_mt m_closed hr (by decide) (pv 2) (pa_cons pe_str (pa_cons (pe_callB call_len_seq (by rfl) T.fr_len bt_len (pa_cons (pe_fld (pv 0) rfl) pa_nil)) pa_nil))))
      (pss_one (ps_expr (pe_bm PySem.F.plainAttrs_list PySem.F.slot_list_append PySem.F.type_list_append mt_append (pe_fld (pv 0) rfl) (pa_cons (pe_tup (pa_cons pe_str (pa_cons (pv 1) pa_nil))) pa_nil)))))), ?_⟩
    obtain ⟨x, hx, hdo⟩ := hst.at_ hd
    refine ⟨_, rfl, SA.st, _, SA.dx, _, _, rfl, hst.ins, T.cls_Stepper, T.no_Stepper_deals, rfl, _, rfl, SA.dl, _, _, .ref x.a, rfl, rfl, .of hst.deals, at_of rfl (get_map hx), ?_⟩
    obtain ⟨⟨ti, gi, hxa⟩, _⟩ := id hdo
    obtain ⟨log, l1, l2⟩ := hst.log
    refine ⟨_, rfl, x.a, x.dx, _, rfl, hxa, rfl, _, rfl, SA.st, _, SA.dx, _, _, rfl, hst.ins, T.cls_Stepper, T.no_Stepper_log, rfl, SA.ll, _, rfl, .inl (.of l1), x, d, ("off" : Str), n, (by rw [l2]; rfl), hdo, fun H2 g2 hd2 => ?_⟩
    obtain ⟨c1, log2, c2, c3, c4⟩ := close_tail (rw_ := [.str "drop", .int (i : Nat)]) (Q := fun H' => Q .non H') hst hx hd hn g2 hd2 q
    refine ⟨_, rfl, SA.st, _, SA.dx, _, _, rfl, c1, T.cls_Stepper, T.no_Stepper_log, rfl, .inl ⟨rfl, _, .of c2⟩, _, rfl, (by show 2 ≤ sizeLine; decide), fun u hu => ?_⟩
    obtain ⟨c5, c6⟩ := c4 u hu
    exact ⟨SA.ll, log2, _, rfl, rfl, c5, small1000 (by omega), c6⟩
def spEnd (K : PySem.W.Frag) : Sp := fun vs H Q _ => ∃ (A : SA) (b : BookD) (ds : List DM) (n i : Nat), vs = [.ref A.st, .int (i : Nat)] ∧ StepAt K H A b ds n ∧ WF n ds ∧ n ≤ 400 ∧ RowOk ds (.fin i) ∧
  ∀ (v : V) (H' : Hp), Fr K A.own H H' → StepAt K H' A b (doM n ds (.fin i)) (n + 1) → Q v H'
open Classical in
theorem m_end (T : Tx K mg) : C8.Met P w K mg base 4 (He.ga K "Stepper") "end" (spEnd K) [] := by
  have m_look_at_end : C8.Met P w K mg base 3 (He.ga K "Stepper") "look_at_end" (spLookAtEnd K) [] := m_look_at_end T
  have m_close : C8.Met P w K mg base 2 (He.ga K "Stepper") "close" (spClose K) [] := m_close T
  have m_is_called_off : C8.Met P w K mg base 2 (He.ga K "Stepper") "is_called_off" (spIsCalledOff K) [] := m_is_called_off T
  refine T.met T.D_Stepper_end T.cls_Stepper T.me_Stepper_end b_Stepper_end sc_Stepper_end (fun vs H Q E h => ?_) (fun cdv A outer s H vs Q E hr h => ?_)
  · obtain ⟨A, b, ds, n, i, rfl, _⟩ := h
    rfl
  · obtain ⟨SA, b, ds, n, i, rfl, hst, W, hn, hok, q⟩ := h
    refine ⟨_, (pss_cons (ps_expr (C8.pe_mt m_look_at_end hr (by decide) (pv 0) (pa_cons (pv 1) pa_nil)))
      (pss_one (ps_ret (C8.pe_mt m_close hr (by decide) (pv 0) (pa_cons (pv 1) (pa_cons (pe_not (C8.pe_mt m_is_called_off hr (by decide) (pv 0) (pa_cons (pv 1) pa_nil))) pa_nil)))))), ?_⟩
    refine ⟨_, rfl, SA.st, SA.dx, _, rfl, hst.ins, rfl, _, rfl, SA, b, ds, n, i, rfl, hst, hok, ?_⟩
    obtain ⟨d, hd, hop, hleft⟩ := hok
    refine ⟨_, rfl, SA.st, SA.dx, _, rfl, hst.ins, rfl, _, rfl, _, rfl, SA.st, SA.dx, _, rfl, hst.ins, rfl, _, rfl, SA, b, ds, n, i, d, rfl, hst, W, hd, fun H1 g1 => ?_⟩
    refine ⟨_, rfl, SA, b, ds, n, i, d, _, rfl, hst.fr0 g1, hn, hd, fun H2 f2 hst2 => ?_⟩
    refine q _ H2 (g1.wide.trans f2) ?_
    have e : doM n ds (.fin i) = ds.set i { d with ended := some n, word := if (!decide (Off ds d)) = true then ("stands" : Str) else ("off" : Str) } := by
      show (match ds[i]? with | some d => _ | none => _) = _
      rw [hd]
      by_cases c : Off ds d
      · simp [c]
      · simp [c]
    rw [e]
    exact hst2
def spDrop (K : PySem.W.Frag) : Sp := fun vs H Q _ => ∃ (A : SA) (b : BookD) (ds : List DM) (n i : Nat), vs = [.ref A.st, .int (i : Nat)] ∧ StepAt K H A b ds n ∧ n ≤ 400 ∧ RowOk ds (.drop i) ∧
  ∀ (v : V) (H' : Hp), Fr K A.own H H' → StepAt K H' A b (doM n ds (.drop i)) (n + 1) → Q v H'
theorem m_drop (T : Tx K mg) : C8.Met P w K mg base 3 (He.ga K "Stepper") "drop" (spDrop K) [] := by
  have m_open_deal : C8.Met P w K mg base 2 (He.ga K "Stepper") "open_deal" (spOpenDeal K) [] := m_open_deal T
  have m_shut : C8.Met P w K mg base 2 (He.ga K "Stepper") "shut" (spShut K) [] := m_shut T
  refine T.met T.D_Stepper_drop T.cls_Stepper T.me_Stepper_drop b_Stepper_drop sc_Stepper_drop (fun vs H Q E h => ?_) (fun cdv A outer s H vs Q E hr h => ?_)
  · obtain ⟨A, b, ds, n, i, rfl, _⟩ := h
    rfl
  · obtain ⟨SA, b, ds, n, i, rfl, hst, hn, ⟨d, hd, hop⟩, q⟩ := h
    refine ⟨_, (pss_cons (ps_expr (C8.pe_mt m_open_deal hr (by decide) (pv 0) (pa_cons (pv 1) pa_nil)))
      (pss_one (ps_expr (C8.pe_mt m_shut hr (by decide) (pv 0) (pa_cons (pv 1) pa_nil))))), ?_⟩
    obtain ⟨x, hx, hdo⟩ := hst.at_ hd
    refine ⟨_, rfl, SA.st, SA.dx, _, rfl, hst.ins, rfl, _, rfl, SA, b, ds, n, i, x, d, rfl, hst, hx, hd, hop, ?_⟩
    refine ⟨_, rfl, SA.st, SA.dx, _, rfl, hst.ins, rfl, _, rfl, SA, b, ds, n, i, d, rfl, hst, hn, hd, fun H2 f2 hst2 => ?_⟩
    refine q _ H2 f2 ?_
    have e : doM n ds (.drop i) = ds.set i { d with ended := some n, word := ("off" : Str) } := by
      show (match ds[i]? with | some d => _ | none => _) = _
      rw [hd]
    rw [e]
    exact hst2
end
end Sn
set_option Elab.async false
set_option linter.all false
set_option maxRecDepth 100000
set_option maxHeartbeats 4000000
namespace Sn
open PySem PySem.Spec PyProof.Rows L2
section
variable {P : Program} {w : World} {K : PySem.W.Frag} {mg : Str → Option Value} {base : Heap} {S : Addr → Prop} {H H1 : Hp} {A : SA} {b : BookD} {ds : List DM} {n : Nat}
theorem StepAt.add {x : DA} {m : DM} {n' : Nat} (h : StepAt K H A b ds n) (f : Fr K (fun c => c = A.dl ∨ c = A.ll) H H1) (hx1 : Nw H x.a) (hx2 : Nw H x.tl) (hd : DealObj K H1 x m) (hdl : H1 A.dl = some (.lst ((A.xs ++ [x]).map fun x => V.ref x.a)))
    (hl : ∃ log, H1 A.ll = some (.lst log) ∧ log.length = n') : StepAt K H1 { A with xs := A.xs ++ [x] } b (ds ++ [m]) n' := by
  obtain ⟨log, h1, h2⟩ := h.log
  obtain ⟨d1, d2, d3, d4, d5⟩ := h.nd
  have ne : ∀ {c d : Addr} {u v : HO}, H c = some u → H d = some v → u ≠ v → c ≠ d := fun hc hd n z => n (by rw [z, hd] at hc; exact (Option.some.inj hc).symm)
  have each : ∀ y ∈ A.xs, ∃ m, DealObj K H y m := fun y hy => by
    obtain ⟨i, hi⟩ := List.mem_iff_getElem?.mp hy
    obtain ⟨m0, e1, e2⟩ := pd_getL h.each hi
    exact ⟨m0, e2⟩
  refine ⟨f.ins h.ins ?_, f.book h.book, hdl, hl, ?_, ⟨d1, ?_, ?_, ?_, ?_⟩, f.tabs h.tabs⟩
  · rintro (z | z)
    · exact ne h.ins h.deals (fun q => nomatch q) z
    · exact ne h.ins h1 (fun q => nomatch q) z
  · refine pd_snoc ?_ hd
    refine pd_of h.len fun j y q hy hq => ?_
    obtain ⟨q', e3, e4⟩ := pd_getL h.each hy
    rw [hq] at e3
    rw [Option.some.inj e3]
    obtain ⟨⟨ti', gi', hya⟩, ⟨ts', hyt, _⟩, _⟩ := id e4
    refine f.dealObj e4 ?_ ?_
    · rintro (z | z)
      · exact ne hya h.deals (fun q => nomatch q) z
      · exact ne hya h1 (fun q => nomatch q) z
    · rintro (z | z)
      · exact d4 (by rw [← z]; exact List.mem_map.mpr ⟨y, List.mem_of_getElem? hy, rfl⟩)
      · exact d5 (by rw [← z]; exact List.mem_map.mpr ⟨y, List.mem_of_getElem? hy, rfl⟩)
  · rw [List.map_append]
    refine List.nodup_append.mpr ⟨d2, by simp, fun c hc e he => ?_⟩
    rw [List.map_singleton, List.mem_singleton] at he
    obtain ⟨y, hy, rfl⟩ := List.mem_map.mp hc
    obtain ⟨m0, ⟨⟨ti, gi, hya⟩, _⟩⟩ := each y hy
    rw [he]
    exact hx1.ne hya (fun ps z => nomatch z)
  · rw [List.map_append]
    refine List.nodup_append.mpr ⟨d3, by simp, fun c hc e he => ?_⟩
    rw [List.map_singleton, List.mem_singleton] at he
    obtain ⟨y, hy, rfl⟩ := List.mem_map.mp hc
    obtain ⟨m0, ⟨_, ⟨ts, hyt, _⟩, _⟩⟩ := each y hy
    rw [he]
    exact hx2.ne hyt (fun ps z => nomatch z)
  · rw [List.map_append, List.mem_append, not_or]
    refine ⟨d4, ?_⟩
    rw [List.map_singleton, List.mem_singleton]
    exact hx2.ne h.deals (fun ps z => nomatch z)
  · rw [List.map_append, List.mem_append, not_or]
    refine ⟨d5, ?_⟩
    rw [List.map_singleton, List.mem_singleton]
    exact hx2.ne h1 (fun ps z => nomatch z)
theorem BookOk.fit {j : Nat} {d : DealD} {ks : List KeyD} (B : BookOk b) (hj : b.deals[j]? = some d) (F : KeysFit b d ks) : DealFit d ks := by
  obtain ⟨kn, many, hk, hall⟩ := B.kinds
  have D := hall d (List.mem_of_getElem? hj)
  exact ⟨F.len, D.marks, fun p hp => (D.deed p hp).2, by have := D.lets; omega, D.stps.2⟩
/-- what a row leaves -/
def After (K : PySem.W.Frag) (H : Hp) (A : SA) (b : BookD) (ds : List DM) (n : Nat) (r : RowM) (A' : SA) (H' : Hp) : Prop :=
  A'.st = A.st ∧ (∀ c, A'.own c → A.own c ∨ Nw H c) ∧ Fr K A.own H H' ∧ StepAt K H' A' b (doM n ds r) (n + 1)
def spBegin (K : PySem.W.Frag) : Sp := fun vs H Q _ => ∃ (A : SA) (b : BookD) (ds : List DM) (n j : Nat) (d : DealD) (kl : Addr) (ks : List KeyD), vs = [.ref A.st, .str d.name, .ref kl] ∧ StepAt K H A b ds n ∧ n ≤ 400 ∧ ds.length < 40 ∧ BookOk b ∧ b.deals[j]? = some d ∧
  KeysAt K H kl ks ∧ KeysFit b d ks ∧ ∀ (A' : SA) (v : V) (H' : Hp), After K H A b ds n (.begin (resolve d ks)) A' H' → Q v H'
theorem m_begin (T : Tx K mg) : C8.Met P w K mg base 4 (He.ga K "Stepper") "begin" (spBegin K) [] := by
  have c_dealing_by : C8.Cal P w K mg base 2 "dealing_by" (spDealingBy K) [] := c_dealing_by T
  have c_are_keys : C8.Cal P w K mg base 3 "are_keys" (spAreKeys K) [] := c_are_keys T
  have c_Deal : C8.Mak P w K mg base 1 "Deal" (He.ga K "Deal") (spDealInit K) [] := c_Deal T
  obtain ⟨fd, F⟩ := T.D_Stepper_begin
  obtain ⟨dsx, rv, hb⟩ := F.binds1 (ps := ["self", "name", "keys"]) 3 1 (by simp) rfl fun T' kV doc pm an cdv ct us its h1 h2 => by
    obtain ⟨a, b, c, rfl⟩ : ∃ a b c, us = [a, b, c] := by
      match us, h1 with
      | [a, b, c], _ => exact ⟨a, b, c, rfl⟩
    obtain ⟨e, rfl⟩ : ∃ e, its = [e] := by
      match its, h2 with
      | [e], _ => exact ⟨e, rfl⟩
    exact ⟨_, rfl, by kernel_rfl⟩
  cases rv
  refine ⟨_, fd, ["self", "name", "keys"], [], T.cls_Stepper, T.me_Stepper_begin, F.ok sc_Stepper_begin (fun vs H Q E h => ?_) (fun cdv A outer s H vs Q E hr h => ?_), hb, .nil⟩
  · obtain ⟨A, b, ds, n, j, d, kl, ks, rfl, _⟩ := h
    rfl
  suffices hx : ∃ t, PSs (cxOf L2.CX0 P w K mg base n_Stepper_begin "Stepper.begin" (defScope s_Stepper_begin) (He.ma K (He.ga K "Stepper") "begin") cdv A outer s H E).nox (defBody s_Stepper_begin) t ∧ t { nx := fun _ H' => Q .non H', rt := Q } (start n_Stepper_begin vs) H by
    obtain ⟨t, h1, h2⟩ := hx
    exact ⟨t, h1.nox, h2⟩
  obtain ⟨SA, b, ds, n, j, d, kl, ks, rfl, hst, hn, h40, hB, hj, hks, hfit, q⟩ := h
  refine ⟨_, (pss_cons (ps_set (i := 3) sc_Stepper_begin.nd rfl (Or.inl rfl) (C8.pe_c c_dealing_by hr (by decide) rfl (pa_cons (pe_fld (pv 0) rfl) (pa_cons (pv 1) pa_nil))))
      (pss_cons (ps_if (PW.pt (pw_and (pt_cmpR op_notN (pv 2) pe_non (nomark _)) (pw_and1 (pt_not (pt_val (C8.pe_c c_are_keys hr (by decide) rfl (pa_cons (pe_fld (pv 0) rfl) (pa_cons (pv 1) (pa_cons (pv 2) pa_nil)))))))))
        (pss_one ps_never)
        pss_nil)
      (pss_cons (ps_if (pt_cmpR op_eq (pe_callB call_len_seq (by rfl) T.fr_len bt_len (pa_cons (pe_fld (pv 0) rfl) pa_nil)) (C8.pe_gc rfl T.v_MOST_BEGUN) (nomark _))
        (pss_one ps_never)
        pss_nil)
      (pss_cons (ps_if (pt_cmpR op_isN (pv 2) pe_non (nomark _))
        (pss_one ps_never)
        pss_nil)
      (pss_cons (ps_expr (pe_bm PySem.F.plainAttrs_list PySem.F.slot_list_append PySem.F.type_list_append mt_append (pe_fld (pv 0) rfl) (pa_cons (C8.pe_mk c_Deal hr (by decide) rfl (pa_cons (pv 3) (pa_cons (pv 2) (pa_cons (pe_callB call_len_seq (by rfl) T.fr_len bt_len (pa_cons (pe_fld (pv 0) rfl) pa_nil)) pa_nil)))) pa_nil)))
      (pss_cons (ps_expr (pe_bm PySem.F.plainAttrs_list PySem.F.slot_list_append PySem.F.type_list_append mt_append (pe_fld (pv 0) rfl) (pa_cons (pe_tup (pa_cons pe_str (pa_cons (pv 1) (pa_cons (pe_callTy call_list_of (by rfl) T.fr_list bt_list (pa_cons (pv 2) pa_nil)) pa_nil)))) pa_nil)))
      (pss_one (ps_ret (pe_op op_sub (pe_callB call_len_seq (by rfl) T.fr_len bt_len (pa_cons (pe_fld (pv 0) rfl) pa_nil)) pe_int))))))))), ?_⟩
  have hnd := hB.names
  have h8 : b.deals.length ≤ 8 := by have := hB.some_; omega
  refine ⟨_, rfl, SA.st, _, SA.dx, _, _, rfl, hst.ins, T.cls_Stepper, T.no_Stepper_own_book, rfl, _, rfl, SA.bk, b, j, d, rfl, hst.book, hnd, h8, hj, fun dp H1 g1 hdp => ?_⟩
  have hst1 := hst.fr0 g1
  refine ⟨_, rfl, rfl, _, rfl, ?_⟩
  refine ⟨_, rfl, SA.st, _, SA.dx, _, _, rfl, hst1.ins, T.cls_Stepper, T.no_Stepper_own_book, rfl, _, rfl, _, rfl, SA.bk, kl, b, j, d, ks, rfl, hst1.book, hnd, h8, hj, g1.keys hks, hfit, fun H2 g2 => ?_⟩
  have g12 := g1.trans g2
  have hst2 := hst.fr0 g12
  refine ⟨_, rfl, ?_⟩
  refine ⟨_, rfl, SA.st, _, SA.dx, _, _, rfl, hst2.ins, T.cls_Stepper, T.no_Stepper_deals, rfl, SA.dl, _, rfl, .inl (.of hst2.deals), rfl, _, rfl, ?_⟩
  refine ite2 (fun c => ?_) (fun _ => ?_)
  · have c := V.int.inj (of_decide_eq_true c)
    rw [List.length_map, hst.len] at c
    omega
  refine ⟨_, rfl, rfl, _, rfl, ?_⟩
  refine ⟨_, rfl, SA.st, _, SA.dx, _, _, rfl, hst2.ins, T.cls_Stepper, T.no_Stepper_deals, rfl, .inl ⟨rfl, _, .of hst2.deals⟩, ?_⟩
  obtain ⟨log, l1, l2, l3⟩ := log_some hst2.log hn
  refine ⟨_, rfl, _, rfl, _, rfl, SA.st, _, SA.dx, _, _, rfl, hst2.ins, T.cls_Stepper, T.no_Stepper_log, rfl, SA.ll, _, rfl, .inl (.of l1), fun xa dx hxa hdx hne => ?_⟩
  have g3 : Fr0 K H2 (upd (upd H2 dx (.own xa)) xa (.ins (He.ga K "Deal") dx [])) := (Fr.new hdx).new2 (by rw [upd_ne (fun z => hne z.symm)]; exact hxa)
  refine ⟨xa, dx, dp, kl, n, d, ks, by rw [l2]; rfl, upd_same, (g2.trans g3).deal hdp, (g12.trans g3).keys hks, hB.fit hj hfit, fun x H4 ex hnt g4 hdo => ⟨rfl, ?_⟩⟩
  have g34 : Fr0 K H2 H4 := ((g3.wide.trans g4).narrow (S := No) fun c z => .inr (by rw [z]; exact .of hxa))
  have hst4 := hst2.fr0 g34
  have nxa : Nw H x.a := g12.nw (fun z => z) (by rw [ex]; exact .of hxa)
  have nxt : Nw H x.tl := (g12.trans g3).nw (fun z => z) hnt
  have len40 : SA.xs.length < 1000 := by rw [hst.len]; omega
  refine ⟨SA.dl, _, _, rfl, rfl, hst4.deals, by rw [List.length_map]; exact small1000 (by omega), ?_⟩
  have f5 : Fr K (fun c => c = SA.dl ∨ c = SA.ll) H4 (upd H4 SA.dl (.lst ((SA.xs.map fun x => V.ref x.a) ++ [V.ref xa]))) := .at_ (.inl rfl) hst4.deals trivial
  have hdl5 : upd H4 SA.dl (.lst ((SA.xs.map fun x => V.ref x.a) ++ [V.ref xa])) SA.dl = some (.lst ((SA.xs ++ [x]).map fun x => V.ref x.a)) := by
    rw [List.map_append, ← ex]; exact upd_same
  have nst : SA.st ≠ SA.dl := fun z => by
    have := hst4.ins
    rw [z, hst4.deals] at this
    cases this
  have hins5 : upd H4 SA.dl (.lst ((SA.xs.map fun x => V.ref x.a) ++ [V.ref xa])) SA.st = _ := (upd_ne nst).trans hst4.ins
  have l5 : upd H4 SA.dl (.lst ((SA.xs.map fun x => V.ref x.a) ++ [V.ref xa])) SA.ll = some (.lst log) := (upd_ne (fun z => hst.nd.1 z.symm)).trans (g34.lst l1 (fun z => z))
  generalize upd H4 SA.dl (.lst ((SA.xs.map fun x => V.ref x.a) ++ [V.ref xa])) = H5 at f5 hdl5 hins5 l5 ⊢
  have fk5 : Fr K (fun c => c = SA.dl ∨ c = SA.ll) H H5 := ((g12.trans g34).wide).trans f5
  obtain ⟨kas, hk1, hk2⟩ := fk5.keys hks
  refine ⟨_, rfl, SA.st, _, SA.dx, _, _, rfl, hins5, T.cls_Stepper, T.no_Stepper_log, rfl, .inl ⟨rfl, _, .of l5⟩, _, rfl, _, rfl, kl, _, rfl, .inl hk1.seq, fun l hl => ⟨(by show 3 ≤ sizeLine; decide), fun u hu => ?_⟩⟩
  have g6 : Fr0 K H5 (upd (upd H5 l (.lst (kas.map V.ref))) u (.tup [.str "begin", .str d.name, .ref l])) := (Fr.new hl).new2 hu
  have l6 := g6.lst l5 (fun z => z)
  have hdl6 := g6.lst hdl5 (fun z => z)
  have hins6 := g6.ins hins5 (fun z => z)
  generalize upd (upd H5 l (.lst (kas.map V.ref))) u (.tup [.str "begin", .str d.name, .ref l]) = H6 at g6 l6 hdl6 hins6 ⊢
  refine ⟨SA.ll, log, _, rfl, rfl, l6, l3, ?_⟩
  have f7 : Fr K (fun c => c = SA.dl ∨ c = SA.ll) H6 (upd H6 SA.ll (.lst (log ++ [V.ref u]))) := .at_ (.inr rfl) l6 trivial
  have hdl7 : upd H6 SA.ll (.lst (log ++ [V.ref u])) SA.dl = _ := (upd_ne hst.nd.1).trans hdl6
  have nsl : SA.st ≠ SA.ll := fun z => by
    have := hins6
    rw [z, l6] at this
    cases this
  have hins7 : upd H6 SA.ll (.lst (log ++ [V.ref u])) SA.st = _ := (upd_ne nsl).trans hins6
  refine ⟨_, rfl, SA.st, _, SA.dx, _, _, rfl, hins7, T.cls_Stepper, T.no_Stepper_deals, rfl, SA.dl, _, rfl, .inl (.of hdl7), _, _, rfl, rfl, ?_⟩
  have ff : Fr K (fun c => c = SA.dl ∨ c = SA.ll) H4 (upd H6 SA.ll (.lst (log ++ [V.ref u]))) := (f5.trans g6.wide).trans f7
  have fall : Fr K (fun c => c = SA.dl ∨ c = SA.ll) H (upd H6 SA.ll (.lst (log ++ [V.ref u]))) := ((g12.trans g34).wide).trans ff
  have hnw4 : ¬ (x.a = SA.dl ∨ x.a = SA.ll) := by
    obtain ⟨lg, e1, e2⟩ := hst.log
    rintro (z | z)
    · exact nxa.ne hst.deals (fun ps z => nomatch z) z.symm
    · exact nxa.ne e1 (fun ps z => nomatch z) z.symm
  have hnw5 : ¬ (x.tl = SA.dl ∨ x.tl = SA.ll) := by
    obtain ⟨lg, e1, e2⟩ := hst.log
    rintro (z | z)
    · exact nxt.ne hst.deals (fun ps z => nomatch z) z.symm
    · exact nxt.ne e1 (fun ps z => nomatch z) z.symm
  refine q { SA with xs := SA.xs ++ [x] } _ _ ⟨rfl, fun c hc => ?_, fall.mono fun c z => z.elim (fun z => .inr (.inl z)) fun z => .inr (.inr (.inl z)), hst.add fall nxa nxt (ff.dealObj hdo hnw4 hnw5) hdl7 ⟨_, upd_same, by rw [List.length_append, List.length_singleton, l2]⟩⟩
  rcases hc with z | z | z | ⟨y, hy, z⟩
  · exact .inl (.inl z)
  · exact .inl (.inr (.inl z))
  · exact .inl (.inr (.inr (.inl z)))
  · rcases List.mem_append.mp hy with hy | hy
    · exact .inl (.inr (.inr (.inr ⟨y, hy, z⟩)))
    · rw [List.mem_singleton.mp hy] at z
      rcases z with z | z
      · rw [z]; exact .inr nxa
      · rw [z]; exact .inr nxt
end
end Sn
set_option Elab.async false
set_option linter.all false
set_option maxRecDepth 100000
set_option maxHeartbeats 4000000
namespace Sn
open PySem PySem.Spec PyProof.Rows L2
/-- a row of a run -/
def RowAt (K : PySem.W.Frag) (b : BookD) (H : Hp) (a : Addr) : RowM → Prop
  | .begin ah => ∃ (j : Nat) (d : DealD) (kl : Addr) (ks : List KeyD), b.deals[j]? = some d ∧ SqT K H a [.str "begin", .str d.name, .ref kl] ∧ KeysAt K H kl ks ∧ KeysFit b d ks ∧ ah = resolve d ks
  | .step i => SqT K H a [.str "step", .int (i : Nat)]
  | .fin i => SqT K H a [.str "end", .int (i : Nat)]
  | .drop i => SqT K H a [.str "drop", .int (i : Nat)]
def RowsAt (K : PySem.W.Frag) (b : BookD) (H : Hp) (l : Addr) (rs : List RowM) : Prop := ∃ as : List Addr, FzL H l (as.map V.ref) ∧ Paired (RowAt K b H) as rs
theorem goes_take {rs : List RowM} {i : Nat} {r : RowM} (G : Goes rs) (h : rs[i]? = some r) : Goes (rs.take i) ∧ RowOk (play (rs.take i)) r := by
  obtain ⟨hi, he⟩ := List.getElem?_eq_some_iff.mp h
  have e : rs = rs.take i ++ r :: rs.drop (i + 1) := by
    rw [← he, ← List.drop_eq_getElem_cons hi, List.take_append_drop]
  rw [e] at G
  obtain ⟨g1, g2⟩ := (okF_append 0 [] _ _).mp G
  exact ⟨g1, g2.1⟩
section
variable {P : Program} {w : World} {K : PySem.W.Frag} {mg : Str → Option Value} {base : Heap} {S : Addr → Prop} {H H1 : Hp} {A : SA} {b : BookD} {ds : List DM} {n : Nat}
theorem Fr.row {a : Addr} {r : RowM} (f : Fr K S H H1) (h : RowAt K b H a r) : RowAt K b H1 a r := by
  cases r with
  | begin ah =>
    obtain ⟨j, d, kl, ks, h1, h2, h3, h4⟩ := h
    exact ⟨j, d, kl, ks, h1, f.tup h2, f.keys h3, h4⟩
  | step i => exact f.tup h
  | fin i => exact f.tup h
  | drop i => exact f.tup h
theorem Fr.rows {l : Addr} {rs : List RowM} (f : Fr K S H H1) (h : RowsAt K b H l rs) : RowsAt K b H1 l rs := let ⟨as, h1, h2⟩ := h; ⟨as, f.fzl h1, pd_map h2 fun _ _ z => f.row z⟩
def spIsRowForm (K : PySem.W.Frag) : Sp := fun vs H Q _ => ∃ (b : BookD) (a : Addr) (r : RowM), vs = [.ref a] ∧ RowAt K b H a r ∧ Q (.bl true) H
theorem c_is_row_form (T : Tx K mg) : C8.Cal P w K mg base 1 "is_row_form" (spIsRowForm K) [] := by
  refine T.cal T.D_is_row_form T.g_is_row_form b_is_row_form sc_is_row_form (fun vs H Q E h => ?_) (fun cdv A outer s H vs Q E hr h => ?_)
  · obtain ⟨b, a, r, rfl, _⟩ := h
    rfl
  · obtain ⟨b, a, r, rfl, ha, q⟩ := h
    refine ⟨_, (pss_cons (ps_if (PW.pt (pw_or (pt_not (pt_val (pe_callB call_isi (by rfl) T.fr_isinstance bt_isinstance (pa_cons (pv 0) (pa_cons (pe_bltn (v := .ty "tuple") (by rfl) T.fr_tuple bt_tuple rfl) pa_nil))))) (pw_or (pt_cmpR op_lt (pe_callB call_len_seq (by rfl) T.fr_len bt_len (pa_cons (pv 0) pa_nil)) pe_int (nomark _)) (pw_or1 (pt_not (pt_val (pe_callB call_isi (by rfl) T.fr_isinstance bt_isinstance (pa_cons (pe_ix ix_tup (pv 0) pe_int (fun _ _ => rfl)) (pa_cons (pe_bltn (v := .ty "str") (by rfl) T.fr_str bt_str rfl) pa_nil)))))))))
        (pss_one (ps_ret pe_bl))
        pss_nil)
      (pss_cons (ps_if (pt_cmpR op_eq (pe_ix ix_tup (pv 0) pe_int (fun _ _ => rfl)) pe_str (nomark _))
        (pss_one (ps_ret (pe_and (pe_cmpR op_eq (pe_callB call_len_seq (by rfl) T.fr_len bt_len (pa_cons (pv 0) pa_nil)) pe_int (nomark _)) (pe_one (pe_callB call_isi (by rfl) T.fr_isinstance bt_isinstance (pa_cons (pe_ix ix_tup (pv 0) pe_int (fun _ _ => rfl)) (pa_cons (pe_bltn (v := .ty "list") (by rfl) T.fr_list bt_list rfl) pa_nil)))))))
        pss_nil)
      (pss_one (ps_ret (pe_and (pe_cmpR op_in_seq (pe_ix ix_tup (pv 0) pe_int (fun _ _ => rfl)) (C8.pe_gc rfl T.v_NUMBERED) (by rfl)) (pe_one (pe_cmpR op_eq (pe_callB call_len_seq (by rfl) T.fr_len bt_len (pa_cons (pv 0) pa_nil)) pe_int (nomark _)))))))), ?_⟩
    have hc : (∃ (wd : Str) (i : Nat), wd ∈ ([("step" : Str), "end", "drop"] : List Str) ∧ SqT K H a [.str wd, .int (i : Nat)]) ∨ ∃ (d : DealD) (kl : Addr) (ks : List KeyD), SqT K H a [.str "begin", .str d.name, .ref kl] ∧ KeysAt K H kl ks := by
      cases r with
      | begin ah =>
        obtain ⟨j, d, kl, ks, h1, h2, h3, h4⟩ := ha
        exact .inr ⟨d, kl, ks, h2, h3⟩
      | step i => exact .inl ⟨_, i, by simp, ha⟩
      | fin i => exact .inl ⟨_, i, by simp, ha⟩
      | drop i => exact .inl ⟨_, i, by simp, ha⟩
    rcases hc with ⟨wd, i, hw, ht⟩ | ⟨d, kl, ks, ht, kas, hk1, hk2⟩
    · refine ⟨_, rfl, _, _, _, _, _, rfl, .ty _, tyx_tup ht, kit_ty kit_tt, _, rfl, ?_⟩
      refine ⟨_, rfl, a, _, rfl, .inr ht, _, _, rfl, rfl, _, rfl, ?_⟩
      refine ⟨_, rfl, a, _, _, _, rfl, rfl, ht, rfl, _, _, _, _, _, rfl, .ty _, .base (.str _), kit_ty kit_ss, _, rfl, ?_⟩
      refine ⟨_, rfl, a, _, _, _, rfl, rfl, ht, rfl, rfl, _, rfl, ?_⟩
      have nb : wd ≠ ("begin" : Str) := by
        intro z; subst z
        revert hw; decide +kernel
      rw [show decide (V.str wd = V.str "begin") = false from decide_eq_false fun z => nb (V.str.inj z)]
      refine ⟨_, rfl, a, _, _, _, rfl, rfl, ht, rfl, He.ga K "NUMBERED", _, rfl, .inr (T.numbered H), rfl, rfl, ?_⟩
      have hin : inV (V.str wd) [.str "step", .str "end", .str "drop"] = true := by
        simp only [List.mem_cons, List.not_mem_nil, or_false] at hw
        rcases hw with rfl | rfl | rfl <;> decide +kernel
      rw [hin]
      refine ⟨_, rfl, ?_⟩
      exact ⟨_, rfl, a, _, rfl, .inr ht, rfl, q⟩
    · refine ⟨_, rfl, _, _, _, _, _, rfl, .ty _, tyx_tup ht, kit_ty kit_tt, _, rfl, ?_⟩
      refine ⟨_, rfl, a, _, rfl, .inr ht, _, _, rfl, rfl, _, rfl, ?_⟩
      refine ⟨_, rfl, a, _, _, _, rfl, rfl, ht, rfl, _, _, _, _, _, rfl, .ty _, .base (.str _), kit_ty kit_ss, _, rfl, ?_⟩
      refine ⟨_, rfl, a, _, _, _, rfl, rfl, ht, rfl, rfl, _, rfl, ?_⟩
      rw [show decide (V.str "begin" = V.str "begin") = true from decide_eq_true rfl]
      refine ⟨_, rfl, a, _, rfl, .inr ht, rfl, _, rfl, iteT ?_⟩
      exact ⟨_, rfl, a, _, _, _, rfl, rfl, ht, rfl, _, _, _, _, _, rfl, .ty _, tyx_list hk1.seq, kit_ty kit_ll, q⟩
def spToldBy (K : PySem.W.Frag) : Sp := fun vs H Q _ => ∃ (A : SA) (b : BookD) (ds : List DM) (n : Nat) (a : Addr) (r : RowM), vs = [.ref A.st, .ref a] ∧ StepAt K H A b ds n ∧ WF n ds ∧ n ≤ 400 ∧ BookOk b ∧ RowAt K b H a r ∧ RowOk ds r ∧
  ∀ (A' : SA) (v : V) (H' : Hp), After K H A b ds n r A' H' → Q v H'
theorem c_told_by (T : Tx K mg) (B : TbB K mg base) : C8.Cal P w K mg base 5 "told_by" (spToldBy K) [] := by
  have m_begin : C8.Met P w K mg base 4 (He.ga K "Stepper") "begin" (spBegin K) [] := m_begin T
  have m_step : C8.Met P w K mg base 4 (He.ga K "Stepper") "step" (spStep K) [] := m_step T B
  have m_end : C8.Met P w K mg base 4 (He.ga K "Stepper") "end" (spEnd K) [] := m_end T
  have m_drop : C8.Met P w K mg base 3 (He.ga K "Stepper") "drop" (spDrop K) [] := m_drop T
  refine T.cal T.D_told_by T.g_told_by b_told_by sc_told_by (fun vs H Q E h => ?_) (fun cdv A outer s H vs Q E hr h => ?_)
  · obtain ⟨A, b, ds, n, a, r, rfl, _⟩ := h
    rfl
  · obtain ⟨SA, b, ds, n, a, r, rfl, hst, W, hn, hB, ha, hok, q⟩ := h
    refine ⟨_, (pss_cons (ps_if (pt_cmpR op_eq (pe_ix ix_tup (pv 1) pe_int (fun _ _ => rfl)) pe_str (nomark _))
        (pss_one (ps_ret (C8.pe_mt m_begin hr (by decide) (pv 0) (pa_cons (pe_ix ix_tup (pv 1) pe_int (fun _ _ => rfl)) (pa_cons (pe_ix ix_tup (pv 1) pe_int (fun _ _ => rfl)) pa_nil)))))
        pss_nil)
      (pss_cons (ps_if (pt_cmpR op_eq (pe_ix ix_tup (pv 1) pe_int (fun _ _ => rfl)) pe_str (nomark _))
        (pss_one (ps_ret (C8.pe_mt m_step hr (by decide) (pv 0) (pa_cons (pe_ix ix_tup (pv 1) pe_int (fun _ _ => rfl)) pa_nil))))
        pss_nil)
      (pss_cons (ps_if (pt_cmpR op_eq (pe_ix ix_tup (pv 1) pe_int (fun _ _ => rfl)) pe_str (nomark _))
        (pss_one (ps_ret (C8.pe_mt m_end hr (by decide) (pv 0) (pa_cons (pe_ix ix_tup (pv 1) pe_int (fun _ _ => rfl)) pa_nil))))
        pss_nil)
      (pss_one (ps_ret (C8.pe_mt m_drop hr (by decide) (pv 0) (pa_cons (pe_ix ix_tup (pv 1) pe_int (fun _ _ => rfl)) pa_nil))))))), ?_⟩
    have n1 : decide (V.str "step" = V.str "begin") = false := by decide +kernel
    have n2 : decide (V.str "end" = V.str "begin") = false := by decide +kernel
    have n3 : decide (V.str "drop" = V.str "begin") = false := by decide +kernel
    have n4 : decide (V.str "end" = V.str "step") = false := by decide +kernel
    have n5 : decide (V.str "drop" = V.str "step") = false := by decide +kernel
    have n6 : decide (V.str "drop" = V.str "end") = false := by decide +kernel
    cases r with
    | begin ah =>
      obtain ⟨j, d, kl, ks, h1, h2, h3, h4, rfl⟩ := ha
      refine ⟨_, rfl, a, _, _, _, rfl, rfl, h2, rfl, rfl, _, rfl, ?_⟩
      rw [show decide (V.str "begin" = V.str "begin") = true from decide_eq_true rfl]
      exact ⟨_, rfl, SA.st, SA.dx, _, rfl, hst.ins, rfl, _, rfl, a, _, _, _, rfl, rfl, h2, rfl, _, rfl, a, _, _, _, rfl, rfl, h2, rfl, SA, b, ds, n, j, d, kl, ks, rfl, hst, hn, hok.1, hB, h1, h3, h4, q⟩
    | step i =>
      refine ⟨_, rfl, a, _, _, _, rfl, rfl, ha, rfl, rfl, _, rfl, ?_⟩
      rw [n1]
      refine ⟨_, rfl, a, _, _, _, rfl, rfl, ha, rfl, rfl, _, rfl, ?_⟩
      rw [show decide (V.str "step" = V.str "step") = true from decide_eq_true rfl]
      exact ⟨_, rfl, SA.st, SA.dx, _, rfl, hst.ins, rfl, _, rfl, a, _, _, _, rfl, rfl, ha, rfl, SA, b, ds, n, i, rfl, hst, W, hn, hok, fun v H' f h => q SA v H' ⟨rfl, fun c z => .inl z, f, h⟩⟩
    | fin i =>
      refine ⟨_, rfl, a, _, _, _, rfl, rfl, ha, rfl, rfl, _, rfl, ?_⟩
      rw [n2]
      refine ⟨_, rfl, a, _, _, _, rfl, rfl, ha, rfl, rfl, _, rfl, ?_⟩
      rw [n4]
      refine ⟨_, rfl, a, _, _, _, rfl, rfl, ha, rfl, rfl, _, rfl, ?_⟩
      rw [show decide (V.str "end" = V.str "end") = true from decide_eq_true rfl]
      exact ⟨_, rfl, SA.st, SA.dx, _, rfl, hst.ins, rfl, _, rfl, a, _, _, _, rfl, rfl, ha, rfl, SA, b, ds, n, i, rfl, hst, W, hn, hok, fun v H' f h => q SA v H' ⟨rfl, fun c z => .inl z, f, h⟩⟩
    | drop i =>
      refine ⟨_, rfl, a, _, _, _, rfl, rfl, ha, rfl, rfl, _, rfl, ?_⟩
      rw [n3]
      refine ⟨_, rfl, a, _, _, _, rfl, rfl, ha, rfl, rfl, _, rfl, ?_⟩
      rw [n5]
      refine ⟨_, rfl, a, _, _, _, rfl, rfl, ha, rfl, rfl, _, rfl, ?_⟩
      rw [n6]
      exact ⟨_, rfl, SA.st, SA.dx, _, rfl, hst.ins, rfl, _, rfl, a, _, _, _, rfl, rfl, ha, rfl, SA, b, ds, n, i, rfl, hst, hn, hok, fun v H' f h => q SA v H' ⟨rfl, fun c z => .inl z, f, h⟩⟩
end
end Sn
set_option Elab.async false
set_option linter.all false
set_option maxRecDepth 100000
set_option maxHeartbeats 4000000
namespace Sn
open PySem PySem.Spec PyProof.Rows L2
section
variable {P : Program} {w : World} {K : PySem.W.Frag} {mg : Str → Option Value} {base : Heap} {S : Addr → Prop} {H H1 : Hp} {A : SA} {b : BookD} {ds : List DM} {n : Nat}
/-- all that a run must be -/
structure RunOk (rs : List RowM) : Prop where
  few : rs.length ≤ 400
  goes : Goes rs
  done : ∀ (i : Nat) d, (play rs)[i]? = some d → d.word ≠ ("open" : Str)
theorem After.own {r : RowM} {A' : SA} {H0 : Hp} (a : After K H A b ds n r A' H1) (g : Fr0 K H0 H) (h : ∀ c, A.own c → Nw H0 c) : ∀ c, A'.own c → Nw H0 c := fun c hc => by
  rcases a.2.1 c hc with z | z
  · exact h c z
  · exact g.nw (fun z => z) z
/-- the played run: its stepper's addresses are new -/
structure PlayedAt (K : PySem.W.Frag) (H : Hp) (p : Addr) (A : SA) (b : BookD) (rs : List RowM) : Prop where
  tup : ∃ told, SqT K H p [.ref A.st, .ref told]
  at_ : StepAt K H A b (play rs) rs.length
def spPlayed (K : PySem.W.Frag) : Sp := fun vs H Q _ => ∃ (bk l : Addr) (b : BookD) (rs : List RowM), vs = [.ref bk, .ref l] ∧ BookAt K H bk b ∧ BookOk b ∧ RowsAt K b H l rs ∧ RunOk rs ∧ LamX.Tabs (TB K) H ∧
  ∀ (p : Addr) (A : SA) (H' : Hp), Fr0 K H H' → PlayedAt K H' p A b rs → Q (.ref p) H'
theorem c_played (T : Tx K mg) (B : TbB K mg base) : C8.Cal P w K mg base 6 "played" (spPlayed K) [] := by
  have c_Stepper : C8.Mak P w K mg base 3 "Stepper" (He.ga K "Stepper") (spStepperInit K) [] := c_Stepper T
  have c_is_row_form : C8.Cal P w K mg base 1 "is_row_form" (spIsRowForm K) [] := c_is_row_form T
  have c_told_by : C8.Cal P w K mg base 5 "told_by" (spToldBy K) [] := c_told_by T B
  refine T.cal T.D_played T.g_played b_played sc_played (fun vs H Q E h => ?_) (fun cdv A outer s H vs Q E hr h => ?_)
  · obtain ⟨bk, l, b, rs, rfl, _⟩ := h
    rfl
  · obtain ⟨bk, l, b, rs, rfl, hb, hB, ⟨ras, hr1, hr2⟩, ⟨few, goes, done⟩, ht, q⟩ := h
    refine ⟨_, (pss_cons (ps_if (PW.pt (pw_or (pt_not (pt_val (pe_callB call_isi (by rfl) T.fr_isinstance bt_isinstance (pa_cons (pv 1) (pa_cons (pe_bltn (v := .ty "list") (by rfl) T.fr_list bt_list rfl) pa_nil))))) (pw_or1 (pt_cmpR op_gt (pe_callB call_len_seq (by rfl) T.fr_len bt_len (pa_cons (pv 1) pa_nil)) (C8.pe_gc rfl T.v_MOST_ROWS) (nomark _)))))
        (pss_one ps_never)
        pss_nil)
      (pss_cons (ps_set (i := 2) sc_played.nd rfl (Or.inl rfl) (C8.pe_mk c_Stepper hr (by decide) rfl (pa_cons (pv 0) pa_nil)))
      (pss_cons (ps_set (i := 3) sc_played.nd rfl (Or.inl rfl) (pe_lst pa_nil))
      (pss_cons (ps_for PassesOwn.never rfl (pi_enum (by rfl) T.fr_enumerate (pa_cons (pv 1) pa_nil)) (pg_tup rfl (pgs_cons (pg_name (i := 4) sc_played.nd rfl (Or.inl rfl)) (pgs_cons (pg_name (i := 5) sc_played.nd rfl (Or.inl rfl)) pgs_nil)))
        (pss_cons (ps_if (pt_not (pt_val (C8.pe_c c_is_row_form hr (by decide) rfl (pa_cons (pv 5) pa_nil))))
          (pss_one ps_never)
          pss_nil)
        (pss_one (ps_try_thru0 
          (pss_one (ps_expr (pe_bm PySem.F.plainAttrs_list PySem.F.slot_list_append PySem.F.type_list_append mt_append (pv 3) (pa_cons (C8.pe_c c_told_by hr (by decide) rfl (pa_cons (pv 2) (pa_cons (pv 5) pa_nil))) pa_nil))))))))
      (pss_cons (ps_if (pt_val (pe_callB (cr_any rfl) (by rfl) T.fr_any bt_any (pa_cons (pe_lc (own := [("deal", 7)]) (by rfl) sc_played.nd (pi_list (pe_fld (pv 2) rfl)) (blkOk_by (own := [("deal", 7)]) (N := n_played) (sc := defScope s_played) (by decide +kernel)) (fun _ _ _ _ _ => (pg_name (i := 7) sc_played.nd rfl (Or.inl rfl))) (fun _ _ _ _ _ => pts_nil) (fun _ _ _ _ _ => (pe_cmpR op_eq (pe_fldK (K := K) rfl (pv 7) rfl) pe_str (nomark _)))) pa_nil)))
        (pss_one ps_never)
        pss_nil)
      (pss_one (ps_ret (pe_tup (pa_cons (pv 2) (pa_cons (pv 3) pa_nil)))))))))), ?_⟩
    have rlen := pd_len hr2
    have h8 : b.deals.length ≤ 8 := by have := hB.some_; omega
    refine ⟨_, rfl, _, _, _, _, _, rfl, .ty _, tyx_list hr1.seq, kit_ty kit_ll, _, rfl, ?_⟩
    refine ⟨_, rfl, l, _, rfl, .inl hr1.seq, _, _, rfl, rfl, _, rfl, ?_⟩
    refine ite2 (fun c => ?_) (fun _ => ?_)
    · have c := of_decide_eq_true c
      rw [List.length_map, rlen] at c
      omega
    refine ⟨_, rfl, fun st dx hst0 hdx hne => ?_⟩
    have g0 : Fr0 K H (upd (upd H dx (.own st)) st (.ins (He.ga K "Stepper") dx [])) := (Fr.new hdx).new2 (by rw [upd_ne (fun z => hne z.symm)]; exact hst0)
    refine ⟨st, dx, bk, b, rfl, upd_same, g0.book hb, h8, g0.tabs ht, fun A0 H1 e1 e2 hown f1 hst => ⟨rfl, ?_⟩⟩
    have g1 : Fr0 K H H1 := (g0.wide.trans f1).narrow fun c z => .inr (by rw [z]; exact .of hst0)
    have hown1 : ∀ c, A0.own c → Nw H c := fun c hc => by
      rcases hown c hc with z | z
      · rw [z]; exact .of hst0
      · exact g0.nw (fun z => z) z
    refine ⟨Nat.zero_le _, fun D hD => ?_⟩
    have g2 : Fr0 K H1 (upd H1 D (.lst [])) := .new hD
    have hDow : ¬ A0.own D := by
      obtain ⟨lg, e3, e4⟩ := hst.log
      rintro (z | z | z | ⟨x, hx, z⟩)
      · rw [z, hst.ins] at hD; cases hD
      · rw [z, hst.deals] at hD; cases hD
      · rw [z, e3] at hD; cases hD
      · rw [e2] at hx; cases hx
    have nD : Nw H D := g1.nw (fun z => z) (.of hD)
    refine ⟨_, rfl, l, _, rfl, ((g1.trans g2).fzl hr1).seq, ?_⟩
    refine for_it (walk_enum (K := K) (a := l) (xs := ras.map V.ref)) (fun i σ' H' => (∃ x y, σ' = [some (.ref bk), some (.ref l), some (.ref st), some (.ref D), x, y, none, none]) ∧ ∃ A : SA, A.st = st ∧ Fr0 K H H' ∧ (∀ c, A.own c → Nw H c) ∧ ¬ A.own D ∧
      StepAt K H' A b (play (rs.take i)) i ∧ ∃ ts : List V, H' D = some (.lst ts) ∧ ts.length = i) ⟨⟨none, none, rfl⟩, A0, e1, g1.trans g2, hown1, hDow, hst.fr0 g2, [], upd_same, rfl⟩ ?_ ?_ ?_
    · rintro i σ' H' _ ⟨_, A, _, g, _⟩
      exact (g.fzl hr1).seq
    · rintro i y σ' H' H'' hi ⟨⟨x', y', rfl⟩, A, rfl, g, how, hDo, hstA, ts, hq, hlt⟩ ⟨t, u, v, rfl, ht', rfl, hu1, hu2⟩
      obtain ⟨ra, q1, rfl⟩ := map_get hu2
      obtain ⟨r, q2, hra⟩ := pd_getL hr2 q1
      rw [List.length_map, rlen] at hi
      have gt : Fr0 K H' (upd H' t (.tup [u, .ref ra])) := .new ht'
      have hra2 := gt.row (g.row hra)
      have hst2 := hstA.fr0 gt
      have hq2 := gt.lst hq (fun z => z)
      obtain ⟨gt1, gt2⟩ := goes_take goes q2
      have W := wf_play gt1
      have tl : (rs.take i).length = i := by rw [List.length_take]; omega
      rw [tl] at W
      refine ⟨t, _, rfl, .of upd_same, rfl, _, _, rfl, _, _, rfl, rfl, ?_⟩
      refine ⟨_, rfl, b, ra, r, rfl, hra2, _, rfl, ?_⟩
      refine ⟨_, rfl, .inl ⟨rfl, _, .of hq2⟩, _, rfl, _, rfl, A, b, play (rs.take i), i, ra, r, rfl, hst2, W, by omega, hB, hra2, gt2, fun A' v' H3 haf => ?_⟩
      obtain ⟨a1, a2, a3, a4⟩ := id haf
      have hq3 := a3.lst hq2 hDo
      have gg : Fr0 K H H3 := ((g.trans gt).wide.trans a3).narrow fun c z => .inr (how c z)
      have hDo3 : ¬ A'.own D := fun z => by
        rcases a2 D z with z | z
        · exact hDo z
        · exact z.ne hq2 (fun ps z => nomatch z) rfl
      refine ⟨D, ts, _, rfl, rfl, hq3, small1000 (by omega), ⟨_, _, rfl⟩, A', a1, gg.own nD hq3 trivial, haf.own (g.trans gt) how, hDo3, ?_, _, upd_same, by rw [List.length_append, List.length_singleton, hlt]⟩
      rw [take_snoc q2, play_snoc, tl]
      have f4 : Fr K (fun c => c = D) H3 (upd H3 D (.lst (ts ++ [v']))) := .at_ rfl hq3 trivial
      exact a4.fr f4 fun c hc z => hDo3 (z ▸ hc)
    · rintro σ' H' ⟨⟨x', y', rfl⟩, A, rfl, g, how, hDo, hstA, ts, hq, hlt⟩
      rw [List.length_map, rlen, List.take_length] at hstA
      refine ⟨_, rfl, A.st, _, A.dx, _, _, rfl, hstA.ins, T.cls_Stepper, T.no_Stepper_deals, rfl, A.dl, rfl, ⟨_, .of hstA.deals⟩, fun D2 hD2 => ?_⟩
      have W := wf_play goes
      refine lc_it (walk_list (K := K) (a := A.dl) (xs := A.xs.map fun x => V.ref x.a)) (fun i H2 => Fr0 K H' H2 ∧ H2 D2 = some (.lst ((List.replicate i false).map V.bl))) ⟨.new hD2, upd_same⟩ ?_ ?_ ?_
      · rintro i H2 _ ⟨g2, _⟩
        exact .of (hstA.fr0 g2).deals
      · rintro i y H0 H2 hi ⟨g2, hb2⟩ ⟨rfl, hy⟩
        obtain ⟨x, e3, rfl⟩ := map_get hy
        obtain ⟨d, e4, hd⟩ := pd_getL (hstA.fr0 g2).each e3
        obtain ⟨⟨ti, gi, hx⟩, _⟩ := hd
        refine ⟨rfl, ?_⟩
        refine ⟨_, rfl, x.a, _, x.dx, _, _, rfl, hx, T.cls_Deal, T.no_Deal_word, rfl, rfl, ?_⟩
        rw [show decide (V.str d.word = V.str "open") = false from decide_eq_false fun z => done i d e4 (V.str.inj z)]
        rw [List.length_map, hstA.len] at hi
        have := W.few
        refine ⟨_, hb2, ?_, g2.own (.of hD2) hb2 trivial, ?_⟩
        · rw [List.length_map, List.length_replicate]
          exact small1000 (by omega)
        · rw [List.replicate_succ', List.map_append]; exact upd_same
      · rintro H2 ⟨g2, hb2⟩
        refine ⟨D2, _, rfl, .of hb2, _, rfl, ?_⟩
        rw [show (List.replicate (A.xs.map fun x => V.ref x.a).length false).any id = false from by rw [List.any_eq_false]; intro z hz; rw [List.eq_of_mem_replicate hz]; decide]
        refine ⟨_, rfl, _, rfl, (by show 2 ≤ sizeLine; decide), fun p hp => ?_⟩
        have g3 : Fr0 K H2 (upd H2 p (.tup [.ref A.st, .ref D])) := .new hp
        exact q p A _ ((g.trans g2).trans g3) ⟨⟨D, .of upd_same⟩, by
          have := hstA.fr0 (g2.trans g3)
          exact this⟩
end
end Sn
set_option Elab.async false
set_option linter.all false
set_option maxRecDepth 100000
set_option maxHeartbeats 4000000
namespace Sn
open PySem PySem.Spec PyProof.Rows L2
def natL (l : List Nat) : List V := l.map fun (j : Nat) => V.int (j : Nat)
theorem natL_get {l : List Nat} {i : Nat} {v : V} (h : (natL l)[i]? = some v) : ∃ j, l[i]? = some j ∧ v = .int (j : Nat) := map_get h
theorem get_natL {l : List Nat} {i j : Nat} (h : l[i]? = some j) : (natL l)[i]? = some (.int (j : Nat)) := get_map h
theorem natL_len (l : List Nat) : (natL l).length = l.length := List.length_map ..
theorem natL_snoc (l : List Nat) (i : Nat) : natL (l ++ [i]) = natL l ++ [.int (i : Nat)] := by rw [natL, List.map_append] <;> rfl
def SpanAt (K : PySem.W.Frag) (H : Hp) (a : Addr) (f l : Nat) : Prop := ∃ dx, H a = some (.ins (He.ga K "Span") dx [("first", .int (f : Nat)), ("last", .int (l : Nat))])
section
variable {P : Program} {w : World} {K : PySem.W.Frag} {mg : Str → Option Value} {base : Heap} {S : Addr → Prop} {H H1 : Hp} {A : SA} {b : BookD} {ds : List DM} {n : Nat}
theorem Fr.span {a : Addr} {x y : Nat} (f : Fr K S H H1) (h : SpanAt K H a x y) (n : ¬ S a) : SpanAt K H1 a x y := let ⟨dx, h⟩ := h; ⟨dx, f.ins h n⟩
theorem PlayedAt.fr0 {p : Addr} {rs : List RowM} (h : PlayedAt K H p A b rs) (f : Fr0 K H H1) : PlayedAt K H1 p A b rs := ⟨let ⟨t, z⟩ := h.tup; ⟨t, f.tup z⟩, h.at_.fr0 f⟩
def spStand (K : PySem.W.Frag) : Sp := fun vs H Q _ => ∃ (A : SA) (b : BookD) (ds : List DM) (n : Nat), vs = [.ref A.st] ∧ StepAt K H A b ds n ∧ ds.length ≤ 40 ∧
  ∀ (p : Addr) (H' : Hp), H p = none → Fr0 K H H' → H' p = some (.lst (natL (standL ds))) → Q (.ref p) H'
theorem c_those_that_stand (T : Tx K mg) : C8.Cal P w K mg base 1 "those_that_stand" (spStand K) [] := by
  refine T.cal T.D_those_that_stand T.g_those_that_stand b_those_that_stand sc_those_that_stand (fun vs H Q E h => ?_) (fun cdv A outer s H vs Q E hr h => ?_)
  · obtain ⟨A, b, ds, n, rfl, _⟩ := h
    rfl
  · obtain ⟨A, b, ds, n, rfl, hst, h40, q⟩ := h
    refine ⟨_, (pss_one (ps_ret (pe_lc (own := [("number", 1), ("deal", 2)]) (by rfl) sc_those_that_stand.nd (pi_enum (by rfl) T.fr_enumerate (pa_cons (pe_fld (pv 0) rfl) pa_nil)) (blkOk_by (own := [("number", 1), ("deal", 2)]) (N := n_those_that_stand) (sc := defScope s_those_that_stand) (by decide +kernel)) (fun _ _ _ _ _ => (pg_tupK (K := K) (n := 2) rfl rfl (pgs_cons (pg_name (i := 1) sc_those_that_stand.nd rfl (Or.inl rfl)) (pgs_cons (pg_name (i := 2) sc_those_that_stand.nd rfl (Or.inl rfl)) pgs_nil)))) (fun _ _ _ _ _ => (pts_one (pt_cmpR op_eq (pe_fldK (K := K) rfl (pv 2) rfl) pe_str (nomark _)))) (fun _ _ _ _ _ => (pv 1))))), ?_⟩
    refine ⟨_, rfl, A.st, _, A.dx, _, _, rfl, hst.ins, T.cls_Stepper, T.no_Stepper_deals, rfl, A.dl, _, rfl, .of hst.deals, fun D hD => ?_⟩
    have hlen := hst.len
    refine lc_it (walk_enum (K := K) (a := A.dl) (xs := A.xs.map fun x => V.ref x.a)) (fun i H2 => Fr0 K H H2 ∧ ∃ l : List Nat, l.length ≤ i ∧ l = ((List.range i).filter fun i => match ds[i]? with | some d => decide (d.word = ("stands" : Str)) | none => false) ∧ H2 D = some (.lst (natL l)))
      ⟨.new hD, [], Nat.le_refl _, rfl, upd_same⟩ ?_ ?_ ?_
    · rintro i H2 _ ⟨g2, _⟩
      exact .of (hst.fr0 g2).deals
    · rintro i y H2 H3 hi ⟨g2, l, hl, hle, hq⟩ ⟨t, u, v, rfl, ht, rfl, hu1, hu2⟩
      obtain ⟨x, e1, rfl⟩ := map_get hu2
      obtain rfl := Option.some.inj hu1
      obtain ⟨d, e2, hd⟩ := pd_getL (hst.fr0 g2).each e1
      have gt : Fr0 K H2 (upd H2 t (.tup [.int (i : Nat), .ref x.a])) := .new ht
      obtain ⟨⟨ti, gi, hx⟩, _⟩ := gt.dealObj hd (fun z => z) (fun z => z)
      have hq2 := gt.lst hq (fun z => z)
      rw [List.length_map, hlen] at hi
      refine ⟨t, _, rfl, .of upd_same, rfl, _, _, rfl, _, _, rfl, rfl, rfl, ?_⟩
      refine ⟨_, rfl, x.a, _, x.dx, _, _, rfl, hx, T.cls_Deal, T.no_Deal_word, rfl, rfl, _, rfl, ?_⟩
      rw [List.range_succ, List.filter_append]
      by_cases c : d.word = ("stands" : Str)
      · rw [show decide (V.str d.word = V.str "stands") = true from by rw [c]; exact decide_eq_true rfl]
        have e3 : ([i].filter fun i => match ds[i]? with | some d => decide (d.word = ("stands" : Str)) | none => false) = [i] := by simp [e2, c]
        refine ⟨_, rfl, _, hq2, ?_, (g2.trans gt).own (.of hD) hq2 trivial, l ++ [i], ?_, by rw [e3, hle], ?_⟩
        · rw [natL_len]; exact small1000 (by omega)
        · rw [List.length_append, List.length_singleton]; omega
        · rw [natL_snoc]; exact upd_same
      · rw [show decide (V.str d.word = V.str "stands") = false from decide_eq_false fun z => c (V.str.inj z)]
        have e3 : ([i].filter fun i => match ds[i]? with | some d => decide (d.word = ("stands" : Str)) | none => false) = [] := by simp [e2, c]
        exact ⟨g2.trans gt, l, by omega, by rw [e3, List.append_nil, hle], hq2⟩
    · rintro H2 ⟨g2, l, hl, hle, hq⟩
      rw [List.length_map, hlen] at hle
      rw [hle] at hq
      exact q D H2 hD g2 hq
def spSpanInit (K : PySem.W.Frag) : Sp := fun vs H Q _ => ∃ (a dx : Addr) (f l : Nat), vs = [.ref a, .int (f : Nat), .int (l : Nat)] ∧ H a = some (.ins (He.ga K "Span") dx []) ∧
  ∀ (H' : Hp), Fr K (fun c => c = a) H H' → SpanAt K H' a f l → Q .non H'
theorem c_Span (T : Tx K mg) : C8.Mak P w K mg base 1 "Span" (He.ga K "Span") (spSpanInit K) [] := by
  refine T.mak T.D_Span_init T.mkr_Span T.g_Span b_Span_init sc_Span_init (fun vs H Q E h => ?_) (fun cdv A outer s H vs Q E hr h => ?_)
  · obtain ⟨a, dx, f, l, rfl, _⟩ := h
    rfl
  · obtain ⟨a, dx, f, l, rfl, ha, q⟩ := h
    refine ⟨_, (pss_cons (ps_fld (pv 0) (pv 1) rfl)
      (pss_one (ps_fld (pv 0) (pv 2) rfl))), ?_⟩
    refine ⟨_, rfl, _, rfl, a, _, dx, _, rfl, ha, T.cls_Span, T.no_Span_first, (by show 0 < 1000; decide), ?_⟩
    refine ⟨_, rfl, _, rfl, a, _, dx, _, rfl, upd_same, T.cls_Span, T.no_Span_last, (by show 1 < 1000; decide), ?_⟩
    rw [upd_upd]
    exact q _ (.at_ rfl ha trivial) ⟨dx, upd_same⟩
def spOverlaps (K : PySem.W.Frag) : Sp := fun vs H Q _ => ∃ (a c : Addr) (f l f' l' : Nat), vs = [.ref a, .ref c] ∧ SpanAt K H a f l ∧ SpanAt K H c f' l' ∧ Q (.bl (decide (f < l') && decide (f' < l))) H
theorem m_overlaps (T : Tx K mg) : C8.Met P w K mg base 1 (He.ga K "Span") "overlaps" (spOverlaps K) [] := by
  refine T.met T.D_Span_overlaps T.cls_Span T.me_Span_overlaps b_Span_overlaps sc_Span_overlaps (fun vs H Q E h => ?_) (fun cdv A outer s H vs Q E hr h => ?_)
  · obtain ⟨a, c, f, l, f', l', rfl, _⟩ := h
    rfl
  · obtain ⟨a, c, f, l, f', l', rfl, ⟨dx, ha⟩, ⟨dx', hc⟩, q⟩ := h
    refine ⟨_, (pss_one (ps_ret (pe_and (pe_cmpR op_lt (pe_fld (pv 0) rfl) (pe_fld (pv 1) rfl) (nomark _)) (pe_one (pe_cmpR op_lt (pe_fld (pv 1) rfl) (pe_fld (pv 0) rfl) (nomark _)))))), ?_⟩
    refine ⟨_, rfl, a, _, dx, _, _, rfl, ha, T.cls_Span, T.no_Span_first, rfl, _, rfl, c, _, dx', _, _, rfl, hc, T.cls_Span, T.no_Span_last, rfl, _, _, rfl, rfl, _, rfl, ?_⟩
    by_cases c1 : f < l'
    · rw [show decide (((f : Nat) : Int) < ((l' : Nat) : Int)) = true from decide_eq_true (by omega)]
      rw [decide_eq_true c1, Bool.true_and] at q
      refine ⟨_, rfl, c, _, dx', _, _, rfl, hc, T.cls_Span, T.no_Span_first, rfl, _, rfl, a, _, dx, _, _, rfl, ha, T.cls_Span, T.no_Span_last, rfl, _, _, rfl, rfl, ?_⟩
      show Q (.bl (decide (((f' : Nat) : Int) < ((l : Nat) : Int)))) H
      rw [show decide (((f' : Nat) : Int) < ((l : Nat) : Int)) = decide (f' < l) from decide_eq_decide.mpr (by omega)]
      exact q
    · rw [show decide (((f : Nat) : Int) < ((l' : Nat) : Int)) = false from decide_eq_false (by omega)]
      rw [decide_eq_false c1, Bool.false_and] at q
      exact q
def spSpanOf (K : PySem.W.Frag) : Sp := fun vs H Q _ => ∃ (x : DA) (m : DM) (e : Nat), vs = [.ref x.a] ∧ DealObj K H x m ∧ m.ended = some e ∧
  ∀ (a : Addr) (H' : Hp), Fr0 K H H' → SpanAt K H' a m.begun e → Q (.ref a) H'
theorem c_span_of (T : Tx K mg) : C8.Cal P w K mg base 3 "span_of" (spSpanOf K) [] := by
  have c_Span : C8.Mak P w K mg base 1 "Span" (He.ga K "Span") (spSpanInit K) [] := c_Span T
  refine T.cal T.D_span_of T.g_span_of b_span_of sc_span_of (fun vs H Q E h => ?_) (fun cdv A outer s H vs Q E hr h => ?_)
  · obtain ⟨x, m, e, rfl, _⟩ := h
    rfl
  · obtain ⟨x, m, e, rfl, hd, he, q⟩ := h
    obtain ⟨⟨ti, gi, hx⟩, _⟩ := hd
    rw [he] at hx
    refine ⟨_, (pss_one (ps_ret (C8.pe_mk c_Span hr (by decide) rfl (pa_cons (pe_fld (pv 0) rfl) (pa_cons (pe_fld (pv 0) rfl) pa_nil))))), ?_⟩
    refine ⟨_, rfl, x.a, _, x.dx, _, _, rfl, hx, T.cls_Deal, T.no_Deal_begun, rfl, _, rfl, x.a, _, x.dx, _, _, rfl, hx, T.cls_Deal, T.no_Deal_ended, rfl, fun a dx ha hdx hne => ?_⟩
    have g0 : Fr0 K H (upd (upd H dx (.own a)) a (.ins (He.ga K "Span") dx [])) := (Fr.new hdx).new2 (by rw [upd_ne (fun z => hne z.symm)]; exact ha)
    exact ⟨a, dx, m.begun, e, rfl, upd_same, fun H1 g1 hs => ⟨rfl, q a H1 ((g0.wide.trans g1).narrow fun c z => .inr (by rw [z]; exact .of ha)) hs⟩⟩
def spSpansOf (K : PySem.W.Frag) : Sp := fun vs H Q _ => ∃ (bk l : Addr) (b : BookD) (rs : List RowM), vs = [.ref bk, .ref l] ∧ BookAt K H bk b ∧ BookOk b ∧ RowsAt K b H l rs ∧ RunOk rs ∧ LamX.Tabs (TB K) H ∧
  ∀ (p : Addr) (as : List Addr) (H' : Hp), Nw H p → Fr0 K H H' → H' p = some (.lst (as.map V.ref)) → Paired (fun a (d : DM) => ∃ e, d.ended = some e ∧ SpanAt K H' a d.begun e) as (play rs) → Q (.ref p) H'
theorem c_spans_of (T : Tx K mg) (B : TbB K mg base) : C8.Cal P w K mg base 7 "spans_of" (spSpansOf K) [] := by
  have c_played : C8.Cal P w K mg base 6 "played" (spPlayed K) [] := c_played T B
  have c_span_of : C8.Cal P w K mg base 3 "span_of" (spSpanOf K) [] := c_span_of T
  refine T.cal T.D_spans_of T.g_spans_of b_spans_of sc_spans_of (fun vs H Q E h => ?_) (fun cdv A outer s H vs Q E hr h => ?_)
  · obtain ⟨bk, l, b, rs, rfl, _⟩ := h
    rfl
  · obtain ⟨bk, l, b, rs, rfl, hb, hB, hrs, hrun, ht, q⟩ := h
    refine ⟨_, (pss_cons (ps_asg (C8.pe_c c_played hr (by decide) rfl (pa_cons (pv 0) (pa_cons (pv 1) pa_nil))) (pg_tup rfl (pgs_cons (pg_name (i := 2) sc_spans_of.nd rfl (Or.inl rfl)) (pgs_cons (pg_name (i := 3) sc_spans_of.nd rfl (Or.inl rfl)) pgs_nil))))
      (pss_one (ps_ret (pe_lc (own := [("deal", 4)]) (by rfl) sc_spans_of.nd (pi_list (pe_fld (pv 2) rfl)) (blkOk_by (own := [("deal", 4)]) (N := n_spans_of) (sc := defScope s_spans_of) (by decide +kernel)) (fun _ _ _ _ _ => (pg_name (i := 4) sc_spans_of.nd rfl (Or.inl rfl))) (fun _ _ _ _ _ => pts_nil) (fun _ _ _ _ _ => (C8.pe_c c_span_of hr (by decide) rfl (pa_cons (pv 4) pa_nil))))))), ?_⟩
    refine ⟨_, rfl, _, rfl, bk, l, b, rs, rfl, hb, hB, hrs, hrun, ht, fun p A H1 g1 hp => ?_⟩
    obtain ⟨⟨told, ht1⟩, hst⟩ := hp
    refine ⟨p, _, rfl, ht1, rfl, _, _, rfl, _, _, rfl, rfl, ?_⟩
    refine ⟨_, rfl, A.st, _, A.dx, _, _, rfl, hst.ins, T.cls_Stepper, T.no_Stepper_deals, rfl, A.dl, rfl, ⟨_, .of hst.deals⟩, fun D hD => ?_⟩
    have hlen := hst.len
    have W := wf_play hrun.goes
    have few := W.few
    have nD : Nw H D := g1.nw (fun z => z) (.of hD)
    refine lc_it (walk_list (K := K) (a := A.dl) (xs := A.xs.map fun x => V.ref x.a)) (fun i H2 => Fr0 K H1 H2 ∧ ∃ as : List Addr, H2 D = some (.lst (as.map V.ref)) ∧ Paired (fun a (d : DM) => ∃ e, d.ended = some e ∧ SpanAt K H2 a d.begun e) as ((play rs).take i)) ⟨.new hD, [], upd_same, .nil⟩ ?_ ?_ ?_
    · rintro i H2 _ ⟨g2, _⟩
      exact .of (hst.fr0 g2).deals
    · rintro i y H0 H2 hi ⟨g2, as, hq, hps⟩ ⟨rfl, hy⟩
      obtain ⟨x, e1, rfl⟩ := map_get hy
      obtain ⟨d, e2, hd⟩ := pd_getL (hst.fr0 g2).each e1
      obtain ⟨e, he⟩ : ∃ e, d.ended = some e := by
        cases ee : d.ended with
        | none => exact absurd ((W.opn i d e2).mpr ee) (hrun.done i d e2)
        | some e => exact ⟨e, rfl⟩
      rw [List.length_map, hlen] at hi
      refine ⟨rfl, ?_⟩
      refine ⟨_, rfl, x, d, e, rfl, hd, he, fun a H3 g3 hsp => ?_⟩
      have hq3 := g3.lst hq (fun z => z)
      have f4 : Fr K (fun c => c = D) H3 (upd H3 D (.lst (as.map V.ref ++ [V.ref a]))) := .at_ rfl hq3 trivial
      have nsp : ∀ {a : Addr} {x y : Nat}, SpanAt K H3 a x y → ¬ a = D := fun {a x y} ⟨dx, h⟩ z => by rw [z, hq3] at h; cases h
      have hl := pd_len hps
      rw [List.length_take] at hl
      refine ⟨_, hq3, ?_, (g2.trans g3).own (.of hD) hq3 trivial, as ++ [a], by rw [List.map_append]; exact upd_same, ?_⟩
      · rw [List.length_map]; exact small1000 (by omega)
      · rw [take_snoc e2]
        refine pd_snoc (pd_map hps fun _ _ ⟨e, h1, h2⟩ => ⟨e, h1, f4.span (g3.span h2 (fun z => z)) (nsp (g3.span h2 (fun z => z)))⟩) ⟨e, he, f4.span hsp (nsp hsp)⟩
    · rintro H2 ⟨g2, as, hq, hps⟩
      rw [List.length_map, hlen, List.take_length] at hps
      exact q D as H2 nD (g1.trans g2) hq hps
end
end Sn
set_option Elab.async false
set_option linter.all false
set_option maxRecDepth 100000
set_option maxHeartbeats 4000000
/-! A dict whose keys are (one, other, word, (kind, number)). -/
namespace Sn
open PySem PySem.Spec PyProof.Rows L2
abbrev Qd : Type := Nat × Nat × Str × KeyD
def nkD (k : KeyD) : NestedKey := .tup [.text k.1, .num k.2]
def nk (q : Qd) : NestedKey := .tup [.num (q.1 : Nat), .num (q.2.1 : Nat), .text q.2.2.1, nkD q.2.2.2]
theorem nk_inj {p q : Qd} (h : nk p = nk q) : p = q := by
  obtain ⟨a, b, c, d, e⟩ := p
  obtain ⟨a', b', c', d', e'⟩ := q
  simp only [nk, nkD, NestedKey.tup.injEq, List.cons.injEq, NestedKey.num.injEq, NestedKey.text.injEq, and_true] at h
  obtain ⟨h1, h2, h3, h4, h5⟩ := h
  have h1 : a = a' := by exact_mod_cast h1
  have h2 : b = b' := by exact_mod_cast h2
  rw [h1, h2, h3, h4, h5]
/-- the key's tuple -/
def QdAt (K : PySem.W.Frag) (H : Hp) (a : Addr) (q : Qd) : Prop := ∃ ka, SqT K H a [.int (q.1 : Nat), .int (q.2.1 : Nat), .str q.2.2.1, .ref ka] ∧ KeyAt K H ka q.2.2.2
/-- the dict's own object -/
def RawQ (P : Program) (w : World) (d : Addr) (xs : List (Qd × Addr)) : Heap → Prop := fun h =>
  ∃ o es ep, h.get? d = some o ∧ o.ExactDict ∧ o.data = .dict es ep ∧ es.toList = xs.map fun p => entryOfKey (nestedKind P w) (nk p.1, p.2, .bool true)
theorem heap_of_size : ∀ n : Nat, ∃ h : Heap, h.objs.size = n
  | 0 => ⟨{}, rfl⟩
  | n + 1 => let ⟨h, e⟩ := heap_of_size n; ⟨h.push { cls := .none, data := .plain }, by rw [Heap.size_push, e]⟩
theorem rawQ_some (P : Program) (w : World) (d : Addr) (xs : List (Qd × Addr)) : ∃ h, RawQ P w d xs h := by
  obtain ⟨h, e⟩ := heap_of_size d
  have := Heap.get?_push_size h (o := { cls := .type "dict", data := .dict (xs.map fun p => entryOfKey (nestedKind P w) (nk p.1, p.2, .bool true)).toArray }) rfl
  rw [e] at this
  exact ⟨_, _, _, _, this, ⟨rfl, rfl, rfl⟩, rfl, by simp⟩
theorem ext_ne {P : Program} {w : World} {d : Addr} {xs : List (Qd × Addr)} {q : Str} : HO.ext (RawQ P w d xs) ≠ LamX.CodeO d q := fun z => by
  obtain ⟨h, hr⟩ := rawQ_some P w d xs
  unfold LamX.CodeO at z
  have z := HO.ext.inj z
  rw [z] at hr
  obtain ⟨oc, vs, t, h1, h2, _⟩ := hr
  obtain ⟨h, hr⟩ := rawQ_some P w d xs
  have hr' := hr
  rw [z] at hr'
  obtain ⟨oc, vs, t, h1, h2, _⟩ := hr'
  obtain ⟨o, es, ep, h3, _, h4, _⟩ := hr
  rw [h1] at h3
  rw [Option.some.inj h3, h4] at h2
  cases h2
section
variable {P : Program} {w : World} {K : PySem.W.Frag} {mg : Str → Option Value} {base : Heap} {S : Addr → Prop} {H H1 : Hp}
theorem Fr.qd {a : Addr} {q : Qd} (f : Fr K S H H1) (h : QdAt K H a q) : QdAt K H1 a q := let ⟨ka, h1, h2⟩ := h; ⟨ka, f.tup h1, f.key h2⟩
theorem Fr.atQ {a : Addr} {xs ys : List (Qd × Addr)} (hS : S a) (ha : H a = some (.ext (RawQ P w a xs))) : Fr K S H (upd H a (.ext (RawQ P w a ys))) := by
  have ne : ∀ {b : Addr} {v : HO}, H b = some v → v ≠ .ext (RawQ P w a xs) → b ≠ a := fun {b v} e n z => by
    rw [z, ha] at e
    exact n (Option.some.inj e).symm
  refine ⟨fun b v e n _ => ?_, fun b v e i => ?_, fun t q hq => ?_⟩
  · rw [upd_ne (fun z => n (by rw [z]; exact hS))]; exact e
  · rw [upd_ne (ne e (fun w => by rw [w] at i; exact i))]; exact e
  · obtain ⟨ps, h1, h2, h3⟩ := t q hq
    refine ⟨ps, by rw [upd_ne (ne h1 fun z => nomatch z)]; exact h1, h2, fun pos cv hc => ?_⟩
    obtain ⟨c, e1, e2⟩ := h3 pos cv hc
    refine ⟨c, e1, ?_⟩
    rw [upd_ne ?_]
    · exact e2
    · intro z
      rw [z] at e2
      rw [ha] at e2
      exact ext_ne (Option.some.inj e2)
theorem Fr.ownQ {a : Addr} {xs ys : List (Qd × Addr)} (f : Fr K S H H1) (h : Nw H a) (ha : H1 a = some (.ext (RawQ P w a xs))) : Fr K S H (upd H1 a (.ext (RawQ P w a ys))) := by
  have g : Fr K (fun b => b = a) H1 (upd H1 a (.ext (RawQ P w a ys))) := .atQ rfl ha
  exact ⟨fun b v e n t => g.keep b v (f.keep b v e n t) (h.ne e t) t, fun b v e i => g.imm b v (f.imm b v e i) i, fun t => g.tabs (f.tabs t)⟩
end
/-! ### the rules -/
section
variable {X : Cx} {pins : List (Addr × Obj)} {σ : L2.St} {H : Hp} {s : Shared}
theorem rawQ_own {P : Program} {w : World} {d : Addr} {xs : List (Qd × Addr)} (h1 h2 : Heap) (h : RawQ P w d xs h1) (k : ∀ o, h1.get? d = some o → h2.get? d = some o) : RawQ P w d xs h2 :=
  let ⟨o, es, ep, a, b⟩ := h; ⟨o, es, ep, k _ a, b⟩
theorem rawQ_ok {H : Hp} {h : Heap} {d : Addr} {xs : List (Qd × Addr)} (r : RawQ X.prog X.w d xs h) : ObjOk X.prog X.w H h d (.ext (RawQ X.prog X.w d xs)) :=
  ⟨r, let ⟨o, _, _, a, _⟩ := r; ⟨o, a⟩, rawQ_own⟩
theorem nested_of {a : Addr} {q : Qd} (I : L2.Inv X pins σ H s) (h : QdAt X.K H a q) : NestedIs s.heap (nk q) (.ref a) := by
  obtain ⟨ka, h1, h2, _⟩ := h
  obtain ⟨its, rv, ⟨o, e1, e2, n, e3⟩, _⟩ := I.tuple h1
  obtain ⟨kts, rk, ⟨o', e1', e2', n', e3'⟩, _⟩ := I.tuple h2
  match its, rv with
  | [v1, v2, v3, v4], .cons r1 (.cons r2 (.cons r3 (.cons r4 .nil))) =>
    match kts, rk with
    | [u1, u2], .cons s1 (.cons s2 .nil) =>
      obtain ⟨t1, rfl⟩ := r1
      obtain ⟨t2, rfl⟩ := r2
      obtain ⟨t3, rfl⟩ := r3
      obtain ⟨t4, rfl⟩ := s1
      obtain ⟨t5, rfl⟩ := s2
      cases r4
      exact .tup e1 e2 e3 (.cons (.int _ _) (.cons (.int _ _) (.cons (.text _ _) (.cons (.tup e1' e2' e3' (.cons (.text _ _) (.cons (.int _ _) .nil))) .nil))))
theorem dictOf {d : Addr} {xs : List (Qd × Addr)} (I : L2.Inv X pins σ H s) (hd : H d = some (.ext (RawQ X.prog X.w d xs))) (hx : ∀ p ∈ xs, QdAt X.K H p.2 p.1) (nd : (xs.map (·.1)).Nodup) :
    s.heap.DictOfH (nestedKind X.prog X.w) d (xs.map fun p => (nk p.1, p.2, Value.bool true)) := by
  obtain ⟨⟨o, es, ep, h1, h2, h3, h4⟩, _⟩ := I.hok d _ hd
  refine ⟨o, es, ep, h1, h2, h3, by rw [h4, List.map_map] <;> rfl, fun x hx' => ?_, ?_⟩
  · obtain ⟨p, hp, rfl⟩ := List.mem_map.mp hx'
    exact ⟨nested_of I (hx p hp), (by show (nk p.1).depth ≤ 8; simp [nk, nkD, NestedKey.depth, NestedKey.depthAll])⟩
  · rw [List.map_map]
    have : ((fun x : NestedKey × Addr × Value => x.1) ∘ fun p : Qd × Addr => (nk p.1, p.2, Value.bool true)) = nk ∘ (·.1) := rfl
    rw [this, ← List.map_map]
    exact List.pairwise_map.mpr (nd.imp fun h z => h (nk_inj z))
def tDNewQ (P : Program) (w : World) : TE := fun _ H Q => ∀ p, H p = none → (p == sysModules) = false → Q (.ref p) (upd H p (.ext (RawQ P w p [])))
theorem pe_dnewQ {pos : Pos} : PE X (.Dict [] [] pos) (tDNewQ X.prog X.w) := ⟨fun pins s σ H Q I h =>
  wpAny_Dict_empty ⟨.ref s.heap.objs.size, _, I.laid (a := s.heap.objs.size) (o := .ext (RawQ X.prog X.w s.heap.objs.size [])) (t' := s.toks) (fun _ _ q => Heap.get?_push_of_some _ q) (Nat.le_refl _)
    (rawQ_ok ⟨_, _, _, Heap.get?_push_size _ rfl, ⟨rfl, rfl, rfl⟩, rfl, rfl⟩), rfl, h _ (I.hok.fresh (Nat.le_refl _)) (beq_eq_false_iff_ne.mpr (Nat.ne_of_gt I.big))⟩⟩
/-- d[q] = True -/
def putQ (xs : List (Qd × Addr)) (q : Qd) (a : Addr) : List (Qd × Addr) := if q ∈ xs.map (·.1) then xs else xs ++ [(q, a)]
theorem at_none {xs : List (Qd × Addr)} {q : Qd} (h : q ∉ xs.map (·.1)) : atKey (xs.map fun p => (nk p.1, p.2, Value.bool true)) (nk q) = none := by
  unfold atKey
  rw [List.find?_eq_none.mpr, Option.map_none]
  intro x hx
  obtain ⟨p, hp, rfl⟩ := List.mem_map.mp hx
  simp only [decide_eq_true_eq]
  intro z
  exact h (List.mem_map.mpr ⟨p, hp, nk_inj z⟩)
theorem at_some {xs : List (Qd × Addr)} {q : Qd} (h : q ∈ xs.map (·.1)) : (atKey (xs.map fun p => (nk p.1, p.2, Value.bool true)) (nk q)).isSome = true := by
  obtain ⟨p, hp, rfl⟩ := List.mem_map.mp h
  unfold atKey
  rw [Option.isSome_map, List.find?_isSome]
  exact ⟨_, List.mem_map.mpr ⟨p, hp, rfl⟩, by simp⟩
theorem stored_put (xs : List (Qd × Addr)) (q : Qd) (a : Addr) : storedH (xs.map fun p => (nk p.1, p.2, Value.bool true)) (nk q) a (.bool true) = (putQ xs q a).map fun p => (nk p.1, p.2, Value.bool true) := by
  unfold storedH putQ
  by_cases c : q ∈ xs.map (·.1)
  · rw [if_pos (at_some c), if_pos c, List.map_map]
    refine List.map_congr_left fun p _ => ?_
    show putAt (nk q) (.bool true) (nk p.1, p.2, Value.bool true) = _
    unfold putAt
    split <;> rfl
  · rw [if_neg (by rw [at_none c]; simp), if_neg c, List.map_append] <;> rfl
def sQPut (P : Program) (w : World) (K : PySem.W.Frag) (td ty : TE) : TS := fun D σ H => td σ H fun x H1 => ty σ H1 fun y H2 => ∃ (d a : Addr) (q : Qd) (xs : List (Qd × Addr)), x = .ref d ∧ y = .ref a ∧ H2 d = some (.ext (RawQ P w d xs)) ∧ QdAt K H2 a q ∧
  (∀ p ∈ xs, QdAt K H2 p.2 p.1) ∧ (xs.map (·.1)).Nodup ∧ xs.length < 1000 ∧ D.nx σ (upd H2 d (.ext (RawQ P w d (putQ xs q a))))
theorem ps_qput {td ty : TE} {o i : Expr} {pos pos' cp : Pos} {cj : Nat} (hu : X.A.units + 65 < cLine) (ho : PE X o td) (hi : PE X i ty) (hs : swapsWith (.Constant (.bool true) cj cp) (some (.Subscript o i pos')) pos.line X.env = pure false) :
    PS X (.Assign [.Subscript o i pos'] (.Constant (.bool true) cj cp) pos) (sQPut X.prog X.w X.K td ty) := by
  refine ⟨fun pins s σ H D I h => ?_⟩
  refine wpAny_Assign_Subscript (thn ((pe_bl (X := X) (b := true) (j := cj) (pos := cp)).run pins s σ H (fun v H1 => v = .bl true ∧ H1 = H) I (show _ ∧ _ from ⟨rfl, rfl⟩)) fun r s1 hq => ?_) hs
  obtain ⟨_, _, I1, rv, rfl, rfl⟩ := hq
  refine thn (ho.run pins s1 σ _ _ I1 h) fun u s2 ⟨x, H2, I2, rx, q2⟩ => thn (hi.run pins s2 σ H2 _ I2 q2) fun iv s3 ⟨y, H3, I3, ry, d, a, q, xs, ex, ey, hd, ha, hx, nd, hl, q3⟩ => ?_
  subst ex ey
  obtain rfl : u = Value.ref d := rx
  obtain rfl : iv = Value.ref a := ry
  obtain rfl : r = Value.bool true := rv
  have dd := dictOf I3 hd hx nd
  have room : (nestedKind X.prog X.w).room X.A.in1 := by
    show X.A.units + 1 + 8 < cLine
    omega
  refine wpAny_setItem_heap (hsz := by rw [List.length_map]; exact Nat.le_of_lt (small1000 (by omega))) room (k := nk q) ⟨nested_of I3 ha, (by show (nk q).depth ≤ 8; simp [nk, nkD, NestedKey.depth, NestedKey.depthAll])⟩ dd fun h' dd' hs' => ?_
  rw [stored_put] at dd'
  obtain ⟨o', es, ep, h1, h2, h3, h4, _⟩ := dd'
  refine ⟨σ, _, I3.write (t' := _) (x := d) (e := d) (o := .ext (RawQ X.prog X.w d (putQ xs q a))) (by rw [hd]; exact True.intro) (.inl rfl) (fun b o hb e => hs'.extBut b o hb e) ⟨o', h1⟩ (rawQ_ok ⟨o', es, ep, h1, h2, h3, ?_⟩), q3⟩
  rw [h4, List.map_map] <;> rfl
theorem vals_refs : ∀ xs : List (Qd × Addr), Vals (xs.map fun p => V.ref p.2) (xs.map fun p => Value.ref p.2)
  | [] => .nil
  | _ :: r => .cons rfl (vals_refs r)
/-- list(d) -/
theorem call_list_q (hc : X.calm = true) : CallR X (.type "list") (fun vs H Q => ∃ (d : Addr) (xs : List (Qd × Addr)), vs = [.ref d] ∧ H d = some (.ext (RawQ X.prog X.w d xs)) ∧ (d == sysModules) = false ∧ xs.length < 1000 ∧
    ∀ l, H l = none → Q (.ref l) (upd H l (.lst (xs.map fun p => V.ref p.2)))) := by
  intro pins s σ H vs us Q I r h
  obtain ⟨d, xs, rfl, hd, hm, hl, q⟩ := h
  obtain ⟨u, rfl, ru⟩ := vals1 r
  cases ru
  obtain ⟨⟨o, es, ep, h1, h2, h3, h4⟩, _⟩ := I.hok d _ hd
  have hsz : es.size = xs.length := by
    have := congrArg List.length h4
    simpa using this
  refine PySem.W.kdl_call (PySem.KdlSrc.rawDict (prog := X.prog) (w := X.w) (d := d) (es := es) (ep := ep) hm) (I.ok.hd hc) ⟨o, h1, h2, h3⟩ (by rw [hsz]; exact Nat.le_of_lt (small1000 (by omega))) fun h' tk acc' c' k hS hacc => ?_
  obtain ⟨ha1, ha2⟩ := hacc
  have hvals : Vals (xs.map fun p => V.ref p.2) acc'.toList := by
    have e : acc'.toList = xs.map fun p => Value.ref p.2 := by
      apply List.ext_getElem?
      intro j
      rw [Array.getElem?_toList]
      cases hj : acc'[j]? with
      | none =>
        have : acc'.size ≤ j := by
          rcases Nat.lt_or_ge j acc'.size with z | z
          · rw [Array.getElem?_eq_getElem z] at hj; cases hj
          · exact z
        rw [List.getElem?_eq_none (by rw [List.length_map]; omega)]
      | some v =>
        obtain ⟨hi, rfl⟩ := ha2 j v hj
        have hj2 : j < xs.length := by omega
        have e1 : es.toList[j]? = some es[j] := by rw [Array.getElem?_toList]; exact Array.getElem?_eq_getElem hi
        rw [h4, List.getElem?_map, List.getElem?_eq_getElem hj2] at e1
        rw [List.getElem?_map, List.getElem?_eq_getElem hj2, ← Option.some.inj e1]
        rfl
    rw [e]
    exact vals_refs xs
  refine ⟨.ref s.heap.objs.size, _, I.laid (t' := tk) (o := .lst (xs.map fun p => V.ref p.2)) k (Nat.le_refl _) ⟨by rw [List.length_map]; exact Nat.le_of_lt (small1000 (by omega)), acc'.toList, c', hvals, by rw [Array.toArray_toList]; exact hS⟩, rfl, q _ (I.hok.fresh (Nat.le_refl _))⟩
end
end Sn
set_option Elab.async false
set_option linter.all false
set_option maxRecDepth 100000
set_option maxHeartbeats 4000000
namespace Sn
open PySem PySem.Spec PyProof.Rows L2
structure DQ (P : Program) (w : World) (K : PySem.W.Frag) (H : Hp) (d : Addr) (xs : List (Qd × Addr)) (M : Qd → Prop) : Prop where
  at_ : H d = some (.ext (RawQ P w d xs))
  all : ∀ p ∈ xs, QdAt K H p.2 p.1
  nd : (xs.map (·.1)).Nodup
  mem : ∀ q, q ∈ xs.map (·.1) ↔ M q
theorem put_len (xs : List (Qd × Addr)) (q : Qd) (a : Addr) : (putQ xs q a).length ≤ xs.length + 1 := by
  unfold putQ
  split
  · omega
  · rw [List.length_append]; simp
theorem mem_put (xs : List (Qd × Addr)) (q q' : Qd) (a : Addr) : q' ∈ (putQ xs q a).map (·.1) ↔ q' ∈ xs.map (·.1) ∨ q' = q := by
  unfold putQ
  split
  · rename_i h
    refine ⟨.inl, ?_⟩
    rintro (z | rfl)
    · exact z
    · exact h
  · rw [List.map_append, List.mem_append] <;> simp
theorem nd_put {xs : List (Qd × Addr)} (h : (xs.map (·.1)).Nodup) (q : Qd) (a : Addr) : ((putQ xs q a).map (·.1)).Nodup := by
  unfold putQ
  split
  · exact h
  · rename_i hn
    rw [List.map_append]
    refine List.nodup_append.mpr ⟨h, by simp, fun x hx y hy => ?_⟩
    rw [List.map_singleton, List.mem_singleton] at hy
    rw [hy]
    exact fun z => hn (by rw [← (show x = q from z)]; exact hx)
theorem all_put {xs : List (Qd × Addr)} {q : Qd} {a : Addr} {R : Qd × Addr → Prop} (h : ∀ p ∈ xs, R p) (ha : R (q, a)) : ∀ p ∈ putQ xs q a, R p := by
  unfold putQ
  split
  · exact h
  · intro p hp
    rcases List.mem_append.mp hp with z | z
    · exact h p z
    · rw [List.mem_singleton.mp z]; exact ha
section
variable {P : Program} {w : World} {K : PySem.W.Frag} {mg : Str → Option Value} {base : Heap} {S : Addr → Prop} {H H1 : Hp} {A : SA} {b : BookD} {ds : List DM} {n : Nat} {d : Addr} {xs : List (Qd × Addr)} {M M' : Qd → Prop}
theorem DQ.fr (h : DQ P w K H d xs M) (f : Fr K S H H1) (n : ¬ S d) : DQ P w K H1 d xs M := ⟨f.keep _ _ h.at_ n (fun ps z => by cases z), fun p hp => f.qd (h.all p hp), h.nd, h.mem⟩
theorem DQ.as (h : DQ P w K H d xs M) (e : ∀ q, M q ↔ M' q) : DQ P w K H d xs M' := ⟨h.at_, h.all, h.nd, fun q => (h.mem q).trans (e q)⟩
theorem DQ.put (h : DQ P w K H d xs M) {q : Qd} {a : Addr} (ha : QdAt K H a q) : DQ P w K (upd H d (.ext (RawQ P w d (putQ xs q a)))) d (putQ xs q a) (fun q' => M q' ∨ q' = q) := by
  have f : Fr K (fun c => c = d) H (upd H d (.ext (RawQ P w d (putQ xs q a)))) := .atQ rfl h.at_
  exact ⟨upd_same, all_put (fun p hp => f.qd (h.all p hp)) (f.qd ha), nd_put h.nd q a, fun q' => by rw [mem_put, h.mem q']⟩
theorem StepAt.own_ne (h : StepAt K H A b ds n) {φ : Heap → Prop} (hd : H d = some (.ext φ)) : ∀ c, A.own c → ¬ c = d := by
  obtain ⟨lg, l1, l2⟩ := h.log
  rintro c (z | z | z | ⟨x, hx, z | z⟩) rfl
  · have := h.ins; rw [← z, hd] at this; cases this
  · have := h.deals; rw [← z, hd] at this; cases this
  · rw [← z, hd] at l1; cases l1
  · obtain ⟨i, hi⟩ := List.mem_iff_getElem?.mp hx
    obtain ⟨m, _, ⟨⟨ti, gi, hxa⟩, _⟩⟩ := pd_getL h.each hi
    rw [← z, hd] at hxa; cases hxa
  · obtain ⟨i, hi⟩ := List.mem_iff_getElem?.mp hx
    obtain ⟨m, _, ⟨_, ⟨ts, hxt, _⟩, _⟩⟩ := pd_getL h.each hi
    rw [← z, hd] at hxt; cases hxt
/-- what by_reading finds: by the readings rs of own -/
def MR (ds : List DM) (own : Nat) (d : DM) (rs : List (KeyD × Option Nat)) (q : Qd) : Prop :=
  (q.2.2.1 = ("seen" : Str) ∧ q.2.1 = own ∧ q.1 ≠ own ∧ (q.2.2.2, some q.1) ∈ rs) ∨
  (q.2.2.1 = ("past" : Str) ∧ q.1 = own ∧ q.2.1 ≠ own ∧ ∃ sn d' e', (q.2.2.2, sn) ∈ rs ∧ sn ≠ some own ∧ Stands ds q.2.1 d' e' ∧ q.2.2.2 ∈ d'.wrote ∧ d.begun < e')
/-- by the reading (k, sn), the first others done -/
def MC (ds : List DM) (own : Nat) (d : DM) (k : KeyD) (sn : Option Nat) (os : List Nat) (q : Qd) : Prop :=
  (q.2.2.1 = ("seen" : Str) ∧ q.2.1 = own ∧ q.1 ≠ own ∧ q.2.2.2 = k ∧ sn = some q.1) ∨
  (q.2.2.1 = ("past" : Str) ∧ q.1 = own ∧ q.2.1 ≠ own ∧ q.2.2.2 = k ∧ sn ≠ some own ∧ q.2.1 ∈ os ∧ ∃ d' e', Stands ds q.2.1 d' e' ∧ k ∈ d'.wrote ∧ d.begun < e')
theorem mr_snoc {ds : List DM} {own : Nat} {d : DM} {rs : List (KeyD × Option Nat)} {k : KeyD} {sn : Option Nat} {q : Qd} (W : WF n ds) : MR ds own d (rs ++ [(k, sn)]) q ↔ MR ds own d rs q ∨ MC ds own d k sn (standL ds) q := by
  obtain ⟨a, c, wd, ky⟩ := q
  unfold MR MC
  constructor
  · rintro (⟨h1, h2, h3, h4⟩ | ⟨h1, h2, h3, s, d', e', h4, h5, h6, h7, h8⟩)
    · rcases List.mem_append.mp h4 with z | z
      · exact .inl (.inl ⟨h1, h2, h3, z⟩)
      · have z := List.mem_singleton.mp z
        rw [Prod.mk.injEq] at z
        exact .inr (.inl ⟨h1, h2, h3, z.1, z.2.symm⟩)
    · rcases List.mem_append.mp h4 with z | z
      · exact .inl (.inr ⟨h1, h2, h3, s, d', e', z, h5, h6, h7, h8⟩)
      · have z := List.mem_singleton.mp z
        rw [Prod.mk.injEq] at z
        exact .inr (.inr ⟨h1, h2, h3, z.1, by rw [← z.2]; exact h5, h6.mem, d', e', h6, by rw [← z.1]; exact h7, h8⟩)
  · rintro ((⟨h1, h2, h3, h4⟩ | ⟨h1, h2, h3, s, d', e', h4, h5⟩) | (⟨h1, h2, h3, h4, h5⟩ | ⟨h1, h2, h3, h4, h5, h6, d', e', h7, h8, h9⟩))
    · exact .inl ⟨h1, h2, h3, List.mem_append_left _ h4⟩
    · exact .inr ⟨h1, h2, h3, s, d', e', List.mem_append_left _ h4, h5⟩
    · exact .inl ⟨h1, h2, h3, List.mem_append_right _ (List.mem_singleton.mpr (by rw [h4, h5]))⟩
    · exact .inr ⟨h1, h2, h3, sn, d', e', List.mem_append_right _ (List.mem_singleton.mpr (by rw [h4])), h5, h7, by rw [h4]; exact h8, h9⟩
def spByReading (K : PySem.W.Frag) : Sp := fun vs H Q _ => ∃ (A : SA) (b : BookD) (ds : List DM) (n own e : Nat) (d : DM) (sl : Addr), vs = [.ref A.dl, .ref sl, .int (own : Nat)] ∧ StepAt K H A b ds n ∧ WF n ds ∧ H sl = some (.lst (natL (standL ds))) ∧ Stands ds own d e ∧
  ∀ (l : Addr) (xs : List (Qd × Addr)) (H' : Hp), Nw H l → Fr0 K H H' → H' l = some (.lst (xs.map fun p => V.ref p.2)) → xs.length < 1000 → (∀ p ∈ xs, QdAt K H' p.2 p.1) → (∀ q, q ∈ xs.map (·.1) ↔ MR ds own d d.reads q) → Q (.ref l) H'
theorem standL_len (ds : List DM) : (standL ds).length ≤ ds.length := by
  unfold standL
  exact Nat.le_trans (List.length_filter_le _ _) (by rw [List.length_range]; omega)
theorem reads_len (d : DM) : d.reads.length ≤ d.told.length := by
  unfold DM.reads
  rw [List.length_map]
  exact List.length_filter_le _ _
theorem wrote_len (d : DM) : d.wrote.length ≤ d.told.length := by
  unfold DM.wrote
  rw [List.length_map]
  exact List.length_filter_le _ _
theorem scal_endV (sn : Option Nat) (i : Int) : scal (endV sn) (.int i) = true := by cases sn <;> rfl
theorem endV_eq (sn : Option Nat) (i : Nat) : decide (endV sn = V.int (i : Nat)) = decide (sn = some i) := by
  cases sn with
  | none => rw [decide_eq_false (show ¬ endV none = V.int (i : Nat) from fun z => by cases z), decide_eq_false (by simp)]
  | some s =>
    refine decide_eq_decide.mpr ⟨fun z => ?_, fun z => by rw [z] <;> rfl⟩
    have := V.int.inj (show V.int (s : Nat) = V.int (i : Nat) from z)
    rw [show s = i by omega]
theorem int_eq (s i : Nat) : decide (V.int (s : Nat) = V.int (i : Nat)) = decide (s = i) :=
  decide_eq_decide.mpr ⟨fun z => by have := V.int.inj z; omega, fun z => by rw [z]⟩
theorem c_by_reading (T : Tx K mg) : C8.Cal P w K mg base 2 "by_reading" (spByReading K) [] := by
  have m_read_so : C8.Met P w K mg base 1 (He.ga K "Deal") "read_so" (spReadSo K) [] := m_read_so T
  have m_written : C8.Met P w K mg base 1 (He.ga K "Deal") "written" (spWritten K) [] := m_written T
  refine T.cal T.D_by_reading T.g_by_reading b_by_reading sc_by_reading (fun vs H Q E h => ?_) (fun cdv A outer s H vs Q E hr h => ?_)
  · obtain ⟨A, b, ds, n, own, e, d, sl, rfl, _⟩ := h
    rfl
  · obtain ⟨SA, b, ds, n, own, e, d, sl, rfl, hst, W, hsl, hS, q⟩ := h
    refine ⟨_, (pss_cons (ps_set (i := 3) sc_by_reading.nd rfl (Or.inl rfl) pe_dnewQ)
      (pss_cons (ps_for PassesOwn.never rfl (pi_list (C8.pe_mt0 m_read_so hr (by decide) (pe_ix ix_list (pv 0) (pv 2) (fun _ _ => rfl)))) (pg_tup rfl (pgs_cons (pg_name (i := 4) sc_by_reading.nd rfl (Or.inl rfl)) (pgs_cons (pg_name (i := 5) sc_by_reading.nd rfl (Or.inl rfl)) pgs_nil)))
        (C8.pss_cut (ps_if (PW.pt (pw_and (pt_cmpR op_notN (pv 5) pe_non (nomark _)) (pw_and1 (pt_cmpR op_ne (pv 5) (pv 2) (nomark _)))))
          (pss_one (ps_qput (u65_of hr) (pv 3) (pe_tup (pa_cons (pv 5) (pa_cons (pv 2) (pa_cons (C8.pe_gc rfl T.v_SEEN) (pa_cons (pv 4) pa_nil))))) rfl))
          pss_nil)
        (pss_one (ps_for PassesOwn.never rfl (pi_list (pv 1)) (pg_name (i := 6) sc_by_reading.nd rfl (Or.inl rfl))
          (pss_one (ps_if (PW.pt (pw_and (pt_cmpR op_ne (pv 5) (pv 2) (nomark _)) (pw_and (pt_cmpR op_ne (pv 6) (pv 2) (nomark _)) (pw_and1 (pt_cmpR (op_inD (u65_of hr)) (pv 4) (C8.pe_mt0 m_written hr (by decide) (pe_ix ix_list (pv 0) (pv 6) (fun _ _ => rfl))) (by rfl))))))
            (pss_one (ps_if (pt_cmpR op_gt (pe_fld (pe_ix ix_list (pv 0) (pv 6) (fun _ _ => rfl)) rfl) (pe_fld (pe_ix ix_list (pv 0) (pv 2) (fun _ _ => rfl)) rfl) (nomark _))
              (pss_one (ps_qput (u65_of hr) (pv 3) (pe_tup (pa_cons (pv 2) (pa_cons (pv 6) (pa_cons (C8.pe_gc rfl T.v_PAST) (pa_cons (pv 4) pa_nil))))) rfl))
              pss_nil))
            pss_nil))))))
      (pss_one (ps_ret (pe_callTy (call_list_q rfl) (by rfl) T.fr_list bt_list (pa_cons (pv 3) pa_nil)))))), ?_⟩
    have few := W.few
    obtain ⟨x, hx, hdo⟩ := hst.at_ hS.at_
    have l8 := W.len own d hS.at_
    refine fun D hD hDs => ?_
    have g0 : Fr0 K H (upd H D (.ext (RawQ P w D []))) := .new hD
    have hst0 := hst.fr0 g0
    have hdo0 := g0.dealObj hdo (fun z => z) (fun z => z)
    obtain ⟨⟨ti, gi, hxa0⟩, _⟩ := id hdo0
    refine ⟨_, rfl, _, rfl, SA.dl, _, _, .ref x.a, rfl, rfl, .of hst0.deals, at_of rfl (get_map hx), x.a, x.dx, _, rfl, hxa0, rfl, x, d, rfl, hdo0, by omega, fun p as H1 hp g1 hq1 hp1 => ?_⟩
    refine ⟨p, rfl, ⟨_, .of hq1⟩, ?_⟩
    have gH1 := g0.trans g1
    have hD1 : H1 D = some (.ext (RawQ P w D [])) := g1.keep _ _ upd_same (fun z => z) fun ps z => by cases z
    have hst1 := hst.fr0 gH1
    have hsl1 := gH1.lst hsl (fun z => z)
    have npD : p ≠ D := fun z => by rw [z, hD1] at hq1; cases hq1
    have nsD : sl ≠ D := fun z => by rw [z, hD1] at hsl1; cases hsl1
    have rl := reads_len d
    have sL := standL_len ds
    have lp := pd_len hp1
    -- what stands in the heap while the dict grows
    have keepS : ∀ {H' : Hp}, Fr K (fun c => c = D) H1 H' → StepAt K H' SA b ds n := fun f => hst1.fr f (hst1.own_ne hD1)
    refine for_it (walk_list (K := K) (a := p) (xs := as.map V.ref)) (fun i σ' H' => (∃ x y z, σ' = [some (.ref SA.dl), some (.ref sl), some (.int (own : Nat)), some (.ref D), x, y, z]) ∧ Fr K (fun c => c = D) H1 H' ∧ ∃ xs, xs.length ≤ i * 41 ∧ DQ P w K H' D xs (MR ds own d (d.reads.take i)))
      ⟨⟨none, none, none, rfl⟩, .refl _, [], Nat.zero_le _, hD1, by simp, by simp, fun q => by simp [MR]⟩ ?_ ?_ ?_
    · rintro i σ' H' _ ⟨_, f, _⟩
      exact .of (f.lst hq1 npD)
    · rintro i y σ' H0 H' hi ⟨⟨x', y', z', rfl⟩, f, xs, hxl, hDQ⟩ ⟨rfl, hy⟩
      obtain ⟨ra, e1, rfl⟩ := map_get hy
      obtain ⟨⟨k, sn⟩, e2, ka, hra, hka⟩ := pd_getL hp1 e1
      rw [List.length_map, lp] at hi
      have hra' := f.tup hra
      have hka' := f.key hka
      refine ⟨ra, _, rfl, hra', rfl, _, _, rfl, _, _, rfl, rfl, ?_⟩
      refine ⟨fun σ2 H2 => σ2 = [some (.ref SA.dl), some (.ref sl), some (.int (own : Nat)), some (.ref D), some (.ref ka), some (endV sn), z'] ∧ Fr K (fun c => c = D) H' H2 ∧ ∃ xs, xs.length ≤ i * 41 + 1 ∧ DQ P w K H2 D xs (fun q => MR ds own d (d.reads.take i) q ∨ MC ds own d k sn [] q), ?_, ?_⟩
      · cases sn with
        | none =>
          refine ⟨_, rfl, rfl, _, rfl, ?_⟩
          exact ⟨rfl, .refl _, xs, by omega, hDQ.as fun q => by simp [MC]⟩
        | some sv =>
          refine ⟨_, rfl, rfl, _, rfl, ?_⟩
          refine ⟨_, rfl, _, rfl, rfl, _, rfl, ?_⟩
          rw [endV_eq]
          by_cases c : sv = own
          · rw [show decide (some sv = some own) = true from decide_eq_true (by rw [c])]
            refine ⟨rfl, .refl _, xs, by omega, hDQ.as fun q => ⟨.inl, ?_⟩⟩
            rintro (z | ⟨_, _, h3, _, h5⟩ | ⟨_, _, _, _, _, h6, _⟩)
            · exact z
            · exact absurd (by rw [← Option.some.inj h5, c]) h3
            · exact absurd h6 (List.not_mem_nil)
          · rw [show decide (some sv = some own) = false from decide_eq_false (fun z => c (Option.some.inj z))]
            refine ⟨_, rfl, _, rfl, _, rfl, _, rfl, (by show 4 ≤ sizeLine; decide), fun t ht => ?_⟩
            have gt : Fr0 K H' (upd H' t (.tup [.int (sv : Nat), .int (own : Nat), .str "seen", .ref ka])) := .new ht
            have hDQt := hDQ.fr gt (fun z => z)
            have hqd : QdAt K (upd H' t (.tup [.int (sv : Nat), .int (own : Nat), .str "seen", .ref ka])) t (sv, own, "seen", k) := ⟨ka, .of upd_same, gt.key hka'⟩
            refine ⟨D, t, (sv, own, "seen", k), xs, rfl, rfl, hDQt.at_, hqd, hDQt.all, hDQt.nd, by omega, ⟨rfl, gt.wide.trans (.atQ rfl hDQt.at_), _, Nat.le_trans (put_len _ _ _) (by omega), (hDQt.put hqd).as fun q => ?_⟩⟩
            refine or_congr_right ⟨?_, ?_⟩
            · rintro rfl
              exact .inl ⟨rfl, rfl, c, rfl, rfl⟩
            · rintro (⟨h1, h2, h3, h4, h5⟩ | ⟨_, _, _, _, _, h6, _⟩)
              · obtain ⟨a1, a2, a3, a4⟩ := q
                simp only at h1 h2 h4 h5
                rw [h1, h2, h4, Option.some.inj h5]
              · exact absurd h6 (List.not_mem_nil)
      · rintro σ2 H2 ⟨rfl, f2, xs2, hxl2, hDQ2⟩
        have f12 := f.trans f2
        refine ⟨_, rfl, sl, rfl, ⟨_, .of (f12.lst hsl1 nsD)⟩, ?_⟩
        refine for_it (walk_list (K := K) (a := sl) (xs := natL (standL ds))) (fun j σ3 H3 => (∃ z, σ3 = [some (.ref SA.dl), some (.ref sl), some (.int (own : Nat)), some (.ref D), some (.ref ka), some (endV sn), z]) ∧ Fr K (fun c => c = D) H2 H3 ∧
          ∃ xs, xs.length ≤ i * 41 + 1 + j ∧ DQ P w K H3 D xs (fun q => MR ds own d (d.reads.take i) q ∨ MC ds own d k sn ((standL ds).take j) q)) ⟨⟨_, rfl⟩, .refl _, xs2, hxl2, hDQ2⟩ ?_ ?_ ?_
        · rintro j σ3 H3 _ ⟨_, f3, _⟩
          exact .of ((f12.trans f3).lst hsl1 nsD)
        · rintro j y2 σ3 H30 H3 hj ⟨⟨z2, rfl⟩, f3, xs3, hxl3, hDQ3⟩ ⟨rfl, hy2⟩
          obtain ⟨o, ho, rfl⟩ := natL_get hy2
          rw [natL_len] at hj
          obtain ⟨do_, eo, hSo⟩ := stands_of W (List.mem_of_getElem? ho)
          have f13 := f12.trans f3
          have hst3 := keepS f13
          obtain ⟨yo, hyo, hdoo⟩ := hst3.at_ hSo.at_
          obtain ⟨yw, hyw, hdow⟩ := hst3.at_ hS.at_
          obtain ⟨⟨tio, gio, hyoa⟩, _⟩ := id hdoo
          obtain ⟨⟨tiw, giw, hywa⟩, _⟩ := id hdow
          rw [hSo.ended] at hyoa
          have lo8 := W.len o do_ hSo.at_
          have skip : ¬ (sn ≠ some own ∧ o ≠ own ∧ k ∈ do_.wrote ∧ d.begun < eo) → ∀ q, (MR ds own d (d.reads.take i) q ∨ MC ds own d k sn ((standL ds).take j) q) ↔ (MR ds own d (d.reads.take i) q ∨ MC ds own d k sn ((standL ds).take (j + 1)) q) := fun hn q => by
            refine or_congr_right (or_congr_right ?_)
            rw [take_snoc ho]
            constructor
            · rintro ⟨h1, h2, h3, h4, h5, h6, h7⟩
              exact ⟨h1, h2, h3, h4, h5, List.mem_append_left _ h6, h7⟩
            · rintro ⟨h1, h2, h3, h4, h5, h6, d2, e2', h7, h8, h9⟩
              rcases List.mem_append.mp h6 with z | z
              · exact ⟨h1, h2, h3, h4, h5, z, d2, e2', h7, h8, h9⟩
              · rw [List.mem_singleton.mp z] at h7 h3
                obtain ⟨r1, r2⟩ := h7.inj hSo
                rw [r1] at h8
                rw [r2] at h9
                exact absurd ⟨h5, h3, h8, h9⟩ hn
          refine ⟨_, rfl, _, rfl, scal_endV sn _, _, rfl, ?_⟩
          rw [endV_eq]
          by_cases c1 : sn = some own
          · rw [decide_eq_true c1]
            exact ⟨⟨_, rfl⟩, f3, xs3, by omega, hDQ3.as (skip fun z => z.1 c1)⟩
          rw [decide_eq_false c1]
          refine ⟨_, rfl, _, rfl, rfl, _, rfl, ?_⟩
          rw [int_eq]
          by_cases c2 : o = own
          · rw [decide_eq_true c2]
            exact ⟨⟨_, rfl⟩, f3, xs3, by omega, hDQ3.as (skip fun z => z.2.1 c2)⟩
          rw [decide_eq_false c2]
          refine ⟨_, rfl, _, rfl, _, rfl, SA.dl, _, _, .ref yo.a, rfl, rfl, .of hst3.deals, at_of rfl (get_map hyo), yo.a, yo.dx, _, rfl, hyoa, rfl, yo, do_, rfl, hdoo, by omega, fun p2 as2 H4 hp2 g4 hq4 hp4 => ?_⟩
          refine inD_key (g4.key ((f2.trans f3).key hka')) (.of hq4) hp4 ⟨_, rfl, ?_⟩
          have hDQ4 := hDQ3.fr g4 (fun z => z)
          by_cases c3 : k ∈ do_.wrote
          · rw [decide_eq_true c3]
            refine ⟨_, rfl, _, rfl, SA.dl, _, _, .ref yo.a, rfl, rfl, .of (g4.lst hst3.deals (fun z => z)), at_of rfl (get_map hyo), yo.a, _, yo.dx, _, _, rfl, g4.ins hyoa (fun z => z), T.cls_Deal, T.no_Deal_ended, rfl,
              _, rfl, _, rfl, SA.dl, _, _, .ref yw.a, rfl, rfl, .of (g4.lst hst3.deals (fun z => z)), at_of rfl (get_map hyw), yw.a, _, yw.dx, _, _, rfl, g4.ins hywa (fun z => z), T.cls_Deal, T.no_Deal_begun, rfl, _, _, rfl, rfl, _, rfl, ?_⟩
            by_cases c4 : d.begun < eo
            · rw [show decide (((d.begun : Nat) : Int) < ((eo : Nat) : Int)) = true from decide_eq_true (by omega)]
              refine ⟨_, rfl, _, rfl, _, rfl, _, rfl, (by show 4 ≤ sizeLine; decide), fun t ht => ?_⟩
              have gt : Fr0 K H4 (upd H4 t (.tup [.int (own : Nat), .int (o : Nat), .str "past", .ref ka])) := .new ht
              have hDQt := hDQ4.fr gt (fun z => z)
              have hqd : QdAt K (upd H4 t (.tup [.int (own : Nat), .int (o : Nat), .str "past", .ref ka])) t (own, o, "past", k) := ⟨ka, .of upd_same, gt.key (g4.key ((f2.trans f3).key hka'))⟩
              refine ⟨D, t, (own, o, "past", k), xs3, rfl, rfl, hDQt.at_, hqd, hDQt.all, hDQt.nd, by omega, ⟨_, rfl⟩, f3.trans ((g4.trans gt).wide.trans (.atQ rfl hDQt.at_)), _, Nat.le_trans (put_len _ _ _) (by omega), (hDQt.put hqd).as fun q => ?_⟩
              rw [take_snoc ho]
              constructor
              · rintro ((z | z | ⟨h1, h2, h3, h4, h5, h6, h7⟩) | rfl)
                · exact .inl z
                · exact .inr (.inl z)
                · exact .inr (.inr ⟨h1, h2, h3, h4, h5, List.mem_append_left _ h6, h7⟩)
                · exact .inr (.inr ⟨rfl, rfl, c2, rfl, c1, List.mem_append_right _ (List.mem_singleton.mpr rfl), do_, eo, hSo, c3, c4⟩)
              · rintro (z | z | ⟨h1, h2, h3, h4, h5, h6, h7⟩)
                · exact .inl (.inl z)
                · exact .inl (.inr (.inl z))
                · rcases List.mem_append.mp h6 with z | z
                  · exact .inl (.inr (.inr ⟨h1, h2, h3, h4, h5, z, h7⟩))
                  · obtain ⟨a1, a2, a3, a4⟩ := q
                    simp only at h1 h2 h4 z
                    rw [h1, h2, h4, List.mem_singleton.mp z]
                    exact .inr rfl
            · rw [show decide (((d.begun : Nat) : Int) < ((eo : Nat) : Int)) = false from decide_eq_false (by omega)]
              exact ⟨⟨_, rfl⟩, f3.trans g4.wide, xs3, by omega, hDQ4.as (skip fun z => c4 z.2.2.2)⟩
          · rw [decide_eq_false c3]
            exact ⟨⟨_, rfl⟩, f3.trans g4.wide, xs3, by omega, hDQ4.as (skip fun z => c3 z.2.2.1)⟩
        · rintro σ3 H3 ⟨⟨z2, rfl⟩, f3, xs3, hxl3, hDQ3⟩
          rw [natL_len] at hxl3
          rw [natL_len, List.take_length] at hDQ3
          refine ⟨⟨_, _, _, rfl⟩, f12.trans f3, xs3, by omega, hDQ3.as fun q => ?_⟩
          rw [take_snoc e2]
          exact (mr_snoc W).symm
    · rintro σ' H' ⟨⟨x', y', z', rfl⟩, f, xs, hxl, hDQ⟩
      rw [List.length_map, lp] at hxl
      rw [List.length_map, lp, List.take_length] at hDQ
      refine ⟨_, rfl, D, xs, rfl, hDQ.at_, hDs, by omega, fun l hl => ?_⟩
      have gE : Fr0 K H H' := (gH1.wide.trans f).narrow fun c z => .inr (by rw [z]; exact .of hD)
      have gl : Fr0 K H' (upd H' l (.lst (xs.map fun p => V.ref p.2))) := .new hl
      exact q l xs _ (gE.nw (fun z => z) (.of hl)) (gE.trans gl) upd_same (by omega) (fun p hp => gl.qd (hDQ.all p hp)) hDQ.mem
end
end Sn
set_option Elab.async false
set_option linter.all false
set_option maxRecDepth 100000
set_option maxHeartbeats 4000000
namespace Sn
open PySem PySem.Spec PyProof.Rows L2
section
variable {P : Program} {w : World} {K : PySem.W.Frag} {mg : Str → Option Value} {base : Heap} {S : Addr → Prop} {H H1 : Hp} {A : SA} {b : BookD} {ds : List DM} {n : Nat} {d : Addr} {xs : List (Qd × Addr)} {M M' : Qd → Prop}
/-- what by_writing finds: own and the others os, own's keys ks -/
def MW (ds : List DM) (own e : Nat) (os : List Nat) (ks : List KeyD) (q : Qd) : Prop :=
  q.2.2.1 = ("over" : Str) ∧ q.1 = own ∧ q.2.1 ∈ os ∧ q.2.2.2 ∈ ks ∧ ∃ d' e', Stands ds q.2.1 d' e' ∧ e < e' ∧ q.2.2.2 ∈ d'.wrote
def spByWriting (K : PySem.W.Frag) : Sp := fun vs H Q _ => ∃ (A : SA) (b : BookD) (ds : List DM) (n own e : Nat) (d : DM) (sl : Addr), vs = [.ref A.dl, .ref sl, .int (own : Nat)] ∧ StepAt K H A b ds n ∧ WF n ds ∧ H sl = some (.lst (natL (standL ds))) ∧ Stands ds own d e ∧
  ∀ (l : Addr) (xs : List (Qd × Addr)) (H' : Hp), Nw H l → Fr0 K H H' → H' l = some (.lst (xs.map fun p => V.ref p.2)) → xs.length < 1000 → (∀ p ∈ xs, QdAt K H' p.2 p.1) → (∀ q, q ∈ xs.map (·.1) ↔ MW ds own e (standL ds) d.wrote q) → Q (.ref l) H'
theorem c_by_writing (T : Tx K mg) : C8.Cal P w K mg base 2 "by_writing" (spByWriting K) [] := by
  have m_written : C8.Met P w K mg base 1 (He.ga K "Deal") "written" (spWritten K) [] := m_written T
  refine T.cal T.D_by_writing T.g_by_writing b_by_writing sc_by_writing (fun vs H Q E h => ?_) (fun cdv A outer s H vs Q E hr h => ?_)
  · obtain ⟨A, b, ds, n, own, e, d, sl, rfl, _⟩ := h
    rfl
  · obtain ⟨SA, b, ds, n, own, e, d, sl, rfl, hst, W, hsl, hS, q⟩ := h
    refine ⟨_, (pss_cons (ps_set (i := 3) sc_by_writing.nd rfl (Or.inl rfl) pe_dnewQ)
      (pss_cons (ps_for PassesOwn.never rfl (pi_list (pv 1)) (pg_name (i := 4) sc_by_writing.nd rfl (Or.inl rfl))
        (pss_one (ps_if (pt_cmpR op_lt (pe_fld (pe_ix ix_list (pv 0) (pv 2) (fun _ _ => rfl)) rfl) (pe_fld (pe_ix ix_list (pv 0) (pv 4) (fun _ _ => rfl)) rfl) (nomark _))
          (pss_one (ps_for PassesOwn.never rfl (pi_list (C8.pe_mt0 m_written hr (by decide) (pe_ix ix_list (pv 0) (pv 2) (fun _ _ => rfl)))) (pg_name (i := 5) sc_by_writing.nd rfl (Or.inl rfl))
            (pss_one (ps_if (pt_cmpR (op_inD (u65_of hr)) (pv 5) (C8.pe_mt0 m_written hr (by decide) (pe_ix ix_list (pv 0) (pv 4) (fun _ _ => rfl))) (by rfl))
              (pss_one (ps_qput (u65_of hr) (pv 3) (pe_tup (pa_cons (pv 2) (pa_cons (pv 4) (pa_cons (C8.pe_gc rfl T.v_OVER) (pa_cons (pv 5) pa_nil))))) rfl))
              pss_nil))))
          pss_nil)))
      (pss_one (ps_ret (pe_callTy (call_list_q rfl) (by rfl) T.fr_list bt_list (pa_cons (pv 3) pa_nil)))))), ?_⟩
    have few := W.few
    have l8 := W.len own d hS.at_
    have sL := standL_len ds
    have wl := wrote_len d
    refine fun D hD hDs => ?_
    let H1 : Hp := upd H D (.ext (RawQ P w D []))
    have g0 : Fr0 K H H1 := .new hD
    have hst0 : StepAt K H1 SA b ds n := hst.fr0 g0
    have hD0 : H1 D = some (.ext (RawQ P w D [])) := upd_same
    have hsl0 : H1 sl = some (.lst (natL (standL ds))) := g0.lst hsl (fun z => z)
    have nsD : sl ≠ D := fun z => by rw [z, hD0] at hsl0; cases hsl0
    have keepS : ∀ {H' : Hp}, Fr K (fun c => c = D) H1 H' → StepAt K H' SA b ds n := fun f => hst0.fr f (hst0.own_ne hD0)
    refine ⟨_, rfl, sl, rfl, ⟨_, .of hsl0⟩, ?_⟩
    refine for_it (walk_list (K := K) (a := sl) (xs := natL (standL ds))) (fun i σ' H' => (∃ x y, σ' = [some (.ref SA.dl), some (.ref sl), some (.int (own : Nat)), some (.ref D), x, y]) ∧ Fr K (fun c => c = D) H1 H' ∧ ∃ xs, xs.length ≤ i * 8 ∧ DQ P w K H' D xs (MW ds own e ((standL ds).take i) d.wrote))
      ⟨⟨none, none, rfl⟩, .refl _, [], Nat.zero_le _, hD0, by simp, by simp, fun q => by simp [MW]⟩ ?_ ?_ ?_
    · rintro i σ' H' _ ⟨_, f, _⟩
      exact .of (f.lst hsl0 nsD)
    · rintro i y σ' H0 H' hi ⟨⟨x', y', rfl⟩, f, xs, hxl, hDQ⟩ ⟨rfl, hy⟩
      obtain ⟨o, ho, rfl⟩ := natL_get hy
      rw [natL_len] at hi
      obtain ⟨do_, eo, hSo⟩ := stands_of W (List.mem_of_getElem? ho)
      have hst3 := keepS f
      obtain ⟨yo, hyo, hdoo⟩ := hst3.at_ hSo.at_
      obtain ⟨yw, hyw, hdow⟩ := hst3.at_ hS.at_
      obtain ⟨⟨tio, gio, hyoa⟩, _⟩ := id hdoo
      obtain ⟨⟨tiw, giw, hywa⟩, _⟩ := id hdow
      rw [hSo.ended] at hyoa
      rw [hS.ended] at hywa
      have lo8 := W.len o do_ hSo.at_
      refine ⟨_, rfl, _, rfl, SA.dl, _, _, .ref yw.a, rfl, rfl, .of hst3.deals, at_of rfl (get_map hyw), yw.a, _, yw.dx, _, _, rfl, hywa, T.cls_Deal, T.no_Deal_ended, rfl,
        _, rfl, _, rfl, SA.dl, _, _, .ref yo.a, rfl, rfl, .of hst3.deals, at_of rfl (get_map hyo), yo.a, _, yo.dx, _, _, rfl, hyoa, T.cls_Deal, T.no_Deal_ended, rfl, _, _, rfl, rfl, _, rfl, ?_⟩
      by_cases c : e < eo
      · rw [show decide (((e : Nat) : Int) < ((eo : Nat) : Int)) = true from decide_eq_true (by omega)]
        refine ⟨_, rfl, _, rfl, SA.dl, _, _, .ref yw.a, rfl, rfl, .of hst3.deals, at_of rfl (get_map hyw), yw.a, yw.dx, _, rfl, hywa, rfl, yw, d, rfl, hdow, by omega, fun p as H2 hp g2 hq2 hp2 => ?_⟩
        refine ⟨p, rfl, ⟨_, .of hq2⟩, ?_⟩
        have lp := pd_len hp2
        have hDQ2 := hDQ.fr g2 (fun z => z)
        have npD : p ≠ D := fun z => by
          have := hDQ2.at_
          rw [← z, hq2] at this; cases this
        have hst2 := hst3.fr0 g2
        refine for_it (walk_list (K := K) (a := p) (xs := as.map V.ref)) (fun j σ3 H3 => (∃ z, σ3 = [some (.ref SA.dl), some (.ref sl), some (.int (own : Nat)), some (.ref D), some (.int (o : Nat)), z]) ∧ Fr K (fun c => c = D) H2 H3 ∧
          ∃ xs, xs.length ≤ i * 8 + j ∧ DQ P w K H3 D xs (fun q => MW ds own e ((standL ds).take i) d.wrote q ∨ MW ds own e [o] (d.wrote.take j) q)) ⟨⟨_, rfl⟩, .refl _, xs, by omega, hDQ2.as fun q => by simp [MW]⟩ ?_ ?_ ?_
        · rintro j σ3 H3 _ ⟨_, f3, _⟩
          exact .of (f3.lst hq2 npD)
        · rintro j y2 σ3 H30 H3 hj ⟨⟨z2, rfl⟩, f3, xs3, hxl3, hDQ3⟩ ⟨rfl, hy2⟩
          obtain ⟨ka, hka1, rfl⟩ := map_get hy2
          obtain ⟨k, hk1, hkk⟩ := pd_getL hp2 hka1
          rw [List.length_map, lp] at hj
          have hst4 := hst2.fr f3 (hst2.own_ne hDQ2.at_)
          obtain ⟨yo2, hyo2, hdoo2⟩ := hst4.at_ hSo.at_
          obtain ⟨⟨tio2, gio2, hyoa2⟩, _⟩ := id hdoo2
          have skip : ¬ k ∈ do_.wrote → ∀ q, (MW ds own e ((standL ds).take i) d.wrote q ∨ MW ds own e [o] (d.wrote.take j) q) ↔ (MW ds own e ((standL ds).take i) d.wrote q ∨ MW ds own e [o] (d.wrote.take (j + 1)) q) := fun hn q => by
            refine or_congr_right ?_
            rw [take_snoc hk1]
            constructor
            · rintro ⟨h1, h2, h3, h4, h5⟩
              exact ⟨h1, h2, h3, List.mem_append_left _ h4, h5⟩
            · rintro ⟨h1, h2, h3, h4, d2, e2, h5, h6, h7⟩
              rcases List.mem_append.mp h4 with z | z
              · exact ⟨h1, h2, h3, z, d2, e2, h5, h6, h7⟩
              · rw [List.mem_singleton.mp h3] at h5
                rw [List.mem_singleton.mp z, (h5.inj hSo).1] at h7
                exact absurd h7 hn
          refine ⟨_, rfl, _, rfl, _, rfl, SA.dl, _, _, .ref yo2.a, rfl, rfl, .of hst4.deals, at_of rfl (get_map hyo2), yo2.a, yo2.dx, _, rfl, hyoa2, rfl, yo2, do_, rfl, hdoo2, by omega, fun p4 as4 H4 hp4 g4 hq4 hpp4 => ?_⟩
          refine inD_key (g4.key (f3.key hkk)) (.of hq4) hpp4 ⟨_, rfl, ?_⟩
          have hDQ4 := hDQ3.fr g4 (fun z => z)
          by_cases c3 : k ∈ do_.wrote
          · rw [decide_eq_true c3]
            refine ⟨_, rfl, _, rfl, _, rfl, _, rfl, (by show 4 ≤ sizeLine; decide), fun t ht => ?_⟩
            have gt : Fr0 K H4 (upd H4 t (.tup [.int (own : Nat), .int (o : Nat), .str "over", .ref ka])) := .new ht
            have hDQt := hDQ4.fr gt (fun z => z)
            have hqd : QdAt K (upd H4 t (.tup [.int (own : Nat), .int (o : Nat), .str "over", .ref ka])) t (own, o, "over", k) := ⟨ka, .of upd_same, gt.key (g4.key (f3.key hkk))⟩
            refine ⟨D, t, (own, o, "over", k), xs3, rfl, rfl, hDQt.at_, hqd, hDQt.all, hDQt.nd, by omega, ⟨_, rfl⟩, f3.trans ((g4.trans gt).wide.trans (.atQ rfl hDQt.at_)), _, Nat.le_trans (put_len _ _ _) (by omega), (hDQt.put hqd).as fun q => ?_⟩
            rw [take_snoc hk1]
            constructor
            · rintro ((z | ⟨h1, h2, h3, h4, h5⟩) | rfl)
              · exact .inl z
              · exact .inr ⟨h1, h2, h3, List.mem_append_left _ h4, h5⟩
              · exact .inr ⟨rfl, rfl, List.mem_singleton.mpr rfl, List.mem_append_right _ (List.mem_singleton.mpr rfl), do_, eo, hSo, c, c3⟩
            · rintro (z | ⟨h1, h2, h3, h4, h5⟩)
              · exact .inl (.inl z)
              · rcases List.mem_append.mp h4 with z | z
                · exact .inl (.inr ⟨h1, h2, h3, z, h5⟩)
                · obtain ⟨a1, a2, a3, a4⟩ := q
                  simp only at h1 h2 h3 z
                  rw [h1, h2, List.mem_singleton.mp h3, List.mem_singleton.mp z]
                  exact .inr rfl
          · rw [decide_eq_false c3]
            exact ⟨⟨_, rfl⟩, f3.trans g4.wide, xs3, by omega, hDQ4.as (skip c3)⟩
        · rintro σ3 H3 ⟨⟨z2, rfl⟩, f3, xs3, hxl3, hDQ3⟩
          rw [List.length_map, lp] at hxl3
          rw [List.length_map, lp, List.take_length] at hDQ3
          refine ⟨⟨_, _, rfl⟩, f.trans (g2.wide.trans f3), xs3, by omega, hDQ3.as fun q => ?_⟩
          rw [take_snoc ho]
          constructor
          · rintro (⟨h1, h2, h3, h4⟩ | ⟨h1, h2, h3, h4⟩)
            · exact ⟨h1, h2, List.mem_append_left _ h3, h4⟩
            · exact ⟨h1, h2, List.mem_append_right _ h3, h4⟩
          · rintro ⟨h1, h2, h3, h4⟩
            rcases List.mem_append.mp h3 with z | z
            · exact .inl ⟨h1, h2, z, h4⟩
            · exact .inr ⟨h1, h2, z, h4⟩
      · rw [show decide (((e : Nat) : Int) < ((eo : Nat) : Int)) = false from decide_eq_false (by omega)]
        refine ⟨⟨_, _, rfl⟩, f, xs, by omega, hDQ.as fun q => ?_⟩
        rw [take_snoc ho]
        constructor
        · rintro ⟨h1, h2, h3, h4⟩
          exact ⟨h1, h2, List.mem_append_left _ h3, h4⟩
        · rintro ⟨h1, h2, h3, h4, d2, e2, h5, h6, h7⟩
          rcases List.mem_append.mp h3 with z | z
          · exact ⟨h1, h2, z, h4, d2, e2, h5, h6, h7⟩
          · rw [List.mem_singleton.mp z] at h5
            rw [(h5.inj hSo).2] at h6
            exact absurd h6 c
    · rintro σ' H' ⟨⟨x', y', rfl⟩, f, xs, hxl, hDQ⟩
      rw [natL_len] at hxl
      rw [natL_len, List.take_length] at hDQ
      refine ⟨_, rfl, D, xs, rfl, hDQ.at_, hDs, by omega, fun l hl => ?_⟩
      have gE : Fr0 K H H' := (g0.wide.trans f).narrow fun c z => .inr (by rw [z]; exact .of hD)
      have gl : Fr0 K H' (upd H' l (.lst (xs.map fun p => V.ref p.2))) := .new hl
      exact q l xs _ (gE.nw (fun z => z) (.of hl)) (gE.trans gl) upd_same (by omega) (fun p hp => gl.qd (hDQ.all p hp)) hDQ.mem
end
end Sn
set_option Elab.async false
set_option linter.all false
set_option maxRecDepth 100000
set_option maxHeartbeats 4000000
/-! sorted(xs) of data. -/
namespace Sn
open PySem PySem.Spec PyProof.Rows L2 PySem.W
section
variable {X : Cx} {pins : List (Addr × Obj)} {σ : L2.St} {H : Hp} {s : Shared}
theorem each_of : ∀ {ps : List (V × PyData)} {its : List Value}, Vals (ps.map (·.1)) its → EachIs (fun v (p : V × PyData) => L2.RelV p.1 v) its ps
  | [], _, .nil => .nil
  | _ :: _, _, .cons h t => .cons h (each_of t)
theorem of_each : ∀ {ps : List (V × PyData)} {its : List Value}, EachIs (fun v (p : V × PyData) => L2.RelV p.1 v) its ps → Vals (ps.map (·.1)) its
  | _, _, .nil => .nil
  | _, _, .cons h t => .cons h (of_each t)
theorem each_reads (I : L2.Inv X pins σ H s) : ∀ {ps : List (V × PyData)} {its : List Value}, Vals (ps.map (·.1)) its → (∀ p ∈ ps, Dp X.K H p.1 p.2) → EachIs (fun v (p : V × PyData) => ∃ as, Reads s.heap v p.2 as) its ps
  | [], _, .nil, _ => .nil
  | p :: _, _, .cons h t, hd => .cons (Dp.reads I p.2 p.1 _ (hd p (.head _)) h) (each_reads I t fun q hq => hd q (.tail _ hq))
def rSorted (K : PySem.W.Frag) : List V → Hp → VK → Prop := fun vs H Q => ∃ (l : Addr) (ps : List (V × PyData)), vs = [.ref l] ∧ SqL K H l (ps.map (·.1)) ∧ (∀ p ∈ ps, Dp K H p.1 p.2) ∧ PySem.W.AllAlike (ps.map (·.2)) ∧ PySem.W.Sortable (ps.map (·.2)) ∧ (∀ p ∈ ps, p.2.depth ≤ 8) ∧
  ∀ (D : Addr) (ps' : List (V × PyData)), ps'.Perm ps → H D = none → Q (.ref D) (upd H D (.lst (ps'.map (·.1))))
theorem call_sorted (hu : X.A.units + 65 < cLine) : CallR X (.builtin "sorted") (rSorted X.K) := by
  intro pins s σ H vs us Q I r h
  obtain ⟨l, ps, rfl, hl, hd, ha, hs, hdp, q⟩ := h
  obtain ⟨u, rfl, ru⟩ := vals1 r
  cases ru
  obtain ⟨its, rv, pl, hlen⟩ := I.list hl
  rw [List.length_map] at hlen
  refine PySem.W.sorted_data (enc := fun p : V × PyData => p.2) (bs := ps) pl.isList (each_of rv) (each_reads I rv hd) ha hs hlen (fun b hb => by have := hdp b hb; omega) fun out ho eo => ?_
  obtain ⟨c, hc⟩ := sortedAll_at s.heap its out.toArray
  have hv := of_each eo
  refine ⟨.ref (s.heap.objs.size + 1), _, I.laid (t' := s.toks) (a := s.heap.objs.size + 1) (o := .lst ((ps.mergeSort (PySem.W.dataLe false fun p => p.2)).map (·.1))) (fun b o e => sortedAll_old e) (Nat.le_succ _) ⟨?_, out, c, hv, hc⟩, rfl, q _ _ (List.mergeSort_perm _ _) (I.hok.fresh (Nat.le_succ _))⟩
  rw [List.length_map, (List.mergeSort_perm _ _).length_eq]
  exact hlen
end
/-! a quadruple as data -/
def qdD (q : Qd) : PyData := .tuple [.int (q.1 : Nat), .int (q.2.1 : Nat), .str q.2.2.1, kdD q.2.2.2]
theorem dp_qd {K : PySem.W.Frag} {H : Hp} {a : Addr} {q : Qd} (h : QdAt K H a q) : Dp K H (.ref a) (qdD q) := let ⟨ka, h1, h2⟩ := h; .tup h1 (.cons (.int _) (.cons (.int _) (.cons (.str _) (.cons (dp_key h2) .nil))))
theorem alike_qd (p q : Qd) : PySem.W.alike (qdD p) (qdD q) = true := by
  simp [qdD, kdD, PySem.W.alike, PySem.W.alikeAll]
theorem depth_qd (q : Qd) : (qdD q).depth ≤ 8 := by
  simp [qdD, kdD, PyData.depth, PyData.depthAll]
end Sn
set_option Elab.async false
set_option linter.all false
set_option maxRecDepth 100000
set_option maxHeartbeats 4000000
namespace Sn
open PySem PySem.Spec PyProof.Rows L2
section
variable {P : Program} {w : World} {K : PySem.W.Frag} {mg : Str → Option Value} {base : Heap} {S : Addr → Prop} {H H1 : Hp} {A : SA} {b : BookD} {ds : List DM} {n : Nat}
def MQ (ds : List DM) (q : Qd) : Prop := Must ds q.1 q.2.1 q.2.2.1 q.2.2.2
theorem must_iff {q : Qd} : MQ ds q ↔ ∃ own d e, Stands ds own d e ∧ (MR ds own d d.reads q ∨ MW ds own e (standL ds) d.wrote q) := by
  obtain ⟨a, c, wd, k⟩ := q
  unfold MQ MR MW
  constructor
  · rintro (⟨h1, h2, h3⟩ | ⟨h1, h2, h3, h4, h5, h6, h7⟩ | ⟨h1, h2, h3, h4, h5⟩)
    · exact ⟨_, _, _, h1, .inl (.inl ⟨rfl, rfl, h3, h2⟩)⟩
    · exact ⟨_, _, _, h1, .inl (.inr ⟨rfl, rfl, h5, _, _, _, h3, h4, h2, h6, h7⟩)⟩
    · exact ⟨_, _, _, h1, .inr ⟨rfl, rfl, h2.mem, h4, _, _, h2, h3, h5⟩⟩
  · rintro ⟨own, d, e, hS, (⟨rfl, rfl, h3, h4⟩ | ⟨rfl, rfl, h3, sn, d', e', h4, h5, h6, h7, h8⟩) | ⟨rfl, rfl, h3, h4, d', e', h5, h6, h7⟩⟩
    · exact .seen hS h4 h3
    · exact .past hS h6 h4 h5 h3 h7 h8
    · exact .over hS h5 h6 h4 h7
def refsQ (ps : List (Qd × Addr)) : List V := ps.map fun p => V.ref p.2
/-- a list of musts -/
structure MustL (K : PySem.W.Frag) (H : Hp) (l : Addr) (ds : List DM) (ps : List (Qd × Addr)) : Prop where
  at_ : H l = some (.lst (refsQ ps))
  all : ∀ p ∈ ps, QdAt K H p.2 p.1
  mem : ∀ q, q ∈ ps.map (·.1) ↔ MQ ds q
  len : ps.length ≤ 80000
theorem MustL.fr {l : Addr} {ps : List (Qd × Addr)} (h : MustL K H l ds ps) (f : Fr K S H H1) (n : ¬ S l) : MustL K H1 l ds ps := ⟨f.lst h.at_ n, fun p hp => f.qd (h.all p hp), h.mem, h.len⟩
def spMusts (K : PySem.W.Frag) : Sp := fun vs H Q _ => ∃ (A : SA) (b : BookD) (ds : List DM) (n : Nat), vs = [.ref A.st] ∧ StepAt K H A b ds n ∧ WF n ds ∧
  ∀ (l : Addr) (ps : List (Qd × Addr)) (H' : Hp), Nw H l → Fr0 K H H' → MustL K H' l ds ps → Q (.ref l) H'
theorem perm_map {α β : Type} {f : α → β} {m k : List β} (h : m.Perm k) : ∀ l : List α, k = l.map f → ∃ l' : List α, l'.Perm l ∧ m = l'.map f := by
  induction h with
  | nil => exact fun l e => ⟨[], by rw [List.map_eq_nil_iff.mp e.symm], rfl⟩
  | cons x _ ih =>
    intro l e
    match l, e with
    | a :: r, e =>
      rw [List.map_cons, List.cons.injEq] at e
      obtain ⟨l', h1, h2⟩ := ih r e.2
      exact ⟨a :: l', h1.cons a, by rw [List.map_cons, ← h2, e.1]⟩
  | swap x y t =>
    intro l e
    match l, e with
    | a :: c :: r, e =>
      rw [List.map_cons, List.map_cons, List.cons.injEq, List.cons.injEq] at e
      exact ⟨c :: a :: r, List.Perm.swap a c r, by rw [List.map_cons, List.map_cons, e.1, e.2.1, e.2.2]⟩
  | trans _ _ ih1 ih2 =>
    intro l e
    obtain ⟨l1, h1, h2⟩ := ih2 l e
    obtain ⟨l2, h3, h4⟩ := ih1 l1 h2
    exact ⟨l2, h3.trans h1, h4⟩
theorem small80k {n : Nat} (h : n ≤ 80000) : n < sizeLine := Nat.lt_of_le_of_lt h (by decide)
theorem c_musts (T : Tx K mg) : C8.Cal P w K mg base 3 "musts" (spMusts K) [] := by
  have c_those_that_stand : C8.Cal P w K mg base 1 "those_that_stand" (spStand K) [] := c_those_that_stand T
  have c_by_reading : C8.Cal P w K mg base 2 "by_reading" (spByReading K) [] := c_by_reading T
  have c_by_writing : C8.Cal P w K mg base 2 "by_writing" (spByWriting K) [] := c_by_writing T
  refine T.cal T.D_musts T.g_musts b_musts sc_musts (fun vs H Q E h => ?_) (fun cdv A outer s H vs Q E hr h => ?_)
  · obtain ⟨A, b, ds, n, rfl, _⟩ := h
    rfl
  · obtain ⟨SA, b, ds, n, rfl, hst, W, q⟩ := h
    refine ⟨_, (pss_cons (ps_set (i := 1) sc_musts.nd rfl (Or.inl rfl) (C8.pe_c c_those_that_stand hr (by decide) rfl (pa_cons (pv 0) pa_nil)))
      (pss_cons (ps_set (i := 2) sc_musts.nd rfl (Or.inl rfl) (pe_lst pa_nil))
      (pss_cons (ps_for PassesOwn.never rfl (pi_list (pv 1)) (pg_name (i := 3) sc_musts.nd rfl (Or.inl rfl))
        (pss_cons (ps_expr (pe_bm PySem.F.plainAttrs_list PySem.F.slot_list_extend PySem.F.type_list_extend mt_extend (pv 2) (pa_cons (C8.pe_c c_by_reading hr (by decide) rfl (pa_cons (pe_fld (pv 0) rfl) (pa_cons (pv 1) (pa_cons (pv 3) pa_nil)))) pa_nil)))
        (pss_one (ps_expr (pe_bm PySem.F.plainAttrs_list PySem.F.slot_list_extend PySem.F.type_list_extend mt_extend (pv 2) (pa_cons (C8.pe_c c_by_writing hr (by decide) rfl (pa_cons (pe_fld (pv 0) rfl) (pa_cons (pv 1) (pa_cons (pv 3) pa_nil)))) pa_nil))))))
      (pss_one (ps_ret (pe_callB (call_sorted (u65_of hr)) (by rfl) T.fr_sorted bt_sorted (pa_cons (pv 2) pa_nil))))))), ?_⟩
    have few := W.few
    have sL := standL_len ds
    refine ⟨_, rfl, SA, b, ds, n, rfl, hst, few, fun sl H1 hsl g1 hsl1 => ?_⟩
    refine ⟨Nat.zero_le _, fun D hD => ?_⟩
    have g2 : Fr0 K H1 (upd H1 D (.lst [])) := .new hD
    have nsD : sl ≠ D := fun z => by rw [z, hD] at hsl1; cases hsl1
    have nD : Nw H D := g1.nw (fun z => z) (.of hD)
    refine ⟨_, rfl, sl, rfl, ⟨_, .of (g2.lst hsl1 (fun z => z))⟩, ?_⟩
    refine for_it (walk_list (K := K) (a := sl) (xs := natL (standL ds))) (fun i σ' H' => (∃ x, σ' = [some (.ref SA.st), some (.ref sl), some (.ref D), x]) ∧ Fr0 K H1 H' ∧ ∃ ps : List (Qd × Addr), H' D = some (.lst (refsQ ps)) ∧ ps.length ≤ i * 2000 ∧ (∀ p ∈ ps, QdAt K H' p.2 p.1) ∧
      ∀ q, q ∈ ps.map (·.1) ↔ ∃ own ∈ (standL ds).take i, ∃ d e, Stands ds own d e ∧ (MR ds own d d.reads q ∨ MW ds own e (standL ds) d.wrote q)) ⟨⟨none, rfl⟩, g2, [], upd_same, Nat.zero_le _, by simp, by simp⟩ ?_ ?_ ?_
    · rintro i σ' H' _ ⟨_, g, _⟩
      exact .of (g.lst hsl1 (fun z => z))
    · rintro i y σ' H0 H' hi ⟨⟨x', rfl⟩, g, ps, hq, hl, hall, hmem⟩ ⟨rfl, hy⟩
      obtain ⟨own, ho, rfl⟩ := natL_get hy
      rw [natL_len] at hi
      obtain ⟨d, e, hS⟩ := stands_of W (List.mem_of_getElem? ho)
      have hst2 := hst.fr0 (g1.trans g)
      refine ⟨_, rfl, .inl ⟨rfl, _, .of hq⟩, _, rfl, SA.st, _, SA.dx, _, _, rfl, hst2.ins, T.cls_Stepper, T.no_Stepper_deals, rfl, _, rfl, _, rfl, SA, b, ds, n, own, e, d, sl, rfl, hst2, W, g.lst hsl1 (fun z => z), hS, fun l1 xs1 H3 n3 g3 hl1 hx1 hall1 hmem1 => ?_⟩
      have hq3 := g3.lst hq (fun z => z)
      have e3 : refsQ ps ++ (xs1.map fun p => V.ref p.2) = refsQ (ps ++ xs1) := by unfold refsQ; rw [List.map_append]
      refine ⟨D, l1, _, _, rfl, rfl, hq3, hl1, ?_, ?_⟩
      · rw [refsQ, List.length_map, List.length_map]
        exact Nat.le_of_lt (small80k (by omega))
      rw [e3]
      have gg := g.trans g3
      have f4 : Fr K (fun c => c = D) H3 (upd H3 D (.lst (refsQ (ps ++ xs1)))) := .at_ rfl hq3 trivial
      have g4 : Fr0 K H1 (upd H3 D (.lst (refsQ (ps ++ xs1)))) := gg.own (.of hD) hq3 trivial
      have hq4 : upd H3 D (.lst (refsQ (ps ++ xs1))) D = some (.lst (refsQ (ps ++ xs1))) := upd_same
      have all4 : ∀ p ∈ ps ++ xs1, QdAt K (upd H3 D (.lst (refsQ (ps ++ xs1)))) p.2 p.1 := fun p hp => by
        rcases List.mem_append.mp hp with z | z
        · exact f4.qd (g3.qd (hall p z))
        · exact f4.qd (hall1 p z)
      generalize upd H3 D (.lst (refsQ (ps ++ xs1))) = H4 at g4 hq4 all4 ⊢
      have hst4 := hst.fr0 (g1.trans g4)
      refine ⟨_, rfl, .inl ⟨rfl, _, .of hq4⟩, _, rfl, SA.st, _, SA.dx, _, _, rfl, hst4.ins, T.cls_Stepper, T.no_Stepper_deals, rfl, _, rfl, _, rfl, SA, b, ds, n, own, e, d, sl, rfl, hst4, W, g4.lst hsl1 (fun z => z), hS, fun l2 xs2 H5 n5 g5 hl2 hx2 hall2 hmem2 => ?_⟩
      have hq5 := g5.lst hq4 (fun z => z)
      have e5 : refsQ (ps ++ xs1) ++ (xs2.map fun p => V.ref p.2) = refsQ (ps ++ xs1 ++ xs2) := by unfold refsQ; rw [List.map_append, List.map_append, List.map_append]
      refine ⟨D, l2, _, _, rfl, rfl, hq5, hl2, ?_, ?_⟩
      · rw [refsQ, List.length_map, List.length_map, List.length_append]
        exact Nat.le_of_lt (small80k (by omega))
      rw [e5]
      have f6 : Fr K (fun c => c = D) H5 (upd H5 D (.lst (refsQ (ps ++ xs1 ++ xs2)))) := .at_ rfl hq5 trivial
      refine ⟨⟨_, rfl⟩, (g4.trans g5).own (.of hD) hq5 trivial, ps ++ xs1 ++ xs2, upd_same, ?_, fun p hp => ?_, fun q => ?_⟩
      · rw [List.length_append, List.length_append]
        omega
      · rcases List.mem_append.mp hp with z | z
        · exact f6.qd (g5.qd (all4 p z))
        · exact f6.qd (hall2 p z)
      · rw [List.map_append, List.map_append, List.mem_append, List.mem_append, hmem q, hmem1 q, hmem2 q, take_snoc ho]
        constructor
        · rintro ((⟨o, h1, h2⟩ | z) | z)
          · exact ⟨o, List.mem_append_left _ h1, h2⟩
          · exact ⟨own, List.mem_append_right _ (List.mem_singleton.mpr rfl), d, e, hS, .inl z⟩
          · exact ⟨own, List.mem_append_right _ (List.mem_singleton.mpr rfl), d, e, hS, .inr z⟩
        · rintro ⟨o, h1, d2, e2, hS2, h2⟩
          rcases List.mem_append.mp h1 with z | z
          · exact .inl (.inl ⟨o, z, d2, e2, hS2, h2⟩)
          · rw [List.mem_singleton.mp z] at hS2 h2
            obtain ⟨rfl, rfl⟩ := hS2.inj hS
            rcases h2 with h2 | h2
            · exact .inl (.inr h2)
            · exact .inr h2
    · rintro σ' H' ⟨⟨x', rfl⟩, g, ps, hq, hl, hall, hmem⟩
      rw [natL_len] at hl
      rw [natL_len, List.take_length] at hmem
      have e6 : refsQ ps = (ps.map fun p => (V.ref p.2, qdD p.1)).map (·.1) := by rw [List.map_map] <;> rfl
      refine ⟨_, rfl, D, ps.map fun p => (V.ref p.2, qdD p.1), rfl, by rw [← e6]; exact .of hq, fun p hp => ?_, ?_, ?_, fun p hp => ?_, fun D2 ps' hperm hD2 => ?_⟩
      · obtain ⟨p', hp', rfl⟩ := List.mem_map.mp hp
        exact dp_qd (hall p' hp')
      · intro x hx y hy
        rw [List.map_map] at hx hy
        obtain ⟨p1, _, rfl⟩ := List.mem_map.mp hx
        obtain ⟨p2, _, rfl⟩ := List.mem_map.mp hy
        exact alike_qd _ _
      · refine .inl fun x hx => ?_
        rw [List.map_map] at hx
        obtain ⟨p1, _, rfl⟩ := List.mem_map.mp hx
        exact ⟨_, _, rfl⟩
      · obtain ⟨p', hp', rfl⟩ := List.mem_map.mp hp
        exact depth_qd _
      · obtain ⟨qs, hqs, hq2⟩ := perm_map hperm ps rfl
        subst hq2
        have e7 : (qs.map fun p => (V.ref p.2, qdD p.1)).map (·.1) = refsQ qs := by rw [List.map_map] <;> rfl
        rw [e7]
        have gE : Fr0 K H' (upd H' D2 (.lst (refsQ qs))) := .new hD2
        refine q D2 qs _ ((g1.trans g).nw (fun z => z) (.of hD2)) ((g1.trans g).trans gE) ⟨upd_same, fun p hp => gE.qd (hall p (hqs.mem_iff.mp hp)), fun q' => ?_, by rw [hqs.length_eq]; omega⟩
        rw [(hqs.map (·.1)).mem_iff, hmem q', must_iff]
        constructor
        · rintro ⟨o, _, h⟩
          exact ⟨o, h⟩
        · rintro ⟨o, d2, e2, h1, h2⟩
          exact ⟨o, h1.mem, d2, e2, h1, h2⟩
end
end Sn
set_option Elab.async false
set_option linter.all false
set_option maxRecDepth 100000
set_option maxHeartbeats 4000000
namespace Sn
open PySem PySem.Spec PyProof.Rows L2
/-- a book and a run's rows, as the law hands them in -/
structure RunAt (K : PySem.W.Frag) (H : Hp) (bk l : Addr) (b : BookD) (rs : List RowM) : Prop where
  book : BookAt K H bk b
  bok : BookOk b
  rows : RowsAt K b H l rs
  run : RunOk rs
  tabs : LamX.Tabs (TB K) H
def PairNL (K : PySem.W.Frag) (H : Hp) (l : Addr) (ps : List (Nat × Nat)) : Prop := ∃ as : List Addr, H l = some (.lst (as.map V.ref)) ∧ Paired (fun a (p : Nat × Nat) => SqT K H a [.int (p.1 : Nat), .int (p.2 : Nat)]) as ps
theorem inV_nat (i : Nat) : ∀ l : List Nat, inV (.int (i : Nat)) (natL l) = decide (i ∈ l)
  | [] => by simp [inV, natL]
  | x :: l => by
    have ih := inV_nat i l
    have e : inV (.int (i : Nat)) (natL (x :: l)) = (eqV (.int (x : Nat)) (.int (i : Nat)) || inV (.int (i : Nat)) (natL l)) := rfl
    rw [e, ih]
    have e2 : eqV (.int (x : Nat)) (.int (i : Nat)) = decide (x = i) := by
      show decide (((x : Nat) : Int) = ((i : Nat) : Int)) = _
      exact decide_eq_decide.mpr (by omega)
    rw [e2]
    by_cases h1 : x = i
    · subst h1; simp
    · have : ¬ i = x := fun z => h1 z.symm
      by_cases h2 : i ∈ l <;> simp [h1, h2, this]
theorem flat_nat : ∀ l : List Nat, (natL l).all flatV = true
  | [] => rfl
  | x :: l => by
    show (flatV (.int (x : Nat)) && (natL l).all flatV) = true
    rw [flat_nat l] <;> rfl
section
variable {P : Program} {w : World} {K : PySem.W.Frag} {mg : Str → Option Value} {base : Heap} {S : Addr → Prop} {H H1 : Hp} {A : SA} {b : BookD} {ds : List DM} {n : Nat} {rs : List RowM} {bk l : Addr}
theorem RunAt.fr (h : RunAt K H bk l b rs) (f : Fr K S H H1) : RunAt K H1 bk l b rs := ⟨f.book h.book, h.bok, f.rows h.rows, h.run, f.tabs h.tabs⟩
def spMust (K : PySem.W.Frag) : Sp := fun vs H Q _ => ∃ (bk l : Addr) (b : BookD) (rs : List RowM), vs = [.ref bk, .ref l] ∧ RunAt K H bk l b rs ∧
  ∀ (p : Addr) (ps : List (Qd × Addr)) (H' : Hp), Nw H p → Fr0 K H H' → MustL K H' p (play rs) ps → Q (.ref p) H'
theorem c_must (T : Tx K mg) (B : TbB K mg base) : C8.Cal P w K mg base 7 "must" (spMust K) [] := by
  have c_played : C8.Cal P w K mg base 6 "played" (spPlayed K) [] := c_played T B
  have c_musts : C8.Cal P w K mg base 3 "musts" (spMusts K) [] := c_musts T
  refine T.cal T.D_must T.g_must b_must sc_must (fun vs H Q E h => ?_) (fun cdv A outer s H vs Q E hr h => ?_)
  · obtain ⟨bk, l, b, rs, rfl, _⟩ := h
    rfl
  · obtain ⟨bk, l, b, rs, rfl, ⟨hb, hB, hrs, hrun, ht⟩, q⟩ := h
    refine ⟨_, (pss_cons (ps_asg (C8.pe_c c_played hr (by decide) rfl (pa_cons (pv 0) (pa_cons (pv 1) pa_nil))) (pg_tup rfl (pgs_cons (pg_name (i := 2) sc_must.nd rfl (Or.inl rfl)) (pgs_cons (pg_name (i := 3) sc_must.nd rfl (Or.inl rfl)) pgs_nil))))
      (pss_one (ps_ret (C8.pe_c c_musts hr (by decide) rfl (pa_cons (pv 2) pa_nil))))), ?_⟩
    refine ⟨_, rfl, _, rfl, bk, l, b, rs, rfl, hb, hB, hrs, hrun, ht, fun p A H1 g1 hp => ?_⟩
    obtain ⟨⟨told, ht1⟩, hst⟩ := hp
    refine ⟨p, _, rfl, ht1, rfl, _, _, rfl, _, _, rfl, rfl, ?_⟩
    exact ⟨_, rfl, A, b, play rs, rs.length, rfl, hst, wf_play hrun.goes, fun p2 ps H2 n2 g2 hm => q p2 ps H2 (g1.nw (fun z => z) n2) (g1.trans g2) hm⟩
def spSoft (K : PySem.W.Frag) : Sp := fun vs H Q _ => ∃ (A : SA) (b : BookD) (ds : List DM) (n : Nat), vs = [.ref A.st] ∧ StepAt K H A b ds n ∧ WF n ds ∧
  ∀ (p : Addr) (ps : List (Nat × Nat)) (H' : Hp), Nw H p → Fr0 K H H' → PairNL K H' p ps → ps.length ≤ 80000 → (∀ i j, (i, j) ∈ ps ↔ Soft ds i j) → Q (.ref p) H'
theorem c_soft_pairs (T : Tx K mg) : C8.Cal P w K mg base 4 "soft_pairs" (spSoft K) [] := by
  have c_musts : C8.Cal P w K mg base 3 "musts" (spMusts K) [] := c_musts T
  have c_span_of : C8.Cal P w K mg base 3 "span_of" (spSpanOf K) [] := c_span_of T
  have m_overlaps : C8.Met P w K mg base 1 (He.ga K "Span") "overlaps" (spOverlaps K) [] := m_overlaps T
  refine T.cal T.D_soft_pairs T.g_soft_pairs b_soft_pairs sc_soft_pairs (fun vs H Q E h => ?_) (fun cdv A outer s H vs Q E hr h => ?_)
  · obtain ⟨A, b, ds, n, rfl, _⟩ := h
    rfl
  · obtain ⟨SA, b, ds, n, rfl, hst, W, q⟩ := h
    refine ⟨_, (pss_cons (ps_set (i := 1) sc_soft_pairs.nd rfl (Or.inl rfl) (pe_lst pa_nil))
      (pss_cons (ps_for PassesOwn.never rfl (pi_list (C8.pe_c c_musts hr (by decide) rfl (pa_cons (pv 0) pa_nil))) (pg_tup rfl (pgs_cons (pg_name (i := 2) sc_soft_pairs.nd rfl (Or.inl rfl)) (pgs_cons (pg_name (i := 3) sc_soft_pairs.nd rfl (Or.inl rfl)) (pgs_cons (pg_name (i := 4) sc_soft_pairs.nd rfl (Or.inl rfl)) (pgs_cons (pg_name (i := 5) sc_soft_pairs.nd rfl (Or.inl rfl)) pgs_nil)))))
        (pss_one (ps_if (PW.pt (pw_and (pt_cmpR op_eq (pv 4) (C8.pe_gc rfl T.v_PAST) (nomark _)) (pw_and1 (pt_val (C8.pe_mt m_overlaps hr (by decide) (C8.pe_c c_span_of hr (by decide) rfl (pa_cons (pe_ix ix_list (pe_fld (pv 0) rfl) (pv 2) (fun _ _ => rfl)) pa_nil)) (pa_cons (C8.pe_c c_span_of hr (by decide) rfl (pa_cons (pe_ix ix_list (pe_fld (pv 0) rfl) (pv 3) (fun _ _ => rfl)) pa_nil)) pa_nil))))))
          (pss_one (ps_expr (pe_bm PySem.F.plainAttrs_list PySem.F.slot_list_append PySem.F.type_list_append mt_append (pv 1) (pa_cons (pe_tup (pa_cons (pv 2) (pa_cons (pv 3) pa_nil))) pa_nil))))
          pss_nil)))
      (pss_one (ps_ret (pv 1))))), ?_⟩
    refine ⟨Nat.zero_le _, fun D hD => ?_⟩
    have g0 : Fr0 K H (upd H D (.lst [])) := .new hD
    refine ⟨_, rfl, SA, b, ds, n, rfl, hst.fr0 g0, W, fun l ps H1 n1 g1 hm => ?_⟩
    have hD1 : H1 D = some (.lst []) := g1.lst upd_same (fun z => z)
    have nlD : l ≠ D := fun z => n1.ne (o := .lst []) upd_same (fun ps z => nomatch z) z.symm
    have gH1 := g0.trans g1
    refine ⟨l, rfl, ⟨_, .of hm.at_⟩, ?_⟩
    have ml := hm.len
    let So : Qd → Prop := fun q => q.2.2.1 = ("past" : Str) ∧ ∃ d e d' e', Stands ds q.1 d e ∧ Stands ds q.2.1 d' e' ∧ d.begun < e' ∧ d'.begun < e
    refine for_it (walk_list (K := K) (a := l) (xs := refsQ ps)) (fun i σ' H' => (∃ x y z u, σ' = [some (.ref SA.st), some (.ref D), x, y, z, u]) ∧ Fr K (fun c => c = D) H1 H' ∧ ∃ (as : List Addr) (rs : List (Nat × Nat)), H' D = some (.lst (as.map V.ref)) ∧ Paired (fun a (p : Nat × Nat) => SqT K H' a [.int (p.1 : Nat), .int (p.2 : Nat)]) as rs ∧ rs.length ≤ i ∧
      ∀ a c, (a, c) ∈ rs ↔ ∃ q ∈ (ps.take i).map (·.1), q.1 = a ∧ q.2.1 = c ∧ So q) ⟨⟨none, none, none, none, rfl⟩, .refl _, [], [], hD1, .nil, Nat.le_refl _, by simp⟩ ?_ ?_ ?_
    · rintro i σ' H' _ ⟨_, f, _⟩
      exact .of (f.lst hm.at_ nlD)
    · rintro i y σ' H0 H' hi ⟨⟨x1, x2, x3, x4, rfl⟩, f, as, rs, hq, hp, hl, hmem⟩ ⟨rfl, hy⟩
      obtain ⟨⟨⟨a, c, wd, k⟩, t⟩, e1, rfl⟩ := map_get hy
      rw [refsQ, List.length_map] at hi
      obtain ⟨ka, ht, hk⟩ := f.qd (hm.all _ (List.mem_of_getElem? e1))
      have hmq := (hm.mem (a, c, wd, k)).mp (List.mem_map.mpr ⟨_, List.mem_of_getElem? e1, rfl⟩)
      obtain ⟨_, d, e, d', e', hSa, hSc, _⟩ := Must.ends W hmq
      have hst1 := hst.fr0 gH1
      have hst2 : StepAt K H' SA b ds n := hst1.fr f fun c' hc z => by
        obtain ⟨lg, z1, z2⟩ := hst1.log
        subst z
        rcases hc with z | z | z | ⟨x, hx, z⟩
        · have := hst1.ins; rw [← z, hD1] at this; cases this
        · have hd := hst.deals; rw [← z, hD] at hd; cases hd
        · obtain ⟨lg0, z3, z4⟩ := hst.log; rw [← z, hD] at z3; cases z3
        · obtain ⟨j, hj⟩ := List.mem_iff_getElem?.mp hx
          obtain ⟨m0, _, ⟨⟨ti, gi, hxa⟩, ⟨ts, hxt, _⟩, _⟩⟩ := pd_getL hst.each hj
          rcases z with z | z
          · rw [← z, hD] at hxa; cases hxa
          · rw [← z, hD] at hxt; cases hxt
      obtain ⟨ya, hya, hdoa⟩ := hst2.at_ hSa.at_
      obtain ⟨yc, hyc, hdoc⟩ := hst2.at_ hSc.at_
      have skip : ¬ So (a, c, wd, k) → ∀ a' c', (a', c') ∈ rs ↔ ∃ q ∈ (ps.take (i + 1)).map (·.1), q.1 = a' ∧ q.2.1 = c' ∧ So q := fun hn a' c' => by
        rw [hmem a' c', take_snoc e1, List.map_append]
        constructor
        · rintro ⟨q, h1, h2⟩
          exact ⟨q, List.mem_append_left _ h1, h2⟩
        · rintro ⟨q, h1, h2, h3, h4⟩
          rcases List.mem_append.mp h1 with z | z
          · exact ⟨q, z, h2, h3, h4⟩
          · rw [List.map_singleton, List.mem_singleton] at z
            rw [z] at h4
            exact absurd h4 hn
      refine ⟨t, _, rfl, ht, rfl, _, _, rfl, _, _, rfl, _, _, rfl, _, _, rfl, rfl, ?_⟩
      refine ⟨_, rfl, rfl, _, rfl, ?_⟩
      by_cases c1 : wd = ("past" : Str)
      · rw [show decide (V.str wd = V.str "past") = true from by rw [c1]; exact decide_eq_true rfl]
        refine ⟨_, rfl, SA.st, _, SA.dx, _, _, rfl, hst2.ins, T.cls_Stepper, T.no_Stepper_deals, rfl, _, rfl, SA.dl, _, _, .ref ya.a, rfl, rfl, .of hst2.deals, at_of rfl (get_map hya), ya, d, e, rfl, hdoa, hSa.ended, fun sa H2 g2 hs2 => ?_⟩
        obtain ⟨sdx, hsa⟩ := id hs2
        refine ⟨sa, sdx, _, rfl, hsa, rfl, ?_⟩
        have hst3 := hst2.fr0 g2
        refine ⟨_, rfl, SA.st, _, SA.dx, _, _, rfl, hst3.ins, T.cls_Stepper, T.no_Stepper_deals, rfl, _, rfl, SA.dl, _, _, .ref yc.a, rfl, rfl, .of hst3.deals, at_of rfl (get_map hyc), yc, d', e', rfl, g2.dealObj hdoc (fun z => z) (fun z => z), hSc.ended, fun sc H3 g3 hs3 => ?_⟩
        refine ⟨sa, sc, d.begun, e, d'.begun, e', rfl, g3.span hs2 (fun z => z), hs3, _, rfl, ?_⟩
        have g23 := g2.trans g3
        have hq3 := g23.lst hq (fun z => z)
        by_cases c2 : d.begun < e' ∧ d'.begun < e
        · rw [decide_eq_true c2.1, decide_eq_true c2.2]
          refine ⟨_, rfl, .inl ⟨rfl, _, .of hq3⟩, _, rfl, _, rfl, (by show 2 ≤ sizeLine; decide), fun u hu => ?_⟩
          have gu : Fr0 K H3 (upd H3 u (.tup [.int (a : Nat), .int (c : Nat)])) := .new hu
          have hq4 := gu.lst hq3 (fun z => z)
          have hpl := pd_len hp
          have f5 : Fr K (fun c => c = D) (upd H3 u (.tup [.int (a : Nat), .int (c : Nat)])) (upd (upd H3 u (.tup [.int (a : Nat), .int (c : Nat)])) D (.lst (as.map V.ref ++ [V.ref u]))) := .at_ rfl hq4 trivial
          have f35 := (g23.trans gu).wide.trans f5
          refine ⟨D, _, _, rfl, rfl, hq4, by rw [List.length_map]; exact small80k (by omega), ⟨_, _, _, _, rfl⟩, f.trans f35, as ++ [u], rs ++ [(a, c)], by rw [List.map_append]; exact upd_same, pd_snoc (pd_map hp fun _ _ z => f35.tup z) (f5.tup (.of upd_same)), by rw [List.length_append, List.length_singleton]; omega, fun a' c' => ?_⟩
          rw [List.mem_append, hmem a' c', take_snoc e1, List.map_append, List.mem_singleton]
          constructor
          · rintro (⟨q, h1, h2⟩ | z)
            · exact ⟨q, List.mem_append_left _ h1, h2⟩
            · rw [Prod.mk.injEq] at z
              exact ⟨(a, c, wd, k), List.mem_append_right _ (List.mem_singleton.mpr rfl), z.1.symm, z.2.symm, c1, d, e, d', e', hSa, hSc, c2.1, c2.2⟩
          · rintro ⟨q, h1, h2, h3, h4⟩
            rcases List.mem_append.mp h1 with z | z
            · exact .inl ⟨q, z, h2, h3, h4⟩
            · rw [List.map_singleton, List.mem_singleton] at z
              rw [z] at h2 h3
              exact .inr (by rw [← h2, ← h3])
        · have hf : (decide (d.begun < e') && decide (d'.begun < e)) = false := by
            rw [← Bool.not_eq_true, Bool.and_eq_true, decide_eq_true_eq, decide_eq_true_eq]
            exact c2
          rw [hf]
          refine ⟨⟨_, _, _, _, rfl⟩, f.trans g23.wide, as, rs, hq3, pd_map hp fun _ _ z => g23.tup z, by omega, skip ?_⟩
          rintro ⟨_, d1, e1', d2, e2', h1, h2, h3, h4⟩
          obtain ⟨r1, r2⟩ := h1.inj hSa
          obtain ⟨r3, r4⟩ := h2.inj hSc
          rw [r1, r4] at h3
          rw [r3, r2] at h4
          exact c2 ⟨h3, h4⟩
      · rw [show decide (V.str wd = V.str "past") = false from decide_eq_false fun z => c1 (V.str.inj z)]
        exact ⟨⟨_, _, _, _, rfl⟩, f, as, rs, hq, hp, by omega, skip fun z => c1 z.1⟩
    · rintro σ' H' ⟨⟨x1, x2, x3, x4, rfl⟩, f, as, rs, hq, hp, hl, hmem⟩
      rw [refsQ, List.length_map] at hl
      have hps : ps.take (refsQ ps).length = ps := by rw [refsQ, List.length_map, List.take_length]
      rw [hps] at hmem
      refine ⟨_, rfl, q D rs H' (.of hD) ((gH1.wide.trans f).narrow fun c z => .inr (by rw [z]; exact .of hD)) ⟨as, hq, hp⟩ (by omega) fun i j => ?_⟩
      rw [hmem i j]
      constructor
      · rintro ⟨⟨a, c, wd, k⟩, h1, rfl, rfl, h2, h3⟩
        have h2 : wd = ("past" : Str) := h2
        subst h2
        exact ⟨⟨k, (hm.mem _).mp h1⟩, h3⟩
      · rintro ⟨⟨k, h1⟩, h2⟩
        exact ⟨(i, j, "past", k), (hm.mem _).mpr h1, rfl, rfl, rfl, h2⟩
end
end Sn
set_option Elab.async false
set_option linter.all false
set_option maxRecDepth 100000
set_option maxHeartbeats 4000000
namespace Sn
open PySem PySem.Spec PyProof.Rows L2
section
variable {P : Program} {w : World} {K : PySem.W.Frag} {mg : Str → Option Value} {base : Heap} {S : Addr → Prop} {H H1 : Hp} {A : SA} {b : BookD} {ds : List DM} {n : Nat} {rs : List RowM} {bk l : Addr}
def BetwL (ds : List DM) (bs : List Nat) : Prop := ∀ i, i ∈ bs ↔ (∃ j, Soft ds i j) ∧ ∃ j, Soft ds j i
theorem Soft.stand {i j : Nat} (h : Soft ds i j) : i ∈ standL ds ∧ j ∈ standL ds := let ⟨_, d, e, d', e', h1, h2, _⟩ := h; ⟨h1.mem, h2.mem⟩
def spBetwBy (K : PySem.W.Frag) : Sp := fun vs H Q _ => ∃ (A : SA) (b : BookD) (ds : List DM) (n : Nat), vs = [.ref A.st] ∧ StepAt K H A b ds n ∧ WF n ds ∧
  ∀ (p : Addr) (bs : List Nat) (H' : Hp), Nw H p → Fr0 K H H' → H' p = some (.lst (natL bs)) → bs.length ≤ 40 → BetwL ds bs → Q (.ref p) H'
theorem c_between_by (T : Tx K mg) : C8.Cal P w K mg base 5 "between_by" (spBetwBy K) [] := by
  have c_soft_pairs : C8.Cal P w K mg base 4 "soft_pairs" (spSoft K) [] := c_soft_pairs T
  have c_those_that_stand : C8.Cal P w K mg base 1 "those_that_stand" (spStand K) [] := c_those_that_stand T
  refine T.cal T.D_between_by T.g_between_by b_between_by sc_between_by (fun vs H Q E h => ?_) (fun cdv A outer s H vs Q E hr h => ?_)
  · obtain ⟨A, b, ds, n, rfl, _⟩ := h
    rfl
  · obtain ⟨SA, b, ds, n, rfl, hst, W, q⟩ := h
    refine ⟨_, (pss_cons (ps_set (i := 1) sc_between_by.nd rfl (Or.inl rfl) (C8.pe_c c_soft_pairs hr (by decide) rfl (pa_cons (pv 0) pa_nil)))
      (pss_cons (ps_set (i := 2) sc_between_by.nd rfl (Or.inr rfl) (pe_lc (own := [("one", 4), ("other", 5)]) (by rfl) sc_between_by.nd (pi_list (pv 1)) (blkOk_by (own := [("one", 4), ("other", 5)]) (N := n_between_by) (sc := defScope s_between_by) (by decide +kernel)) (fun _ _ _ _ _ => (pg_tupK (K := K) (n := 2) rfl rfl (pgs_cons (pg_name (i := 4) sc_between_by.nd rfl (Or.inl rfl)) (pgs_cons (pg_name (i := 5) sc_between_by.nd rfl (Or.inl rfl)) pgs_nil)))) (fun _ _ _ _ _ => pts_nil) (fun _ _ _ _ _ => (pv 4))))
      (pss_cons (ps_set (i := 3) sc_between_by.nd rfl (Or.inr rfl) (pe_lc (own := [("one", 4), ("other", 5)]) (by rfl) sc_between_by.nd (pi_list (pv 1)) (blkOk_by (own := [("one", 4), ("other", 5)]) (N := n_between_by) (sc := defScope s_between_by) (by decide +kernel)) (fun _ _ _ _ _ => (pg_tupK (K := K) (n := 2) rfl rfl (pgs_cons (pg_name (i := 4) sc_between_by.nd rfl (Or.inl rfl)) (pgs_cons (pg_name (i := 5) sc_between_by.nd rfl (Or.inl rfl)) pgs_nil)))) (fun _ _ _ _ _ => pts_nil) (fun _ _ _ _ _ => (pv 5))))
      (pss_one (ps_ret (pe_lc (own := [("number", 6)]) (by rfl) sc_between_by.nd (pi_list (C8.pe_c c_those_that_stand hr (by decide) rfl (pa_cons (pv 0) pa_nil))) (blkOk_by (own := [("number", 6)]) (N := n_between_by) (sc := defScope s_between_by) (by decide +kernel)) (fun _ _ _ _ _ => (pg_name (i := 6) sc_between_by.nd rfl (Or.inl rfl))) (fun _ _ _ _ _ => (pts_one (PW.pt (pw_and (pt_cmpR (op_in_seqK (K := K) rfl) (pv 6) (pv 2) (by rfl)) (pw_and1 (pt_cmpR (op_in_seqK (K := K) rfl) (pv 6) (pv 3) (by rfl))))))) (fun _ _ _ _ _ => (pv 6)))))))), ?_⟩
    refine ⟨_, rfl, SA, b, ds, n, rfl, hst, W, fun p ps H1 n1 g1 hp hlen hmem => ?_⟩
    obtain ⟨as, hp1, hp2⟩ := hp
    have pl := pd_len hp2
    refine ⟨_, rfl, p, rfl, ⟨_, .of hp1⟩, fun D2 hD2 => ?_⟩
    refine lc_it (walk_list (K := K) (a := p) (xs := as.map V.ref)) (fun i H2 => Fr0 K H1 H2 ∧ H2 D2 = some (.lst (natL ((ps.take i).map (·.1))))) ⟨.new hD2, upd_same⟩ ?_ ?_ ?_
    · rintro i H2 _ ⟨g, _⟩
      exact .of (g.lst hp1 (fun z => z))
    · rintro i y H0 H2 hi ⟨g, hq⟩ ⟨rfl, hy⟩
      obtain ⟨t, e1, rfl⟩ := map_get hy
      obtain ⟨pr, e2, ht⟩ := pd_getL hp2 e1
      rw [List.length_map] at hi
      refine ⟨t, _, rfl, g.tup ht, rfl, _, _, rfl, _, _, rfl, rfl, rfl, ?_⟩
      refine ⟨_, rfl, _, hq, ?_, g.own (.of hD2) hq trivial, ?_⟩
      · rw [natL_len, List.length_map, List.length_take]; exact small80k (by omega)
      · rw [take_snoc e2, List.map_append, List.map_singleton, natL_snoc]; exact upd_same
    rintro H2 ⟨g2, hq2⟩
    rw [List.length_map, pl, List.take_length] at hq2
    refine ⟨_, rfl, p, rfl, ⟨_, .of (g2.lst hp1 (fun z => z))⟩, fun D3 hD3 => ?_⟩
    refine lc_it (walk_list (K := K) (a := p) (xs := as.map V.ref)) (fun i H3 => Fr0 K H2 H3 ∧ H3 D3 = some (.lst (natL ((ps.take i).map (·.2))))) ⟨.new hD3, upd_same⟩ ?_ ?_ ?_
    · rintro i H3 _ ⟨g, _⟩
      exact .of ((g2.trans g).lst hp1 (fun z => z))
    · rintro i y H0 H3 hi ⟨g, hq⟩ ⟨rfl, hy⟩
      obtain ⟨t, e1, rfl⟩ := map_get hy
      obtain ⟨pr, e2, ht⟩ := pd_getL hp2 e1
      rw [List.length_map] at hi
      refine ⟨t, _, rfl, (g2.trans g).tup ht, rfl, _, _, rfl, _, _, rfl, rfl, rfl, ?_⟩
      refine ⟨_, rfl, _, hq, ?_, g.own (.of hD3) hq trivial, ?_⟩
      · rw [natL_len, List.length_map, List.length_take]; exact small80k (by omega)
      · rw [take_snoc e2, List.map_append, List.map_singleton, natL_snoc]; exact upd_same
    rintro H3 ⟨g3, hq3⟩
    rw [List.length_map, pl, List.take_length] at hq3
    have hq23 := g3.lst hq2 (fun z => z)
    have g123 := (g1.trans g2).trans g3
    refine ⟨_, rfl, SA, b, ds, n, rfl, hst.fr0 g123, W.few, fun sl H4 hsl g4 hsl4 => ?_⟩
    refine ⟨sl, rfl, ⟨_, .of hsl4⟩, fun D hD => ?_⟩
    have sL := standL_len ds
    have few := W.few
    refine lc_it (walk_list (K := K) (a := sl) (xs := natL (standL ds))) (fun i H5 => Fr0 K H4 H5 ∧ ∃ bs : List Nat, bs.length ≤ i ∧ H5 D = some (.lst (natL bs)) ∧ ∀ j, j ∈ bs ↔ j ∈ (standL ds).take i ∧ j ∈ ps.map (·.1) ∧ j ∈ ps.map (·.2)) ⟨.new hD, [], Nat.le_refl _, upd_same, by simp⟩ ?_ ?_ ?_
    · rintro i H5 _ ⟨g, _⟩
      exact .of (g.lst hsl4 (fun z => z))
    · rintro i y H0 H5 hi ⟨g, bs, hl, hq, hm⟩ ⟨rfl, hy⟩
      obtain ⟨o, ho, rfl⟩ := natL_get hy
      rw [natL_len] at hi
      have skip : ¬ (o ∈ ps.map (·.1) ∧ o ∈ ps.map (·.2)) → ∀ j, j ∈ bs ↔ j ∈ (standL ds).take (i + 1) ∧ j ∈ ps.map (·.1) ∧ j ∈ ps.map (·.2) := fun hn j => by
        rw [hm j, take_snoc ho, List.mem_append, List.mem_singleton]
        constructor
        · rintro ⟨h1, h2⟩; exact ⟨.inl h1, h2⟩
        · rintro ⟨h1 | h1, h2⟩
          · exact ⟨h1, h2⟩
          · rw [h1] at h2; exact absurd h2 hn
      refine ⟨rfl, ?_⟩
      refine ⟨_, rfl, _, rfl, D2, _, rfl, .inl (.of ((g4.trans g).lst hq23 (fun z => z))), rfl, flat_nat _, _, rfl, ?_⟩
      show if inV (V.int (o : Nat)) (natL (ps.map (·.1))) = true then _ else _
      rw [inV_nat]
      by_cases c1 : o ∈ ps.map (·.1)
      · rw [decide_eq_true c1]
        refine ⟨_, rfl, _, rfl, D3, _, rfl, .inl (.of ((g4.trans g).lst hq3 (fun z => z))), rfl, flat_nat _, _, rfl, ?_⟩
        show if inV (V.int (o : Nat)) (natL (ps.map (·.2))) = true then _ else _
        rw [inV_nat]
        by_cases c2 : o ∈ ps.map (·.2)
        · rw [decide_eq_true c2]
          refine ⟨_, rfl, _, hq, ?_, g.own (.of hD) hq trivial, bs ++ [o], ?_, by rw [natL_snoc]; exact upd_same, fun j => ?_⟩
          · rw [natL_len]; exact small1000 (by omega)
          · rw [List.length_append, List.length_singleton]; omega
          · rw [List.mem_append, hm j, take_snoc ho, List.mem_append, List.mem_singleton]
            constructor
            · rintro (⟨h1, h2⟩ | rfl)
              · exact ⟨.inl h1, h2⟩
              · exact ⟨.inr rfl, c1, c2⟩
            · rintro ⟨h1 | h1, h2⟩
              · exact .inl ⟨h1, h2⟩
              · exact .inr h1
        · rw [decide_eq_false c2]
          exact ⟨g, bs, by omega, hq, skip fun z => c2 z.2⟩
      · rw [decide_eq_false c1]
        exact ⟨g, bs, by omega, hq, skip fun z => c1 z.1⟩
    · rintro H5 ⟨g, bs, hl, hq, hm⟩
      rw [natL_len] at hl
      rw [natL_len, List.take_length] at hm
      have n5 : Nw H D := (g123.trans g4).nw (fun z => z) (.of hD)
      refine q D bs H5 n5 ((g123.trans g4).trans g) hq (by omega) fun i => ?_
      rw [hm i]
      constructor
      · rintro ⟨_, h1, h2⟩
        obtain ⟨⟨a, c⟩, h3, rfl⟩ := List.mem_map.mp h1
        obtain ⟨⟨a', c'⟩, h4, h5⟩ := List.mem_map.mp h2
        have h5 : c' = a := h5
        subst h5
        exact ⟨⟨c, (hmem _ _).mp h3⟩, ⟨a', (hmem _ _).mp h4⟩⟩
      · rintro ⟨⟨j, h1⟩, ⟨k, h2⟩⟩
        exact ⟨h1.stand.1, List.mem_map.mpr ⟨(i, j), (hmem _ _).mpr h1, rfl⟩, List.mem_map.mpr ⟨(k, i), (hmem _ _).mpr h2, rfl⟩⟩
def spBetween (K : PySem.W.Frag) : Sp := fun vs H Q _ => ∃ (bk l : Addr) (b : BookD) (rs : List RowM), vs = [.ref bk, .ref l] ∧ RunAt K H bk l b rs ∧
  ∀ (p : Addr) (bs : List Nat) (H' : Hp), Nw H p → Fr0 K H H' → H' p = some (.lst (natL bs)) → bs.length ≤ 40 → BetwL (play rs) bs → Q (.ref p) H'
theorem c_between (T : Tx K mg) (B : TbB K mg base) : C8.Cal P w K mg base 7 "between" (spBetween K) [] := by
  have c_played : C8.Cal P w K mg base 6 "played" (spPlayed K) [] := c_played T B
  have c_between_by : C8.Cal P w K mg base 5 "between_by" (spBetwBy K) [] := c_between_by T
  refine T.cal T.D_between T.g_between b_between sc_between (fun vs H Q E h => ?_) (fun cdv A outer s H vs Q E hr h => ?_)
  · obtain ⟨bk, l, b, rs, rfl, _⟩ := h
    rfl
  · obtain ⟨bk, l, b, rs, rfl, ⟨hb, hB, hrs, hrun, ht⟩, q⟩ := h
    refine ⟨_, (pss_cons (ps_asg (C8.pe_c c_played hr (by decide) rfl (pa_cons (pv 0) (pa_cons (pv 1) pa_nil))) (pg_tup rfl (pgs_cons (pg_name (i := 2) sc_between.nd rfl (Or.inl rfl)) (pgs_cons (pg_name (i := 3) sc_between.nd rfl (Or.inl rfl)) pgs_nil))))
      (pss_one (ps_ret (C8.pe_c c_between_by hr (by decide) rfl (pa_cons (pv 2) pa_nil))))), ?_⟩
    refine ⟨_, rfl, _, rfl, bk, l, b, rs, rfl, hb, hB, hrs, hrun, ht, fun p A H1 g1 hp => ?_⟩
    obtain ⟨⟨told, ht1⟩, hst⟩ := hp
    refine ⟨p, _, rfl, ht1, rfl, _, _, rfl, _, _, rfl, rfl, ?_⟩
    exact ⟨_, rfl, A, b, play rs, rs.length, rfl, hst, wf_play hrun.goes, fun p2 bs H2 n2 g2 hm hl hb => q p2 bs H2 (g1.nw (fun z => z) n2) (g1.trans g2) hm hl hb⟩
end
end Sn
set_option Elab.async false
set_option linter.all false
set_option maxRecDepth 100000
set_option maxHeartbeats 4000000
namespace Sn
open PySem PySem.Spec PyProof.Rows L2
/-- the entries of a dict number -> list -/
def kvA (st : List Nat) (als : List Addr) : List (Key × V) := (st.zip als).map fun p => ((.inl (p.1 : Nat) : Key), V.ref p.2)
theorem merge_nd : ∀ (kvs acc : List (Key × V)), ((acc ++ kvs).map (·.1)).Nodup → mergeK acc kvs = acc ++ kvs
  | [], acc, _ => by rw [List.append_nil] <;> rfl
  | p :: r, acc, h => by
    have hn : valV acc p.1 = none := by
      cases e : valV acc p.1 with
      | none => rfl
      | some v =>
        exfalso
        have := valV_in e
        rw [List.map_append, List.nodup_append] at h
        exact h.2.2 p.1 this p.1 (by simp) rfl
    show mergeK (putK acc p.1 p.2) r = _
    rw [putK_new _ hn]
    have e : acc ++ [(p.1, p.2)] ++ r = acc ++ p :: r := by simp
    rw [merge_nd r (acc ++ [(p.1, p.2)]) (by rw [e]; exact h), e]
theorem kvA_keys {st : List Nat} {als : List Addr} (h : als.length = st.length) : (kvA st als).map (·.1) = st.map fun (i : Nat) => (.inl (i : Nat) : Key) := by
  unfold kvA
  rw [List.map_map]
  induction st generalizing als with
  | nil => rfl
  | cons x st ih =>
    match als, h with
    | a :: als, h =>
      rw [List.zip_cons_cons, List.map_cons, List.map_cons, ih (by simpa using h)] <;> rfl
theorem kvA_nd {st : List Nat} {als : List Addr} (h : als.length = st.length) (nd : st.Nodup) : ((kvA st als).map (·.1)).Nodup := by
  rw [kvA_keys h]
  exact List.pairwise_map.mpr (nd.imp fun h z => h (by have := Sum.inl.inj z; omega))
theorem kvA_get {st : List Nat} {als : List Addr} {i x : Nat} {a : Addr} (h1 : st[i]? = some x) (h2 : als[i]? = some a) : (kvA st als)[i]? = some (.inl (x : Nat), .ref a) := by
  unfold kvA
  rw [List.getElem?_map, (List.getElem?_zip_eq_some (z := (x, a))).mpr ⟨h1, h2⟩] <;> rfl
theorem kvA_len {st : List Nat} {als : List Addr} (h : als.length = st.length) : (kvA st als).length = st.length := by
  unfold kvA
  rw [List.length_map, List.length_zip, h, Nat.min_self]
theorem val_nd : ∀ {kvs : List (Key × V)} {i : Nat} {k : Key} {v : V}, (kvs.map (·.1)).Nodup → kvs[i]? = some (k, v) → valV kvs k = some v
  | [], i, k, v, _, h => by simp at h
  | p :: r, 0, k, v, _, h => by
    simp at h
    subst h
    exact valV_pos rfl
  | p :: r, i + 1, k, v, nd, h => by
    rw [List.map_cons, List.nodup_cons] at nd
    have h : r[i]? = some (k, v) := by simpa using h
    rw [valV_neg (fun z => nd.1 (by rw [z]; exact List.mem_map.mpr ⟨(k, v), List.mem_of_getElem? h, rfl⟩))]
    exact val_nd nd.2 h
theorem kvA_val {st : List Nat} {als : List Addr} {i x : Nat} {a : Addr} (h : als.length = st.length) (nd : st.Nodup) (h1 : st[i]? = some x) (h2 : als[i]? = some a) : valV (kvA st als) (.inl (x : Nat)) = some (.ref a) := val_nd (kvA_nd h nd) (kvA_get h1 h2)
/-- a frozen dict: i -> the frozen list of those j with R j i (each once) -/
def GrpAt (H : Hp) (d : Addr) (st : List Nat) (R : Nat → Nat → Prop) : Prop := ∃ o als, als.length = st.length ∧ H d = some (.frz o (.dK (kvA st als))) ∧
  ∀ (i x : Nat) a, st[i]? = some x → als[i]? = some a → ∃ es, FzL H a (natL es) ∧ es.Nodup ∧ es.length ≤ 40 ∧ ∀ j, j ∈ es ↔ R j x
section
variable {P : Program} {w : World} {K : PySem.W.Frag} {mg : Str → Option Value} {base : Heap} {S : Addr → Prop} {H H1 : Hp} {A : SA} {b : BookD} {ds : List DM} {n : Nat} {rs : List RowM} {bk l : Addr}
theorem Fr.grp {d : Addr} {st : List Nat} {R : Nat → Nat → Prop} (f : Fr K S H H1) (h : GrpAt H d st R) : GrpAt H1 d st R := by
  obtain ⟨o, als, h1, h2, h3⟩ := h
  exact ⟨o, als, h1, f.imm _ _ h2 trivial, fun i x a e1 e2 => let ⟨es, h4, h5⟩ := h3 i x a e1 e2; ⟨es, f.fzl h4, h5⟩⟩
theorem GrpAt.get {d : Addr} {st : List Nat} {R : Nat → Nat → Prop} (h : GrpAt H d st R) (nd : st.Nodup) {x : Nat} (hx : x ∈ st) : ∃ a es, DGet H d (.int (x : Nat)) (some (.ref a)) ∧ FzL H a (natL es) ∧ es.Nodup ∧ es.length ≤ 40 ∧ ∀ j, j ∈ es ↔ R j x := by
  obtain ⟨o, als, h1, h2, h3⟩ := h
  obtain ⟨i, hi⟩ := List.mem_iff_getElem?.mp hx
  have hlt := (List.getElem?_eq_some_iff.mp hi).1
  obtain ⟨a, ha⟩ : ∃ a, als[i]? = some a := ⟨_, List.getElem?_eq_getElem (by omega)⟩
  obtain ⟨es, h4, h5⟩ := h3 i x a hi ha
  exact ⟨a, es, .inl ⟨_, .inl (x : Nat), .inr ⟨o, h2⟩, rfl, (kvA_val h1 nd hi ha).symm⟩, h4, h5⟩
/-- the lists while they grow -/
structure Grow (H : Hp) (d : Addr) (st : List Nat) (als : List Addr) (es : List (List Nat)) : Prop where
  at_ : H d = some (.dK (kvA st als))
  len : als.length = st.length
  nd : als.Nodup
  lists : Paired (fun a (e : List Nat) => H a = some (.lst (natL e))) als es
theorem Grow.fr {d : Addr} {st : List Nat} {als : List Addr} {es : List (List Nat)} (h : Grow H d st als es) (f : Fr K S H H1) (n1 : ¬ S d) (n2 : ∀ a ∈ als, ¬ S a) : Grow H1 d st als es :=
  ⟨f.dK h.at_ n1, h.len, h.nd, pd_of (pd_len h.lists) fun i a e e1 e2 => by
    obtain ⟨e', e3, e4⟩ := pd_getL h.lists e1
    rw [e2] at e3
    rw [Option.some.inj e3]
    exact f.lst e4 (n2 a (List.mem_of_getElem? e1))⟩
theorem Grow.put {d : Addr} {st : List Nat} {als : List Addr} {es : List (List Nat)} (h : Grow H d st als es) {i : Nat} {a : Addr} {e' : List Nat} (ha : als[i]? = some a) : Grow (upd H a (.lst (natL e'))) d st als (es.set i e') := by
  obtain ⟨e0, e1, e2⟩ := pd_getL h.lists ha
  have nd : a ≠ d := fun z => by rw [z, h.at_] at e2; cases e2
  refine ⟨(upd_ne (fun z => nd z.symm)).trans h.at_, h.len, h.nd, pd_of (by rw [List.length_set]; exact pd_len h.lists) fun j c e hc he => ?_⟩
  by_cases hj : j = i
  · subst hj
    rw [ha] at hc
    rw [← Option.some.inj hc]
    rw [List.getElem?_set_self (by rw [← pd_len h.lists]; exact (List.getElem?_eq_some_iff.mp ha).1)] at he
    rw [← Option.some.inj he]
    exact upd_same
  · rw [List.getElem?_set_ne (fun z => hj z.symm)] at he
    obtain ⟨e3, e4, e5⟩ := pd_getL h.lists hc
    rw [he] at e4
    rw [Option.some.inj e4]
    have : c ≠ a := fun z => hj ((List.getElem?_inj (List.getElem?_eq_some_iff.mp hc).1 h.nd).mp (by rw [hc, ha, z]))
    exact (upd_ne this).trans e5
theorem nd_len : ∀ {l m : List Nat}, l.Nodup → (∀ x ∈ l, x ∈ m) → l.length ≤ m.length
  | [], m, _, _ => Nat.zero_le _
  | x :: l, m, nd, h => by
    rw [List.nodup_cons] at nd
    have hx := h x (.head _)
    have := nd_len (m := m.erase x) nd.2 fun y hy => by
      have hne : y ≠ x := fun z => nd.1 (z ▸ hy)
      exact (List.mem_erase_of_ne hne).mpr (h y (.tail _ hy))
    rw [List.length_erase_of_mem hx] at this
    have hpos : 0 < m.length := List.length_pos_of_mem hx
    rw [List.length_cons]
    omega
theorem Grow.get {d : Addr} {st : List Nat} {als : List Addr} {es : List (List Nat)} (h : Grow H d st als es) (nd : st.Nodup) {x : Nat} (hx : x ∈ st) : ∃ (i : Nat) (a : Addr) (e : List Nat), st[i]? = some x ∧ als[i]? = some a ∧ es[i]? = some e ∧ DGet H d (.int (x : Nat)) (some (.ref a)) ∧ H a = some (.lst (natL e)) := by
  obtain ⟨i, hi⟩ := List.mem_iff_getElem?.mp hx
  have hlt := (List.getElem?_eq_some_iff.mp hi).1
  obtain ⟨a, ha⟩ : ∃ a, als[i]? = some a := ⟨_, List.getElem?_eq_getElem (by rw [h.len]; exact hlt)⟩
  obtain ⟨e, e1, e2⟩ := pd_getL h.lists ha
  exact ⟨i, a, e, hi, ha, e1, .inl ⟨_, .inl (x : Nat), .inl h.at_, rfl, (kvA_val h.len nd hi ha).symm⟩, e2⟩
/-- the lists, done, are frozen with their dict -/
theorem Grow.freeze {d : Addr} {st : List Nat} {als : List Addr} {es : List (List Nat)} {R : Nat → Nat → Prop} {H2 : Hp} (h : Grow H d st als es) (z : FrzOf (d :: als) H H2) (hR : ∀ (i x : Nat) e, st[i]? = some x → es[i]? = some e → e.Nodup ∧ e.length ≤ 40 ∧ ∀ j, j ∈ e ↔ R j x) : GrpAt H2 d st R := by
  obtain ⟨o, ho⟩ := z.at_ d (.head _) _ h.at_
  refine ⟨o, als, h.len, ho, fun i x a hx ha => ?_⟩
  obtain ⟨e, e1, e2⟩ := pd_getL h.lists ha
  obtain ⟨h1, h2, h3⟩ := hR i x e hx e1
  exact ⟨e, z.at_ a (.tail _ (List.mem_of_getElem? ha)) _ e2, h1, h2, h3⟩
theorem Grow.mut {d : Addr} {st : List Nat} {als : List Addr} {es : List (List Nat)} (h : Grow H d st als es) : (∀ a ∈ d :: als, Mut (H a)) ∧ ∀ a ∈ d :: als, ∀ u, H a = some u → Wr u := by
  have key : ∀ a ∈ d :: als, ∃ u, H a = some u ∧ Mut (some u) ∧ Wr u := fun a ha => by
    rcases List.mem_cons.mp ha with rfl | ha
    · exact ⟨_, h.at_, trivial, trivial⟩
    · obtain ⟨i, hi⟩ := List.mem_iff_getElem?.mp ha
      obtain ⟨e, e1, e2⟩ := pd_getL h.lists hi
      exact ⟨_, e2, trivial, trivial⟩
  refine ⟨fun a ha => ?_, fun a ha u hu => ?_⟩
  · obtain ⟨u, e, m, _⟩ := key a ha
    rw [e]; exact m
  · obtain ⟨u', e, _, x⟩ := key a ha
    rw [e] at hu
    rw [← Option.some.inj hu]; exact x
def spAheadOf (K : PySem.W.Frag) : Sp := fun vs H Q _ => ∃ (A : SA) (b : BookD) (ds : List DM) (n : Nat), vs = [.ref A.st] ∧ StepAt K H A b ds n ∧ WF n ds ∧
  ∀ (p : Addr) (H' : Hp), Nw H p → Fr0 K H H' → GrpAt H' p (standL ds) (Edge ds) → Q (.ref p) H'
theorem c_ahead_of_each (T : Tx K mg) : C8.Cal P w K mg base 4 "ahead_of_each" (spAheadOf K) [] := by
  have c_those_that_stand : C8.Cal P w K mg base 1 "those_that_stand" (spStand K) [] := c_those_that_stand T
  have c_musts : C8.Cal P w K mg base 3 "musts" (spMusts K) [] := c_musts T
  refine T.cal T.D_ahead_of_each T.g_ahead_of_each b_ahead_of_each sc_ahead_of_each (fun vs H Q E h => ?_) (fun cdv A outer s H vs Q E hr h => ?_)
  · obtain ⟨A, b, ds, n, rfl, _⟩ := h
    rfl
  · obtain ⟨SA, b, ds, n, rfl, hst, W, q⟩ := h
    have hu := hu_of hr
    refine ⟨_, (pss_cons (ps_set (i := 1) sc_ahead_of_each.nd rfl (Or.inl rfl) (pe_callTy (call_dictP rfl) (by rfl) T.fr_dict bt_dict (pa_cons (pe_lc (own := [("number", 6)]) (by rfl) sc_ahead_of_each.nd (pi_list (C8.pe_c c_those_that_stand hr (by decide) rfl (pa_cons (pv 0) pa_nil))) (blkOk_by (own := [("number", 6)]) (N := n_ahead_of_each) (sc := defScope s_ahead_of_each) (by decide +kernel)) (fun _ _ _ _ _ => (pg_name (i := 6) sc_ahead_of_each.nd rfl (Or.inl rfl))) (fun _ _ _ _ _ => pts_nil) (fun _ _ _ _ _ => (pe_tup (pa_cons (pv 6) (pa_cons (pe_lst pa_nil) pa_nil))))) pa_nil)))
      (pss_cons (ps_for PassesOwn.never rfl (pi_list (C8.pe_c c_musts hr (by decide) rfl (pa_cons (pv 0) pa_nil))) (pg_tup rfl (pgs_cons (pg_name (i := 2) sc_ahead_of_each.nd rfl (Or.inl rfl)) (pgs_cons (pg_name (i := 3) sc_ahead_of_each.nd rfl (Or.inl rfl)) (pgs_cons (pg_name (i := 4) sc_ahead_of_each.nd rfl (Or.inl rfl)) (pgs_cons (pg_name (i := 5) sc_ahead_of_each.nd rfl (Or.inl rfl)) pgs_nil)))))
        (pss_one (ps_if (pt_cmpR op_notIn_seq (pv 2) (pe_dget hu (pv 1) (pv 3) (fun _ _ => rfl)) (by rfl))
          (pss_one (ps_expr (pe_bm PySem.F.plainAttrs_list PySem.F.slot_list_append PySem.F.type_list_append mt_append (pe_dget hu (pv 1) (pv 3) (fun _ _ => rfl)) (pa_cons (pv 2) pa_nil))))
          pss_nil)))
      (pss_one (ps_ret (pe_frz (pv 1)))))), ?_⟩
    have few := W.few
    have sL := standL_len ds
    have snd := standL_nodup ds
    refine ⟨_, rfl, SA, b, ds, n, rfl, hst, few, fun sl H1 hsl g1 hsl1 => ?_⟩
    refine ⟨sl, rfl, ⟨_, .of hsl1⟩, fun D1 hD1 => ?_⟩
    have nslD : sl ≠ D1 := fun z => by rw [z, hD1] at hsl1; cases hsl1
    refine lc_it (walk_list (K := K) (a := sl) (xs := natL (standL ds))) (fun i H2 => Fr0 K H1 H2 ∧ ∃ ts als : List Addr, H2 D1 = some (.lst (ts.map V.ref)) ∧ ts.length = i ∧ als.length = i ∧ als.Nodup ∧ (∀ a ∈ als, H2 a = some (.lst []) ∧ a ≠ D1 ∧ Nw H1 a) ∧
      ∀ (j t : Nat) x a, ts[j]? = some t → (standL ds)[j]? = some x → als[j]? = some a → SqT K H2 t [.int (x : Nat), .ref a]) ⟨.new hD1, [], [], upd_same, rfl, rfl, .nil, by simp, by simp⟩ ?_ ?_ ?_
    · rintro i H2 _ ⟨g, _⟩
      exact .of (g.lst hsl1 (fun z => z))
    · rintro i y H0 H2 hi ⟨g, ts, als, hts, lts, lal, nal, hal, htt⟩ ⟨rfl, hy⟩
      obtain ⟨o, ho, rfl⟩ := natL_get hy
      rw [natL_len] at hi
      refine ⟨rfl, ?_⟩
      refine ⟨_, rfl, Nat.zero_le _, fun a ha => ⟨(by show 2 ≤ sizeLine; decide), fun t ht => ?_⟩⟩
      have gn : Fr0 K H2 (upd (upd H2 a (.lst [])) t (.tup [.int (o : Nat), .ref a])) := (Fr.new ha).new2 ht
      have nta : t ≠ a := fun z => by rw [z, upd_same] at ht; cases ht
      have hta : upd (upd H2 a (.lst [])) t (.tup [.int (o : Nat), .ref a]) a = some (.lst []) := (upd_ne (fun z => nta z.symm)).trans upd_same
      have htt' : SqT K (upd (upd H2 a (.lst [])) t (.tup [.int (o : Nat), .ref a])) t [.int (o : Nat), .ref a] := .of upd_same
      generalize upd (upd H2 a (.lst [])) t (.tup [.int (o : Nat), .ref a]) = H3 at gn hta htt' ⊢
      have hts3 := gn.lst hts (fun z => z)
      have naD : a ≠ D1 := fun z => by rw [z, hts] at ha; cases ha
      have f4 : Fr K (fun c => c = D1) H3 (upd H3 D1 (.lst (ts.map V.ref ++ [V.ref t]))) := .at_ rfl hts3 trivial
      refine ⟨_, hts3, by rw [List.length_map]; exact small1000 (by omega), (g.trans gn).own (.of hD1) hts3 trivial, ts ++ [t], als ++ [a], by rw [List.map_append]; exact upd_same, by rw [List.length_append, lts] <;> rfl, by rw [List.length_append, lal] <;> rfl, ?_, fun c hc => ?_, fun j t' x a' h1 h2 h3 => ?_⟩
      · refine List.nodup_append.mpr ⟨nal, by simp, fun c hc e he => ?_⟩
        rw [List.mem_singleton] at he
        intro z
        have := (hal c hc).1
        rw [z, he, ha] at this
        cases this
      · rcases List.mem_append.mp hc with hc | hc
        · obtain ⟨e1, e2, e3⟩ := hal c hc
          exact ⟨f4.lst (gn.lst e1 (fun z => z)) e2, e2, e3⟩
        · rw [List.mem_singleton.mp hc]
          exact ⟨f4.lst hta naD, naD, g.nw (fun z => z) (.of ha)⟩
      · rcases Nat.lt_or_ge j i with hj | hj
        · rw [List.getElem?_append_left (by omega)] at h1 h3
          exact f4.tup (gn.tup (htt j t' x a' h1 h2 h3))
        · rw [List.getElem?_append_right (by omega)] at h1 h3
          rw [lts] at h1
          rw [lal] at h3
          have hj0 : j - i = 0 := by
            have := (List.getElem?_eq_some_iff.mp h1).1
            rw [List.length_singleton] at this
            omega
          rw [hj0] at h1 h3
          have hji : j = i := by omega
          rw [hji, ho] at h2
          rw [← Option.some.inj h1, ← Option.some.inj h2, ← Option.some.inj h3]
          exact f4.tup htt'
    · rintro H2 ⟨g2, ts, als, hts, lts, lal, nal, hal, htt⟩
      rw [natL_len] at lts lal
      refine ⟨D1, ts, kvA (standL ds) als, rfl, .of hts, pd_of (by rw [kvA_len lal, lts]) fun i t kv h1 h2 => ?_, fun Dd hDd => ?_⟩
      · have hi := (List.getElem?_eq_some_iff.mp h1).1
        obtain ⟨x, hx⟩ : ∃ x, (standL ds)[i]? = some x := ⟨_, List.getElem?_eq_getElem (by omega)⟩
        obtain ⟨a, ha⟩ : ∃ a, als[i]? = some a := ⟨_, List.getElem?_eq_getElem (by omega)⟩
        rw [kvA_get hx ha] at h2
        rw [← Option.some.inj h2]
        exact htt i t x a h1 hx ha
      have em : mergeK [] (kvA (standL ds) als) = kvA (standL ds) als := by
        rw [merge_nd _ _ (by rw [List.nil_append]; exact kvA_nd lal snd), List.nil_append]
      rw [em]
      have g3 : Fr0 K H2 (upd H2 Dd (.dK (kvA (standL ds) als))) := .new hDd
      have hG0 : Grow (upd H2 Dd (.dK (kvA (standL ds) als))) Dd (standL ds) als (als.map fun _ => ([] : List Nat)) :=
        ⟨upd_same, lal, nal, pd_of (by rw [List.length_map]) fun i a e h1 h2 => by
          obtain ⟨a', _, rfl⟩ := map_get h2
          exact g3.lst (hal a (List.mem_of_getElem? h1)).1 (fun z => z)⟩
      have g13 := (g1.trans g2).trans g3
      have nw13 : ∀ c ∈ Dd :: als, Nw H c := fun c hc => by
        rcases List.mem_cons.mp hc with rfl | hc
        · exact (g1.trans g2).nw (fun z => z) (.of hDd)
        · exact g1.nw (fun z => z) (hal c hc).2.2
      generalize upd H2 Dd (.dK (kvA (standL ds) als)) = H3 at g3 hG0 g13 ⊢
      refine ⟨_, rfl, SA, b, ds, n, rfl, hst.fr0 g13, W, fun l ps H4 n4 g4 hm => ?_⟩
      have hG4 := hG0.fr g4 (fun z => z) (fun _ _ z => z)
      have nl : ∀ c ∈ als, l ≠ c := fun c hc z => by
        obtain ⟨i, hi⟩ := List.mem_iff_getElem?.mp hc
        obtain ⟨e, _, e2⟩ := pd_getL hG0.lists hi
        exact n4.ne e2 (fun ps z => nomatch z) z.symm
      refine ⟨l, rfl, ⟨_, .of hm.at_⟩, ?_⟩
      have ml := hm.len
      refine for_it (walk_list (K := K) (a := l) (xs := refsQ ps)) (fun i σ' H' => (∃ x y z u, σ' = [some (.ref SA.st), some (.ref Dd), x, y, z, u, none]) ∧ Fr K (fun c => c ∈ als) H4 H' ∧ ∃ es, Grow H' Dd (standL ds) als es ∧
        ∀ (j x : Nat) e, (standL ds)[j]? = some x → es[j]? = some e → e.Nodup ∧ ∀ k, k ∈ e ↔ ∃ q ∈ (ps.take i).map (·.1), q.1 = k ∧ q.2.1 = x) ⟨⟨none, none, none, none, rfl⟩, .refl _, _, hG4, fun j x e _ h2 => ?_⟩ ?_ ?_ ?_
      · obtain ⟨a', _, rfl⟩ := map_get h2
        exact ⟨.nil, by simp⟩
      · rintro i σ' H' _ ⟨_, f, _⟩
        exact .of (f.lst hm.at_ fun z => nl l z rfl)
      · rintro i y σ' H0 H' hi ⟨⟨x1, x2, x3, x4, rfl⟩, f, es, hG, hes⟩ ⟨rfl, hy⟩
        obtain ⟨⟨⟨a, c, wd, k⟩, t⟩, e1, rfl⟩ := map_get hy
        obtain ⟨ka, ht, hk⟩ := f.qd (hm.all _ (List.mem_of_getElem? e1))
        have hmq := (hm.mem (a, c, wd, k)).mp (List.mem_map.mpr ⟨_, List.mem_of_getElem? e1, rfl⟩)
        have hE : Edge ds a c := ⟨wd, k, hmq⟩
        obtain ⟨ic, ac, ec, h1, h2, h3, h4, h5⟩ := hG.get snd (hE.right W)
        obtain ⟨nde, mem_e⟩ := hes ic c ec h1 h3
        have el : ec.length ≤ 40 := Nat.le_trans (nd_len nde fun z hz => by
          obtain ⟨q', hq', rfl, _⟩ := (mem_e z).mp hz
          exact Edge.left W ⟨q'.2.2.1, q'.2.2.2, (hm.mem q').mp (by
            obtain ⟨p', hp', rfl⟩ := List.mem_map.mp hq'
            exact List.mem_map.mpr ⟨p', List.mem_of_mem_take hp', rfl⟩)⟩) (Nat.le_trans sL few)
        refine ⟨t, _, rfl, ht, rfl, _, _, rfl, _, _, rfl, _, _, rfl, _, _, rfl, rfl, ?_⟩
        refine ⟨_, rfl, _, rfl, _, rfl, Dd, .ref ac, rfl, h4, ac, _, rfl, .inl (.of h5), rfl, flat_nat _, _, rfl, ?_⟩
        show if (!inV (V.int (a : Nat)) (natL ec)) = true then _ else _
        rw [inV_nat]
        by_cases ca : a ∈ ec
        · rw [decide_eq_true ca]
          refine ⟨⟨_, _, _, _, rfl⟩, f, es, hG, fun j x e hx he => ⟨(hes j x e hx he).1, fun k' => ?_⟩⟩
          rw [(hes j x e hx he).2 k', take_snoc e1, List.map_append]
          constructor
          · rintro ⟨q', z1, z2⟩
            exact ⟨q', List.mem_append_left _ z1, z2⟩
          · rintro ⟨q', z1, z2, z3⟩
            rcases List.mem_append.mp z1 with z | z
            · exact ⟨q', z, z2, z3⟩
            · rw [List.map_singleton, List.mem_singleton] at z
              subst z
              have z2 : a = k' := z2
              have z3 : c = x := z3
              subst z2 z3
              exact (mem_e a).mp ca
        · rw [decide_eq_false ca]
          refine ⟨_, rfl, _, rfl, Dd, .ref ac, rfl, h4, .inl ⟨rfl, _, .of h5⟩, _, rfl, ac, _, _, rfl, rfl, h5, by rw [natL_len]; exact small1000 (by omega), ⟨_, _, _, _, rfl⟩, ?_⟩
          rw [← natL_snoc]
          refine ⟨f.trans (.at_ (List.mem_of_getElem? h2) h5 trivial), es.set ic (ec ++ [a]), hG.put h2, fun j x e hx he => ?_⟩
          by_cases hj : j = ic
          · subst hj
            rw [List.getElem?_set_self ((List.getElem?_eq_some_iff.mp h3).1)] at he
            have he := Option.some.inj he
            subst he
            rw [h1] at hx
            have hx := Option.some.inj hx
            subst hx
            refine ⟨List.nodup_append.mpr ⟨nde, by simp, fun z hz w hw => by rw [List.mem_singleton.mp hw]; exact fun e => ca (e ▸ hz)⟩, fun k' => ?_⟩
            rw [List.mem_append, mem_e k', take_snoc e1, List.map_append, List.mem_singleton]
            constructor
            · rintro (⟨q', z1, z2⟩ | rfl)
              · exact ⟨q', List.mem_append_left _ z1, z2⟩
              · exact ⟨_, List.mem_append_right _ (List.mem_singleton.mpr rfl), rfl, rfl⟩
            · rintro ⟨q', z1, z2, z3⟩
              rcases List.mem_append.mp z1 with z | z
              · exact .inl ⟨q', z, z2, z3⟩
              · rw [List.map_singleton, List.mem_singleton] at z
                subst z
                exact .inr z2.symm
          · rw [List.getElem?_set_ne (fun z => hj z.symm)] at he
            refine ⟨(hes j x e hx he).1, fun k' => ?_⟩
            rw [(hes j x e hx he).2 k', take_snoc e1, List.map_append]
            constructor
            · rintro ⟨q', z1, z2⟩
              exact ⟨q', List.mem_append_left _ z1, z2⟩
            · rintro ⟨q', z1, z2, z3⟩
              rcases List.mem_append.mp z1 with z | z
              · exact ⟨q', z, z2, z3⟩
              · rw [List.map_singleton, List.mem_singleton] at z
                subst z
                have z3 : c = x := z3
                rw [z3] at h1
                exact absurd ((List.getElem?_inj (List.getElem?_eq_some_iff.mp hx).1 snd).mp (hx.trans h1.symm)) hj
      · rintro σ' H' ⟨⟨x1, x2, x3, x4, rfl⟩, f, es, hG, hes⟩
        have hps : ps.take (refsQ ps).length = ps := by rw [refsQ, List.length_map, List.take_length]
        rw [hps] at hes
        obtain ⟨mu, wr⟩ := hG.mut
        refine ⟨_, rfl, Dd :: als, mu, fun H6 z6 => ?_⟩
        have f6 : Fr K (fun c => c ∈ Dd :: als) H H6 := z6.fr mu wr ((g13.trans g4).wide.trans (f.mono fun c hc => .tail _ hc)) fun c hc => .inr hc
        refine q Dd H6 (nw13 Dd (.head _)) (f6.narrow fun c hc => .inr (nw13 c hc)) (hG.freeze z6 fun i x e hx he => ?_)
        obtain ⟨h1, h2⟩ := hes i x e hx he
        have h3 : ∀ j, j ∈ e ↔ Edge ds j x := fun j => by
          rw [h2 j]
          constructor
          · rintro ⟨q', z1, rfl, rfl⟩
            exact ⟨_, _, (hm.mem q').mp z1⟩
          · rintro ⟨wd, k, z⟩
            exact ⟨(j, x, wd, k), (hm.mem _).mpr z, rfl, rfl⟩
        exact ⟨h1, Nat.le_trans (nd_len h1 fun z hz => ((h3 z).mp hz).left W) (Nat.le_trans sL few), h3⟩
end
end Sn
set_option Elab.async false
set_option linter.all false
set_option maxRecDepth 100000
set_option maxHeartbeats 4000000
namespace Sn
open PySem PySem.Spec PyProof.Rows L2
section
variable {P : Program} {w : World} {K : PySem.W.Frag} {mg : Str → Option Value} {base : Heap} {S : Addr → Prop} {H H1 : Hp} {A : SA} {b : BookD} {ds : List DM} {n : Nat} {rs : List RowM} {bk l : Addr}
def spBehindOf (K : PySem.W.Frag) : Sp := fun vs H Q _ => ∃ (A : SA) (b : BookD) (ds : List DM) (n : Nat), vs = [.ref A.st] ∧ StepAt K H A b ds n ∧ WF n ds ∧
  ∀ (p : Addr) (H' : Hp), Nw H p → Fr0 K H H' → GrpAt H' p (standL ds) (fun j x => Edge ds x j) → Q (.ref p) H'
theorem c_behind_each (T : Tx K mg) : C8.Cal P w K mg base 5 "behind_each" (spBehindOf K) [] := by
  have c_those_that_stand : C8.Cal P w K mg base 1 "those_that_stand" (spStand K) [] := c_those_that_stand T
  have c_ahead_of_each : C8.Cal P w K mg base 4 "ahead_of_each" (spAheadOf K) [] := c_ahead_of_each T
  refine T.cal T.D_behind_each T.g_behind_each b_behind_each sc_behind_each (fun vs H Q E h => ?_) (fun cdv A outer s H vs Q E hr h => ?_)
  · obtain ⟨A, b, ds, n, rfl, _⟩ := h
    rfl
  · obtain ⟨SA, b, ds, n, rfl, hst, W, q⟩ := h
    have hu := hu_of hr
    refine ⟨_, (pss_cons (ps_set (i := 1) sc_behind_each.nd rfl (Or.inl rfl) (pe_callTy (call_dictP rfl) (by rfl) T.fr_dict bt_dict (pa_cons (pe_lc (own := [("number", 5)]) (by rfl) sc_behind_each.nd (pi_list (C8.pe_c c_those_that_stand hr (by decide) rfl (pa_cons (pv 0) pa_nil))) (blkOk_by (own := [("number", 5)]) (N := n_behind_each) (sc := defScope s_behind_each) (by decide +kernel)) (fun _ _ _ _ _ => (pg_name (i := 5) sc_behind_each.nd rfl (Or.inl rfl))) (fun _ _ _ _ _ => pts_nil) (fun _ _ _ _ _ => (pe_tup (pa_cons (pv 5) (pa_cons (pe_lst pa_nil) pa_nil))))) pa_nil)))
      (pss_cons (ps_for PassesOwn.never rfl (pi_items (C8.pe_c c_ahead_of_each hr (by decide) rfl (pa_cons (pv 0) pa_nil))) (pg_tup rfl (pgs_cons (pg_name (i := 2) sc_behind_each.nd rfl (Or.inl rfl)) (pgs_cons (pg_name (i := 3) sc_behind_each.nd rfl (Or.inl rfl)) pgs_nil)))
        (pss_one (ps_for PassesOwn.never rfl (pi_list (pv 3)) (pg_name (i := 4) sc_behind_each.nd rfl (Or.inl rfl))
          (pss_one (ps_expr (pe_bm PySem.F.plainAttrs_list PySem.F.slot_list_append PySem.F.type_list_append mt_append (pe_dget hu (pv 1) (pv 4) (fun _ _ => rfl)) (pa_cons (pv 2) pa_nil)))))))
      (pss_one (ps_ret (pe_frz (pv 1)))))), ?_⟩
    have few := W.few
    have sL := standL_len ds
    have snd := standL_nodup ds
    refine ⟨_, rfl, SA, b, ds, n, rfl, hst, few, fun sl H1 hsl g1 hsl1 => ?_⟩
    refine ⟨sl, rfl, ⟨_, .of hsl1⟩, fun D1 hD1 => ?_⟩
    have nslD : sl ≠ D1 := fun z => by rw [z, hD1] at hsl1; cases hsl1
    refine lc_it (walk_list (K := K) (a := sl) (xs := natL (standL ds))) (fun i H2 => Fr0 K H1 H2 ∧ ∃ ts als : List Addr, H2 D1 = some (.lst (ts.map V.ref)) ∧ ts.length = i ∧ als.length = i ∧ als.Nodup ∧ (∀ a ∈ als, H2 a = some (.lst []) ∧ a ≠ D1 ∧ Nw H1 a) ∧
      ∀ (j t : Nat) x a, ts[j]? = some t → (standL ds)[j]? = some x → als[j]? = some a → SqT K H2 t [.int (x : Nat), .ref a]) ⟨.new hD1, [], [], upd_same, rfl, rfl, .nil, by simp, by simp⟩ ?_ ?_ ?_
    · rintro i H2 _ ⟨g, _⟩
      exact .of (g.lst hsl1 (fun z => z))
    · rintro i y H0 H2 hi ⟨g, ts, als, hts, lts, lal, nal, hal, htt⟩ ⟨rfl, hy⟩
      obtain ⟨o, ho, rfl⟩ := natL_get hy
      rw [natL_len] at hi
      refine ⟨rfl, ?_⟩
      refine ⟨_, rfl, Nat.zero_le _, fun a ha => ⟨(by show 2 ≤ sizeLine; decide), fun t ht => ?_⟩⟩
      have gn : Fr0 K H2 (upd (upd H2 a (.lst [])) t (.tup [.int (o : Nat), .ref a])) := (Fr.new ha).new2 ht
      have nta : t ≠ a := fun z => by rw [z, upd_same] at ht; cases ht
      have hta : upd (upd H2 a (.lst [])) t (.tup [.int (o : Nat), .ref a]) a = some (.lst []) := (upd_ne (fun z => nta z.symm)).trans upd_same
      have htt' : SqT K (upd (upd H2 a (.lst [])) t (.tup [.int (o : Nat), .ref a])) t [.int (o : Nat), .ref a] := .of upd_same
      generalize upd (upd H2 a (.lst [])) t (.tup [.int (o : Nat), .ref a]) = H3 at gn hta htt' ⊢
      have hts3 := gn.lst hts (fun z => z)
      have naD : a ≠ D1 := fun z => by rw [z, hts] at ha; cases ha
      have f4 : Fr K (fun c => c = D1) H3 (upd H3 D1 (.lst (ts.map V.ref ++ [V.ref t]))) := .at_ rfl hts3 trivial
      refine ⟨_, hts3, by rw [List.length_map]; exact small1000 (by omega), (g.trans gn).own (.of hD1) hts3 trivial, ts ++ [t], als ++ [a], by rw [List.map_append]; exact upd_same, by rw [List.length_append, lts] <;> rfl, by rw [List.length_append, lal] <;> rfl, ?_, fun c hc => ?_, fun j t' x a' h1 h2 h3 => ?_⟩
      · refine List.nodup_append.mpr ⟨nal, by simp, fun c hc e he => ?_⟩
        rw [List.mem_singleton] at he
        intro z
        have := (hal c hc).1
        rw [z, he, ha] at this
        cases this
      · rcases List.mem_append.mp hc with hc | hc
        · obtain ⟨e1, e2, e3⟩ := hal c hc
          exact ⟨f4.lst (gn.lst e1 (fun z => z)) e2, e2, e3⟩
        · rw [List.mem_singleton.mp hc]
          exact ⟨f4.lst hta naD, naD, g.nw (fun z => z) (.of ha)⟩
      · rcases Nat.lt_or_ge j i with hj | hj
        · rw [List.getElem?_append_left (by omega)] at h1 h3
          exact f4.tup (gn.tup (htt j t' x a' h1 h2 h3))
        · rw [List.getElem?_append_right (by omega)] at h1 h3
          rw [lts] at h1
          rw [lal] at h3
          have hj0 : j - i = 0 := by
            have := (List.getElem?_eq_some_iff.mp h1).1
            rw [List.length_singleton] at this
            omega
          rw [hj0] at h1 h3
          have hji : j = i := by omega
          rw [hji, ho] at h2
          rw [← Option.some.inj h1, ← Option.some.inj h2, ← Option.some.inj h3]
          exact f4.tup htt'
    · rintro H2 ⟨g2, ts, als, hts, lts, lal, nal, hal, htt⟩
      rw [natL_len] at lts lal
      refine ⟨D1, ts, kvA (standL ds) als, rfl, .of hts, pd_of (by rw [kvA_len lal, lts]) fun i t kv h1 h2 => ?_, fun Dd hDd => ?_⟩
      · have hi := (List.getElem?_eq_some_iff.mp h1).1
        obtain ⟨x, hx⟩ : ∃ x, (standL ds)[i]? = some x := ⟨_, List.getElem?_eq_getElem (by omega)⟩
        obtain ⟨a, ha⟩ : ∃ a, als[i]? = some a := ⟨_, List.getElem?_eq_getElem (by omega)⟩
        rw [kvA_get hx ha] at h2
        rw [← Option.some.inj h2]
        exact htt i t x a h1 hx ha
      have em : mergeK [] (kvA (standL ds) als) = kvA (standL ds) als := by
        rw [merge_nd _ _ (by rw [List.nil_append]; exact kvA_nd lal snd), List.nil_append]
      rw [em]
      have g3 : Fr0 K H2 (upd H2 Dd (.dK (kvA (standL ds) als))) := .new hDd
      have hG0 : Grow (upd H2 Dd (.dK (kvA (standL ds) als))) Dd (standL ds) als (als.map fun _ => ([] : List Nat)) :=
        ⟨upd_same, lal, nal, pd_of (by rw [List.length_map]) fun i a e h1 h2 => by
          obtain ⟨a', _, rfl⟩ := map_get h2
          exact g3.lst (hal a (List.mem_of_getElem? h1)).1 (fun z => z)⟩
      have g13 := (g1.trans g2).trans g3
      have nw13 : ∀ c ∈ Dd :: als, Nw H c := fun c hc => by
        rcases List.mem_cons.mp hc with rfl | hc
        · exact (g1.trans g2).nw (fun z => z) (.of hDd)
        · exact g1.nw (fun z => z) (hal c hc).2.2
      generalize upd H2 Dd (.dK (kvA (standL ds) als)) = H3 at g3 hG0 g13 ⊢
      refine ⟨_, rfl, SA, b, ds, n, rfl, hst.fr0 g13, W, fun ah H4 n4 g4 hah => ?_⟩
      have hG4 := hG0.fr g4 (fun z => z) (fun _ _ z => z)
      have lst_ne : ∀ c ∈ als, ∃ e, H4 c = some (.lst e) := fun c hc => by
        obtain ⟨i, hi⟩ := List.mem_iff_getElem?.mp hc
        obtain ⟨e, _, e2⟩ := pd_getL hG4.lists hi
        exact ⟨_, e2⟩
      obtain ⟨oa, aals, la, haD, hah3⟩ := hah
      refine ⟨ah, oa, _, rfl, haD, ?_⟩
      let Done : Nat → Nat → Nat → Prop := fun i k x => ∃ i', i' < i ∧ (standL ds)[i']? = some k ∧ Edge ds x k
      refine for_it (walk_items (d := ah) (o := oa) (kvs := kvA (standL ds) aals)) (fun i σ' H' => (∃ x y z, σ' = [some (.ref SA.st), some (.ref Dd), x, y, z, none]) ∧ Fr K (fun c => c ∈ als) H4 H' ∧ ∃ es, Grow H' Dd (standL ds) als es ∧
        ∀ (j x : Nat) e, (standL ds)[j]? = some x → es[j]? = some e → e.Nodup ∧ ∀ k, k ∈ e ↔ Done i k x) ⟨⟨none, none, none, rfl⟩, .refl _, _, hG4, fun j x e _ h2 => ?_⟩ ?_ ?_ ?_
      · obtain ⟨a', _, rfl⟩ := map_get h2
        exact ⟨.nil, fun k => ⟨fun z => absurd z (List.not_mem_nil), fun ⟨i', z, _⟩ => absurd z (Nat.not_lt_zero _)⟩⟩
      · rintro i σ' H' _ ⟨_, f, _⟩
        exact f.imm _ _ haD trivial
      · rintro i y σ' H' H'' hi ⟨⟨x1, x2, x3, rfl⟩, f, es, hG, hes⟩ ⟨t, u, v, rfl, ht, rfl, hu1, hu2⟩
        rw [kvA_len la] at hi
        obtain ⟨cur, hcur⟩ : ∃ cur, (standL ds)[i]? = some cur := ⟨_, List.getElem?_eq_getElem hi⟩
        obtain ⟨ac, hac⟩ : ∃ ac, aals[i]? = some ac := ⟨_, List.getElem?_eq_getElem (by omega)⟩
        replace hu1 : ((kvA (standL ds) aals)[i]?.map fun kv => kV kv.1) = some u := hu1
        replace hu2 : ((kvA (standL ds) aals)[i]?.map Prod.snd) = some v := hu2
        rw [kvA_get hcur hac] at hu1 hu2
        obtain rfl := Option.some.inj hu1
        obtain rfl := Option.some.inj hu2
        have gt : Fr0 K H' (upd H' t (.tup [kV (.inl (cur : Nat)), .ref ac])) := .new ht
        obtain ⟨as_, hfa, nda, lena, mema⟩ := hah3 i cur ac hcur hac
        have hGt := hG.fr gt (fun z => z) (fun _ _ z => z)
        have hfa2 := gt.fzl (f.fzl hfa)
        have htt : SqT K (upd H' t (.tup [kV (.inl (cur : Nat)), .ref ac])) t [kV (.inl (cur : Nat)), .ref ac] := .of upd_same
        generalize upd H' t (.tup [kV (.inl (cur : Nat)), .ref ac]) = H5 at gt hGt hfa2 htt ⊢
        refine ⟨t, _, rfl, htt, rfl, _, _, rfl, _, _, rfl, rfl, ?_⟩
        refine ⟨_, rfl, ac, rfl, ⟨_, hfa2.seq⟩, ?_⟩
        refine for_it (walk_list (K := K) (a := ac) (xs := natL as_)) (fun m σ2 H6 => (∃ z, σ2 = [some (.ref SA.st), some (.ref Dd), some (.int (cur : Nat)), some (.ref ac), z, none]) ∧ Fr K (fun c => c ∈ als) H5 H6 ∧ ∃ es, Grow H6 Dd (standL ds) als es ∧
          ∀ (j x : Nat) e, (standL ds)[j]? = some x → es[j]? = some e → e.Nodup ∧ ∀ k, k ∈ e ↔ Done i k x ∨ (k = cur ∧ x ∈ as_.take m)) ⟨⟨_, rfl⟩, .refl _, es, hGt, fun j x e h1 h2 => ⟨(hes j x e h1 h2).1, fun k => by rw [(hes j x e h1 h2).2 k]; simp⟩⟩ ?_ ?_ ?_
        · rintro m σ2 H6 _ ⟨_, f6, _⟩
          exact (f6.fzl hfa2).seq
        · rintro m y2 σ2 H60 H6 hm ⟨⟨z, rfl⟩, f6, es6, hG6, hes6⟩ ⟨rfl, hy2⟩
          obtain ⟨one, hone, rfl⟩ := natL_get hy2
          have hE : Edge ds one cur := (mema one).mp (List.mem_of_getElem? hone)
          obtain ⟨ic, a1, e1, h1, h2, h3, h4, h5⟩ := hG6.get snd (hE.left W)
          obtain ⟨nde, mem_e⟩ := hes6 ic one e1 h1 h3
          have el : e1.length ≤ 40 := Nat.le_trans (nd_len nde fun z hz => by
            rcases (mem_e z).mp hz with ⟨i', _, z1, z2⟩ | ⟨rfl, z2⟩
            · exact List.mem_of_getElem? z1
            · exact List.mem_of_getElem? hcur) (Nat.le_trans sL few)
          have hnew : cur ∉ e1 := fun hc => by
            rcases (mem_e cur).mp hc with ⟨i', z0, z1, z2⟩ | ⟨_, z2⟩
            · have := (List.getElem?_inj (List.getElem?_eq_some_iff.mp z1).1 snd).mp (z1.trans hcur.symm)
              omega
            · obtain ⟨m', hm', e'⟩ := List.getElem_of_mem z2
              rw [List.getElem_take] at e'
              rw [List.length_take] at hm'
              have hm'' : as_[m']? = some one := by rw [List.getElem?_eq_getElem (by omega), e']
              have := (List.getElem?_inj (List.getElem?_eq_some_iff.mp hm'').1 nda).mp (hm''.trans hone.symm)
              omega
          refine ⟨_, rfl, _, rfl, Dd, .ref a1, rfl, h4, .inl ⟨rfl, _, .of h5⟩, _, rfl, a1, _, _, rfl, rfl, h5, by rw [natL_len]; exact small1000 (by omega), ⟨_, rfl⟩, ?_⟩
          rw [← natL_snoc]
          refine ⟨f6.trans (.at_ (List.mem_of_getElem? h2) h5 trivial), es6.set ic (e1 ++ [cur]), hG6.put h2, fun j x e hx he => ?_⟩
          by_cases hj : j = ic
          · subst hj
            rw [List.getElem?_set_self ((List.getElem?_eq_some_iff.mp h3).1)] at he
            have he := Option.some.inj he
            subst he
            rw [h1] at hx
            have hx := Option.some.inj hx
            subst hx
            refine ⟨List.nodup_append.mpr ⟨nde, by simp, fun z hz w hw => by rw [List.mem_singleton.mp hw]; exact fun e => hnew (e ▸ hz)⟩, fun k' => ?_⟩
            rw [List.mem_append, mem_e k', take_snoc hone, List.mem_append, List.mem_singleton, List.mem_singleton]
            constructor
            · rintro ((z | ⟨z1, z2⟩) | rfl)
              · exact .inl z
              · exact .inr ⟨z1, .inl z2⟩
              · exact .inr ⟨rfl, .inr rfl⟩
            · rintro (z | ⟨z1, z2⟩)
              · exact .inl (.inl z)
              · exact .inr z1
          · rw [List.getElem?_set_ne (fun z => hj z.symm)] at he
            refine ⟨(hes6 j x e hx he).1, fun k' => ?_⟩
            rw [(hes6 j x e hx he).2 k', take_snoc hone, List.mem_append, List.mem_singleton]
            constructor
            · rintro (z | ⟨z1, z2⟩)
              · exact .inl z
              · exact .inr ⟨z1, .inl z2⟩
            · rintro (z | ⟨z1, z2 | z2⟩)
              · exact .inl z
              · exact .inr ⟨z1, z2⟩
              · rw [z2] at hx
                exact absurd ((List.getElem?_inj (List.getElem?_eq_some_iff.mp hx).1 snd).mp (hx.trans h1.symm)) hj
        · rintro σ2 H6 ⟨⟨z, rfl⟩, f6, es6, hG6, hes6⟩
          rw [natL_len, List.take_length] at hes6
          refine ⟨⟨_, _, _, rfl⟩, f.trans (gt.wide.trans f6), es6, hG6, fun j x e hx he => ⟨(hes6 j x e hx he).1, fun k => ?_⟩⟩
          rw [(hes6 j x e hx he).2 k]
          constructor
          · rintro (⟨i', z1, z2, z3⟩ | ⟨rfl, z2⟩)
            · exact ⟨i', by omega, z2, z3⟩
            · exact ⟨i, by omega, hcur, (mema x).mp z2⟩
          · rintro ⟨i', z1, z2, z3⟩
            rcases Nat.lt_or_ge i' i with z | z
            · exact .inl ⟨i', z, z2, z3⟩
            · have : i' = i := by omega
              subst this
              rw [hcur] at z2
              have z2 := Option.some.inj z2
              subst z2
              exact .inr ⟨rfl, (mema x).mpr z3⟩
      · rintro σ' H' ⟨⟨x1, x2, x3, rfl⟩, f, es, hG, hes⟩
        rw [kvA_len la] at hes
        obtain ⟨mu, wr⟩ := hG.mut
        refine ⟨_, rfl, Dd :: als, mu, fun H6 z6 => ?_⟩
        have f6 : Fr K (fun c => c ∈ Dd :: als) H H6 := z6.fr mu wr ((g13.trans g4).wide.trans (f.mono fun c hc => .tail _ hc)) fun c hc => .inr hc
        refine q Dd H6 (nw13 Dd (.head _)) (f6.narrow fun c hc => .inr (nw13 c hc)) (hG.freeze z6 fun i x e hx he => ?_)
        obtain ⟨h1, h2⟩ := hes i x e hx he
        have h3 : ∀ j, j ∈ e ↔ Edge ds x j := fun j => by
          rw [h2 j]
          constructor
          · rintro ⟨i', _, _, z⟩
            exact z
          · intro z
            obtain ⟨i', hi'⟩ := List.mem_iff_getElem?.mp (z.right W)
            exact ⟨i', (List.getElem?_eq_some_iff.mp hi').1, hi', z⟩
        exact ⟨h1, Nat.le_trans (nd_len h1 fun z hz => ((h3 z).mp hz).right W) (Nat.le_trans sL few), h3⟩
end
end Sn
set_option Elab.async false
set_option linter.all false
set_option maxRecDepth 100000
set_option maxHeartbeats 4000000
namespace Sn
open PySem PySem.Spec PyProof.Rows L2
/-- the rows and the ways that way_back has met -/
structure Met_ (ds : List DM) (start : Nat) (row : List Nat) (wy : Nat → List Nat) : Prop where
  nd : row.Nodup
  head : row[0]? = some start
  sub : ∀ y ∈ row, y ∈ standL ds
  path : ∀ y ∈ row, Path ds (wy y ++ [y]) ∧ (wy y ++ [y])[0]? = some start ∧ ∀ z ∈ wy y, z ∈ row
section
variable {P : Program} {w : World} {K : PySem.W.Frag} {mg : Str → Option Value} {base : Heap} {S : Addr → Prop} {H H1 : Hp} {A : SA} {b : BookD} {ds : List DM} {n : Nat} {rs : List RowM} {bk l : Addr}
/-- the dict of the ways: all met ones but start, in the row's order -/
structure WaysAt (H : Hp) (dw dr : Addr) (start : Nat) (row : List Nat) (wy : Nat → List Nat) (wl : Nat → Addr) : Prop where
  at_ : ∃ kvs, H dw = some (.dK kvs) ∧ kvs.length ≤ row.length ∧ ∀ y : Nat, valV kvs (.inl (y : Nat)) = if y ∈ row ∧ y ≠ start then some (.ref (wl y)) else none
  lists : ∀ y ∈ row, y ≠ start → H (wl y) = some (.lst (natL (wy y))) ∧ wl y ≠ dr
  first : wy start = []
theorem GrpAt.get2 {d : Addr} {st : List Nat} {R : Nat → Nat → Prop} (h : GrpAt H d st R) (nd : st.Nodup) {x : Nat} (hx : x ∈ st) : ∃ a es, (∀ H' : Hp, (∀ o u, H d = some (.frz o u) → H' d = some (.frz o u)) → DGet H' d (.int (x : Nat)) (some (.ref a))) ∧ FzL H a (natL es) ∧ es.Nodup ∧ es.length ≤ 40 ∧ ∀ j, j ∈ es ↔ R j x := by
  obtain ⟨o, als, h1, h2, h3⟩ := h
  obtain ⟨i, hi⟩ := List.mem_iff_getElem?.mp hx
  have hlt := (List.getElem?_eq_some_iff.mp hi).1
  obtain ⟨a, ha⟩ : ∃ a, als[i]? = some a := ⟨_, List.getElem?_eq_getElem (by omega)⟩
  obtain ⟨es, h4, h5⟩ := h3 i x a hi ha
  exact ⟨a, es, fun H' k => .inl ⟨_, .inl (x : Nat), .inr ⟨o, k _ _ h2⟩, rfl, (kvA_val h1 nd hi ha).symm⟩, h4, h5⟩
def spWayBack (K : PySem.W.Frag) : Sp := fun vs H Q _ => ∃ (d : Addr) (start : Nat) (ds : List DM) (n : Nat), vs = [.ref d, .int (start : Nat)] ∧ GrpAt H d (standL ds) (fun j x => Edge ds x j) ∧ WF n ds ∧ start ∈ standL ds ∧
  (∀ H', Fr0 K H H' → ¬ Way ds start start → Q .non H') ∧ ∀ (l : Addr) (p : List Nat) (H' : Hp), Nw H l → Fr0 K H H' → H' l = some (.lst (natL p)) → p.length ≤ 40 → Ring ds p → Q (.ref l) H'
theorem c_way_back (T : Tx K mg) : C8.Cal P w K mg base 1 "way_back" (spWayBack K) [] := by
  refine T.cal T.D_way_back T.g_way_back b_way_back sc_way_back (fun vs H Q E h => ?_) (fun cdv A outer s H vs Q E hr h => ?_)
  · obtain ⟨d, start, ds, n, rfl, _⟩ := h
    rfl
  · obtain ⟨d, start, ds, n, rfl, hG, W, hs, qn, qr⟩ := h
    have hu := hu_of hr
    refine ⟨_, (pss_cons (ps_set (i := 2) sc_way_back.nd rfl (Or.inl rfl) pe_dnewK)
      (pss_cons (ps_set (i := 3) sc_way_back.nd rfl (Or.inl rfl) (pe_lst (pa_cons (pv 1) pa_nil)))
      (pss_cons (ps_set (i := 4) sc_way_back.nd rfl (Or.inl rfl) pe_int)
      (pss_cons (ps_while PassesOwn.never (pt_cmpR op_lt (pv 4) (pe_callB call_len_seq (by rfl) T.fr_len bt_len (pa_cons (pv 3) pa_nil)) (nomark _))
        (pss_cons (ps_for PassesOwn.never rfl (pi_list (pe_dget hu (pv 0) (pe_ix ix_list (pv 3) (pv 4) (fun _ _ => rfl)) (fun _ _ => rfl))) (pg_name (i := 5) sc_way_back.nd rfl (Or.inl rfl))
          (pss_cons (ps_set (i := 6) sc_way_back.nd rfl (Or.inl rfl) (pe_op op_cat (pe_dget2 hu (pv 2) (pe_ix ix_list (pv 3) (pv 4) (fun _ _ => rfl)) (pe_lst pa_nil) ⟨rfl, rfl, rfl, rfl⟩) (pe_lst (pa_cons (pe_ix ix_list (pv 3) (pv 4) (fun _ _ => rfl)) pa_nil))))
          (pss_cons (ps_if (pt_cmpR op_eq (pv 5) (pv 1) (nomark _))
            (pss_one (ps_ret (pv 6)))
            pss_nil)
          (pss_one (ps_if (pt_cmp (pc_dnotin hu (pv 5) (pv 2)))
            (pss_cons (ps_dput hu (pv 2) (pv 5) (pv 6) rfl)
            (pss_one (ps_expr (pe_bm PySem.F.plainAttrs_list PySem.F.slot_list_append PySem.F.type_list_append mt_append (pv 3) (pa_cons (pv 5) pa_nil)))))
            pss_nil)))))
        (pss_one (ps_aug (i := 4) sc_way_back.nd rfl (Or.inl rfl) pe_int ip_add))))
      (pss_one (ps_ret pe_non)))))), ?_⟩
    have few := W.few
    have sL := standL_len ds
    have snd := standL_nodup ds
    refine fun Dw hDw => ?_
    have g1 : Fr0 K H (upd H Dw (.dK [])) := .new hDw
    have hw1 : upd H Dw (.dK []) Dw = some (.dK []) := upd_same
    refine ⟨_, rfl, (by show 1 ≤ sizeLine; decide), fun Dr hDr => ?_⟩
    have nwr : Dw ≠ Dr := fun z => by rw [← z, hw1] at hDr; cases hDr
    have g2 : Fr0 K H (upd (upd H Dw (.dK [])) Dr (.lst [.int (start : Nat)])) := g1.new2 hDr
    have hw2 : upd (upd H Dw (.dK [])) Dr (.lst [.int (start : Nat)]) Dw = some (.dK []) := (upd_ne nwr).trans hw1
    have hr2 : upd (upd H Dw (.dK [])) Dr (.lst [.int (start : Nat)]) Dr = some (.lst (natL [start])) := upd_same
    have nDw : Nw H Dw := .of hDw
    have nDr : Nw H Dr := g1.nw (fun z => z) (.of hDr)
    let H2 : Hp := upd (upd H Dw (.dK [])) Dr (.lst [.int (start : Nat)])
    have g2 : Fr0 K H H2 := g2
    -- at the i-th of the row: all ahead of it are done
    let Pv : Nat → L2.St → Hp → Prop := fun i σ' H' => (∃ x y, σ' = [some (.ref d), some (.int (start : Nat)), some (.ref Dw), some (.ref Dr), some (.int (i : Nat)), x, y]) ∧ Fr K (fun c => c = Dw ∨ c = Dr) H2 H' ∧
      ∃ row wy wl, i ≤ row.length ∧ row.length ≤ 40 ∧ H' Dr = some (.lst (natL row)) ∧ Met_ ds start row wy ∧ WaysAt H' Dw Dr start row wy wl ∧ ∀ (j y : Nat), j < i → row[j]? = some y → ∀ z, Edge ds y z → z ∈ row ∧ z ≠ start
    refine ⟨fun m σ' H' => ∃ i, m + i = 41 ∧ Pv i σ' H', ⟨41, 0, rfl, ⟨none, none, rfl⟩, .refl _, [start], fun _ => [], fun _ => 0, Nat.zero_le _, (by show 1 ≤ 40; decide), hr2, ?_, ?_, ?_⟩, ?_⟩
    · exact ⟨by simp, rfl, fun y hy => by rw [List.mem_singleton.mp hy]; exact hs, fun y hy => by
        rw [List.mem_singleton.mp hy]
        exact ⟨Path.one ds start, rfl, fun z hz => absurd hz (List.not_mem_nil)⟩⟩
    · refine ⟨⟨[], hw2, Nat.zero_le _, fun y => ?_⟩, fun y hy hn => absurd (List.mem_singleton.mp hy) hn, rfl⟩
      rw [if_neg (fun z => z.2 (List.mem_singleton.mp z.1))] <;> rfl
    · intro j y hj
      exact absurd hj (Nat.not_lt_zero _)
    rintro m σ' H' ⟨i, hmi, ⟨x1, y1, rfl⟩, f, row, wy, wl, hil, hrl, hrow, hM, hWy, hdone⟩
    refine ⟨_, rfl, _, rfl, Dr, _, rfl, .inl (.of hrow), _, _, rfl, rfl, _, rfl, ?_⟩
    rw [natL_len]
    by_cases c : i < row.length
    · rw [show decide (((i : Nat) : Int) < ((row.length : Nat) : Int)) = true from decide_eq_true (by omega)]
      obtain ⟨cur, hcur⟩ : ∃ cur, row[i]? = some cur := ⟨_, List.getElem?_eq_getElem c⟩
      have hcs := hM.sub cur (List.mem_of_getElem? hcur)
      obtain ⟨a, es, hdaF, hfa, nda, lena, mema⟩ := (g2.grp hG).get2 snd hcs
      have hda := hdaF H' fun o u h => f.imm _ _ h trivial
      refine ⟨fun σ' H' => Pv (i + 1) σ' H', fun σ' H' h => ⟨m - 1, by omega, i + 1, by omega, h⟩, ?_⟩
      refine ⟨_, rfl, _, rfl, _, rfl, Dr, _, _, .int (cur : Nat), rfl, rfl, .of hrow, at_of rfl (get_natL hcur), d, _, rfl, hda, a, rfl, ⟨_, (f.fzl hfa).seq⟩, ?_⟩
      refine for_it (walk_list (K := K) (a := a) (xs := natL es)) (fun k σ2 H6 => (∃ x y, σ2 = [some (.ref d), some (.int (start : Nat)), some (.ref Dw), some (.ref Dr), some (.int (i : Nat)), x, y]) ∧ Fr K (fun c => c = Dw ∨ c = Dr) H2 H6 ∧
        ∃ row wy wl, row.length ≤ 40 ∧ H6 Dr = some (.lst (natL row)) ∧ Met_ ds start row wy ∧ WaysAt H6 Dw Dr start row wy wl ∧ row[i]? = some cur ∧ (∀ (j y : Nat), j < i → row[j]? = some y → ∀ z, Edge ds y z → z ∈ row ∧ z ≠ start) ∧ ∀ z ∈ es.take k, z ∈ row ∧ z ≠ start)
        ⟨⟨_, _, rfl⟩, f, row, wy, wl, hrl, hrow, hM, hWy, hcur, hdone, by simp⟩ ?_ ?_ ?_
      · rintro k σ2 H6 _ ⟨_, f6, _⟩
        exact (f6.fzl hfa).seq
      · rintro k y2 σ2 H60 H6 hk ⟨⟨x2, z2, rfl⟩, f6, row, wy, wl, hrl, hrow, hM, hWy, hcur, hdone, hpart⟩ ⟨rfl, hy2⟩
        obtain ⟨other, hother, rfl⟩ := natL_get hy2
        have hE : Edge ds cur other := (mema other).mp (List.mem_of_getElem? hother)
        have hcr := List.mem_of_getElem? hcur
        obtain ⟨kvs, hkv1, hkv2, hkv3⟩ := hWy.at_
        have hpart2 : other ∈ row → other ≠ start → ∀ z ∈ es.take (k + 1), z ∈ row ∧ z ≠ start := fun h1 h2 z hz => by
          rw [take_snoc hother] at hz
          rcases List.mem_append.mp hz with hz | hz
          · exact hpart z hz
          · rw [List.mem_singleton.mp hz]; exact ⟨h1, h2⟩
        obtain ⟨hp1, hp2, hp3⟩ := hM.path cur hcr
        have wlen : (wy cur).length ≤ 40 := by
          have := nd_len (m := standL ds) (List.nodup_append.mp hp1.nd).1 fun z hz => hM.sub z (hp3 z hz)
          omega
        have plen : (wy cur ++ [cur]).length ≤ 40 := by
          have := nd_len (m := standL ds) hp1.nd fun z hz => by
            rcases List.mem_append.mp hz with hz | hz
            · exact hM.sub z (hp3 z hz)
            · rw [List.mem_singleton.mp hz]; exact hcs
          omega
        refine ⟨_, rfl, Dw, rfl, .inl ⟨kvs, .inl hkv1⟩, _, rfl, _, rfl, Dr, _, _, .int (cur : Nat), rfl, rfl, .of hrow, at_of rfl (get_natL hcur), Nat.zero_le _, fun z hz => ?_⟩
        have gz : Fr0 K H6 (upd H6 z (.lst [])) := .new hz
        have hzz : upd H6 z (.lst []) z = some (.lst []) := upd_same
        generalize upd H6 z (.lst []) = H7 at gz hzz ⊢
        have hkv7 := gz.dK hkv1 (fun z => z)
        refine ⟨_, .inl ⟨kvs, .inl (cur : Nat), .inl hkv7, rfl, rfl⟩, ?_⟩
        rw [hkv3 cur]
        obtain ⟨la, hla1, hla2⟩ : ∃ la, (if cur ∈ row ∧ cur ≠ start then some (V.ref (wl cur)) else none).getD (V.ref z) = V.ref la ∧ H7 la = some (.lst (natL (wy cur))) := by
          by_cases cs : cur = start
          · refine ⟨z, by rw [if_neg (fun z => z.2 cs)] <;> rfl, ?_⟩
            rw [cs, hWy.first]; exact hzz
          · exact ⟨wl cur, by rw [if_pos ⟨hcr, cs⟩] <;> rfl, gz.lst (hWy.lists cur hcr cs).1 (fun z => z)⟩
        rw [hla1]
        have hrow7 := gz.lst hrow (fun z => z)
        refine ⟨_, rfl, _, rfl, Dr, _, _, .int (cur : Nat), rfl, rfl, .of hrow7, at_of rfl (get_natL hcur), (by show 1 ≤ sizeLine; decide), fun u hu' => ?_⟩
        have gu : Fr0 K H7 (upd H7 u (.lst [.int (cur : Nat)])) := .new hu'
        refine ⟨la, u, _, _, rfl, rfl, gu.lst hla2 (fun z => z), upd_same, by rw [natL_len]; exact Nat.le_of_lt (small1000 (by show _ + 1 ≤ 1000; omega)), fun p hp => ?_⟩
        have gp : Fr0 K (upd H7 u (.lst [.int (cur : Nat)])) (upd (upd H7 u (.lst [.int (cur : Nat)])) p (.lst (natL (wy cur) ++ [.int (cur : Nat)]))) := .new hp
        have hpp : upd (upd H7 u (.lst [.int (cur : Nat)])) p (.lst (natL (wy cur) ++ [.int (cur : Nat)])) p = some (.lst (natL (wy cur ++ [cur]))) := by rw [natL_snoc]; exact upd_same
        have g68 := (gz.trans gu).trans gp
        have npD : p ≠ Dw ∧ p ≠ Dr := ⟨fun z => (by rw [z, (gz.trans gu).dK hkv1 (fun z => z)] at hp; cases hp), fun z => (by rw [z, (gz.trans gu).lst hrow (fun z => z)] at hp; cases hp)⟩
        have nwp : Nw H p := by
          have h8 : Nw H6 p := (gz.trans gu).nw (fun z => z) (.of hp)
          exact g2.nw (fun z => z) (f6.nw (fun z => z.elim npD.1 npD.2) h8)
        generalize upd (upd H7 u (.lst [.int (cur : Nat)])) p (.lst (natL (wy cur) ++ [.int (cur : Nat)])) = H8 at gp hpp g68 ⊢
        have hkv8 := g68.dK hkv1 (fun z => z)
        have hrow8 := g68.lst hrow (fun z => z)
        have f8 := f6.trans g68.wide
        refine ⟨_, rfl, _, rfl, rfl, _, rfl, ?_⟩
        rw [int_eq]
        by_cases co : other = start
        · rw [decide_eq_true co]
          have gE : Fr0 K H H8 := (g2.wide.trans f8).narrow fun c hc => .inr (by
            rcases hc with rfl | rfl
            · exact nDw
            · exact nDr)
          rw [co] at hE
          exact ⟨_, rfl, qr p (wy cur ++ [cur]) H8 nwp gE hpp plen (Path.ring W hp1 hp2 (by simp) hE)⟩
        · rw [decide_eq_false co]
          refine ⟨_, rfl, _, rfl, Dw, _, rfl, .inl ⟨kvs, .inl (other : Nat), .inl hkv8, rfl, rfl⟩, _, rfl, ?_⟩
          rw [hkv3 other]
          by_cases ci : other ∈ row
          · rw [if_pos ⟨ci, co⟩]
            refine ⟨⟨_, _, rfl⟩, f8, row, wy, wl, hrl, hrow8, hM, ⟨⟨kvs, hkv8, hkv2, hkv3⟩, fun y hy hn => ⟨g68.lst (hWy.lists y hy hn).1 (fun z => z), (hWy.lists y hy hn).2⟩, hWy.first⟩, hcur, hdone, hpart2 ci co⟩
          · rw [if_neg (fun z => ci z.1)]
            refine ⟨_, rfl, _, rfl, _, rfl, Dw, _, rfl, DPut.k (k := .inl (other : Nat)) hkv8 (small1000 (by omega)), ?_⟩
            have f9 : Fr K (fun c => c = Dw ∨ c = Dr) H8 (upd H8 Dw (.dK (putK kvs (.inl (other : Nat)) (.ref p)))) := .at_ (.inl rfl) hkv8 trivial
            have hrow9 : upd H8 Dw (.dK (putK kvs (.inl (other : Nat)) (.ref p))) Dr = _ := (upd_ne (fun z => nwr z.symm)).trans hrow8
            have hkv9 : upd H8 Dw (.dK (putK kvs (.inl (other : Nat)) (.ref p))) Dw = some (.dK (putK kvs (.inl (other : Nat)) (.ref p))) := upd_same
            have lst9 : ∀ {x : Addr} {xs : List V}, x ≠ Dr → H8 x = some (.lst xs) → upd H8 Dw (.dK (putK kvs (.inl (other : Nat)) (.ref p))) x = some (.lst xs) := fun {x xs} hx h => f9.lst h fun z => z.elim (fun z => by rw [z, hkv8] at h; cases h) hx
            generalize upd H8 Dw (.dK (putK kvs (.inl (other : Nat)) (.ref p))) = H9 at f9 hrow9 hkv9 lst9 ⊢
            refine ⟨_, rfl, .inl ⟨rfl, _, .of hrow9⟩, _, rfl, Dr, _, _, rfl, rfl, hrow9, by rw [natL_len]; exact small1000 (by omega), ?_⟩
            rw [← natL_snoc]
            have f10 : Fr K (fun c => c = Dw ∨ c = Dr) H9 (upd H9 Dr (.lst (natL (row ++ [other])))) := .at_ (.inr rfl) hrow9 trivial
            have hos := hE.right W
            have hlen2 : (row ++ [other]).length ≤ 40 := by
              have := nd_len (l := row ++ [other]) (m := standL ds) (List.nodup_append.mpr ⟨hM.nd, by simp, fun x hx y hy z => ci (by rw [List.mem_singleton.mp hy] at z; rw [← z]; exact hx)⟩) fun x hx => by
                rcases List.mem_append.mp hx with hx | hx
                · exact hM.sub x hx
                · rw [List.mem_singleton.mp hx]; exact hos
              omega
            have iold : ∀ {j : Nat} {y : Nat}, j < row.length → (row ++ [other])[j]? = some y → row[j]? = some y := fun {j y} hj h => by rwa [List.getElem?_append_left hj] at h
            have hil2 := (List.getElem?_eq_some_iff.mp hcur).1
            refine ⟨⟨_, _, rfl⟩, (f8.trans f9).trans f10, row ++ [other], fun y => if y = other then wy cur ++ [cur] else wy y, fun y => if y = other then p else wl y, hlen2, upd_same, ⟨?_, ?_, ?_, ?_⟩, ⟨⟨_, (upd_ne nwr).trans hkv9, ?_, fun y => ?_⟩, fun y hy hn => ?_, ?_⟩, ?_, fun j y hj hy z hz => ?_, fun z hz => ?_⟩
            · exact List.nodup_append.mpr ⟨hM.nd, by simp, fun x hx y hy z => ci (by rw [List.mem_singleton.mp hy] at z; rw [← z]; exact hx)⟩
            · rw [List.getElem?_append_left (List.getElem?_eq_some_iff.mp hM.head).1]; exact hM.head
            · intro x hx
              rcases List.mem_append.mp hx with hx | hx
              · exact hM.sub x hx
              · rw [List.mem_singleton.mp hx]; exact hos
            · intro y hy
              by_cases cy : y = other
              · subst cy
                simp only [if_true]
                refine ⟨Path.snoc hp1 (by simp) hE fun z => ?_, ?_, fun z hz => ?_⟩
                · rcases List.mem_append.mp z with z | z
                  · exact ci (hp3 _ z)
                  · exact ci (by rw [List.mem_singleton.mp z]; exact hcr)
                · rw [List.getElem?_append_left (by rw [List.length_append, List.length_singleton]; omega)]
                  exact hp2
                · rcases List.mem_append.mp hz with hz | hz
                  · exact List.mem_append_left _ (hp3 z hz)
                  · rw [List.mem_singleton.mp hz]; exact List.mem_append_left _ hcr
              · rcases List.mem_append.mp hy with hy | hy
                · simp only [if_neg cy]
                  obtain ⟨h1, h2, h3⟩ := hM.path y hy
                  exact ⟨h1, h2, fun z hz => List.mem_append_left _ (h3 z hz)⟩
                · exact absurd (List.mem_singleton.mp hy) cy
            · have := length_putK kvs (.inl (other : Nat)) (V.ref p)
              rw [List.length_append, List.length_singleton]
              omega
            · rw [valV_put, hkv3 y]
              by_cases cy : y = other
              · subst cy
                rw [if_pos rfl, if_pos ⟨List.mem_append_right _ (List.mem_singleton.mpr rfl), co⟩, if_pos rfl]
              · rw [if_neg (fun z => cy (by have := Sum.inl.inj z; omega)), if_neg cy]
                by_cases cr : y ∈ row ∧ y ≠ start
                · rw [if_pos cr, if_pos ⟨List.mem_append_left _ cr.1, cr.2⟩]
                · rw [if_neg cr, if_neg (fun z => cr ⟨(List.mem_append.mp z.1).resolve_right fun z => cy (List.mem_singleton.mp z), z.2⟩)]
            · by_cases cy : y = other
              · subst cy
                simp only [if_true]
                exact ⟨(upd_ne npD.2).trans (lst9 npD.2 hpp), npD.2⟩
              · simp only [if_neg cy]
                obtain ⟨h1, h2⟩ := hWy.lists y ((List.mem_append.mp hy).resolve_right fun z => cy (List.mem_singleton.mp z)) hn
                exact ⟨(upd_ne h2).trans (lst9 h2 (g68.lst h1 (fun z => z))), h2⟩
            · show (if start = other then _ else _) = _
              rw [if_neg (fun z => co z.symm)]
              exact hWy.first
            · rw [List.getElem?_append_left hil2]; exact hcur
            · obtain ⟨h1, h2⟩ := hdone j y hj (iold (by omega) hy) z hz
              exact ⟨List.mem_append_left _ h1, h2⟩
            · rw [take_snoc hother] at hz
              rcases List.mem_append.mp hz with hz | hz
              · obtain ⟨h1, h2⟩ := hpart z hz
                exact ⟨List.mem_append_left _ h1, h2⟩
              · rw [List.mem_singleton.mp hz]
                exact ⟨List.mem_append_right _ (List.mem_singleton.mpr rfl), co⟩
      · rintro σ2 H6 ⟨⟨x2, z2, rfl⟩, f6, row, wy, wl, hrl, hrow, hM, hWy, hcur, hdone, hpart⟩
        rw [natL_len, List.take_length] at hpart
        refine ⟨_, rfl, _, _, rfl, rfl, ⟨_, _, rfl⟩, f6, row, wy, wl, (List.getElem?_eq_some_iff.mp hcur).1, hrl, hrow, hM, hWy, fun j y hj hy z hz => ?_⟩
        rcases Nat.lt_or_ge j i with hji | hji
        · exact hdone j y hji hy z hz
        · have : j = i := by omega
          rw [this, hcur] at hy
          rw [← Option.some.inj hy] at hz
          exact hpart z ((mema z).mpr hz)
    · rw [show decide (((i : Nat) : Int) < ((row.length : Nat) : Int)) = false from decide_eq_false (by omega)]
      have hi : i = row.length := by omega
      subst hi
      refine qn H' ((g2.wide.trans f).narrow fun c z => .inr (z.elim (fun z => by rw [z]; exact nDw) fun z => by rw [z]; exact nDr)) (no_way_back (row := row) (List.mem_of_getElem? hM.head) fun y hy z hE => ?_)
      obtain ⟨j, hj⟩ := List.mem_iff_getElem?.mp hy
      exact hdone j y (List.getElem?_eq_some_iff.mp hj).1 hj z hE
end
end Sn
set_option Elab.async false
set_option linter.all false
set_option maxRecDepth 100000
set_option maxHeartbeats 4000000
/-! min(xs, key=len, default=None) of a list of lists. -/
namespace Sn
open PySem PySem.Spec PyProof.Rows L2
def tMinLen (K : PySem.W.Frag) (ta : TA) : TE := fun σ H Q => ta σ H fun vs H1 => ∃ (l : Addr) (as : List Addr) (ls : List (List V)), vs = [.ref l] ∧ SqL K H1 l (as.map V.ref) ∧ Paired (fun a xs => SqL K H1 a xs) as ls ∧ (as = [] → Q .non H1) ∧ (∀ (i : Nat) a, as[i]? = some a → Q (.ref a) H1)
theorem pe_minlen {X : Cx} {e : Expr} {ta : TA} {np p3 pos kp kp2 cp2 : Pos} {cj : Nat} (hcalm : X.calm = true) (hg : Gl X "min") (hm : X.mg "min" = none) (hv : bootBuiltins "min" = some (.builtin "min")) (hgl : Gl X "len") (hml : X.mg "len" = none) (hvl : bootBuiltins "len" = some (.builtin "len")) (ha : PA X [e] ta)
    (hs : backTo pos (starEach [e] X.env) = (false, eval e X.env) :: backTo pos (starEach [] X.env) := by rfl) (hpl : (backTo pos (starEach [e] X.env)).any (·.1) = false := by rfl) :
    PE X (.Call (.Name "min" np) [e] [⟨some "key", .Name "len" p3, kp⟩, ⟨some "default", .Constant .none cj cp2, kp2⟩] pos) (tMinLen X.K ta) := by
  refine ⟨fun pins s σ H Q I h => ?_⟩
  refine wpAny_Call_Name_kw (ld_blt I hg hm hv ?_)
  refine PyProof.Rows.callWith_kw ?_ hs hpl rfl rfl
  refine thn (ha.run pos pins s σ H _ I h) fun us s2 ⟨vs, H2, I2, r1, a, as, ls, ea, hl, hls, h0, hbest⟩ => ?_
  subst ea
  obtain ⟨u, rfl, ru⟩ := vals1 r1
  cases ru
  show wpAny _ _ (evalAll [(do let v ← eval (.Name "len" p3) X.env; standAt pos; pure v), (do let v ← eval (.Constant .none cj cp2) X.env; standAt pos; pure v)]) _ _ s2
  refine wpAny_evalAll_cons (wpAny_bind (ld_blt I2 hgl hml hvl (wpAny_bind (wpAny_standAt (wpAny_pure ?_)))))
  refine wpAny_evalAll_cons (wpAny_bind (Constant_none (wpAny_bind (wpAny_standAt (wpAny_pure (wpAny_pure ?_))))))
  show wpAny _ _ (call (.builtin "min") [.ref a] [(Str.ofString "key", .builtin "len"), (Str.ofString "default", .none)]) _ _ s2
  obtain ⟨its, rv, pl, hlen⟩ := I2.list hl
  have eits := refs_at rv
  subst eits
  have haL : a < s2.heap.objs.size := pl.lt
  have hcalm1 : X.A.in1.handled = none := I2.ok.hd hcalm
  refine call_min_walkKBD (iter_anyList pl.isList fun s3 e3 st hfp hlI => ?_)
  have W := (Walks.list (prog := X.prog) (w := X.w) (A := X.A.in1) hcalm1 s2.heap.objs.size a hlI (as.map Value.ref).toArray).toS
  have fpS : ∀ b, s2.heap.objs.size ≤ b → FpOk X pins H2 b := fun b hb => I2.fpOk hb (I2.hok.fresh hb)
  have sz3 : s3.heap.objs.size = s2.heap.objs.size + 1 := by rw [e3]; exact Heap.size_push ..
  have I3 : L2.Inv X pins σ H2 s3 := by rw [e3]; exact I2.kept (t' := s2.toks) fun b o e => Heap.get?_push_of_some _ e
  have hval : ∀ (i : Nat) (v : Value), (as.map Value.ref).toArray[i]? = some v → ∃ b, as[i]? = some b ∧ v = .ref b := fun i v hv => by
    have hv : (as.map Value.ref)[i]? = some v := by simpa using hv
    rw [List.getElem?_map] at hv
    cases e : as[i]? with
    | none => rw [e] at hv; cases hv
    | some b => rw [e] at hv; exact ⟨b, rfl, (Option.some.inj hv).symm⟩
  let key : Nat → Int := fun i => (((ls[i]?).map List.length).getD 0 : Nat)
  refine ⟨_, _, _, _, _, _, _, fun s' => L2.Inv X pins σ H2 s', fun i k _ => ∃ t, k = .int (key i) t, fun i j => decide (key i < key j), rfl, W, st, hfp, ?_, I3, fun hn s' hJ => ?_, fun hn v s' hP hJ => ?_⟩
  · refine ⟨fun s s' J1 m => ?_, fun _ _ _ _ h _ => h, fun i v s4 o Q4 E4 hi hP J1 hst hS hQ => ?_, fun i j ki kj s4 Q4 E4 _ ⟨t, h1⟩ ⟨t', h2⟩ hq => ?_⟩
    · obtain ⟨hp', g', d', t', os'⟩ := s'
      obtain rfl : g' = s.gens := m.gens
      obtain rfl : d' = s.drawn := m.drawn
      obtain rfl : os' = s.os := m.os
      refine J1.turnedL (t' := t') (ch := s3.heap.objs.size :: [s2.heap.objs.size]) (fun b o hb e => m.heap b o hb e) fun b hb => ?_
      rcases List.mem_cons.mp hb with e | e
      · rw [e, sz3]; exact fpS _ (Nat.le_succ _)
      · rw [List.mem_singleton.mp e]; exact fpS _ (Nat.le_refl _)
    · obtain ⟨b, hb, rfl⟩ := hval i v hP
      obtain ⟨xs, hxs, hbx⟩ := pd_getL hls hb
      obtain ⟨its', r', pl', hz⟩ := J1.list hbx
      have hlen' := r'.length
      have hn := line63
      refine Calls.call_len_list pl'.isList (by simp only [List.size_toArray]; omega) ?_
      refine hQ _ _ (J1.tok _) hst hS ⟨s4.toks + 1, ?_⟩ fun _ _ h => h
      rw [show key i = (xs.length : Nat) from by show (((((ls[i]?).map List.length).getD 0 : Nat)) : Int) = _; rw [hxs] <;> rfl, hlen', List.size_toArray]
    · subst h1 h2
      exact CmpOf.ints_lt (P := fun i v => ∃ t, v = .int (key i) t) key (fun i v z => z) i j _ _ s4 Q4 E4 ⟨t, rfl⟩ ⟨t', rfl⟩ hq
  · have hne : as = [] := by
      have : as.length = 0 := by simpa using hn
      exact List.length_eq_zero_iff.mp this
    exact ⟨.non, H2, hJ, rfl, h0 hne⟩
  · obtain ⟨b, hb, rfl⟩ := hval _ v hP
    exact ⟨.ref b, H2, hJ, rfl, hbest _ b hb⟩
end Sn
set_option Elab.async false
set_option linter.all false
set_option maxRecDepth 100000
set_option maxHeartbeats 4000000
namespace Sn
open PySem PySem.Spec PyProof.Rows L2
section
variable {P : Program} {w : World} {K : PySem.W.Frag} {mg : Str → Option Value} {base : Heap} {S : Addr → Prop} {H H1 : Hp} {A : SA} {b : BookD} {ds : List DM} {n : Nat} {rs : List RowM} {bk l : Addr}
def spRingBy (K : PySem.W.Frag) : Sp := fun vs H Q _ => ∃ (A : SA) (b : BookD) (ds : List DM) (n : Nat), vs = [.ref A.st] ∧ StepAt K H A b ds n ∧ WF n ds ∧
  (∀ H', Fr0 K H H' → ¬ Cyc ds → Q .non H') ∧ ∀ (l : Addr) (p : List Nat) (H' : Hp), Nw H l → Fr0 K H H' → H' l = some (.lst (natL p)) → p.length ≤ 40 → Ring ds p → Q (.ref l) H'
theorem c_ring_by (T : Tx K mg) : C8.Cal P w K mg base 6 "ring_by" (spRingBy K) [] := by
  have c_behind_each : C8.Cal P w K mg base 5 "behind_each" (spBehindOf K) [] := c_behind_each T
  have c_way_back : C8.Cal P w K mg base 1 "way_back" (spWayBack K) [] := c_way_back T
  refine T.cal T.D_ring_by T.g_ring_by b_ring_by sc_ring_by (fun vs H Q E h => ?_) (fun cdv A outer s H vs Q E hr h => ?_)
  · obtain ⟨A, b, ds, n, rfl, _⟩ := h
    rfl
  · obtain ⟨SA, b, ds, n, rfl, hst, W, qn, qr⟩ := h
    refine ⟨_, (pss_cons (ps_set (i := 1) sc_ring_by.nd rfl (Or.inr rfl) (C8.pe_c c_behind_each hr (by decide) rfl (pa_cons (pv 0) pa_nil)))
      (pss_cons (ps_setLc (i := 2) (own := [("start", 3)]) (by rfl) sc_ring_by.nd rfl rfl (sw_true rfl rfl rfl (by decide +kernel)) (pi_keys (pv 1)) (blkOk_by (own := [("start", 3)]) (N := n_ring_by) (sc := defScope s_ring_by) (by decide +kernel)) (fun _ _ _ _ _ => (pg_name (i := 3) sc_ring_by.nd rfl (Or.inl rfl))) (fun _ _ _ _ _ => pts_nil) (fun _ _ _ _ _ => (C8.pe_c c_way_back hr (by decide) rfl (pa_cons (pv 1) (pa_cons (pv 3) pa_nil)))))
      (pss_one (ps_ret (pe_minlen (by rfl) (by rfl) T.fr_min bt_min (by rfl) T.fr_len bt_len (pa_cons (pe_lc (own := [("way", 4)]) (by rfl) sc_ring_by.nd (pi_list (pv 2)) (blkOk_by (own := [("way", 4)]) (N := n_ring_by) (sc := defScope s_ring_by) (by decide +kernel)) (fun _ _ _ _ _ => (pg_name (i := 4) sc_ring_by.nd rfl (Or.inl rfl))) (fun _ _ _ _ _ => (pts_one (pt_cmpR op_notN (pv 4) pe_non (nomark _)))) (fun _ _ _ _ _ => (pv 4))) pa_nil)))))), ?_⟩
    have few := W.few
    have sL := standL_len ds
    have snd := standL_nodup ds
    refine ⟨_, rfl, SA, b, ds, n, rfl, hst, W, fun d H1 n1 g1 hG => ?_⟩
    have hG0 := hG
    obtain ⟨o, als, la, hd, _⟩ := hG0
    refine ⟨_, rfl, d, o, rfl, .inl ⟨_, hd, fun D hD => ?_⟩⟩
    let Ok : Hp → V → Nat → Prop := fun H2 v x => (v = .non ∧ ¬ Way ds x x) ∨ ∃ l p, v = .ref l ∧ H2 l = some (.lst (natL p)) ∧ Ring ds p ∧ p.length ≤ 40 ∧ l ≠ D ∧ Nw H1 l
    have okfr : ∀ {H2 H3 : Hp} {v : V} {x : Nat}, Fr K (fun c => c = D) H2 H3 → Ok H2 v x → Ok H3 v x := fun {H2 H3 v x} f h => by
      rcases h with h | ⟨l, p, h1, h2, h3, h4, h5, h6⟩
      · exact .inl h
      · exact .inr ⟨l, p, h1, f.lst h2 h5, h3, h4, h5, h6⟩
    refine lc_it (walk_keys (d := d) (o := o) (kvs := kvA (standL ds) als)) (fun i H2 => Fr0 K H1 H2 ∧ ∃ vs : List V, H2 D = some (.lst vs) ∧ vs.length = i ∧ ∀ (j : Nat) v x, vs[j]? = some v → (standL ds)[j]? = some x → Ok H2 v x) ⟨.new hD, [], upd_same, rfl, by simp⟩ ?_ ?_ ?_
    · rintro i H2 _ ⟨g, _⟩
      exact g.imm _ _ hd trivial
    · rintro i y H0 H2 hi ⟨g, vs, hq, hl, hok⟩ ⟨rfl, k0, v0, hk0, rfl⟩
      rw [kvA_len la] at hi
      obtain ⟨x, hx⟩ : ∃ x, (standL ds)[i]? = some x := ⟨_, List.getElem?_eq_getElem hi⟩
      obtain ⟨a, ha⟩ : ∃ a, als[i]? = some a := ⟨_, List.getElem?_eq_getElem (by omega)⟩
      rw [kvA_get hx ha] at hk0
      obtain ⟨rfl, rfl⟩ := Prod.mk.inj (Option.some.inj hk0)
      have next : ∀ (H3 : Hp) (v : V), Fr0 K H2 H3 → Ok H3 v x → ∃ acc, H3 D = some (.lst acc) ∧ acc.length < sizeLine ∧ Fr0 K H1 (upd H3 D (.lst (acc ++ [v]))) ∧ ∃ vs : List V, upd H3 D (.lst (acc ++ [v])) D = some (.lst vs) ∧ vs.length = i + 1 ∧ ∀ (j : Nat) v' x', vs[j]? = some v' → (standL ds)[j]? = some x' → Ok (upd H3 D (.lst (acc ++ [v]))) v' x' := fun H3 v g3 hv => by
        have hq3 := g3.lst hq (fun z => z)
        have f4 : Fr K (fun c => c = D) H3 (upd H3 D (.lst (vs ++ [v]))) := .at_ rfl hq3 trivial
        refine ⟨vs, hq3, small1000 (by omega), (g.trans g3).own (.of hD) hq3 trivial, vs ++ [v], upd_same, by rw [List.length_append, hl] <;> rfl, fun j v' x' h1 h2 => ?_⟩
        rcases Nat.lt_or_ge j i with hj | hj
        · rw [List.getElem?_append_left (by omega)] at h1
          exact okfr f4 (okfr g3.wide (hok j v' x' h1 h2))
        · rw [List.getElem?_append_right (by omega), hl] at h1
          have hj0 : j - i = 0 := by
            have := (List.getElem?_eq_some_iff.mp h1).1
            rw [List.length_singleton] at this
            omega
          rw [hj0] at h1
          have hji : j = i := by omega
          rw [hji, hx] at h2
          have e1 : v = v' := Option.some.inj h1
          have e2 : x = x' := Option.some.inj h2
          rw [← e2]
          rw [← e1]
          exact okfr f4 hv
      refine ⟨rfl, ?_⟩
      refine ⟨_, rfl, _, rfl, d, x, ds, n, rfl, g.grp hG, W, List.mem_of_getElem? hx, fun H3 g3 hn => ?_, fun l p H3 n3 g3 hp hp40 hR => ?_⟩
      · exact next H3 .non g3 (.inl ⟨rfl, hn⟩)
      · refine next H3 (.ref l) g3 (.inr ⟨l, p, rfl, hp, hR, hp40, fun z => n3.ne hq (fun ps z => nomatch z) z.symm, g.nw (fun z => z) n3⟩)
    · rintro H2 ⟨g2, vs, hq, hl, hok⟩
      rw [kvA_len la] at hl
      refine ⟨_, rfl, D, rfl, ⟨_, .of hq⟩, fun D2 hD2 => ?_⟩
      have nD2 : ∀ {v : V} {x : Nat}, Ok H2 v x → ∀ l, v = .ref l → l ≠ D2 := fun {v x} h l e z => by
        rcases h with ⟨h, _⟩ | ⟨l', p, h1, h2, _⟩
        · rw [h] at e; cases e
        · rw [h1] at e
          rw [V.ref.inj e, z, hD2] at h2
          cases h2
      refine lc_it (walk_list (K := K) (a := D) (xs := vs)) (fun i H3 => Fr0 K H2 H3 ∧ ∃ (as : List Addr) (ps : List (List Nat)), H3 D2 = some (.lst (as.map V.ref)) ∧ as.length ≤ i ∧ Paired (fun a p => H3 a = some (.lst (natL p)) ∧ Ring ds p ∧ p.length ≤ 40 ∧ a ≠ D2 ∧ Nw H1 a) as ps ∧
        (as = [] → ∀ (j : Nat) x, j < i → (standL ds)[j]? = some x → ¬ Way ds x x)) ⟨.new hD2, [], [], upd_same, Nat.le_refl _, .nil, fun _ j x hj => absurd hj (Nat.not_lt_zero _)⟩ ?_ ?_ ?_
      · rintro i H3 _ ⟨g, _⟩
        exact .of (g.lst hq (fun z => z))
      · rintro i y H0 H3 hi ⟨g, as, ps, hq3, hl3, hp3, hn3⟩ ⟨rfl, hy⟩
        obtain ⟨x, hx⟩ : ∃ x, (standL ds)[i]? = some x := ⟨_, List.getElem?_eq_getElem (by omega)⟩
        have hv := hok i y x hy hx
        refine ⟨rfl, ?_⟩
        rcases id hv with ⟨rfl, hw⟩ | ⟨l, p, rfl, h2, h3, h4, h5, h6⟩
        · refine ⟨_, rfl, rfl, _, rfl, ?_⟩
          refine ⟨g, as, ps, hq3, by omega, hp3, fun e j x' hj hx' => ?_⟩
          rcases Nat.lt_or_ge j i with z | z
          · exact hn3 e j x' z hx'
          · have : j = i := by omega
            rw [this, hx] at hx'
            rw [← Option.some.inj hx']; exact hw
        · refine ⟨_, rfl, rfl, _, rfl, ?_⟩
          have f4 : Fr K (fun c => c = D2) H3 (upd H3 D2 (.lst (as.map V.ref ++ [V.ref l]))) := .at_ rfl hq3 trivial
          have nl := nD2 hv l rfl
          refine ⟨_, rfl, _, hq3, by rw [List.length_map]; exact small1000 (by omega), g.own (.of hD2) hq3 trivial, as ++ [l], ps ++ [p], by rw [List.map_append]; exact upd_same, by rw [List.length_append, List.length_singleton]; omega, ?_, fun e => ?_⟩
          · exact pd_snoc (pd_map hp3 fun _ _ ⟨z1, z2, z3, z4, z5⟩ => ⟨f4.lst z1 z4, z2, z3, z4, z5⟩) ⟨f4.lst (g.lst h2 (fun z => z)) nl, h3, h4, nl, h6⟩
          · exact absurd (congrArg List.length e) (by simp)
      · rintro H3 ⟨g, as, ps, hq3, hl3, hp3, hn3⟩
        have gE := (g1.trans g2).trans g
        refine ⟨D2, as, ps.map natL, rfl, .of hq3, pd_of (by rw [List.length_map]; exact pd_len hp3) fun i a xs h1 h2 => ?_, fun e => qn H3 gE (not_cyc W fun x hx => ?_), fun i a h => ?_⟩
        · obtain ⟨p, hp, rfl⟩ := map_get h2
          obtain ⟨p', e1, z1, _⟩ := pd_getL hp3 h1
          rw [hp] at e1
          rw [Option.some.inj e1]
          exact .of z1
        · obtain ⟨j, hj⟩ := List.mem_iff_getElem?.mp hx
          exact hn3 e j x (by rw [hl]; exact (List.getElem?_eq_some_iff.mp hj).1) hj
        · obtain ⟨p, e1, z1, z2, z3, z4, z5⟩ := pd_getL hp3 h
          exact qr a p H3 (g1.nw (fun z => z) z5) gE z1 z3 z2
def spRingOf (K : PySem.W.Frag) : Sp := fun vs H Q _ => ∃ (bk l : Addr) (b : BookD) (rs : List RowM), vs = [.ref bk, .ref l] ∧ RunAt K H bk l b rs ∧
  (∀ H', Fr0 K H H' → ¬ Cyc (play rs) → Q .non H') ∧ ∀ (l : Addr) (p : List Nat) (H' : Hp), Nw H l → Fr0 K H H' → H' l = some (.lst (natL p)) → p.length ≤ 40 → Ring (play rs) p → Q (.ref l) H'
theorem c_ring_of (T : Tx K mg) (B : TbB K mg base) : C8.Cal P w K mg base 7 "ring_of" (spRingOf K) [] := by
  have c_played : C8.Cal P w K mg base 6 "played" (spPlayed K) [] := c_played T B
  have c_ring_by : C8.Cal P w K mg base 6 "ring_by" (spRingBy K) [] := c_ring_by T
  refine T.cal T.D_ring_of T.g_ring_of b_ring_of sc_ring_of (fun vs H Q E h => ?_) (fun cdv A outer s H vs Q E hr h => ?_)
  · obtain ⟨bk, l, b, rs, rfl, _⟩ := h
    rfl
  · obtain ⟨bk, l, b, rs, rfl, ⟨hb, hB, hrs, hrun, ht⟩, qn, qr⟩ := h
    refine ⟨_, (pss_cons (ps_asg (C8.pe_c c_played hr (by decide) rfl (pa_cons (pv 0) (pa_cons (pv 1) pa_nil))) (pg_tup rfl (pgs_cons (pg_name (i := 2) sc_ring_of.nd rfl (Or.inl rfl)) (pgs_cons (pg_name (i := 3) sc_ring_of.nd rfl (Or.inl rfl)) pgs_nil))))
      (pss_one (ps_ret (C8.pe_c c_ring_by hr (by decide) rfl (pa_cons (pv 2) pa_nil))))), ?_⟩
    refine ⟨_, rfl, _, rfl, bk, l, b, rs, rfl, hb, hB, hrs, hrun, ht, fun p A H1 g1 hp => ?_⟩
    obtain ⟨⟨told, ht1⟩, hst⟩ := hp
    refine ⟨p, _, rfl, ht1, rfl, _, _, rfl, _, _, rfl, rfl, ?_⟩
    exact ⟨_, rfl, A, b, play rs, rs.length, rfl, hst, wf_play hrun.goes, fun H2 g2 hn => qn H2 (g1.trans g2) hn, fun l2 p2 H2 n2 g2 hp2 h40 hR => qr l2 p2 H2 (g1.nw (fun z => z) n2) (g1.trans g2) hp2 h40 hR⟩
end
end Sn
set_option Elab.async false
set_option linter.all false
set_option maxRecDepth 100000
set_option maxHeartbeats 2000000
/-! a def within a def, with closure and with cells of its own -/
namespace NdefX
open PySem PySem.Spec PyProof.Rows L2 LamX
structure NScopeC (N ps fr : List Str) (sc : Scope) : Prop where
  kind : sc.kind = .function
  co : sc.isCoroutine = false
  gen : sc.isGenerator = false
  nd : N.Nodup
  pre : N.take (ps.length + fr.length) = ps ++ fr
  par : ∀ x ∈ ps, sc.names.lookup x = some .local ∨ sc.names.lookup x = some .cell
  uniq : ∀ y ∈ sc.names, sc.names.lookup y.1 = some y.2
  free : ∀ y ∈ sc.names, y.2 = .free → y.1 ∈ fr
  frk : ∀ x ∈ fr, sc.names.lookup x = some .free
def nscCB (N ps fr : List Str) (sc : Scope) : Bool :=
  decide (sc.kind = .function) && !sc.isCoroutine && !sc.isGenerator && decide N.Nodup && decide (N.take (ps.length + fr.length) = ps ++ fr) && ps.all (fun x => decide (sc.names.lookup x = some .local) || decide (sc.names.lookup x = some .cell)) && sc.names.all (fun y => decide (sc.names.lookup y.1 = some y.2)) && sc.names.all (fun y => !decide (y.2 = .free) || decide (y.1 ∈ fr)) && fr.all (fun x => decide (sc.names.lookup x = some .free))
theorem nscopeC_by {N ps fr : List Str} {sc : Scope} (h : nscCB N ps fr sc = true) : NScopeC N ps fr sc := by
  unfold nscCB at h
  simp only [Bool.and_eq_true, Bool.not_eq_true', decide_eq_true_eq, List.all_eq_true, Bool.or_eq_true, decide_eq_false_iff_not] at h
  obtain ⟨⟨⟨⟨⟨⟨⟨⟨h1, h2⟩, h3⟩, h4⟩, h5⟩, h6⟩, h7⟩, h8⟩, h9⟩ := h
  exact ⟨h1, h2, h3, h4, h5, h6, h7, fun y hy e => (h8 y hy).elim (fun z => absurd e z) id, h9⟩
theorem cf_app : ∀ (names : List (Str × NameKind)) (n : Nat) (acc : List (Str × Addr)), cellsFrom n names acc = cellsFrom n names [] ++ acc
  | [], _, acc => by simp [cellsFrom]
  | (nm, k) :: r, n, acc => by
    unfold cellsFrom
    split
    · rw [cf_app r (n + 1) ((nm, n) :: acc), cf_app r (n + 1) [(nm, n)]]
      simp
    · exact cf_app r n acc
theorem cf_mem : ∀ {names : List (Str × NameKind)} {n : Nat} {x : Str} {c : Addr}, (x, c) ∈ cellsFrom n names [] → (x, NameKind.cell) ∈ names
  | [], _, _, _, h => by simp [cellsFrom] at h
  | (nm, k) :: r, n, x, c, h => by
    unfold cellsFrom at h
    split at h
    · rename_i hk
      rw [cf_app] at h
      rcases List.mem_append.mp h with h | h
      · exact List.mem_cons_of_mem _ (cf_mem h)
      · have e : (x, c) = (nm, n) := by simpa using h
        cases e
        have ek : k = NameKind.cell := eq_of_beq hk
        rw [ek]
        exact List.mem_cons_self
    · exact List.mem_cons_of_mem _ (cf_mem h)
/-- the body's environment: own cells ahead of the captured ones -/
abbrev envFC (F : NF) (f L : Addr) : Env := PySem.W.envX F.qual F.scope L f (.ref F.c) (cellsFrom (L + 1) F.scope.names F.cl)
def ncxC (CX : CXT) (P : Program) (w : World) (K : PySem.W.Frag) (mg : Str → Option Value) (base : Heap) (N : List Str) (F : NF) (f : Addr) (A : Around) (outer : List Env) (s : Shared) (H : Hp) (E : XK) : Cx where
  prog := P
  w := w
  K := K
  mg := mg
  base := base
  A := A.deeper (envFC F f s.heap.objs.size)
  N := N
  s_0 := s
  H_0 := H
  env := envFC F f s.heap.objs.size
  outer := outer
  stack := envFC F f s.heap.objs.size :: outer
  ex := []
  calm := true
  fn := fun _ => false
  pn := []
  xe := fun e s' => wpAny (model P w) (A.deeper (envFC F f s.heap.objs.size)) (leaving (envFC F f s.heap.objs.size) e) (fun _ s'' => CX outer H s E e s'') (fun e' s'' => CX outer H s E e' s'') s'
theorem store_cells {env : Env} {cs : List (Str × Addr)} {n : Str} {v : Value} (h : env.cells.lookup n = cs.lookup n) : storeName env n v = storeName { env with cells := cs } n v := by
  unfold storeName
  have e : PySem.cellOf env n = PySem.cellOf { env with cells := cs } n := by
    unfold PySem.cellOf
    rw [h]
  rw [e]
  rfl
theorem forIn_cong {f g : Str × Value → PUnit → Sem (ForInStep PUnit)} : ∀ (l : List (Str × Value)) (u : PUnit), (∀ x ∈ l, ∀ u, f x u = g x u) → forIn l u f = forIn l u g
  | [], u, _ => by rw [List.forIn_nil, List.forIn_nil]
  | x :: r, u, h => by
    rw [List.forIn_cons, List.forIn_cons, h x List.mem_cons_self]
    congr 1
    funext z
    cases z with
    | done b => rfl
    | yield b => exact forIn_cong r b fun y hy => h y (List.mem_cons_of_mem _ hy)
section
variable {M : Model} {A : Around} {E : Value → Shared → Prop} {s : Shared}
theorem newEnvC {scope : Scope} {globals : Addr} {cl : List (Str × Addr)} {binds : List (Str × Value)} {qual : Str} {func : Option Addr} {code : Value} {builtins : Addr} {Q : Env → Shared → Prop}
    (hk : scope.kind = .function) (hcl : ∀ x ∈ binds, cl.lookup x.1 = none)
    (hkind : ∀ x ∈ binds, scope.names.lookup x.1 = some .local ∨ (scope.names.lookup x.1 = some .cell ∧ ((cellsFrom (s.heap.objs.size + 1) scope.names []).lookup x.1).isSome = true))
    (hQ : ∀ env, env = newEnv scope s.heap.objs.size globals (cellsFrom (s.heap.objs.size + 1) scope.names cl) qual func code none builtins →
      ∀ s', InCallC s s.heap.objs.size (bindL env.kindOf binds fun _ => none) (cellsFrom (s.heap.objs.size + 1) scope.names []) (bindC env.kindOf binds fun _ => none) s' → Q env s') :
    wpAny M A (newFunctionEnv scope globals cl binds qual func code none builtins) Q E s := by
  simp only [newFunctionEnv, Option.isSome_none, Bool.false_eq_true, if_false]
  refine wpAny_bind (wpAny_alloc ?_)
  refine wpAny_bind (wpAny_layCells _ (fun name kind cells => by cases hkc : kind == NameKind.cell <;> simp [hkc]) _ _ _ _ ?_)
  have ok := cellsFrom_ok scope.names (s.heap.push { cls := .type "frame", data := .dict #[] }) (s.heap.objs.size + 1) [] ⟨fun _ _ hm => (nomatch hm), List.Pairwise.nil⟩ (by rw [Heap.size_push]; exact Nat.le_refl _)
  rw [Heap.size_push] at ok
  rw [show ({ s with heap := s.heap.push { cls := .type "frame", data := .dict #[] } } : Shared).heap.objs.size = s.heap.objs.size + 1 from Heap.size_push ..]
  let env0 : Env := newEnv scope s.heap.objs.size globals (cellsFrom (s.heap.objs.size + 1) scope.names []) qual func code none builtins
  refine wpAny_bind ?_
  rw [forIn_cong (g := fun x (_ : PUnit) => do storeName env0 x.1 x.2; pure (.yield ⟨⟩)) binds _ fun x hx u => ?_]
  · refine (wpAny_bindParams (s₀ := s) (env := env0)
      _ (fun _ _ _ => rfl) hk binds (fun _ => none) (fun _ => none) _ _
      ⟨⟨⟨_, _, rfl⟩, (Heap.Ns.new s.heap (.type "frame")).keeps (pushCells_keeps _ _), fun b o e => pushCells_keeps _ _ b o (Heap.get?_push_of_some _ e), Nat.le_refl _⟩,
        fun n c hc => (ok.empty n c (mem_of_lookup hc)).1, ok.apart, fun n c hm => (ok.empty n c hm).2⟩
      hkind fun s' x => wpAny_pure (hQ _ rfl s' x))
  · have q := store_cells (env := newEnv scope s.heap.objs.size globals (cellsFrom (s.heap.objs.size + 1) scope.names cl) qual func code none builtins) (cs := cellsFrom (s.heap.objs.size + 1) scope.names []) (n := x.1) (v := x.2) (by
      show (cellsFrom (s.heap.objs.size + 1) scope.names cl).lookup x.1 = _
      rw [cf_app, List.lookup_append, hcl x hx]
      cases List.lookup x.1 (cellsFrom (s.heap.objs.size + 1) scope.names []) <;> rfl)
    exact congrArg (fun m : Sem Unit => (do m; pure (ForInStep.yield PUnit.unit) : Sem (ForInStep PUnit))) q
end
section
variable {CX : CXT} {P : Program} {w : World} {K : PySem.W.Frag} {mg : Str → Option Value} {base : Heap} {N ps fr : List Str} {F : NF} {f : Addr} {A : Around} {outer : List Env} {s s1 : Shared} {H : Hp} {E : XK} {us : List Value} {vs : List V} {ws : List (Option V)}
theorem inv_startNC (S : NScopeC N ps fr F.scope) (hcf : ∀ y c, F.cl.lookup y = some c → y ∈ fr) (hd : A.handled = none) (e0 : Env0 P w K mg base A outer s H) (hl : vs.length = ps.length) (r : Vals vs us) (C : CellsAt F.cl fr ws s.heap H)
    (x : InCallC s s.heap.objs.size (bindL (envFC F f s.heap.objs.size).kindOf (ps.zip us) fun _ => none) (cellsFrom (s.heap.objs.size + 1) F.scope.names []) (bindC (envFC F f s.heap.objs.size).kindOf (ps.zip us) fun _ => none) s1) :
    Inv (ncxC CX P w K mg base N F f A outer s H E) [] (startF N vs ws) H s1 := by
  have hpl : ps.length + fr.length ≤ N.length := by
    have q := congrArg List.length S.pre
    rw [List.length_take, List.length_append] at q
    omega
  obtain ⟨h1, tk, rfl, hk⟩ := x.done
  have noA : ∀ b : Addr, b ∉ (ncxC CX P w K mg base N F f A outer s H E).ex := fun b z => absurd (show b ∈ ([] : List Addr) from z) (by simp)
  have cellK : ∀ {c : Addr} {v : Option Value}, s.heap.IsCell c v → h1.IsCell c v := fun {c v} ⟨o, ho, hd⟩ => ⟨o, hk _ _ ho, hd⟩
  have two : ∀ y c, (cellsFrom (s.heap.objs.size + 1) F.scope.names F.cl).lookup y = some c →
      ((cellsFrom (s.heap.objs.size + 1) F.scope.names []).lookup y = some c ∨ F.cl.lookup y = some c) := fun y c e => by
    rw [cf_app, List.lookup_append] at e
    cases h : List.lookup y (cellsFrom (s.heap.objs.size + 1) F.scope.names []) with
    | some d => rw [h] at e; exact .inl e
    | none => rw [h] at e; exact .inr e
  have ownIn : ∀ y c, (cellsFrom (s.heap.objs.size + 1) F.scope.names []).lookup y = some c → (cellsFrom (s.heap.objs.size + 1) F.scope.names F.cl).lookup y = some c := fun y c e => by
    rw [cf_app, List.lookup_append, e]; rfl
  have capIn : ∀ y c, F.cl.lookup y = some c → (cellsFrom (s.heap.objs.size + 1) F.scope.names F.cl).lookup y = some c := fun y c e => by
    rw [cf_app, List.lookup_append]
    cases h : List.lookup y (cellsFrom (s.heap.objs.size + 1) F.scope.names []) with
    | none => exact e
    | some d =>
      have z1 := S.uniq _ (cf_mem (PySem.mem_of_lookup h))
      rw [S.frk y (hcf y c e)] at z1
      cases z1
  have hiC : ∀ y c, (cellsFrom (s.heap.objs.size + 1) F.scope.names []).lookup y = some c → s.heap.objs.size < c := fun y c e => x.above y c (PySem.mem_of_lookup e)
  have loC : ∀ y c, F.cl.lookup y = some c → c < s.heap.objs.size := fun y c e => by
    obtain ⟨_, v, z⟩ := C.all y c e
    exact z.lt
  refine ⟨⟨e0.mod, S.kind, rfl, rfl, Nat.le_refl _, fun y z c h1 h2 => ?_, fun y hy => ?_, fun y c z _ => ?_, fun _ => hd, Around.frames_deeper e0.frames, .inr ⟨rfl, rfl⟩, fun b z => absurd z (noA b), e0.bs, e0.bsz, fun b _ _ => noA b, fun b z => absurd z (noA b), e0.funs, e0.frf⟩,
    rfl, e0.bare, Un.kept hk, ⟨_, x.toInCall.ns, fun i y v e1 e2 e3 => ?_⟩, fun y c h => ?_, e0.hok.fresh (Nat.le_refl _), fun y c h => ?_, fun q hq => absurd (show q ∈ ([] : List (Addr × Obj)) ++ [] from hq) (by simp), e0.hok.kept hk, ?_⟩
  · rcases two y c h1 with a | a <;> rcases two z c h2 with b | b
    · exact name_of_addr x.apart (PySem.mem_of_lookup a) (PySem.mem_of_lookup b)
    · exact absurd (Nat.lt_trans (hiC y c a) (loC z c b)) (Nat.lt_irrefl _)
    · exact absurd (Nat.lt_trans (hiC z c b) (loC y c a)) (Nat.lt_irrefl _)
    · exact C.inj y z c a b
  · have hy : F.scope.names.lookup y = some .cell ∨ F.scope.names.lookup y = some .free := hy
    rcases hy with hy | hy
    · obtain ⟨c, hc⟩ := cell_has (n := s.heap.objs.size + 1) hy
      exact ⟨c, ownIn y c hc⟩
    · obtain ⟨i, hi⟩ := List.mem_iff_getElem?.mp (S.free _ (PySem.mem_of_lookup hy) rfl)
      obtain ⟨c, hc, _⟩ := C.has i y hi
      exact ⟨c, capIn y c hc⟩
  · have z : false = true := z
    cases z
  · have e1 : N[i]? = some y := e1
    have clen := C.len
    unfold startF at e2
    by_cases h1 : i < ps.length
    · have hq : (ps ++ fr)[i]? = some y := by
        rw [← S.pre, List.getElem?_take_of_lt (by omega)]
        exact e1
      rw [List.getElem?_append_left h1] at hq
      rw [List.getElem?_append_left (by rw [List.length_map]; omega), List.getElem?_map] at e2
      have ha : vs[i]? = some v := by
        cases e : vs[i]? with
        | none => rw [e] at e2; cases e2
        | some a => rw [e] at e2; cases e2; rfl
      obtain ⟨u, hu, rv⟩ := r.get ha
      have ndP : ps.Nodup := by
        have q := S.nd.sublist (List.take_sublist (ps.length + fr.length) N)
        rw [S.pre] at q
        exact (List.nodup_append.mp q).1
      refine ⟨u, rv, ?_⟩
      rcases S.par y (List.mem_of_getElem? hq) with k | k
      · exact .inl ⟨k, bindL_get ndP hq hu k⟩
      · obtain ⟨c, e⟩ := cell_has (n := s.heap.objs.size + 1) k
        refine .inr ⟨.inl k, c, ownIn y c e, ?_⟩
        have q := x.cell y c e
        rw [bindC_get ndP hq hu (by show F.scope.names.lookup y ≠ _; rw [k]; decide)] at q
        exact q
    · rw [List.getElem?_append_right (by rw [List.length_map]; omega), List.length_map] at e2
      by_cases h2 : i < ps.length + fr.length
      · have hq : (ps ++ fr)[i]? = some y := by
          rw [← S.pre, List.getElem?_take_of_lt (by omega)]
          exact e1
        rw [List.getElem?_append_right (by omega)] at hq
        rw [List.getElem?_append_left (by omega), hl] at e2
        obtain ⟨c, hc, hv⟩ := C.has (i - ps.length) y hq
        obtain ⟨u, ru, hu⟩ := hv v e2
        exact ⟨u, ru, .inr ⟨.inr (S.frk y (List.mem_of_getElem? hq)), c, capIn y c hc, cellK hu⟩⟩
      · rw [List.getElem?_append_right (by omega), List.getElem?_replicate] at e2
        split at e2 <;> cases e2
  · rcases two y c h with a | a
    · exact ⟨_, x.cell y c a⟩
    · obtain ⟨v, z⟩ := (C.all y c a).2
      exact ⟨v, cellK z⟩
  · rcases two y c h with a | a
    · exact e0.hok.fresh (Nat.le_of_lt (hiC y c a))
    · exact (C.all y c a).1
  · have clen := C.len
    unfold startF
    show _ = N.length
    rw [List.length_append, List.length_append, List.length_map, List.length_replicate]
    omega
/-- THE RULE: a nested def with own cells, by its body -/
theorem nok_ofC {k : Nat} {sp : List (Option V) → Sp} (S : NScopeC N ps fr F.scope) (hcf : ∀ y c, F.cl.lookup y = some c → y ∈ fr) (hb : ∀ (doc pm ctv : Value) (us : List Value), us.length = ps.length → bindArgs (F.fd doc pm ctv) ⟨us, []⟩ = pure (ps.zip us)) (len : ∀ ws vs H Q E, sp ws vs H Q E → vs.length = ps.length)
    (hbody : ∀ (A : Around) (outer : List Env) (s : Shared) (H : Hp) (vs : List V) (ws : List (Option V)) (Q : VK) (E : XK), Room k (A.deeper (envFC F f s.heap.objs.size)) → H f = some (FnO f F) → H F.c = some (CodeO F.c F.qual) → ws.length = fr.length → sp ws vs H Q E →
      ∃ t, PSs (ncxC CX P w K mg base N F f A outer s H E) F.body t ∧ t { nx := fun _ H' => Q .non H', rt := Q } (startF N vs ws) H) :
    NOk P w K mg base CX (k + 1) f F ps fr sp := by
  refine ⟨len, fun A outer s H us vs ws Q E hr e0 hf hc C r hsp => ?_⟩
  have hl := len _ _ _ _ _ hsp
  have lim : s.heap.NoLimit := e0.mod.nolimit.keeps fun b o e => (e0.bs b o e).1
  obtain ⟨od, sl, doc, pm, ctv, ho⟩ := fnO_at e0.hok hf
  refine codeAny_call_function hr.depth ho rfl S.co S.gen rfl (codeO_at e0.hok hc) ?_
  rw [hb doc pm ctv us (by rw [← r.length]; exact hl)]
  have hkind : ∀ y ∈ ps.zip us, F.scope.names.lookup y.1 = some .local ∨ (F.scope.names.lookup y.1 = some .cell ∧ ((cellsFrom (s.heap.objs.size + 1) F.scope.names []).lookup y.1).isSome = true) := fun ⟨n, v⟩ hy => by
    rcases S.par n (List.of_mem_zip hy).1 with q | q
    · exact .inl q
    · exact .inr ⟨q, PySem.W.cellsFrom_some _ _ _ (.inl q)⟩
  have hclb : ∀ y ∈ ps.zip us, F.cl.lookup y.1 = none := fun ⟨n, v⟩ hy => by
    have hn := (List.of_mem_zip hy).1
    show F.cl.lookup n = none
    cases e : F.cl.lookup n with
    | none => rfl
    | some c =>
      have z1 := S.frk n (hcf n c e)
      rcases S.par n hn with q | q <;> rw [z1] at q <;> cases q
  refine wpAny_pure (newEnvC S.kind hclb hkind fun env he s1 x => ?_)
  subst he
  refine ⟨lim.keeps x.toInCall.keep, ?_⟩
  show codeAny _ _ (.func F.body (envFC F f s.heap.objs.size)) _ _
  refine codeAny_func ?_
  obtain ⟨t, ht, hq⟩ := hbody A outer s H vs ws Q E (hr.deeper _) hf hc C.len hsp
  have I : Inv (ncxC CX P w K mg base N F f A outer s H E) [] (startF N vs ws) H s1 := inv_startNC S hcf hr.hd e0 hl r C x
  refine wpAny_mono (ht.run [] _ (startF N vs ws) H _ I hq) (fun fl s' hs => ?_) fun e s' hs => hs
  have fin : ∀ {σ' : L2.St} {H' : Hp} {v : V} {u : Value}, Inv (ncxC CX P w K mg base N F f A outer s H E) [] σ' H' s' → L2.RelV v u → Q v H' → CE outer P w H s Q u s' :=
    fun {σ' H' v u} J rv q => ⟨v, H', J.os, J.bare, J.base, J.hok, rv, q⟩
  cases fl with
  | ret u =>
    obtain ⟨v, σ', H', J, rv, q⟩ := hs
    exact fin J rv q
  | next =>
    obtain ⟨σ', H', J, q⟩ := hs
    exact fin (v := V.non) (u := Value.none) J rfl q
  | brk =>
    obtain ⟨_, _, _, q⟩ := hs
    exact False.elim q
  | cont =>
    obtain ⟨_, _, _, q⟩ := hs
    exact False.elim q
end
end NdefX
set_option Elab.async false
set_option linter.all false
set_option maxRecDepth 100000
set_option maxHeartbeats 4000000
/-! name = [.. for .. if f(..)]: f a nested def whose captured cells the block's environment lacks. The two rules lc_coreI, ps_setLcI turn the layer's rules for comprehensions (lc_core, ps_setLc of HandS) so that the tests are told what held where the block began. -/
namespace L2
open PySem PySem.Spec PyProof.Rows
section
variable {X : Cx}
theorem lc_coreI {pins : List (Addr × Obj)} {s : Shared} {σ : St} {H : Hp} {Q : VK} {elt tg iter : Expr} {ifs : List Expr} {scope : Scope} {own : List (Str × Nat)} {pos pos' : Pos} {wi : TI} {g : TG} {tt : TT} {te : TE} {use : Option (Value → Sem Unit)} {Qf : Value → Shared → Prop}
    (hc : X.calm = true) (hN : X.N.Nodup) (I : Inv X pins σ H s) (hi : PI X tg iter wi) (ok : BlkOk X.N X.env.scope scope own)
    (hg : ∀ (s : Shared) (H : Hp) (C : Addr) (cl : List (Str × Addr)) (fp : List Addr), PG (X.blk s H scope (compEnvC scope cl C X.env) fp) tg g) (ht : ∀ (s : Shared) (H : Hp) (C : Addr) (cl : List (Str × Addr)) (fp : List Addr), Inv X pins σ H s → (∀ b ∈ fp, FpOk X pins H b) → PTs (X.blk s H scope (compEnvC scope cl C X.env) fp) ifs tt)
    (he : ∀ (s : Shared) (H : Hp) (C : Addr) (cl : List (Str × Addr)) (fp : List Addr), PE (X.blk s H scope (compEnvC scope cl C X.env) fp) elt te) (hs : ∀ x, foldedSetIterable iter X.env x = pure x)
    (h : tLc wi g tt te (own.map (·.2)) σ H Q)
    (hRR : ∀ D C s' m H', Inv X pins σ H' s' → Q (.ref D) H' → s'.heap.Ns C m → FpOk X pins H' C → compPost (model X.prog X.w) X.A X.xe use Qf (.ref D) C (.ok .next) s') :
    wpAny (model X.prog X.w) X.A (comprehension (.ListComp elt [⟨tg, iter, ifs, 0⟩] scope pos) scope X.env pos' (newList []) false (eval iter X.env) use) Qf X.xe s := by
  have hfree : ∀ y ∈ scope.names, y.2 = .free → ∃ c, X.env.cells.lookup y.1 = some c := fun y hy e => by
    rcases ok.free y hy e with k | k
    · exact I.ok.has _ (.inl k)
    · exact I.ok.has _ (.inr k)
  refine wpAny_comprehension_free (use := use) rfl hs (closure_ok hfree) ok.kind (fun y hy e => by rw [ok.uniq y hy, e])
    (thn (hi.run pins s σ H _ I h) fun xv s1 hx => thn hx fun itv s2 h2 => ?_)
  obtain ⟨it, fp, tn, J, H2, e, I2, T, st2, f2, q⟩ := h2
  subst e
  refine wpAny_newObj_type (newEnv_comp ?_) (by show 0 ≤ sizeLine; decide)
  generalize hD : s2.heap.objs.size = D
  have hDn : H2 D = none := I2.hok.fresh (Nat.le_of_eq hD)
  obtain ⟨W, ⟨m0, w0⟩, turn⟩ := q D hDn
  -- the new list
  generalize hs3 : ({ s2 with heap := s2.heap.push { cls := .type "list", data := .seq ([] : List Value).toArray } } : Shared) = s3
  have I3 : Inv X pins σ (upd H2 D (.lst [])) s3 := by
    rw [← hs3]
    refine I2.laid (t' := s2.toks) (fun b o e => Heap.get?_push_of_some _ e) (Nat.le_of_eq hD) ⟨Nat.zero_le _, [], 0, .nil, ?_⟩
    rw [← hD]
    exact Heap.get?_push_size _ rfl
  have h3 : s3.heap = s2.heap.push { cls := .type "list", data := .seq ([] : List Value).toArray } := by rw [← hs3]
  have sz : ∀ b ∈ fp, b < s2.heap.objs.size := fun b hb => by
    obtain ⟨o, e, _⟩ := T.obj _ _ st2 b hb
    exact Heap.lt_size e
  have f3 : ∀ b ∈ fp, FpOk X pins (upd H2 D (.lst [])) b ∧ b < s3.heap.objs.size := fun b hb => by
    have hlt := sz b hb
    refine ⟨⟨?_, (f2 b hb).2⟩, by rw [h3, Heap.size_push]; exact Nat.lt_succ_of_lt hlt⟩
    rw [upd_ne (by rw [← hD]; exact Nat.ne_of_lt hlt)]
    exact (f2 b hb).1
  have st3 : tn 0 s3.heap := T.keep _ _ _ st2 fun b _ o e => by rw [h3]; exact Heap.get?_push_of_some _ e
  have I4 := block_start I3 ok hN f3
  have pg := hg s3 (upd H2 D (.lst [])) s3.heap.objs.size (cellsFrom (s3.heap.objs.size + 1) scope.names (cloFrom X.env.cells scope.names [])) fp
  have pt := ht s3 (upd H2 D (.lst [])) s3.heap.objs.size (cellsFrom (s3.heap.objs.size + 1) scope.names (cloFrom X.env.cells scope.names [])) fp I3 (fun b hb => (f3 b hb).1)
  have pe := he s3 (upd H2 D (.lst [])) s3.heap.objs.size (cellsFrom (s3.heap.objs.size + 1) scope.names (cloFrom X.env.cells scope.names [])) fp
  show codeAny _ _ (.compStart (.ListComp elt [⟨tg, iter, ifs, 0⟩] scope pos) 0 (.ref it) (.ref D) (compEnvC scope (cellsFrom (s3.heap.objs.size + 1) scope.names (cloFrom X.env.cells scope.names [])) s3.heap.objs.size X.env)) (compPost (model X.prog X.w) X.A X.xe use Qf (.ref D) s3.heap.objs.size) { s3 with heap := pushCells (s3.heap.push { cls := .type "dict", data := .dict #[] }) scope.names }
  have nfp : ∀ b ∈ fp, (upd H2 D (.lst [])) b = none := fun b hb => (f3 b hb).1.1
  generalize hce : compEnvC scope (cellsFrom (s3.heap.objs.size + 1) scope.names (cloFrom X.env.cells scope.names [])) s3.heap.objs.size X.env = ce at I4 pg pt pe ⊢
  have cL : ce.locals = s3.heap.objs.size := by subst hce; rfl
  generalize hH3 : upd H2 D (.lst []) = H3 at I3 I4 pg pt pe w0 nfp f3
  generalize hs4 : ({ s3 with heap := pushCells (s3.heap.push { cls := .type "dict", data := .dict #[] }) scope.names } : Shared) = s4 at I4 ⊢
  have st4 : tn 0 s4.heap := T.keep _ _ _ st3 fun b _ o e => by rw [← hs4]; exact pushCells_keeps _ _ _ _ (Heap.get?_push_of_some _ e)
  have stat : ∀ {σ' : St} {H' : Hp} {s' : Shared}, Inv (X.blk s3 H3 scope ce fp) [] σ' H' s' → (∀ b ∈ fp, H' b = none) → ∀ b ∈ fp, FpOk (X.blk s3 H3 scope ce fp) [] H' b := fun {σ' H' s'} I' hn b hb =>
    ⟨hn b hb, (I'.ok.exf b hb).1, I'.ok.exfs b hb, .inl hb, fun x c e => (I'.ok.exf b hb).2 x c e, fun p hp => absurd (show p ∈ ([] : List (Addr × Obj)) ++ [] from hp) (by simp)⟩
  have loop : codeAny (model X.prog X.w) X.A (.compLoop (.ListComp elt [⟨tg, iter, ifs, 0⟩] scope pos) 0 (.ref it) (.ref D) ce) (compPost (model X.prog X.w) X.A X.xe use Qf (.ref D) s3.heap.objs.size) s4 := by
    refine compLoop_any (fun n s' => ∃ i H', Inv (X.blk s3 H3 scope ce fp) [] (wipe σ (own.map (·.2))) H' s' ∧ tn i s'.heap ∧ (∀ b ∈ fp, H' b = none) ∧ W i n H') ?_ m0 ⟨0, H3, I4, st4, nfp, w0⟩
    rintro n s5 ⟨i, H5, I5, st5, n5, w5⟩
    rcases turn i n H5 w5 with ⟨stop, qq⟩ | ⟨go, Nx, hNx, step⟩
    · have td := T.done (X.blk s3 H3 scope ce fp) rfl rfl rfl hc i [] s5 _ H5 (fun _ _ => False) I5 (stat I5 n5) st5 stop
      refine thnF td fun r s6 ⟨hr, I6⟩ => ?_
      subst hr
      -- back in the def's context
      have I7 : Inv X pins σ H5 s6 := I3.call' (ch := fp) I6.os I6.base I6.hok I6.bare fun b hb => ⟨(f3 b hb).1.2.2.2.1, (f3 b hb).1.2.1, (f3 b hb).1.2.2.2.2.1, (f3 b hb).1.2.2.2.2.2⟩
      have nC : H5 s3.heap.objs.size = none := by
        have z : H5 ce.locals = none := I6.free
        rw [cL] at z
        exact z
      obtain ⟨m, hn, _⟩ := I6.loc
      have hn : s6.heap.Ns ce.locals m := hn
      rw [cL] at hn
      exact hRR D s3.heap.objs.size s6 m H5 I7 qq hn (I3.fpOk (Nat.le_refl _) nC)
    · have ti := T.item (X.blk s3 H3 scope ce fp) rfl rfl rfl hc i [] s5 _ H5 (fun _ _ => False) I5 (stat I5 n5) st5 go
      refine thnF ti fun r s6 ⟨u, hr, h6⟩ => ?_
      subst hr
      refine thnF h6 fun _ s7 ⟨x, H7, I7, r7, y7, st7, n7⟩ => ?_
      have I7' := I7.pinned (stat I7 n7) (T.obj _ _ st7)
      refine thnF (pg.run _ s7 _ H7 x u _ I7' r7 (step x H7 y7)) fun _ s8 ⟨σ8, H8, I8, hw8, q8⟩ => ?_
      refine thnF (pt.run _ s8 σ8 H8 _ I8 q8) fun b s9 ⟨H9, I9, q9⟩ => ?_
      -- the turn's end
      have fin : ∀ {s' : Shared} {H' : Hp}, Inv (X.blk s3 H3 scope ce fp) ([] ++ pinsAt fp s7.heap) σ8 H' s' → Nx H' → ∃ m, m < n ∧ ∃ i H', Inv (X.blk s3 H3 scope ce fp) [] (wipe σ (own.map (·.2))) H' s' ∧ tn i s'.heap ∧ (∀ b ∈ fp, H' b = none) ∧ W i m H' := fun {s' H'} I' nx => by
        obtain ⟨m', hm, w'⟩ := hNx H' nx
        have pin' : ∀ b ∈ fp, ∀ o, s7.heap.get? b = some o → s'.heap.get? b = some o ∧ H' b = none := fun b hb o e =>
          let z := I'.pin (b, o) (List.mem_append_right _ (List.mem_append_right _ (mem_pinsAt hb e)))
          ⟨z.1, z.2.1⟩
        have hl : (wipe σ (own.map (·.2))).length = σ8.length := by rw [← hw8, wipe_length]
        refine ⟨m', hm, i + 1, H', (I'.unpinned (pins := [])).weak hl (fun j v e => ?_), T.keep _ _ _ st7 fun b hb o e => (pin' b hb o e).1, fun b hb => ?_, w'⟩
        · rw [← hw8] at e
          exact (wipe_some e).1
        · obtain ⟨o, e, _⟩ := T.obj _ _ st7 b hb
          exact (pin' b hb o e).2
      cases b with
      | false =>
        simp only [Bool.false_eq_true, if_false] at q9 ⊢
        exact fin I9 q9
      | true =>
        simp only [if_true] at q9 ⊢
        refine thnF (pe.run _ s9 σ8 H9 _ I9 q9) fun z s10 ⟨yv, H10, I10, r10, acc, hD10, hz10, nx⟩ => ?_
        exact app_ok (X := X.blk s3 H3 scope ce fp) I10 hD10 hz10 r10 fun s11 I11 => fin I11 nx
  exact codeAny_compStart_list loop (T.self X.A 0 _ _ _ st4 loop)
theorem ps_setLcI {i : Nat} {y : Str} {py : Pos} {elt tg iter : Expr} {ifs : List Expr} {scope : Scope} {own : List (Str × Nat)} {pos spos : Pos} {wi : TI} {g : TG} {tt : St → TT} {te : TE} (hc : X.calm = true) (hN : X.N.Nodup) (hy : X.N[i]? = some y) (hyl : X.env.scope.names.lookup y = some .local)
    (hsw : swapsWith (.ListComp elt [⟨tg, iter, ifs, 0⟩] scope pos) (some (.Name y py)) spos.line X.env = pure true) (hi : PI X tg iter wi) (ok : BlkOk X.N X.env.scope scope own)
    (hg : ∀ (s : Shared) (H : Hp) (C : Addr) (cl : List (Str × Addr)) (fp : List Addr), PG (X.blk s H scope (compEnvC scope cl C X.env) fp) tg g) (ht : ∀ (pins : List (Addr × Obj)) (σ : St) (s : Shared) (H : Hp) (C : Addr) (cl : List (Str × Addr)) (fp : List Addr), Inv X pins σ H s → (∀ b ∈ fp, FpOk X pins H b) → PTs (X.blk s H scope (compEnvC scope cl C X.env) fp) ifs (tt σ))
    (he : ∀ (s : Shared) (H : Hp) (C : Addr) (cl : List (Str × Addr)) (fp : List Addr), PE (X.blk s H scope (compEnvC scope cl C X.env) fp) elt te) (hs : ∀ x, foldedSetIterable iter X.env x = pure x := by intro _; rfl) :
    PS X (.Assign [.Name y py] (.ListComp elt [⟨tg, iter, ifs, 0⟩] scope pos) spos) (tAsg (fun σ H Q => tLc wi g (tt σ) te (own.map (·.2)) σ H Q) (gName i)) := by
  refine ⟨fun pins s σ H D I h => ?_⟩
  rw [exec_Assign_Name_used _ _ _ _ hsw]
  refine wpAny_bind (wpAny_standAt (wpAny_bind ?_))
  show wpAny _ X.A (do let _ ← comprehension (.ListComp elt [⟨tg, iter, ifs, 0⟩] scope pos) scope X.env (firstIterPos [⟨tg, iter, ifs, 0⟩] pos) (newList []) false (eval iter X.env) (some (assign (.Name y py) X.env))) _ _ s
  have h : tLc wi g (tt σ) te (own.map (·.2)) σ H (fun x H1 => gName i x σ H1 D.nx) := h
  refine wpAny_bind (thn (lc_coreI (Qf := fun _ s' => SP X pins D .next s') hc hN I hi ok hg (ht pins σ) he hs h fun L C s' m H' I' q hn f => ?_) fun _ s' hq => wpAny_pure (wpAny_pure hq))
  show wpAny _ _ (assign (.Name y py) X.env (.ref L)) _ _ _
  refine wpAny_assign_Name (store_ok2 (v := V.ref L) I' hN hy (.inl hyl) rfl (fun s2 I2 ⟨a, sb, ha⟩ => ?_) (.inr hyl))
  obtain ⟨f0, f1, f2, f3, f4, f5⟩ := f
  have haC : C ≠ a := by
    rcases ha with z | z
    · rw [z]; exact f1
    · exact fun e => f4 y a z e.symm
  refine ⟨m, hn.sameBut sb haC, fun h3 sb3 => ?_⟩
  exact ⟨_, H', I2.turned (t' := s2.toks) (fun b o hb e => (sb3.2 b hb).trans e) f0 f1 f3 f4 f5, q⟩
end
end L2
namespace NdefX
open PySem PySem.Spec PyProof.Rows L2 LamX
/-- f(..) where the captured cells hold ws since the running context began -/
def tCallB (mk : Addr → NF) (i : Nat) (ws : List (Option V)) (sp : Addr → Addr → List (Option V) → Sp) (E : XK) (t : TA) : TE := fun σ H Q => ∃ f c', σ[i]? = some (some (.ref f)) ∧ H f = some (FnO f (mk c')) ∧
  t σ H fun vs H1 => H1 f = some (FnO f (mk c')) ∧ H1 (mk c').c = some (CodeO (mk c').c (mk c').qual) ∧ sp f c' ws vs H1 Q E
section
variable {X : Cx} {CX : CXT} {mk : Addr → NF} {cl : List (Str × Addr)} {ps fr : List Str} {js : List Nat} {i j k : Nat} {x : Str} {sp : Addr → Addr → List (Option V) → Sp} {E : XK} {t : TA} {e : Expr} {es : List Expr} {p pos : Pos} {ws : List (Option V)}
theorem pe_callB0 (Fn : ∀ f c', NOk X.prog X.w X.K X.mg X.base CX k f (mk c') ps fr (sp f c')) (hcl : ∀ c', (mk c').cl = cl) (C0 : CellsAt cl fr ws X.s_0.heap X.H_0) (nf : ∀ y c, cl.lookup y = some c → c ∉ X.fs) (hxx : ∀ y c, cl.lookup y = some c → c ∉ X.ex) (hr : Room j X.A) (hk : k ≤ j) (hx : Passes CX X E) (hN : X.N[i]? = some x) (hv : Vis X.env.scope x) (ha : PA X (e :: es) t)
    (hd : (x == ("__debug__" : Str)) = false := by decide) (hcd : (x == ("__classdict__" : Str)) = false := by decide)
    (he : starEach (e :: es) X.env = (false, eval e X.env) :: starEach es X.env := by rfl) (hpl : (backTo pos (starEach es X.env)).any (·.1) = false := by rfl) :
    PE X (.Call (.Name x p) (e :: es) [] pos) (tCallB mk i ws sp E t) := by
  refine ⟨fun pins s σ H Q I h => ?_⟩
  obtain ⟨f, c', hs, hf, ht⟩ := h
  refine wpAny_Call_Name_kw (thn ((pe_var (pos := p) hN hv hd hcd).run pins s σ H (fun v H1 => v = .ref f ∧ H1 = H) I ⟨.ref f, hs, rfl, rfl⟩) fun u s1 ⟨v, H1, I1, r1, q1⟩ => ?_)
  obtain ⟨ev, eH⟩ := q1
  subst ev
  rw [eH] at I1
  obtain rfl : u = Value.ref f := r1
  refine PySem.W.callWith_F (first := []) (fnAt_of I1 hf) (thn (ha.run pos pins s1 σ H _ I1 ht) fun us s2 ⟨vs, H2, I2, r, h1, h2, q⟩ => ⟨fnAt_of I2 h1, ?_⟩) he hpl
  show wpAny _ _ (call (.ref f) us) _ _ _
  refine wpAny_call (codeAny_mono ((Fn f c').run X.A X.stack s2 H2 us vs ws Q E (hr.mono hk) I2.env0 h1 h2 (by rw [hcl c']; exact C0.later nf hxx I2) r q) fun r s' hq => ?_)
  cases r with
  | error e => exact hx pins σ H2 s2 e s' I2 hq
  | ok fl =>
    cases fl with
    | ret u => exact I2.after hq
    | next => exact False.elim hq
    | brk => exact False.elim hq
    | cont => exact False.elim hq
/-- the running frame's own cells are no frames -/
theorem cells_nofs {pins : List (Addr × Obj)} {σ : L2.St} {H : Hp} {s : Shared} (I : Inv X pins σ H s) (hfn : ∀ x, X.fn x = true) {y : Str} {c : Addr} (hc : X.env.cells.lookup y = some c) : c ∉ frs X.stack := fun hb => by
  rcases List.mem_cons.mp (I.stkSub c hb) with z | z
  · obtain ⟨v, o, h1, h2⟩ := I.cell y c hc
    obtain ⟨m, hn, _⟩ := I.loc
    rw [← z] at hn
    obtain ⟨o', es, ep, h3, h4, _⟩ := hn
    rw [h1] at h3
    cases h3
    rw [h2] at h4
    cases h4
  · obtain ⟨_, o, ho, _⟩ := I.ok.funs.mem z
    exact absurd (Nat.lt_of_lt_of_le (Heap.lt_size ho) (I.ok.cab y c (hfn y) hc)) (Nat.lt_irrefl _)
end
end NdefX
set_option Elab.async false
set_option linter.all false
set_option maxRecDepth 100000
set_option maxHeartbeats 4000000
namespace Sn
open PySem PySem.Spec PyProof.Rows L2 NdefX
abbrev s_can_go : Stmt := match defBody s_order_by with
  | _ :: x :: _ => x
  | _ => .Pass ⟨0, 0, 0, 0⟩
abbrev n_can_go : List Str := ["number", "told", "ahead", "other"]
abbrev mk_can_go (qual : Str) (cl : List (Str × Addr)) : Addr → NF := NF.of s_can_go "can_go" qual cl
theorem nsc_can_go : NScopeC n_can_go ["number", "told"] ["ahead"] (C8.fnScope s_can_go) := nscopeC_by (by decide +kernel)
section
variable {X : Cx}
/-- len of a frozen dict -/
theorem call_lenDF : CallR X (.builtin "len") (fun xs H Q => ∃ a o kvs, xs = [V.ref a] ∧ H a = some (.frz o (.dK kvs)) ∧ Q (.int kvs.length) H) := by
  intro pins s σ H xs us Q I r h
  obtain ⟨a, o, kvs, rfl, ha, q⟩ := h
  obtain ⟨u, rfl, ru⟩ := vals1 r
  cases ru
  exact d_len I (.inr ⟨o, ha⟩) fun t s' I' => ⟨.int kvs.length, H, I', ⟨t, rfl⟩, q⟩
end
section
variable {P : Program} {w : World} {K : PySem.W.Frag} {mg : Str → Option Value} {base : Heap} {S : Addr → Prop} {H H1 : Hp} {A : SA} {b : BookD} {ds : List DM} {n : Nat} {rs : List RowM} {bk l : Addr}
def spCanGo (K : PySem.W.Frag) (ws : List (Option V)) : Sp := fun vs H Q _ => ∃ (d fl : Addr) (x : Nat) (found : List Nat) (ds : List DM), ws = [some (.ref d)] ∧ vs = [.int (x : Nat), .ref fl] ∧ GrpAt H d (standL ds) (Edge ds) ∧ x ∈ standL ds ∧ H fl = some (.lst (natL found)) ∧
  (∀ H', Fr0 K H H' → x ∉ found → (∀ i, Edge ds i x → i ∈ found) → Q (.bl true) H') ∧ ∀ H', Fr0 K H H' → ¬ (x ∉ found ∧ ∀ i, Edge ds i x → i ∈ found) → Q (.bl false) H'
theorem nok_can_go (T : Tx K mg) {qual : Str} {cl : List (Str × Addr)} {f c' : Addr} (hcf : ∀ y c, cl.lookup y = some c → y ∈ (["ahead"] : List Str)) :
    NOk P w K mg base C8.CX0 1 f (mk_can_go qual cl c') ["number", "told"] ["ahead"] (spCanGo K) := by
  refine nok_ofC (N := n_can_go) nsc_can_go hcf (fun doc pm ctv us hl => ?_) (fun ws vs H Q E h => ?_) (fun A outer s H vs ws Q E hr hf hc hl h => ?_)
  · match us, hl with
    | [a, b], _ => kernel_rfl
  · obtain ⟨d, fl, x, found, ds, _, rfl, _⟩ := h
    rfl
  · obtain ⟨d, fl, x, found, ds, rfl, rfl, hG, hx, hfl, qt, qf⟩ := h
    have hu := hu_of hr
    have nd : n_can_go.Nodup := by decide +kernel
    refine ⟨_, (pss_one (ps_ret (pe_and (pe_cmpR op_notIn_seq (pv 0) (pv 1) (by rfl)) (pe_one (pe_callB (cr_all rfl) (by rfl) T.fr_all bt_all
      (pa_cons (pe_lc (own := [("other", 3)]) (by rfl) nd (pi_list (pe_dget hu (pv 2) (pv 0) (fun _ _ => rfl))) (blkOk_by (own := [("other", 3)]) (N := n_can_go) (sc := C8.fnScope s_can_go) (by decide +kernel)) (fun _ _ _ _ _ => (pg_name (i := 3) nd rfl (Or.inl rfl))) (fun _ _ _ _ _ => pts_nil) (fun _ _ _ _ _ => (pe_cmpR (op_in_seqK (K := K) rfl) (pv 3) (pv 1) (by rfl)))) pa_nil)))))), ?_⟩
    refine ⟨_, rfl, _, rfl, fl, _, rfl, .inl (.of hfl), rfl, flat_nat _, _, rfl, ?_⟩
    show if (!inV (V.int (x : Nat)) (natL found)) = true then _ else _
    rw [inV_nat]
    by_cases c : x ∈ found
    · rw [decide_eq_true c]
      exact qf _ (.refl _) fun z => z.1 c
    · rw [decide_eq_false c]
      obtain ⟨a, es, hd, hfa, nda, lena, mema⟩ := hG.get (standL_nodup ds) hx
      refine ⟨_, rfl, _, rfl, d, _, rfl, hd, a, rfl, ⟨_, hfa.seq⟩, fun D hD => ?_⟩
      refine lc_it (walk_list (K := K) (a := a) (xs := natL es)) (fun i H2 => Fr0 K H H2 ∧ H2 D = some (.lst ((es.take i).map fun j => V.bl (decide (j ∈ found))))) ⟨.new hD, upd_same⟩ ?_ ?_ ?_
      · rintro i H2 _ ⟨g, _⟩
        exact (g.fzl hfa).seq
      · rintro i y H0 H2 hi ⟨g, hq⟩ ⟨rfl, hy⟩
        obtain ⟨o, ho, rfl⟩ := natL_get hy
        rw [natL_len] at hi
        refine ⟨rfl, ?_⟩
        refine ⟨_, rfl, _, rfl, fl, _, rfl, .inl (.of (g.lst hfl (fun z => z))), rfl, flat_nat _, ?_⟩
        show ∃ acc, _
        rw [if_neg (by decide), inV_nat]
        refine ⟨_, hq, by rw [List.length_map, List.length_take]; exact small1000 (by omega), g.own (.of hD) hq trivial, ?_⟩
        rw [take_snoc ho, List.map_append]
        exact upd_same
      · rintro H2 ⟨g, hq⟩
        refine ⟨D, es.map fun j => decide (j ∈ found), rfl, .of ?_, ?_⟩
        · rw [hq, natL_len, List.take_length, List.map_map] <;> rfl
        · by_cases c2 : ∀ i, Edge ds i x → i ∈ found
          · rw [show (es.map fun j => decide (j ∈ found)).all id = true from List.all_eq_true.mpr fun z hz => by
              obtain ⟨j, hj, rfl⟩ := List.mem_map.mp hz
              exact decide_eq_true (c2 j ((mema j).mp hj))]
            exact qt _ g c c2
          · rw [show (es.map fun j => decide (j ∈ found)).all id = false from by
              rw [← Bool.not_eq_true]
              intro z
              refine c2 fun i hi => ?_
              have := List.all_eq_true.mp z _ (List.mem_map.mpr ⟨i, (mema i).mpr hi, rfl⟩)
              exact of_decide_eq_true this]
            exact qf _ g fun z => c2 z.2
theorem dpAll_nat {K : PySem.W.Frag} {H : Hp} : ∀ l : List Nat, DpAll K H (natL l) (l.map fun (j : Nat) => PyData.int (j : Nat))
  | [] => .nil
  | j :: l => .cons (.int _) (dpAll_nat l)
theorem can_nat : ∀ l : List Nat, PyData.canLayAll0 (l.map fun (j : Nat) => PyData.int (j : Nat)) = true ∧ PyData.depthAll (l.map fun (j : Nat) => PyData.int (j : Nat)) ≤ 1
  | [] => ⟨rfl, Nat.zero_le _⟩
  | j :: l => by
    obtain ⟨i1, i2⟩ := can_nat l
    refine ⟨?_, ?_⟩
    · rw [List.map_cons]
      simp only [PyData.canLayAll0, PyData.canLay0, i1, Bool.and_true, Bool.true_and]
    · rw [List.map_cons]
      simp only [PyData.depthAll, PyData.depth]
      omega
theorem shaped_nat (l : List Nat) : SeqAt.shaped (.list (l.map fun (j : Nat) => PyData.int (j : Nat))) = true := by
  obtain ⟨h1, h2⟩ := can_nat l
  unfold SeqAt.shaped
  rw [show PyData.canLay0 (.list (l.map fun (j : Nat) => PyData.int (j : Nat))) = true from h1, Bool.true_and]
  exact decide_eq_true (show PyData.depthAll (l.map fun (j : Nat) => PyData.int (j : Nat)) + 1 ≤ 64 by omega)
theorem eqv_nil (ds : List PyData) : PyData.eqv (.list ds) (.list []) = ds.isEmpty := by
  cases ds with
  | nil => rfl
  | cons d ds => rfl
/-- some == [] -/
theorem eqD_nil {K : PySem.W.Frag} {H : Hp} {a c : Addr} {l : List Nat} {Q : VK} (h1 : SqL K H a (natL l)) (h2 : SqL K H c []) (q : Q (.bl l.isEmpty) H) : rEqD K (.ref a) (.ref c) H Q :=
  ⟨_, _, .lst h1 (dpAll_nat l), .lst h2 .nil, shaped_nat l, rfl, by
    rw [eqv_nil, show (l.map fun (j : Nat) => PyData.int (j : Nat)).isEmpty = l.isEmpty from by cases l <;> rfl]
    exact q⟩
abbrev tabN (K : PySem.W.Frag) : List NTab := [((He.cT K ("Stepper", some "last_writer")).2, fun _ _ => "Stepper.last_writer.<locals>.<lambda>"), ((He.cT K ("order_by", none)).2, fun _ _ => "order_by.<locals>.can_go")]
theorem tabsN_of (t : LamX.Tabs (TB K) H) : TabsN (tabN K) H := fun p hp => by
  rcases List.mem_cons.mp hp with rfl | hp
  · exact TabN.of (t _ (.head _))
  · rw [List.mem_singleton.mp hp]
    exact TabN.of (t _ (.tail _ (.head _)))
theorem tabsN_to (t : TabsN (tabN K) H) : LamX.Tabs (TB K) H := fun p hp => by
  rcases List.mem_cons.mp hp with rfl | hp
  · exact TabN.to (t _ (.head _))
  · rw [List.mem_singleton.mp hp]
    exact TabN.to (t _ (.tail _ (.head _)))
theorem ndf_free : ∀ y ∈ (C8.fnScope s_can_go).names, y.2 = .free → (defScope s_order_by).names.lookup y.1 = some .cell ∨ (defScope s_order_by).names.lookup y.1 = some .free := ndef_free (sc := defScope s_order_by) (fr := ["ahead"]) (by decide +kernel)
theorem ndf_fr : ∀ y ∈ (["ahead"] : List Str), (y, NameKind.free) ∈ (C8.fnScope s_can_go).names := ndef_fr (sc := defScope s_order_by) (by decide +kernel)
theorem ndf_cl {cells : List (Str × Addr)} : ∀ y c, (cloFrom cells (C8.fnScope s_can_go).names []).lookup y = some c → y ∈ (["ahead"] : List Str) := fun y c e => by
  rcases cloFrom_mem (PySem.mem_of_lookup e) with hm | ⟨h1, h2⟩
  · cases hm
  · exact nsc_can_go.free _ h1 rfl
def spOrderBy (K : PySem.W.Frag) : Sp := fun vs H Q _ => ∃ (A : SA) (b : BookD) (ds : List DM) (n : Nat), vs = [.ref A.st] ∧ StepAt K H A b ds n ∧ WF n ds ∧
  (∀ H', Fr0 K H H' → Cyc ds → Q .non H') ∧ ∀ (l : Addr) (H' : Hp), Fr0 K H H' → ¬ Cyc ds → Q (.ref l) H'
theorem c_order_by (T : Tx K mg) (B : TbB K mg base) : C8.Cal P w K mg base 6 "order_by" (spOrderBy K) [] := by
  have c_ahead_of_each : C8.Cal P w K mg base 4 "ahead_of_each" (spAheadOf K) [] := c_ahead_of_each T
  refine T.calC T.D_order_by T.g_order_by b_order_by sc_order_by (fun vs H Q E h => ?_) (fun A outer s H vs Q E hr h => ?_)
  · obtain ⟨A, b, ds, n, rfl, _⟩ := h
    rfl
  · obtain ⟨SA, b, ds, n, rfl, hst, W, qn, qr⟩ := h
    refine ⟨_, (pss_cons (ps_set (i := 1) sc_order_by.nd rfl (Or.inr rfl) (C8.pe_c c_ahead_of_each hr (by decide) rfl (pa_cons (pv 0) pa_nil)))
      (pss_cons (ps_ndefS (st := s_can_go) (T := tabN K) (nm := fun _ _ => "order_by.<locals>.can_go") (P := (He.cT K ("order_by", none)).2) (i := 2) rfl (B _ (.tail _ (.head _))) rfl (.tail _ (.head _)) rfl
        (fun q hq e => by
          rcases List.mem_cons.mp hq with rfl | hq
          · exact absurd e T.apart
          · rw [List.mem_singleton.mp hq])
        ndf_free rfl rfl rfl sc_order_by.nd rfl (Or.inr rfl) (Or.inl rfl))
      (pss_cons (ps_set (i := 3) sc_order_by.nd rfl (Or.inr rfl) (pe_lst pa_nil))
      (pss_cons (ps_while PassesOwn.never (pt_cmpR op_lt (pe_callB call_len_seq (by rfl) T.fr_len bt_len (pa_cons (pv 3) pa_nil)) (pe_callB call_lenDF (by rfl) T.fr_len bt_len (pa_cons (pv 1) pa_nil)) (nomark _))
        (pss_cons (ps_setLcI (i := 4) (own := [("number", 5)]) (by rfl) sc_order_by.nd rfl rfl (sw_true rfl rfl rfl (by decide +kernel)) (pi_keys (pv 1)) (blkOk_by (own := [("number", 5)]) (N := n_order_by) (sc := defScope s_order_by) (by decide +kernel)) (fun _ _ _ _ _ => (pg_name (i := 5) sc_order_by.nd rfl (Or.inl rfl)))
          (fun pins σ s H C cl fp I hfp => (pts_one (pt_val (pe_callB0 (mk := mk_can_go "order_by.<locals>.can_go" _) (k := 1) (i := 2) (sp := fun f c' ws => spCanGo K ws) (E := C8.E0) (ws := [slotAt σ 1]) (fun f c' => nok_can_go T ndf_cl) (fun _ => rfl)
            (cells_of (js := [1]) I (Caps.made I.ok ndf_free ndf_fr rfl))
            (fun y c e => cells_nofs I (fun _ => rfl) ((Caps.made (js := [1]) I.ok ndf_free ndf_fr rfl).sub y c e)) (fun y c e hb => (hfp c hb).2.2.2.2.1 y c ((Caps.made (js := [1]) I.ok ndf_free ndf_fr rfl).sub y c e) rfl)
            hr (by decide) C8.pass0 rfl (Or.inr (Or.inl rfl)) (pa_cons (pv 5) (pa_cons (pv 3) pa_nil)))))) (fun _ _ _ _ _ => (pv 5)))
        (pss_cons (ps_if (pt_cmpR (op_eqD hr.units) (pv 4) (pe_lst pa_nil) (nomark _))
          (pss_one (ps_ret pe_non))
          pss_nil)
        (pss_one (ps_expr (pe_bm PySem.F.plainAttrs_list PySem.F.slot_list_append PySem.F.type_list_append mt_append (pv 3) (pa_cons (pe_callB (cr_min rfl) (by rfl) T.fr_min bt_min (pa_cons (pv 4) pa_nil)) pa_nil)))))))
      (pss_one (ps_ret (pv 3))))))), ?_⟩
    have few := W.few
    have sL := standL_len ds
    have snd := standL_nodup ds
    refine ⟨_, rfl, SA, b, ds, n, rfl, hst, W, fun d H1 n1 g1 hG => ?_⟩
    refine ⟨tabsN_of (g1.tabs hst.tabs), fun f c' H2 hE hT hn0 hf0 hc0 => ?_⟩
    have g2 : Fr0 K H1 H2 := .ofExtN hE (tabsN_to hT)
    let mk := mk_can_go "order_by.<locals>.can_go" (cloFrom (cellsFrom (s.heap.objs.size + 1) (defScope s_order_by).names []) (C8.fnScope s_can_go).names [])
    have hf1 : H2 f = some (FnO f (mk c')) := hf0
    have hc1 : H2 c' = some (LamX.CodeO c' (mk c').qual) := hc0
    clear hf0 hc0
    refine ⟨Nat.zero_le _, fun fl hfl0 => ?_⟩
    have g3 : Fr0 K H2 (upd H2 fl (.lst [])) := .new hfl0
    have hfl : upd H2 fl (.lst []) fl = some (.lst (natL [])) := upd_same
    have nff : f ≠ fl := fun z => by rw [← z, hf1] at hfl0; cases hfl0
    have nfc : c' ≠ fl := fun z => by rw [← z, hc1] at hfl0; cases hfl0
    have hf3 : upd H2 fl (.lst []) f = some (FnO f (mk c')) := (upd_ne nff).trans hf1
    have hc3 : upd H2 fl (.lst []) c' = some (LamX.CodeO c' (mk c').qual) := (upd_ne nfc).trans hc1
    have hG3 := (g2.trans g3).grp hG
    have g13 := (g1.trans g2).trans g3
    have nfl : Nw H fl := (g1.trans g2).nw (fun z => z) (.of hfl0)
    show tWhile _ _ _ [some (.ref SA.st), some (.ref d), some (.ref f), some (.ref fl), none, none] (upd H2 fl (.lst []))
    generalize upd H2 fl (.lst []) = H3 at g3 hfl hf3 hc3 hG3 g13 ⊢
    have hG4 := hG3
    obtain ⟨o, als, la, hd, _⟩ := hG4
    let can : List Nat → Nat → Prop := fun found x => x ∉ found ∧ ∀ i, Edge ds i x → i ∈ found
    let Pv : Nat → L2.St → Hp → Prop := fun i σ' H' => (∃ x y, σ' = [some (.ref SA.st), some (.ref d), some (.ref f), some (.ref fl), x, y]) ∧ Fr K (fun c => c = fl) H3 H' ∧ ∃ found, found.length = i ∧ H' fl = some (.lst (natL found)) ∧ Ordered ds found
    refine ⟨fun m σ' H' => ∃ i, m + i = 41 ∧ Pv i σ' H', ⟨41, 0, rfl, ⟨none, none, rfl⟩, .refl _, [], rfl, hfl, .nil ds⟩, ?_⟩
    rintro m σ' H' ⟨i, hmi, ⟨x1, y1, rfl⟩, f4, found, hlen, hfd, hO⟩
    have hd4 : H' d = some (.frz o (.dK (kvA (standL ds) als))) := f4.imm _ _ hd trivial
    have hf4 := f4.keep _ _ hf3 nff (fun ps => fnO_ne ps)
    have hc4 := f4.keep _ _ hc3 nfc (fun ps z => LamX.codeO_ne ps z)
    have fle : found.length ≤ (standL ds).length := nd_len hO.nd hO.sub
    refine ⟨_, rfl, fl, _, rfl, .inl (.of hfd), _, rfl, d, o, _, rfl, hd4, _, _, rfl, rfl, _, rfl, ?_⟩
    rw [natL_len, kvA_len la]
    have gE : Fr0 K H H' := (g13.wide.trans f4).narrow fun b hb => .inr (by rw [hb]; exact nfl)
    by_cases c : found.length < (standL ds).length
    · rw [show decide (((found.length : Nat) : Int) < (((standL ds).length : Nat) : Int)) = true from decide_eq_true (by omega)]
      refine ⟨fun σ' H' => Pv (i + 1) σ' H', fun σ' H' h => ⟨m - 1, by omega, i + 1, by omega, h⟩, ?_⟩
      refine ⟨_, rfl, d, o, rfl, .inl ⟨_, hd4, fun D hD => ?_⟩⟩
      classical
      have nDfl : fl ≠ D := fun z => by rw [← z, hfd] at hD; cases hD
      refine lc_it (walk_keys (d := d) (o := o) (kvs := kvA (standL ds) als)) (fun k H5 => Fr0 K H' H5 ∧ H5 D = some (.lst (natL (((standL ds).take k).filter fun x => decide (can found x))))) ⟨.new hD, upd_same⟩ ?_ ?_ ?_
      · rintro k H5 _ ⟨g, _⟩
        exact g.imm _ _ hd4 trivial
      · rintro k y H0 H5 hk ⟨g, hq⟩ ⟨rfl, k0, v0, hk0, rfl⟩
        rw [kvA_len la] at hk
        obtain ⟨x, hx⟩ : ∃ x, (standL ds)[k]? = some x := ⟨_, List.getElem?_eq_getElem hk⟩
        obtain ⟨a, ha⟩ : ∃ a, als[k]? = some a := ⟨_, List.getElem?_eq_getElem (by omega)⟩
        rw [kvA_get hx ha] at hk0
        obtain ⟨rfl, rfl⟩ := Prod.mk.inj (Option.some.inj hk0)
        have hxs := List.mem_of_getElem? hx
        have hfd5 := g.lst hfd (fun z => z)
        refine ⟨rfl, f, c', rfl, g.keep _ _ hf4 (fun z => z) (fun ps => fnO_ne ps), _, rfl, _, rfl, g.keep _ _ hf4 (fun z => z) (fun ps => fnO_ne ps), g.keep _ _ hc4 (fun z => z) (fun ps z => LamX.codeO_ne ps z), ?_⟩
        refine ⟨d, fl, x, found, ds, rfl, rfl, (f4.trans g.wide).grp hG3, hxs, hfd5, fun H6 g6 c1 c2 => ?_, fun H6 g6 hn => ?_⟩
        · have hq6 := g6.lst hq (fun z => z)
          have len5 : (((standL ds).take k).filter fun x => decide (can found x)).length < 1000 := by
            have e1 := List.length_filter_le (fun x => decide (can found x)) ((standL ds).take k)
            rw [List.length_take] at e1
            omega
          refine ⟨_, rfl, _, rfl, _, hq6, by rw [natL_len]; exact small1000 (Nat.le_of_lt len5), (g.trans g6).own (.of hD) hq6 trivial, ?_⟩
          rw [take_snoc hx, List.filter_append, List.filter_cons, if_pos (decide_eq_true (show can found x from ⟨c1, c2⟩)), List.filter_nil, natL_snoc]
          exact upd_same
        · refine ⟨_, rfl, g.trans g6, ?_⟩
          rw [take_snoc hx, List.filter_append, List.filter_cons, if_neg (by rw [decide_eq_false (show ¬ can found x from hn)]; exact Bool.false_ne_true), List.filter_nil, List.append_nil]
          exact g6.lst hq (fun z => z)
      · rintro H5 ⟨g, hq⟩
        rw [kvA_len la, List.take_length] at hq
        refine ⟨_, rfl, Nat.zero_le _, fun z hz => ?_⟩
        have gz : Fr0 K H5 (upd H5 z (.lst [])) := .new hz
        have hq2 := gz.lst hq (fun z => z)
        have hzz : upd H5 z (.lst []) z = some (.lst []) := upd_same
        generalize upd H5 z (.lst []) = H6 at gz hq2 hzz ⊢
        have f6 := f4.trans (g.trans gz).wide
        have g6 : Fr0 K H H6 := (gE.trans g).trans gz
        have hfd6 := (g.trans gz).lst hfd (fun z => z)
        refine eqD_nil (.of hq2) (.of hzz) ?_
        by_cases c3 : ((standL ds).filter fun x => decide (can found x)) = []
        · rw [c3]
          refine ⟨_, rfl, qn _ g6 ?_⟩
          have hex : ∃ j0 ∈ standL ds, j0 ∉ found := by
            apply Classical.byContradiction
            intro hno
            have := nd_len snd fun x hx => Classical.byContradiction fun hx2 => hno ⟨x, hx, hx2⟩
            omega
          obtain ⟨j0, h0, h1⟩ := hex
          refine cyc_of_stuck W h0 h1 fun j hj hjn => Classical.byContradiction fun hno => ?_
          have : j ∈ ((standL ds).filter fun x => decide (can found x)) := List.mem_filter.mpr ⟨hj, decide_eq_true ⟨hjn, fun i hi => Classical.byContradiction fun hi2 => hno ⟨i, hi, hi2⟩⟩⟩
          rw [c3] at this
          cases this
        · obtain ⟨m0, hm0⟩ := List.exists_mem_of_ne_nil _ c3
          rw [show ((standL ds).filter fun x => decide (can found x)).isEmpty = false from by
            cases e : ((standL ds).filter fun x => decide (can found x)) with
            | nil => exact absurd e c3
            | cons _ _ => rfl]
          refine ⟨_, rfl, _, rfl, .inl ⟨rfl, _, .of hfd6⟩, _, rfl, D, ((standL ds).filter fun x => decide (can found x)).map fun (j : Nat) => ((j : Nat) : Int), rfl, .of ?_, ?_, fun m1 hm1 _ => ?_⟩
          · rw [hq2, List.map_map] <;> rfl
          · rw [List.length_map]
            exact List.length_pos_of_mem hm0
          · obtain ⟨j, hj, rfl⟩ := List.mem_map.mp hm1
            obtain ⟨hj1, hj2⟩ := List.mem_filter.mp hj
            obtain ⟨hj3, hj4⟩ := of_decide_eq_true hj2
            refine ⟨fl, _, _, rfl, rfl, hfd6, by rw [natL_len]; exact small1000 (by omega), ⟨_, _, rfl⟩, f6.trans (.at_ rfl hfd6 trivial), found ++ [j], ?_, ?_, hO.snoc hj1 hj3 hj4⟩
            · rw [List.length_append, hlen] <;> rfl
            · rw [natL_snoc]; exact upd_same
    · rw [show decide (((found.length : Nat) : Int) < (((standL ds).length : Nat) : Int)) = false from decide_eq_false (by omega)]
      refine ⟨_, rfl, qr _ _ gE (hO.acyclic W fun x hx => Classical.byContradiction fun hn => ?_)⟩
      have := nd_len (l := found ++ [x]) (m := standL ds) (List.nodup_append.mpr ⟨hO.nd, by simp, fun a ha b hb => by
        rw [List.mem_singleton.mp hb]
        intro z
        exact hn (z ▸ ha)⟩) fun z hz => by
          rcases List.mem_append.mp hz with hz | hz
          · exact hO.sub z hz
          · rw [List.mem_singleton.mp hz]; exact hx
      rw [List.length_append, List.length_singleton] at this
      omega
def spOrderOf (K : PySem.W.Frag) : Sp := fun vs H Q _ => ∃ (bk l : Addr) (b : BookD) (rs : List RowM), vs = [.ref bk, .ref l] ∧ RunAt K H bk l b rs ∧
  (∀ H', Fr0 K H H' → Cyc (play rs) → Q .non H') ∧ ∀ (l : Addr) (H' : Hp), Fr0 K H H' → ¬ Cyc (play rs) → Q (.ref l) H'
theorem c_order_of (T : Tx K mg) (B : TbB K mg base) : C8.Cal P w K mg base 7 "order_of" (spOrderOf K) [] := by
  have c_played : C8.Cal P w K mg base 6 "played" (spPlayed K) [] := c_played T B
  have c_order_by : C8.Cal P w K mg base 6 "order_by" (spOrderBy K) [] := c_order_by T B
  refine T.cal T.D_order_of T.g_order_of b_order_of sc_order_of (fun vs H Q E h => ?_) (fun cdv A outer s H vs Q E hr h => ?_)
  · obtain ⟨bk, l, b, rs, rfl, _⟩ := h
    rfl
  · obtain ⟨bk, l, b, rs, rfl, ⟨hb, hB, hrs, hrun, ht⟩, qn, qr⟩ := h
    refine ⟨_, (pss_cons (ps_asg (C8.pe_c c_played hr (by decide) rfl (pa_cons (pv 0) (pa_cons (pv 1) pa_nil))) (pg_tup rfl (pgs_cons (pg_name (i := 2) sc_order_of.nd rfl (Or.inl rfl)) (pgs_cons (pg_name (i := 3) sc_order_of.nd rfl (Or.inl rfl)) pgs_nil))))
      (pss_one (ps_ret (C8.pe_c c_order_by hr (by decide) rfl (pa_cons (pv 2) pa_nil))))), ?_⟩
    refine ⟨_, rfl, _, rfl, bk, l, b, rs, rfl, hb, hB, hrs, hrun, ht, fun p A H1 g1 hp => ?_⟩
    obtain ⟨⟨told, ht1⟩, hst⟩ := hp
    refine ⟨p, _, rfl, ht1, rfl, _, _, rfl, _, _, rfl, rfl, ?_⟩
    exact ⟨_, rfl, A, b, play rs, rs.length, rfl, hst, wf_play hrun.goes, fun H2 g2 hn => qn H2 (g1.trans g2) hn, fun l2 H2 g2 hR => qr l2 H2 (g1.trans g2) hR⟩
end
end Sn
set_option Elab.async false
set_option linter.all false
set_option maxRecDepth 100000
set_option maxHeartbeats 4000000
namespace Sn
open PySem PySem.Spec PyProof.Rows L2
theorem cutV_take {xs : List V} {i : Nat} (h : i ≤ xs.length) : cutV xs none (some (i : Nat)) = xs.take i := by
  unfold cutV
  rw [HT.sIx_nat, HT.sIx_none, Nat.min_eq_left h] <;> rfl
section
variable {P : Program} {w : World} {K : PySem.W.Frag} {mg : Str → Option Value} {base : Heap} {S : Addr → Prop} {H H1 : Hp} {A : SA} {b : BookD} {ds : List DM} {n : Nat} {rs : List RowM} {bk l : Addr}
def spAreNumbers (K : PySem.W.Frag) : Sp := fun vs H Q _ => ∃ (l m : Addr) (p st : List Nat), vs = [.ref l, .ref m] ∧ SqL K H l (natL p) ∧ (∀ H', Fr0 K H H' → SqL K H' l (natL p)) ∧ H m = some (.lst (natL st)) ∧ p.Nodup ∧ (∀ x ∈ p, x ∈ st) ∧ p.length ≤ 40 ∧
  ∀ H', Fr0 K H H' → Q (.bl true) H'
theorem c_are_numbers (T : Tx K mg) : C8.Cal P w K mg base 1 "are_numbers" (spAreNumbers K) [] := by
  refine T.cal T.D_are_numbers T.g_are_numbers b_are_numbers sc_are_numbers (fun vs H Q E h => ?_) (fun cdv A outer s H vs Q E hr h => ?_)
  · obtain ⟨l, m, p, st, rfl, _⟩ := h
    rfl
  · obtain ⟨l, m, p, st, rfl, hl, hlk, hm, nd, sub, h40, q⟩ := h
    refine ⟨_, (pss_cons (ps_if (pt_not (pt_val (pe_callB call_isi (by rfl) T.fr_isinstance bt_isinstance (pa_cons (pv 0) (pa_cons (pe_bltn (v := .ty "list") (by rfl) T.fr_list bt_list rfl) pa_nil)))))
        (pss_one (ps_ret pe_bl))
        pss_nil)
      (pss_cons (ps_for PassesOwn.never rfl (pi_enum (by rfl) T.fr_enumerate (pa_cons (pv 0) pa_nil)) (pg_tup rfl (pgs_cons (pg_name (i := 2) sc_are_numbers.nd rfl (Or.inl rfl)) (pgs_cons (pg_name (i := 3) sc_are_numbers.nd rfl (Or.inl rfl)) pgs_nil)))
        (pss_one (ps_if (PW.pt (pw_or (pt_not (pt_val (pe_callB call_isi (by rfl) T.fr_isinstance bt_isinstance (pa_cons (pv 3) (pa_cons (pe_bltn (v := .ty "int") (by rfl) T.fr_int bt_int rfl) pa_nil))))) (pw_or (pt_val (pe_callB call_isi (by rfl) T.fr_isinstance bt_isinstance (pa_cons (pv 3) (pa_cons (pe_bltn (v := .ty "bool") (by rfl) T.fr_bool bt_bool rfl) pa_nil)))) (pw_or (pt_cmpR op_notIn_seq (pv 3) (pv 1) (by rfl)) (pw_or1 (pt_cmpR op_in_seq (pv 3) (pe_slice sl_list (pv 0) po_none (po_some (pv 2))) (by rfl)))))))
          (pss_one (ps_ret pe_bl))
          pss_nil)))
      (pss_one (ps_ret pe_bl)))), ?_⟩
    refine ⟨_, rfl, _, _, _, _, _, rfl, .ty _, tyx_list hl, kit_ty kit_ll, _, rfl, ?_⟩
    refine ⟨_, rfl, l, _, rfl, hl, ?_⟩
    refine for_it (walk_enum (K := K) (a := l) (xs := natL p)) (fun i σ' H' => (∃ x y, σ' = [some (.ref l), some (.ref m), x, y]) ∧ Fr0 K H H') ⟨⟨none, none, rfl⟩, .refl _⟩ ?_ ?_ ?_
    · rintro i σ' H' _ ⟨_, g⟩
      exact hlk _ g
    · rintro i y σ' H' H'' hi ⟨⟨x', y', rfl⟩, g⟩ ⟨t, u, v, rfl, ht, rfl, hu1, hu2⟩
      obtain ⟨x, hx, rfl⟩ := natL_get hu2
      obtain rfl := Option.some.inj hu1
      have gt : Fr0 K H' (upd H' t (.tup [.int (i : Nat), .int (x : Nat)])) := .new ht
      have gg := g.trans gt
      have hi2 : i < p.length := (List.getElem?_eq_some_iff.mp hx).1
      refine ⟨t, _, rfl, .of upd_same, rfl, _, _, rfl, _, _, rfl, rfl, ?_⟩
      refine ⟨_, rfl, _, _, _, _, _, rfl, .ty _, .base (.int _), kit_ty kit_ii, _, rfl, ?_⟩
      refine ⟨_, rfl, _, _, _, _, _, rfl, .ty _, .base (.int _), kit_ty kit_ib, _, rfl, ?_⟩
      refine ⟨_, rfl, _, rfl, m, _, rfl, .inl (.of (gg.lst hm (fun z => z))), rfl, flat_nat _, _, rfl, ?_⟩
      show if (!inV (V.int (x : Nat)) (natL st)) = true then _ else _
      rw [inV_nat, decide_eq_true (sub x (List.mem_of_getElem? hx))]
      refine ⟨_, rfl, _, rfl, _, rfl, (i : Nat), rfl, l, _, rfl, hlk _ gg, fun z hz => ?_⟩
      have gz : Fr0 K (upd H' t (.tup [.int (i : Nat), .int (x : Nat)])) (upd (upd H' t (.tup [.int (i : Nat), .int (x : Nat)])) z (.lst (cutV (natL p) none (some (i : Nat))))) := .new hz
      have hcut : cutV (natL p) none (some (i : Nat)) = natL (p.take i) := by
        rw [cutV_take (by rw [natL_len]; omega), natL, ← List.map_take] <;> rfl
      refine ⟨z, _, rfl, .inl (.of upd_same), rfl, by rw [hcut]; exact flat_nat _, _, rfl, ?_⟩
      show if inV (V.int (x : Nat)) (cutV (natL p) none (some (i : Nat))) = true then _ else _
      rw [hcut, inV_nat, decide_eq_false (fun hxt => ?_)]
      · exact ⟨⟨_, _, rfl⟩, gg.trans (by rw [hcut] at gz; exact gz)⟩
      · obtain ⟨k, hk, e⟩ := List.getElem_of_mem hxt
        rw [List.length_take] at hk
        have e2 : p[k]? = some x := by
          rw [List.getElem_take] at e
          rw [List.getElem?_eq_getElem (by omega), e]
        have := (List.getElem?_inj (by omega) nd).mp (e2.trans hx.symm)
        omega
    · rintro σ' H' ⟨_, g⟩
      exact q _ g
/-- thing[at - 1] -/
theorem at_pre {rs : List Nat} {i x : Nat} (h : rs[i]? = some x) : atI (natL rs) ((i : Int) - 1) = some (.int (preR rs i : Nat)) := by
  have hi := (List.getElem?_eq_some_iff.mp h).1
  cases i with
  | zero =>
    obtain ⟨l, hl⟩ : ∃ l, rs[rs.length - 1]? = some l := ⟨_, List.getElem?_eq_getElem (by omega)⟩
    rw [preR_zero hl]
    have e : ixN (natL rs).length (((0 : Nat) : Int) - 1) = some (rs.length - 1) := by
      unfold ixN
      rw [natL_len, if_neg (by omega), if_pos (by omega)]
      congr 1
      omega
    unfold atI
    rw [e]
    exact get_natL hl
  | succ i =>
    obtain ⟨l, hl⟩ : ∃ l, rs[i]? = some l := ⟨_, List.getElem?_eq_getElem (by omega)⟩
    rw [preR_succ hl]
    exact at_of (by omega) (get_natL hl)
theorem Ring.sub {ds : List DM} {n : Nat} (W : WF n ds) {p : List Nat} (R : Ring ds p) : ∀ x ∈ p, x ∈ standL ds := fun x hx => by
  obtain ⟨i, hi, e⟩ := List.getElem_of_mem hx
  exact (R.edge i x (by rw [List.getElem?_eq_getElem hi, e])).right W
theorem Ring.len {ds : List DM} {n : Nat} (W : WF n ds) {p : List Nat} (R : Ring ds p) : p.length ≤ 40 := Nat.le_trans (nd_len R.nd (R.sub W)) (Nat.le_trans (standL_len ds) W.few)
def spIsRing (K : PySem.W.Frag) : Sp := fun vs H Q _ => ∃ (bk l r : Addr) (b : BookD) (rs : List RowM) (p : List Nat), vs = [.ref bk, .ref l, .ref r] ∧ RunAt K H bk l b rs ∧ (∀ H', Fr0 K H H' → SqL K H' r (natL p)) ∧ Ring (play rs) p ∧ ∀ H', Fr0 K H H' → Q (.bl true) H'
theorem c_is_ring (T : Tx K mg) (B : TbB K mg base) : C8.Cal P w K mg base 7 "is_ring" (spIsRing K) [] := by
  have c_played : C8.Cal P w K mg base 6 "played" (spPlayed K) [] := c_played T B
  have c_ahead_of_each : C8.Cal P w K mg base 4 "ahead_of_each" (spAheadOf K) [] := c_ahead_of_each T
  have c_are_numbers : C8.Cal P w K mg base 1 "are_numbers" (spAreNumbers K) [] := c_are_numbers T
  refine T.cal T.D_is_ring T.g_is_ring b_is_ring sc_is_ring (fun vs H Q E h => ?_) (fun cdv A outer s H vs Q E hr h => ?_)
  · obtain ⟨bk, l, r, b, rs, p, rfl, _⟩ := h
    rfl
  · obtain ⟨bk, l, r, b, rs, p, rfl, ⟨hb, hB, hrs, hrun, ht⟩, hp, R, q⟩ := h
    have hu := hu_of hr
    refine ⟨_, (pss_cons (ps_asg (C8.pe_c c_played hr (by decide) rfl (pa_cons (pv 0) (pa_cons (pv 1) pa_nil))) (pg_tup rfl (pgs_cons (pg_name (i := 3) sc_is_ring.nd rfl (Or.inl rfl)) (pgs_cons (pg_name (i := 4) sc_is_ring.nd rfl (Or.inl rfl)) pgs_nil))))
      (pss_cons (ps_set (i := 5) sc_is_ring.nd rfl (Or.inr rfl) (C8.pe_c c_ahead_of_each hr (by decide) rfl (pa_cons (pv 3) pa_nil)))
      (pss_cons (ps_if (PW.pt (pw_or (pt_not (pt_val (C8.pe_c c_are_numbers hr (by decide) rfl (pa_cons (pv 2) (pa_cons (pe_callTy (call_listD rfl) (by rfl) T.fr_list bt_list (pa_cons (pv 5) pa_nil)) pa_nil))))) (pw_or1 (pt_cmpR op_lt (pe_callB call_len_seq (by rfl) T.fr_len bt_len (pa_cons (pv 2) pa_nil)) pe_int (nomark _)))))
        (pss_one (ps_ret pe_bl))
        pss_nil)
      (pss_one (ps_ret (pe_callB (cr_all rfl) (by rfl) T.fr_all bt_all (pa_cons (pe_lc (own := [("at", 6), ("one", 7)]) (by rfl) sc_is_ring.nd (pi_enum (by rfl) T.fr_enumerate (pa_cons (pv 2) pa_nil)) (blkOk_by (own := [("at", 6), ("one", 7)]) (N := n_is_ring) (sc := defScope s_is_ring) (by decide +kernel)) (fun _ _ _ _ _ => (pg_tupK (K := K) (n := 2) rfl rfl (pgs_cons (pg_name (i := 6) sc_is_ring.nd rfl (Or.inl rfl)) (pgs_cons (pg_name (i := 7) sc_is_ring.nd rfl (Or.inl rfl)) pgs_nil)))) (fun _ _ _ _ _ => pts_nil) (fun _ _ _ _ _ => (pe_cmpR (op_in_seqK (K := K) rfl) (pe_ix (ix_listK (K := K) rfl) (pv 2) (pe_op op_sub (pv 6) pe_int) (fun _ _ => rfl)) (pe_dget hu (pv 5) (pv 7) (fun _ _ => rfl)) (by rfl)))) pa_nil))))))), ?_⟩
    have W := wf_play hrun.goes
    have snd := standL_nodup (play rs)
    refine ⟨_, rfl, _, rfl, bk, l, b, rs, rfl, hb, hB, hrs, hrun, ht, fun pp A H1 g1 hpp => ?_⟩
    obtain ⟨⟨told, ht1⟩, hst⟩ := hpp
    refine ⟨pp, _, rfl, ht1, rfl, _, _, rfl, _, _, rfl, rfl, ?_⟩
    refine ⟨_, rfl, A, b, play rs, rs.length, rfl, hst, W, fun d H2 n2 g2 hG => ?_⟩
    have hG0 := hG
    obtain ⟨o, als, la, hd, _⟩ := hG0
    refine ⟨_, rfl, _, rfl, d, kvA (standL (play rs)) als, rfl, .inr ⟨o, hd⟩, fun m hm => ?_⟩
    have ek : (kvA (standL (play rs)) als).map (fun kv => kV kv.1) = natL (standL (play rs)) := by
      have := congrArg (List.map kV) (kvA_keys (st := standL (play rs)) la)
      rw [List.map_map, List.map_map] at this
      exact this
    rw [ek]
    have g3 : Fr0 K H2 (upd H2 m (.lst (natL (standL (play rs))))) := .new hm
    have hm3 : upd H2 m (.lst (natL (standL (play rs)))) m = some (.lst (natL (standL (play rs)))) := upd_same
    generalize upd H2 m (.lst (natL (standL (play rs)))) = H3 at g3 hm3 ⊢
    have g13 := (g1.trans g2).trans g3
    refine ⟨r, m, p, standL (play rs), rfl, hp _ g13, fun H' g' => hp _ (g13.trans g'), hm3, R.nd, R.sub W, R.len W, fun H4 g4 => ?_⟩
    have g14 := g13.trans g4
    have two := R.two
    refine ⟨_, rfl, _, rfl, r, _, rfl, .inl (hp _ g14), _, _, rfl, rfl, _, rfl, ?_⟩
    rw [natL_len, show decide (((p.length : Nat) : Int) < 2) = false from decide_eq_false (by omega)]
    have hG4 := (g3.trans g4).grp hG
    refine ⟨_, rfl, r, _, rfl, hp _ g14, fun D hD => ?_⟩
    refine lc_it (walk_enum (K := K) (a := r) (xs := natL p)) (fun i H5 => Fr0 K H4 H5 ∧ H5 D = some (.lst ((List.replicate i true).map V.bl))) ⟨.new hD, upd_same⟩ ?_ ?_ ?_
    · rintro i H5 _ ⟨g, _⟩
      exact hp _ (g14.trans g)
    · rintro i y H0 H5 hi ⟨g, hq⟩ ⟨t, u, v, rfl, ht, rfl, hu1, hu2⟩
      obtain ⟨x, hx, rfl⟩ := natL_get hu2
      obtain rfl := Option.some.inj hu1
      have hi2 : i < p.length := (List.getElem?_eq_some_iff.mp hx).1
      have h40 := R.len W
      have gt : Fr0 K H0 (upd H0 t (.tup [.int (i : Nat), .int (x : Nat)])) := .new ht
      have gg := g.trans gt
      have hq5 := gt.lst hq (fun z => z)
      have hE := R.edge i x hx
      obtain ⟨a, es, hda, hfa, nda, lena, mema⟩ := (gg.grp hG4).get snd (hE.right W)
      refine ⟨t, _, rfl, .of upd_same, rfl, _, _, rfl, _, _, rfl, rfl, rfl, ?_⟩
      refine ⟨_, rfl, _, rfl, _, _, rfl, rfl, r, _, _, _, rfl, rfl, hp _ (g14.trans gg), at_pre hx, ?_⟩
      refine ⟨_, rfl, _, rfl, d, _, rfl, hda, a, _, rfl, .inl hfa.seq, rfl, flat_nat _, ?_⟩
      show ∃ acc, _
      rw [if_neg (by decide), inV_nat, decide_eq_true ((mema _).mpr hE)]
      refine ⟨_, hq5, by rw [List.length_map, List.length_replicate]; exact small1000 (by omega), gg.own (.of hD) hq5 trivial, ?_⟩
      rw [List.replicate_succ', List.map_append]
      exact upd_same
    · rintro H5 ⟨g, hq⟩
      refine ⟨D, List.replicate (natL p).length true, rfl, .of hq, ?_⟩
      rw [show (List.replicate (natL p).length true).all id = true from List.all_eq_true.mpr fun z hz => (List.mem_replicate.mp hz).2]
      exact q _ (g14.trans g)
end
end Sn
set_option Elab.async false
set_option linter.all false
set_option maxRecDepth 100000
set_option maxHeartbeats 4000000
namespace Sn
open PySem PySem.Spec PyProof.Rows L2
/-! ### the law's pool of numbers -/
def PoolAt (H : Hp) (a : Addr) : Prop := ∃ x y : Int, H a = some (.lst [.int x, .int y])
def spDraw (K : PySem.W.Frag) : Sp := fun vs H Q _ => ∃ (a : Addr) (n : Int), vs = [.ref a, .int n] ∧ PoolAt H a ∧ 0 < n ∧ n < 1000 ∧
  ∀ (v : Int) (H' : Hp), 0 ≤ v → v < n → PoolAt H' a → Fr K (fun b => b = a) H H' → Q (.int v) H'
section
variable {P : Program} {w : World} {K : PySem.W.Frag} {mg : Str → Option Value} {base : Heap}
theorem pool_fr {H : Hp} {a : Addr} {xs ys : List V} (h : H a = some (.lst xs)) : Fr K (fun b => b = a) H (upd H a (.lst ys)) := .at_ rfl h trivial
theorem c_L_draw (T : Tx K mg) : C8.Cal P w K mg base 1 "_law_draw" (spDraw K) [] := by
  refine T.cal T.D_L_draw T.g_L_draw b_L_draw sc_L_draw (fun vs H Q E h => ?_) (fun cdv A outer s H vs Q E hr h => ?_)
  · obtain ⟨a, n, rfl, _⟩ := h
    rfl
  · obtain ⟨a, n, rfl, ⟨x, y, hp⟩, h0, h1, k⟩ := h
    refine ⟨_, (pss_cons (ps_if (pt_cmpR op_gt (pe_ix ix_list (pv 0) pe_int (fun _ _ => rfl)) pe_int (nomark _))
        (pss_cons (ps_set (i := 2) sc_L_draw.nd rfl (Or.inl rfl) (pe_op op_mod (pe_ix ix_list (pv 0) pe_int (fun _ _ => rfl)) (pv 1)))
        (pss_cons (ps_asg (pe_op op_fdiv (pe_ix ix_list (pv 0) pe_int (fun _ _ => rfl)) (pv 1)) (pg_sub (pv 0) pe_int set_list))
        (pss_one (ps_ret (pv 2)))))
        pss_nil)
      (pss_cons (ps_asg (pe_op op_mod (pe_op op_add (pe_op op_mul (pe_ix ix_list (pv 0) pe_int (fun _ _ => rfl)) pe_int) pe_int) pe_int) (pg_sub (pv 0) pe_int set_list))
      (pss_one (ps_ret (pe_op op_mod (pe_op op_fdiv (pe_op op_mod (pe_op op_mul (pe_ix ix_list (pv 0) pe_int (fun _ _ => rfl)) (pe_ix ix_list (pv 0) pe_int (fun _ _ => rfl))) pe_int) pe_int) (pv 1)))))), ?_⟩
    have at0 : atI [V.int x, V.int y] 0 = some (.int x) := rfl
    refine ⟨_, rfl, a, _, _, _, rfl, rfl, SqL.of hp, rfl, _, _, rfl, rfl, _, rfl, ite2 (fun c => ?_) (fun c => ?_)⟩
    · refine ⟨_, rfl, a, _, _, _, rfl, rfl, SqL.of hp, rfl, _, rfl, _, _, rfl, rfl, h0, ?_⟩
      refine ⟨_, rfl, a, _, _, _, rfl, rfl, SqL.of hp, rfl, _, rfl, _, _, rfl, rfl, ⟨h0, by omega⟩, _, rfl, a, _, _, 0, rfl, rfl, hp, rfl, _, rfl, ?_⟩
      exact k _ _ (Int.emod_nonneg _ (by omega)) (Int.emod_lt_of_pos _ h0) ⟨_, _, upd_same⟩ (pool_fr hp)
    · have hm := Int.emod_lt_of_pos (y * 69621 + 7) (show (0 : Int) < 2147483647 by decide)
      have hn := Int.emod_nonneg (y * 69621 + 7) (show (2147483647 : Int) ≠ 0 by decide)
      refine ⟨_, rfl, a, _, _, _, rfl, rfl, SqL.of hp, rfl, _, _, rfl, rfl, .inr (by decide), _, _, rfl, rfl, _, _, rfl, rfl, (by show (0 : Int) < 2147483647; decide), _, rfl, a, _, _, 1, rfl, rfl, hp, rfl, ?_⟩
      refine ⟨_, rfl, a, _, _, _, rfl, rfl, SqL.of upd_same, rfl, _, rfl, a, _, _, _, rfl, rfl, SqL.of upd_same, rfl, _, _, rfl, rfl, .inl (by omega), _, _, rfl, rfl, (by show (0 : Int) < 2147483629; decide), _, _, rfl, rfl, ⟨by decide, by decide⟩, _, rfl, _, _, rfl, rfl, h0, ?_⟩
      exact k _ _ (Int.emod_nonneg _ (by omega)) (Int.emod_lt_of_pos _ h0) ⟨_, _, upd_same⟩ (pool_fr hp)
def spPool (K : PySem.W.Frag) : Sp := fun vs H Q _ => ∃ (a : Addr) (ns : List Int) (k : Int), vs = [.ref a, .int k] ∧ SqL K H a (ns.map V.int) ∧ 0 ≤ k ∧ k < 1000 ∧
  ∀ (p : Addr) (x y : Int), H p = none → Q (.ref p) (upd H p (.lst [.int x, .int y]))
theorem c_L_pool (T : Tx K mg) : C8.Cal P w K mg base 1 "_law_pool" (spPool K) [] := by
  refine T.cal T.D_L_pool T.g_L_pool b_L_pool sc_L_pool (fun vs H Q E h => ?_) (fun cdv A outer s H vs Q E hr h => ?_)
  · obtain ⟨a, ns, k, rfl, _⟩ := h
    rfl
  · obtain ⟨a, ns, n, rfl, hS, h0, h1, k⟩ := h
    refine ⟨_, (pss_cons (ps_set (i := 2) sc_L_pool.nd rfl (Or.inl rfl) pe_int)
      (C8.pss_cut (ps_if (pt_cmpR op_lt (pv 1) (pe_callB call_len_seq (by rfl) T.fr_len bt_len (pa_cons (pv 0) pa_nil)) (nomark _))
        (pss_one (ps_set (i := 2) sc_L_pool.nd rfl (Or.inl rfl) (pe_ix ix_list (pv 0) (pv 1) (fun _ _ => rfl))))
        pss_nil)
      (pss_cons (ps_set (i := 3) sc_L_pool.nd rfl (Or.inl rfl) (pe_callB (call_max2 rfl) (by rfl) T.fr_max bt_max (pa_cons (pv 2) (pa_cons (pe_op op_sub (pe_un un_neg pe_int) (pv 2)) pa_nil))))
      (pss_cons (ps_set (i := 4) sc_L_pool.nd rfl (Or.inl rfl) (pe_op op_mod (pe_op op_mul (pe_op op_add (pe_op op_add (pe_op op_add (pe_op op_mod (pv 3) pe_int) (pe_op op_mul (pe_op op_mul pe_int (pv 1)) (pv 1))) (pe_op op_mul pe_int (pv 1))) pe_int) pe_int) pe_int))
      (pss_one (ps_ret (pe_lst (pa_cons (pe_op op_mul (pv 3) (pe_callTy call_int1 (by rfl) T.fr_int bt_int (pa_cons (pe_cmpR op_ge (pv 3) (pe_op op_pow pe_int pe_int) (nomark _)) pa_nil))) (pa_cons (pv 4) pa_nil))))))))), ?_⟩
    refine ⟨fun σ' H' => ∃ z : Int, σ' = [some (.ref a), some (.int n), some (.int z), none, none] ∧ H' = H, ?_, ?_⟩
    · refine ⟨_, rfl, _, rfl, a, _, rfl, .inl hS, _, _, rfl, rfl, _, rfl, ite2 (fun c => ?_) (fun c => ?_)⟩
      · have c := of_decide_eq_true c
        rw [List.length_map] at c
        obtain ⟨m, rfl⟩ : ∃ m : Nat, n = (m : Int) := ⟨n.toNat, by omega⟩
        have hm : m < ns.length := by omega
        obtain ⟨z, hz⟩ : ∃ z, ns[m]? = some z := ⟨_, List.getElem?_eq_getElem hm⟩
        exact ⟨_, rfl, _, rfl, a, _, _, .int z, rfl, rfl, hS, at_of rfl (get_map hz), z, rfl, rfl⟩
      · exact ⟨_, rfl, rfl⟩
    · rintro σ' H' ⟨z, rfl, rfl⟩
      refine ⟨_, rfl, _, rfl, _, rfl, _, _, rfl, rfl, _, _, rfl, ?_⟩
      let q : Int := if -1 - z > z then -1 - z else z
      refine ⟨_, rfl, _, _, rfl, rfl, (by show (0 : Int) < 2147483629; decide), _, rfl, _, _, rfl, rfl, .inl (by decide), _, rfl, _, _, rfl, rfl, .inr (by omega), _, _, rfl, rfl, _, rfl, _, _, rfl, rfl, .inl (by decide), _, _, rfl, rfl, _, _, rfl, rfl, _, _, rfl, rfl, .inr (by decide), _, _, rfl, rfl, (by show (0 : Int) < 2147483647; decide), ?_⟩
      refine ⟨_, rfl, _, rfl, _, _, rfl, rfl, ⟨by decide, by decide, by decide⟩, _, _, rfl, rfl, .inr ⟨_, rfl, ?_⟩⟩
      refine ⟨_, _, rfl, rfl, .inr (b01 _), _, rfl, (by show 2 ≤ sizeLine; decide), fun p hp => ?_⟩
      exact k p _ _ hp
end
end Sn
set_option Elab.async false
set_option linter.all false
set_option maxRecDepth 100000
set_option maxHeartbeats 4000000
/-! The law's world of deals. -/
namespace Sn
open PySem PySem.Spec PyProof.Rows L2
structure WM where
  j : Nat
  d : DealD
  ks : List KeyD
  begun : Nat
  ended : Option Nat
  word : Str
  n : Nat
structure WA where
  a : Addr
  sl : Addr
  kl : Addr
def wdV (x : WA) (m : WM) : List (Key × V) := [(.inr "deal", .int (m.j : Nat)), (.inr "keys", .ref x.kl), (.inr "begun", .int (m.begun : Nat)), (.inr "ended", endV m.ended), (.inr "word", .str m.word), (.inr "steps", .ref x.sl)]
theorem wd_deal (x : WA) (m : WM) : valV (wdV x m) (.inr "deal") = some (.int (m.j : Nat)) := rfl
theorem wd_keys (x : WA) (m : WM) : valV (wdV x m) (.inr "keys") = some (.ref x.kl) := rfl
theorem wd_begun (x : WA) (m : WM) : valV (wdV x m) (.inr "begun") = some (.int (m.begun : Nat)) := rfl
theorem wd_ended (x : WA) (m : WM) : valV (wdV x m) (.inr "ended") = some (endV m.ended) := rfl
theorem wd_word (x : WA) (m : WM) : valV (wdV x m) (.inr "word") = some (.str m.word) := rfl
theorem wd_steps (x : WA) (m : WM) : valV (wdV x m) (.inr "steps") = some (.ref x.sl) := rfl
def StpAt (K : PySem.W.Frag) (H : Hp) (t : Addr) : Prop := ∃ (deed : Str) (k : KeyD) (ka : Addr) (v : V), SqT K H t [.str deed, .ref ka, v] ∧ KeyAt K H ka k
structure WDAt (K : PySem.W.Frag) (H : Hp) (x : WA) (m : WM) : Prop where
  dict : H x.a = some (.dK (wdV x m))
  steps : ∃ ts : List Addr, H x.sl = some (.lst (ts.map V.ref)) ∧ ts.length = m.n ∧ ∀ t ∈ ts, StpAt K H t
  keys : KeysAt K H x.kl m.ks
structure WorldAt (K : PySem.W.Frag) (H : Hp) (wl : Addr) (xs : List WA) (ms : List WM) : Prop where
  at_ : H wl = some (.lst (xs.map fun x => V.ref x.a))
  each : Paired (WDAt K H) xs ms
  nda : (xs.map (·.a)).Nodup
  nds : (xs.map (·.sl)).Nodup
  nw : wl ∉ xs.map (·.sl)
section
variable {P : Program} {w : World} {K : PySem.W.Frag} {mg : Str → Option Value} {base : Heap} {S : Addr → Prop} {H H1 : Hp} {b : BookD} {x : WA} {m : WM} {wl : Addr} {xs : List WA} {ms : List WM}
theorem Fr.stp {t : Addr} (f : Fr K S H H1) (h : StpAt K H t) : StpAt K H1 t := by
  obtain ⟨deed, k, ka, v, h1, h2⟩ := h
  exact ⟨deed, k, ka, v, f.tup h1, f.key h2⟩
theorem Fr.wd (f : Fr K S H H1) (h : WDAt K H x m) (n1 : ¬ S x.a) (n2 : ¬ S x.sl) : WDAt K H1 x m := by
  obtain ⟨h1, ⟨ts, h2, h3, h4⟩, h5⟩ := h
  exact ⟨f.dK h1 n1, ⟨ts, f.lst h2 n2, h3, fun t ht => f.stp (h4 t ht)⟩, f.keys h5⟩
theorem Fr.world (f : Fr K S H H1) (h : WorldAt K H wl xs ms) (n0 : ¬ S wl) (n1 : ∀ x ∈ xs, ¬ S x.a ∧ ¬ S x.sl) : WorldAt K H1 wl xs ms := by
  obtain ⟨h1, h2, h3, h4, h5⟩ := h
  refine ⟨f.lst h1 n0, pd_of (pd_len h2) fun i x m e1 e2 => ?_, h3, h4, h5⟩
  obtain ⟨m', e3, e4⟩ := pd_getL h2 e1
  rw [e2] at e3
  rw [Option.some.inj e3]
  obtain ⟨n2, n3⟩ := n1 x (List.mem_of_getElem? e1)
  exact f.wd e4 n2 n3
theorem Fr.world0 (f : Fr0 K H H1) (h : WorldAt K H wl xs ms) : WorldAt K H1 wl xs ms := f.world h (fun z => z) fun _ _ => ⟨fun z => z, fun z => z⟩
theorem WDAt.get (h : WDAt K H x m) {k : Str} {v : V} (e : valV (wdV x m) (.inr k) = some v) : DGet H x.a (.str k) (some v) := .inl ⟨_, .inr k, .inl h.dict, rfl, e.symm⟩
def spLWrote (K : PySem.W.Frag) : Sp := fun vs H Q _ => ∃ (x : WA) (m : WM), vs = [.ref x.a] ∧ WDAt K H x m ∧ m.n ≤ 100 ∧
  ∀ (p : Addr) (as : List Addr) (ks : List KeyD) (H' : Hp), Nw H p → Fr0 K H H' → H' p = some (.lst (as.map V.ref)) → Paired (KeyAt K H') as ks → ks.length ≤ 100 → Q (.ref p) H'
theorem c_L_wrote (T : Tx K mg) : C8.Cal P w K mg base 1 "_law_wrote" (spLWrote K) [] := by
  refine T.cal T.D_L_wrote T.g_L_wrote b_L_wrote sc_L_wrote (fun vs H Q E h => ?_) (fun cdv A outer s H vs Q E hr h => ?_)
  · obtain ⟨x, m, rfl, _⟩ := h
    rfl
  · obtain ⟨x, m, rfl, hw, hn, q⟩ := h
    have hu := hu_of hr
    refine ⟨_, (pss_one (ps_ret (pe_lc (own := [("_law_deed", 1), ("_law_key", 2), ("_law_seen", 3)]) (by rfl) sc_L_wrote.nd (pi_list (pe_dget hu (pv 0) pe_str (fun _ _ => rfl))) (blkOk_by (own := [("_law_deed", 1), ("_law_key", 2), ("_law_seen", 3)]) (N := n_L_wrote) (sc := defScope s_L_wrote) (by decide +kernel)) (fun _ _ _ _ _ => (pg_tupK (K := K) (n := 3) rfl rfl (pgs_cons (pg_name (i := 1) sc_L_wrote.nd rfl (Or.inl rfl)) (pgs_cons (pg_name (i := 2) sc_L_wrote.nd rfl (Or.inl rfl)) (pgs_cons (pg_name (i := 3) sc_L_wrote.nd rfl (Or.inl rfl)) pgs_nil))))) (fun _ _ _ _ _ => (pts_one (pt_cmpR op_ne (pv 1) pe_str (nomark _)))) (fun _ _ _ _ _ => (pv 2))))), ?_⟩
    obtain ⟨ts, hs1, hs2, hs3⟩ := hw.steps
    refine ⟨_, rfl, x.a, _, rfl, hw.get (wd_steps x m), x.sl, rfl, ⟨_, .of hs1⟩, fun D hD => ?_⟩
    refine lc_it (walk_list (K := K) (a := x.sl) (xs := ts.map V.ref)) (fun i H2 => Fr0 K H H2 ∧ ∃ (as : List Addr) (ks : List KeyD), H2 D = some (.lst (as.map V.ref)) ∧ as.length ≤ i ∧ Paired (KeyAt K H2) as ks) ⟨.new hD, [], [], upd_same, Nat.le_refl _, .nil⟩ ?_ ?_ ?_
    · rintro i H2 _ ⟨g, _⟩
      exact .of (g.lst hs1 (fun z => z))
    · rintro i y H0 H2 hi ⟨g, as, ks, hq, hl, hp⟩ ⟨rfl, hy⟩
      obtain ⟨t, ht, rfl⟩ := map_get hy
      obtain ⟨deed, k, ka, v, h1, h2⟩ := g.stp (hs3 t (List.mem_of_getElem? ht))
      rw [List.length_map] at hi
      refine ⟨t, _, rfl, h1, rfl, _, _, rfl, _, _, rfl, _, _, rfl, rfl, rfl, ?_⟩
      refine ⟨_, rfl, rfl, _, rfl, ite2 (fun c => ?_) (fun c => ?_)⟩
      · have f4 : Fr K (fun c => c = D) H2 (upd H2 D (.lst (as.map V.ref ++ [V.ref ka]))) := .at_ rfl hq trivial
        refine ⟨_, rfl, _, hq, by rw [List.length_map]; exact small1000 (by omega), g.own (.of hD) hq trivial, as ++ [ka], ks ++ [k], by rw [List.map_append]; exact upd_same, by rw [List.length_append, List.length_singleton]; omega, ?_⟩
        exact pd_snoc (pd_map hp fun _ _ z => f4.key z) (f4.key h2)
      · exact ⟨g, as, ks, hq, by omega, hp⟩
    · rintro H2 ⟨g, as, ks, hq, hl, hp⟩
      rw [List.length_map, hs2] at hl
      exact q D as ks H2 (.of hD) g hq hp (by rw [← pd_len hp]; omega)
def spLLeft (K : PySem.W.Frag) : Sp := fun vs H Q _ => ∃ (bk : Addr) (b : BookD) (x : WA) (m : WM), vs = [.ref bk, .ref x.a] ∧ BookAt K H bk b ∧ b.deals[m.j]? = some m.d ∧ WDAt K H x m ∧ Q (.int ((m.d.steps.length : Nat) - (m.n : Nat) : Int)) H
theorem c_L_left (T : Tx K mg) : C8.Cal P w K mg base 1 "_law_left" (spLLeft K) [] := by
  refine T.cal T.D_L_left T.g_L_left b_L_left sc_L_left (fun vs H Q E h => ?_) (fun cdv A outer s H vs Q E hr h => ?_)
  · obtain ⟨bk, b, x, m, rfl, _⟩ := h
    rfl
  · obtain ⟨bk, b, x, m, rfl, hb, hj, hw, q⟩ := h
    have hu := hu_of hr
    refine ⟨_, (pss_one (ps_ret (pe_op op_sub (pe_callB call_len_seq (by rfl) T.fr_len bt_len (pa_cons (pe_ix ix_tup (pe_ix ix_list (pe_ix ix_tup (pv 0) pe_int (fun _ _ => rfl)) (pe_dget hu (pv 1) pe_str (fun _ _ => rfl)) (fun _ _ => rfl)) pe_int (fun _ _ => rfl)) pa_nil)) (pe_callB call_len_seq (by rfl) T.fr_len bt_len (pa_cons (pe_dget hu (pv 1) pe_str (fun _ _ => rfl)) pa_nil))))), ?_⟩
    obtain ⟨ka, da, hb1, _, ⟨das, hb2, hb3⟩⟩ := hb
    obtain ⟨da_, hda, la, sa, hd2, _, ⟨sas, hd3, hd4⟩⟩ := pd_get hb3 hj
    obtain ⟨ts, hs1, hs2, hs3⟩ := hw.steps
    refine ⟨_, rfl, bk, _, _, _, rfl, rfl, hb1, rfl, _, rfl, x.a, _, rfl, hw.get (wd_deal x m), da, _, _, _, rfl, rfl, hb2.seq, at_of rfl (get_map hda), da_, _, _, _, rfl, rfl, hd2, rfl, sa, _, rfl, .inl hd3.seq, ?_⟩
    refine ⟨_, rfl, x.a, _, rfl, hw.get (wd_steps x m), x.sl, _, rfl, .inl (.of hs1), _, _, rfl, rfl, ?_⟩
    rw [List.length_map, List.length_map, pd_len hd4, hs2]
    exact q
structure WOk (ms : List WM) : Prop where
  few : ms.length ≤ 12
  n : ∀ m ∈ ms, m.n ≤ 100
  end_ : ∀ m ∈ ms, m.word = ("stands" : Str) → ∃ e, m.ended = some e
theorem WorldAt.get (h : WorldAt K H wl xs ms) {i : Nat} {m : WM} (e : ms[i]? = some m) : ∃ x, xs[i]? = some x ∧ WDAt K H x m := pd_get h.each e
def spLLast (K : PySem.W.Frag) : Sp := fun vs H Q _ => ∃ (wl ka : Addr) (row : Nat) (k : KeyD) (xs : List WA) (ms : List WM), vs = [.ref wl, .ref ka, .int (row : Nat)] ∧ WorldAt K H wl xs ms ∧ WOk ms ∧ KeyAt K H ka k ∧
  (∀ H', Fr0 K H H' → Q .non H') ∧ ∀ (j : Nat) H', Fr0 K H H' → Q (.int (j : Nat)) H'
theorem c_L_last (T : Tx K mg) : C8.Cal P w K mg base 2 "_law_last" (spLLast K) [] := by
  have c_L_wrote : C8.Cal P w K mg base 1 "_law_wrote" (spLWrote K) [] := c_L_wrote T
  refine T.cal T.D_L_last T.g_L_last b_L_last sc_L_last (fun vs H Q E h => ?_) (fun cdv A outer s H vs Q E hr h => ?_)
  · obtain ⟨wl, ka, row, k, xs, ms, rfl, _⟩ := h
    rfl
  · obtain ⟨wl, ka, row, k, xs, ms, rfl, hW, hO, hk, qn, qi⟩ := h
    have hu := hu_of hr
    refine ⟨_, (pss_cons (ps_set (i := 3) sc_L_last.nd rfl (Or.inl rfl) pe_non)
      (pss_cons (ps_for PassesOwn.never rfl (pi_enum (by rfl) T.fr_enumerate (pa_cons (pv 0) pa_nil)) (pg_tup rfl (pgs_cons (pg_name (i := 4) sc_L_last.nd rfl (Or.inl rfl)) (pgs_cons (pg_name (i := 5) sc_L_last.nd rfl (Or.inl rfl)) pgs_nil)))
        (pss_one (ps_if (PW.pt (pw_and (pt_cmpR op_eq (pe_dget hu (pv 5) pe_str (fun _ _ => rfl)) pe_str (nomark _)) (pw_and (pt_cmpR op_lt (pe_dget hu (pv 5) pe_str (fun _ _ => rfl)) (pv 2) (nomark _)) (pw_and1 (pt_cmpR (op_inD (u65_of hr)) (pv 1) (C8.pe_c c_L_wrote hr (by decide) rfl (pa_cons (pv 5) pa_nil)) (by rfl))))))
          (pss_one (ps_if (PW.pt (pw_or (pt_cmpR op_isN (pv 3) pe_non (nomark _)) (pw_or1 (pt_cmpR op_lt (pe_dget hu (pe_ix ix_list (pv 0) (pv 3) (fun _ _ => rfl)) pe_str (fun _ _ => rfl)) (pe_dget hu (pv 5) pe_str (fun _ _ => rfl)) (nomark _)))))
            (pss_one (ps_set (i := 3) sc_L_last.nd rfl (Or.inl rfl) (pv 4)))
            pss_nil))
          pss_nil)))
      (pss_one (ps_ret (pv 3))))), ?_⟩
    have xl : xs.length = ms.length := pd_len hW.each
    let Fd : V → Prop := fun f => f = .non ∨ ∃ (j : Nat) (m : WM) (e : Nat), ms[j]? = some m ∧ m.ended = some e ∧ f = .int (j : Nat)
    refine ⟨_, rfl, wl, _, rfl, .of hW.at_, ?_⟩
    refine for_it (walk_enum (K := K) (a := wl) (xs := xs.map fun x => V.ref x.a)) (fun i σ' H' => (∃ f x y, σ' = [some (.ref wl), some (.ref ka), some (.int (row : Nat)), some f, x, y] ∧ Fd f) ∧ Fr0 K H H') ⟨⟨.non, none, none, rfl, .inl rfl⟩, .refl _⟩ ?_ ?_ ?_
    · rintro i σ' H' _ ⟨_, g⟩
      exact .of (g.world0 hW).at_
    · rintro i y σ' H' H'' hi ⟨⟨f, x', y', rfl, hf⟩, g⟩ ⟨t, u, v, rfl, ht, rfl, hu1, hu2⟩
      obtain ⟨x, hx, rfl⟩ := map_get hu2
      obtain rfl := Option.some.inj hu1
      have gt : Fr0 K H' (upd H' t (.tup [.int (i : Nat), .ref x.a])) := .new ht
      have gg := g.trans gt
      have hW2 := gg.world0 hW
      obtain ⟨m, hm, hwd⟩ := pd_getL hW2.each hx
      have hms := List.mem_of_getElem? hm
      refine ⟨t, _, rfl, .of upd_same, rfl, _, _, rfl, _, _, rfl, rfl, ?_⟩
      refine ⟨_, rfl, x.a, _, rfl, hwd.get (wd_word x m), rfl, _, rfl, ?_⟩
      by_cases c : m.word = ("stands" : Str)
      · rw [show decide (V.str m.word = V.str "stands") = true from by rw [c]; exact decide_eq_true rfl]
        obtain ⟨e, he⟩ := hO.end_ m hms c
        have hen : valV (wdV x m) (.inr "ended") = some (.int (e : Nat)) := by rw [wd_ended, he] <;> rfl
        refine ⟨_, rfl, x.a, _, rfl, hwd.get hen, _, rfl, _, _, rfl, rfl, _, rfl, ?_⟩
        by_cases c2 : e < row
        · rw [show decide (((e : Nat) : Int) < ((row : Nat) : Int)) = true from decide_eq_true (by omega)]
          refine ⟨_, rfl, _, rfl, x, m, rfl, hwd, hO.n m hms, fun p as ks H3 hp g3 hq3 hp3 _ => ?_⟩
          refine inD_key ((gg.trans g3).key hk) (.of hq3) hp3 ⟨_, rfl, ?_⟩
          have g13 := gg.trans g3
          have hW3 := g13.world0 hW
          have hwd3 := g3.wd hwd (fun z => z) (fun z => z)
          by_cases c3 : k ∈ ks
          · rw [decide_eq_true c3]
            have put : (∃ f x' y', [some (V.ref wl), some (V.ref ka), some (V.int (row : Nat)), some (V.int (i : Nat)), some (V.int (i : Nat)), some (V.ref x.a)] = [some (.ref wl), some (.ref ka), some (.int (row : Nat)), some f, x', y'] ∧ Fd f) ∧ Fr0 K H H3 := ⟨⟨_, _, _, rfl, .inr ⟨i, m, e, hm, he, rfl⟩⟩, g13⟩
            rcases hf with rfl | ⟨j, m', e', hj, he', rfl⟩
            · refine ⟨_, rfl, rfl, _, rfl, ?_⟩
              rw [show decide ((V.non : V) = V.non) = true from decide_eq_true rfl]
              exact ⟨_, rfl, put⟩
            · obtain ⟨xj, hxj, hwj⟩ := hW3.get hj
              have hej : valV (wdV xj m') (.inr "ended") = some (.int (e' : Nat)) := by rw [wd_ended, he'] <;> rfl
              refine ⟨_, rfl, rfl, _, rfl, ?_⟩
              rw [show decide ((V.int (j : Nat) : V) = V.non) = false from decide_eq_false fun z => nomatch z]
              refine ⟨_, rfl, _, rfl, wl, _, _, .ref xj.a, rfl, rfl, .of hW3.at_, at_of rfl (get_map hxj), xj.a, _, rfl, hwj.get hej, _, rfl, x.a, _, rfl, hwd3.get hen, _, _, rfl, rfl, _, rfl, ite2 (fun _ => ?_) (fun _ => ?_)⟩
              · exact ⟨_, rfl, put⟩
              · exact ⟨⟨_, _, _, rfl, .inr ⟨j, m', e', hj, he', rfl⟩⟩, g13⟩
          · rw [decide_eq_false c3]
            exact ⟨⟨f, _, _, rfl, hf⟩, g13⟩
        · rw [show decide (((e : Nat) : Int) < ((row : Nat) : Int)) = false from decide_eq_false (by omega)]
          exact ⟨⟨f, _, _, rfl, hf⟩, gg⟩
      · rw [show decide (V.str m.word = V.str "stands") = false from decide_eq_false fun z => c (V.str.inj z)]
        exact ⟨⟨f, _, _, rfl, hf⟩, gg⟩
    · rintro σ' H' ⟨⟨f, x', y', rfl, hf⟩, g⟩
      refine ⟨_, rfl, ?_⟩
      rcases hf with rfl | ⟨j, m, e, _, _, rfl⟩
      · exact qn _ g
      · exact qi _ _ g
def spLIsOff (K : PySem.W.Frag) : Sp := fun vs H Q _ => ∃ (wl : Addr) (x : WA) (m : WM) (xs : List WA) (ms : List WM), vs = [.ref wl, .ref x.a] ∧ WorldAt K H wl xs ms ∧ WOk ms ∧ WDAt K H x m ∧ m.n ≤ 100 ∧
  ∀ (c : Bool) H', Fr0 K H H' → Q (.bl c) H'
theorem c_L_is_off (T : Tx K mg) : C8.Cal P w K mg base 2 "_law_is_off" (spLIsOff K) [] := by
  have c_L_wrote : C8.Cal P w K mg base 1 "_law_wrote" (spLWrote K) [] := c_L_wrote T
  refine T.cal T.D_L_is_off T.g_L_is_off b_L_is_off sc_L_is_off (fun vs H Q E h => ?_) (fun cdv A outer s H vs Q E hr h => ?_)
  · obtain ⟨wl, x, m, xs, ms, rfl, _⟩ := h
    rfl
  · obtain ⟨wl, x, m, xs, ms, rfl, hW, hO, hx0, hmn, q⟩ := h
    have hu := hu_of hr
    refine ⟨_, (pss_cons (ps_for PassesOwn.never rfl (pi_list (pv 0)) (pg_name (i := 2) sc_L_is_off.nd rfl (Or.inl rfl))
        (pss_one (ps_if (PW.pt (pw_and (pt_cmpR op_eq (pe_dget hu (pv 2) pe_str (fun _ _ => rfl)) pe_str (nomark _)) (pw_and1 (pt_cmpR op_gt (pe_dget hu (pv 2) pe_str (fun _ _ => rfl)) (pe_dget hu (pv 1) pe_str (fun _ _ => rfl)) (nomark _)))))
          (pss_one (ps_if (pt_cmpR (op_neD hr.units) (pe_lc (own := [("_law_key", 3)]) (by rfl) sc_L_is_off.nd (pi_list (C8.pe_c c_L_wrote hr (by decide) rfl (pa_cons (pv 2) pa_nil))) (blkOk_by (own := [("_law_key", 3)]) (N := n_L_is_off) (sc := defScope s_L_is_off) (by decide +kernel)) (fun _ _ _ _ _ => (pg_name (i := 3) sc_L_is_off.nd rfl (Or.inl rfl))) (fun _ _ _ _ _ => (pts_one (pt_cmpR (op_inDK (K := K) rfl (u65_of hr)) (pv 3) (C8.pe_c c_L_wrote hr (by decide) rfl (pa_cons (pv 1) pa_nil)) (by rfl)))) (fun _ _ _ _ _ => (pv 3))) (pe_lst pa_nil) (nomark _))
            (pss_one (ps_ret pe_bl))
            pss_nil))
          pss_nil)))
      (pss_one (ps_ret pe_bl))), ?_⟩
    refine ⟨_, rfl, wl, rfl, ⟨_, .of hW.at_⟩, ?_⟩
    refine for_it (walk_list (K := K) (a := wl) (xs := xs.map fun x => V.ref x.a)) (fun i σ' H' => (∃ y, σ' = [some (.ref wl), some (.ref x.a), y, none]) ∧ Fr0 K H H') ⟨⟨none, rfl⟩, .refl _⟩ ?_ ?_ ?_
    · rintro i σ' H' _ ⟨_, g⟩
      exact .of (g.world0 hW).at_
    · rintro i y σ' H0 H' hi ⟨⟨y', rfl⟩, g⟩ ⟨rfl, hy⟩
      obtain ⟨xo, hxo, rfl⟩ := map_get hy
      have hW2 := g.world0 hW
      obtain ⟨mo, hmo, hwo⟩ := pd_getL hW2.each hxo
      have hms := List.mem_of_getElem? hmo
      have hx2 := g.wd hx0 (fun z => z) (fun z => z)
      refine ⟨_, rfl, xo.a, _, rfl, hwo.get (wd_word xo mo), rfl, _, rfl, ?_⟩
      by_cases c : mo.word = ("stands" : Str)
      · rw [show decide (V.str mo.word = V.str "stands") = true from by rw [c]; exact decide_eq_true rfl]
        obtain ⟨e, he⟩ := hO.end_ mo hms c
        have hen : valV (wdV xo mo) (.inr "ended") = some (.int (e : Nat)) := by rw [wd_ended, he] <;> rfl
        refine ⟨_, rfl, xo.a, _, rfl, hwo.get hen, _, rfl, x.a, _, rfl, hx2.get (wd_begun x m), _, _, rfl, rfl, _, rfl, ite2 (fun _ => ?_) (fun _ => ?_)⟩
        · refine ⟨_, rfl, xo, mo, rfl, hwo, hO.n mo hms, fun p as ks H3 hp g3 hq3 hp3 hl3 => ?_⟩
          have e1 := pd_len hp3
          refine ⟨p, rfl, ⟨_, .of hq3⟩, fun D hD => ?_⟩
          refine lc_it (walk_list (K := K) (a := p) (xs := as.map V.ref)) (fun i H4 => Fr0 K H3 H4 ∧ ∃ (bs : List Addr) (ls : List KeyD), H4 D = some (.lst (bs.map V.ref)) ∧ bs.length ≤ i ∧ Paired (KeyAt K H4) bs ls) ⟨.new hD, [], [], upd_same, Nat.le_refl _, .nil⟩ ?_ ?_ ?_
          · rintro i H4 _ ⟨g4, _⟩
            exact .of (g4.lst hq3 (fun z => z))
          · rintro i y H0 H4 hi ⟨g4, bs, ls, hq4, hl4, hp4⟩ ⟨rfl, hy⟩
            obtain ⟨kk, hkk, rfl⟩ := map_get hy
            obtain ⟨k, _, hk⟩ := pd_getL hp3 hkk
            rw [List.length_map] at hi
            have hk4 := g4.key hk
            refine ⟨rfl, _, rfl, _, rfl, x, m, rfl, (g3.trans g4).wd hx2 (fun z => z) (fun z => z), hmn, fun p2 as2 ks2 H5 _ g5 hq5 hp5 _ => ?_⟩
            have hq45 := g5.lst hq4 (fun z => z)
            have f6 : Fr K (fun c => c = D) H5 (upd H5 D (.lst (bs.map V.ref ++ [V.ref kk]))) := .at_ rfl hq45 trivial
            refine inD_key (g5.key hk4) (.of hq5) hp5 ⟨_, rfl, ite2 (fun _ => ?_) (fun _ => ?_)⟩
            · refine ⟨_, rfl, _, hq45, by rw [List.length_map]; exact small1000 (by omega), (g4.trans g5).own (.of hD) hq45 trivial, bs ++ [kk], ls ++ [k], by rw [List.map_append]; exact upd_same, by rw [List.length_append, List.length_singleton]; omega, ?_⟩
              exact pd_snoc (pd_map hp4 fun _ _ z => f6.key (g5.key z)) (f6.key (g5.key hk4))
            · exact ⟨g4.trans g5, bs, ls, hq45, by omega, pd_map hp4 fun _ _ z => g5.key z⟩
          · rintro H4 ⟨g4, bs, ls, hq4, hl4, hp4⟩
            refine ⟨Nat.zero_le _, fun z hz => ?_⟩
            have gz : Fr0 K H4 (upd H4 z (.lst [])) := .new hz
            have hp5 := pd_map hp4 fun _ _ z => gz.key z
            have gall := ((g.trans g3).trans g4).trans gz
            refine ⟨_, _, dp_keys (.of (gz.lst hq4 (fun z => z))) hp5, .lst (.of upd_same) .nil, shaped_keys hp5, rfl, _, rfl, ite2 (fun _ => ?_) (fun _ => ?_)⟩
            · exact q _ _ gall
            · exact ⟨⟨_, rfl⟩, gall⟩
        · exact ⟨⟨_, rfl⟩, g⟩
      · rw [show decide (V.str mo.word = V.str "stands") = false from decide_eq_false fun z => c (V.str.inj z)]
        exact ⟨⟨_, rfl⟩, g⟩
    · rintro σ' H' ⟨⟨y', rfl⟩, g⟩
      exact q _ _ g
end
end Sn
set_option Elab.async false
set_option linter.all false
set_option maxRecDepth 100000
set_option maxHeartbeats 4000000
namespace Sn
open PySem PySem.Spec PyProof.Rows L2
theorem first_at {α : Type} [DecidableEq α] : ∀ {l : List α} {x : α}, x ∈ l → ∃ j : Nat, l[j]? = some x ∧ ∀ (m : Nat) y, m < j → l[m]? = some y → y ≠ x
  | [], _, h => by cases h
  | a :: l, x, h => by
    by_cases c : a = x
    · exact ⟨0, by rw [c] <;> rfl, fun m y hm => absurd hm (Nat.not_lt_zero _)⟩
    · obtain ⟨j, h1, h2⟩ := first_at (l := l) (x := x) (by
        rcases List.mem_cons.mp h with e | e
        · exact absurd e.symm c
        · exact e)
      refine ⟨j + 1, h1, fun m y hm hy => ?_⟩
      cases m with
      | zero => rw [← Option.some.inj (show some a = some y from hy)]; exact c
      | succ m => exact h2 m y (by omega) hy
theorem eqV_str (a c : Str) : eqV (.str a) (.str c) = decide (a = c) := rfl
theorem eqV_int (a c : Int) : eqV (.int a) (.int c) = decide (a = c) := rfl
/-- l.index(x): the parts that the rule asks for -/
theorem index_str {l : List Str} {x : Str} (hx : x ∈ l) : ∃ j : Nat, l[j]? = some x ∧ (l.map V.str).all flatV = true ∧ (l.map V.str)[j]? = some (.str x) ∧ eqV (.str x) (.str x) = true ∧ ∀ (m : Nat) (z' : V), m < j → (l.map V.str)[m]? = some z' → eqV z' (.str x) = false := by
  obtain ⟨j, h1, h2⟩ := first_at hx
  refine ⟨j, h1, ?_, get_map h1, ?_, fun m z' hm hz => ?_⟩
  · refine List.all_eq_true.mpr fun v hv => ?_
    obtain ⟨s, _, rfl⟩ := List.mem_map.mp hv
    rfl
  · exact (eqV_str x x).trans (decide_eq_true rfl)
  · obtain ⟨s, hs', rfl⟩ := map_get hz
    exact (eqV_str s x).trans (decide_eq_false (h2 m s hm hs'))
section
variable {P : Program} {w : World} {K : PySem.W.Frag} {mg : Str → Option Value} {base : Heap} {S : Addr → Prop} {H H1 : Hp} {b : BookD} {x : WA} {m : WM} {wl : Addr} {xs : List WA} {ms : List WM}
def spLStep (K : PySem.W.Frag) : Sp := fun vs H Q _ => ∃ (bk wl : Addr) (i : Nat) (b : BookD) (xs : List WA) (ms : List WM) (x : WA) (m : WM), vs = [.ref bk, .ref wl, .int (i : Nat)] ∧ BookAt K H bk b ∧ BookOk b ∧ WorldAt K H wl xs ms ∧ WOk ms ∧ xs[i]? = some x ∧ ms[i]? = some m ∧
  b.deals[m.j]? = some m.d ∧ KeysFit b m.d m.ks ∧ m.n < m.d.steps.length ∧ ∀ v H', Fr K (fun c => c = x.sl) H H' → WDAt K H' x { m with n := m.n + 1 } → Q v H'
theorem c_L_step (T : Tx K mg) : C8.Cal P w K mg base 3 "_law_step" (spLStep K) [] := by
  have c_L_wrote : C8.Cal P w K mg base 1 "_law_wrote" (spLWrote K) [] := c_L_wrote T
  have c_L_last : C8.Cal P w K mg base 2 "_law_last" (spLLast K) [] := c_L_last T
  refine T.cal T.D_L_step T.g_L_step b_L_step sc_L_step (fun vs H Q E h => ?_) (fun cdv A outer s H vs Q E hr h => ?_)
  · obtain ⟨bk, wl, i, b, xs, ms, x, m, rfl, _⟩ := h
    rfl
  · obtain ⟨bk, wl, i, b, xs, ms, x, m, rfl, hb, hB, hW, hO, hx, hm, hj, hF, hlt, q⟩ := h
    have hu := hu_of hr
    refine ⟨_, (pss_cons (ps_set (i := 3) sc_L_step.nd rfl (Or.inl rfl) (pe_ix ix_list (pv 1) (pv 2) (fun _ _ => rfl)))
      (pss_cons (ps_asg (pe_ix ix_list (pe_ix ix_tup (pv 0) pe_int (fun _ _ => rfl)) (pe_dget hu (pv 3) pe_str (fun _ _ => rfl)) (fun _ _ => rfl)) (pg_tup rfl (pgs_cons (pg_name (i := 4) sc_L_step.nd rfl (Or.inl rfl)) (pgs_cons (pg_name (i := 5) sc_L_step.nd rfl (Or.inl rfl)) (pgs_cons (pg_name (i := 6) sc_L_step.nd rfl (Or.inl rfl)) pgs_nil)))))
      (pss_cons (ps_asg (pe_ix ix_list (pv 6) (pe_callB call_len_seq (by rfl) T.fr_len bt_len (pa_cons (pe_dget hu (pv 3) pe_str (fun _ _ => rfl)) pa_nil)) (fun _ _ => rfl)) (pg_tup rfl (pgs_cons (pg_name (i := 7) sc_L_step.nd rfl (Or.inl rfl)) (pgs_cons (pg_name (i := 8) sc_L_step.nd rfl (Or.inl rfl)) pgs_nil))))
      (pss_cons (ps_set (i := 9) sc_L_step.nd rfl (Or.inl rfl) (pe_ix ix_list (pe_dget hu (pv 3) pe_str (fun _ _ => rfl)) (pe_bm PySem.F.plainAttrs_list PySem.F.slot_list_index PySem.F.type_list_index mt_index (pe_lc (own := [("_law_letter", 11), ("_law_kind", 12)]) (by rfl) sc_L_step.nd (pi_list (pv 5)) (blkOk_by (own := [("_law_letter", 11), ("_law_kind", 12)]) (N := n_L_step) (sc := defScope s_L_step) (by decide +kernel)) (fun _ _ _ _ _ => (pg_tupK (K := K) (n := 2) rfl rfl (pgs_cons (pg_name (i := 11) sc_L_step.nd rfl (Or.inl rfl)) (pgs_cons (pg_name (i := 12) sc_L_step.nd rfl (Or.inl rfl)) pgs_nil)))) (fun _ _ _ _ _ => pts_nil) (fun _ _ _ _ _ => (pv 11))) (pa_cons (pv 8) pa_nil)) (fun _ _ => rfl)))
      (pss_cons (ps_set (i := 10) sc_L_step.nd rfl (Or.inl rfl) pe_non)
      (C8.pss_cut (ps_if (pt_cmpR op_ne (pv 7) pe_str (nomark _))
        (pss_cons (ps_set (i := 10) sc_L_step.nd rfl (Or.inl rfl) (pv 2))
        (pss_one (ps_if (pt_cmpR (op_notInD (u65_of hr)) (pv 9) (C8.pe_c c_L_wrote hr (by decide) rfl (pa_cons (pv 3) pa_nil)) (by rfl))
          (pss_one (ps_set (i := 10) sc_L_step.nd rfl (Or.inl rfl) (C8.pe_c c_L_last hr (by decide) rfl (pa_cons (pv 1) (pa_cons (pv 9) (pa_cons (pe_dget hu (pv 3) pe_str (fun _ _ => rfl)) pa_nil))))))
          pss_nil)))
        pss_nil)
      (pss_cons (ps_expr (pe_bm PySem.F.plainAttrs_list PySem.F.slot_list_append PySem.F.type_list_append mt_append (pe_dget hu (pv 3) pe_str (fun _ _ => rfl)) (pa_cons (pe_tup (pa_cons (pv 7) (pa_cons (pv 9) (pa_cons (pv 10) pa_nil)))) pa_nil)))
      (pss_one (ps_ret (pe_tup (pa_cons (pv 7) (pa_cons (pv 9) (pa_cons (pv 10) pa_nil))))))))))))), ?_⟩
    obtain ⟨m', e1, hwd⟩ := pd_getL hW.each hx
    rw [hm] at e1
    obtain rfl := Option.some.inj e1
    obtain ⟨bka, bda, hb1, _, ⟨das, hb2, hb3⟩⟩ := hb
    obtain ⟨da_, hda, la, sa, hd1, ⟨las, hl1, hl2⟩, ⟨sas, hs1, hs2⟩⟩ := pd_get hb3 hj
    obtain ⟨ts, ht1, ht2, ht3⟩ := hwd.steps
    obtain ⟨kas, hk1, hk2⟩ := hwd.keys
    obtain ⟨kn, many, _, hBd⟩ := hB.kinds
    have hD := hBd m.d (List.mem_of_getElem? hj)
    obtain ⟨p, hp⟩ : ∃ p, m.d.steps[m.n]? = some p := ⟨_, List.getElem?_eq_getElem hlt⟩
    obtain ⟨spa, hsp1, hsp2⟩ := pd_get hs2 hp
    obtain ⟨hp1, hp2⟩ := hD.deed p (List.mem_of_getElem? hp)
    refine ⟨_, rfl, _, rfl, wl, _, _, .ref x.a, rfl, rfl, .of hW.at_, at_of rfl (get_map hx), ?_⟩
    refine ⟨_, rfl, bk, _, _, _, rfl, rfl, hb1, rfl, _, rfl, x.a, _, rfl, hwd.get (wd_deal x m), bda, _, _, _, rfl, rfl, hb2.seq, at_of rfl (get_map hda), da_, _, rfl, hd1, rfl, _, _, rfl, _, _, rfl, _, _, rfl, rfl, ?_⟩
    refine ⟨_, rfl, _, rfl, x.a, _, rfl, hwd.get (wd_steps x m), x.sl, _, rfl, .inl (.of ht1), ?_⟩
    rw [List.length_map, ht2]
    refine ⟨sa, _, _, _, rfl, rfl, hs1.seq, at_of rfl (get_map hsp1), spa, _, rfl, hsp2, rfl, _, _, rfl, _, _, rfl, rfl, ?_⟩
    refine ⟨_, rfl, x.a, _, rfl, hwd.get (wd_keys x m), _, rfl, la, rfl, ⟨_, hl1.seq⟩, fun D hDn => ?_⟩
    refine lc_it (walk_list (K := K) (a := la) (xs := las.map V.ref)) (fun i H2 => Fr0 K H H2 ∧ H2 D = some (.lst (((m.d.letters.take i).map (·.1)).map V.str))) ⟨.new hDn, upd_same⟩ ?_ ?_ ?_
    · rintro i H2 _ ⟨g, _⟩
      exact (g.fzl hl1).seq
    · rintro i2 y H0 H2 hi ⟨g, hq⟩ ⟨rfl, hy⟩
      obtain ⟨lp, hlp, rfl⟩ := map_get hy
      obtain ⟨pr, hpr, hpt⟩ := pd_getL hl2 hlp
      have h4 := hD.lets.2
      refine ⟨lp, _, rfl, g.tup hpt, rfl, _, _, rfl, _, _, rfl, rfl, rfl, ?_⟩
      refine ⟨_, rfl, _, hq, by rw [List.length_map, List.length_map, List.length_take]; exact small1000 (by omega), g.own (.of hDn) hq trivial, ?_⟩
      rw [take_snoc hpr, List.map_append, List.map_append]
      exact upd_same
    · rintro H2 ⟨g, hq⟩
      rw [List.length_map, pd_len hl2, List.take_length] at hq
      obtain ⟨j, hjx, i1, i2, i3, i4⟩ := index_str hp2
      refine ⟨.inl ⟨rfl, _, .of hq⟩, _, rfl, D, _, _, j, _, rfl, rfl, .of hq, rfl, i1, i2, i3, i4, ?_⟩
      obtain ⟨pr, hpr, _⟩ := map_get hjx
      have hjl : j < m.ks.length := by rw [hF.len]; exact (List.getElem?_eq_some_iff.mp hpr).1
      obtain ⟨k, hk⟩ : ∃ k, m.ks[j]? = some k := ⟨_, List.getElem?_eq_getElem hjl⟩
      obtain ⟨ka, hka, hkat⟩ := pd_get hk2 hk
      refine ⟨x.kl, _, _, .ref ka, rfl, rfl, (g.fzl hk1).seq, at_of rfl (get_map hka), ?_⟩
      have hwd2 := g.wd hwd (fun z => z) (fun z => z)
      have hW2 := g.world0 hW
      have hkat2 := g.key hkat
      refine ⟨fun σ' H' => (∃ v, σ' = [some (.ref bk), some (.ref wl), some (.int (i : Nat)), some (.ref x.a), some (.str m.d.name), some (.ref la), some (.ref sa), some (.str p.1), some (.str p.2), some (.ref ka), some v, none, none]) ∧ Fr0 K H H', ?_, ?_⟩
      · refine ⟨_, rfl, rfl, _, rfl, ite2 (fun _ => ?_) (fun _ => ⟨⟨_, rfl⟩, g⟩)⟩
        refine ⟨_, rfl, _, rfl, _, rfl, x, m, rfl, hwd2, hO.n m (List.mem_of_getElem? hm), fun p1 as ks H3 hp1 g3 hq3 hp3 _ => ?_⟩
        refine notInD_key (g3.key hkat2) (.of hq3) hp3 ⟨_, rfl, ite2 (fun _ => ?_) (fun _ => ⟨⟨_, rfl⟩, g.trans g3⟩)⟩
        have hwd3 := g3.wd hwd2 (fun z => z) (fun z => z)
        refine ⟨_, rfl, _, rfl, _, rfl, x.a, _, rfl, hwd3.get (wd_begun x m), wl, ka, m.begun, k, xs, ms, rfl, g3.world0 hW2, hO, g3.key hkat2, fun H4 g4 => ⟨⟨_, rfl⟩, (g.trans g3).trans g4⟩, fun j2 H4 g4 => ⟨⟨_, rfl⟩, (g.trans g3).trans g4⟩⟩
      · rintro σ' H' ⟨⟨v, rfl⟩, g'⟩
        have hwd' := g'.wd hwd (fun z => z) (fun z => z)
        have hka' := g'.key hkat
        obtain ⟨ts', hs'1, hs'2, hs'3⟩ := hwd'.steps
        have h100 := hO.n m (List.mem_of_getElem? hm)
        refine ⟨_, rfl, x.a, _, rfl, hwd'.get (wd_steps x m), .inl ⟨rfl, _, .of hs'1⟩, _, rfl, _, rfl, _, rfl, (by show 3 ≤ sizeLine; decide), fun t htn => ?_⟩
        have gt : Fr0 K H' (upd H' t (.tup [.str p.1, .ref ka, v])) := .new htn
        have htt : SqT K (upd H' t (.tup [.str p.1, .ref ka, v])) t [.str p.1, .ref ka, v] := .of upd_same
        generalize upd H' t (.tup [.str p.1, .ref ka, v]) = H5 at gt htt ⊢
        have hs5 := gt.lst hs'1 (fun z => z)
        have f6 : Fr K (fun c => c = x.sl) H5 (upd H5 x.sl (.lst (ts'.map V.ref ++ [V.ref t]))) := .at_ rfl hs5 trivial
        have hne : x.a ≠ x.sl := fun z => by
          have := hwd'.dict
          rw [z, hs'1] at this
          cases this
        refine ⟨x.sl, _, _, rfl, rfl, hs5, by rw [List.length_map, hs'2]; exact small1000 (by omega), ?_⟩
        have hw6 : WDAt K (upd H5 x.sl (.lst (ts'.map V.ref ++ [V.ref t]))) x { m with n := m.n + 1 } :=
          ⟨f6.dK (gt.dK hwd'.dict (fun z => z)) hne, ⟨ts' ++ [t], by rw [List.map_append]; exact upd_same, by rw [List.length_append, hs'2] <;> rfl, fun t' ht' => by
            rcases List.mem_append.mp ht' with z | z
            · exact f6.stp (gt.stp (hs'3 t' z))
            · rw [List.mem_singleton.mp z]
              exact ⟨p.1, k, ka, v, f6.tup htt, f6.key (gt.key hka')⟩⟩, f6.keys (gt.keys hwd'.keys)⟩
        refine ⟨_, rfl, _, rfl, _, rfl, (by show 3 ≤ sizeLine; decide), fun t2 ht2 => ?_⟩
        have gt2 : Fr0 K (upd H5 x.sl (.lst (ts'.map V.ref ++ [V.ref t]))) (upd (upd H5 x.sl (.lst (ts'.map V.ref ++ [V.ref t]))) t2 (.tup [.str p.1, .ref ka, v])) := .new ht2
        exact q _ _ ((((g'.trans gt).wide.trans f6)).trans gt2.wide) (gt2.wd hw6 (fun z => z) (fun z => z))
end
end Sn
set_option Elab.async false
set_option linter.all false
set_option maxRecDepth 100000
set_option maxHeartbeats 4000000
namespace Sn
open PySem PySem.Spec PyProof.Rows L2
section
variable {P : Program} {w : World} {K : PySem.W.Frag} {mg : Str → Option Value} {base : Heap} {S : Addr → Prop} {H H1 : Hp} {b : BookD} {x : WA} {m : WM} {wl : Addr} {xs : List WA} {ms : List WM}
def NamesOk (b : BookD) : Prop := ∀ p ∈ b.kinds, PyData.strOk p.1 = true
def spLKeys (K : PySem.W.Frag) : Sp := fun vs H Q _ => ∃ (a bk : Addr) (j : Nat) (b : BookD) (d : DealD), vs = [.ref a, .ref bk, .int (j : Nat), .int 3] ∧ PoolAt H a ∧ BookAt K H bk b ∧ BookOk b ∧ NamesOk b ∧ b.deals[j]? = some d ∧
  ∀ (p : Addr) (ks : List KeyD) H', Nw H p → Fr K (fun c => c = a) H H' → PoolAt H' a → KeysAt K H' p ks → KeysFit b d ks → Q (.ref p) H'
theorem c_L_keys (T : Tx K mg) : C8.Cal P w K mg base 2 "_law_keys" (spLKeys K) [] := by
  have c_L_draw : C8.Cal P w K mg base 1 "_law_draw" (spDraw K) [] := c_L_draw T
  refine T.cal T.D_L_keys T.g_L_keys b_L_keys sc_L_keys (fun vs H Q E h => ?_) (fun cdv A outer s H vs Q E hr h => ?_)
  · obtain ⟨a, bk, j, b, d, rfl, _⟩ := h
    rfl
  · obtain ⟨a, bk, j, b, d, rfl, hP, hb, hB, hN, hj, q⟩ := h
    have hu := hu_of hr
    refine ⟨_, (pss_cons (ps_set (i := 4) sc_L_keys.nd rfl (Or.inl rfl) (pe_callTy (call_dictP rfl) (by rfl) T.fr_dict bt_dict (pa_cons (pe_ix ix_tup (pv 1) pe_int (fun _ _ => rfl)) pa_nil)))
      (pss_cons (ps_set (i := 5) sc_L_keys.nd rfl (Or.inl rfl) (pe_lst pa_nil))
      (pss_cons (ps_for PassesOwn.never rfl (pi_list (pe_ix ix_tup (pe_ix ix_list (pe_ix ix_tup (pv 1) pe_int (fun _ _ => rfl)) (pv 2) (fun _ _ => rfl)) pe_int (fun _ _ => rfl))) (pg_tup rfl (pgs_cons (pg_name (i := 6) sc_L_keys.nd rfl (Or.inl rfl)) (pgs_cons (pg_name (i := 7) sc_L_keys.nd rfl (Or.inl rfl)) pgs_nil)))
        (pss_one (ps_expr (pe_bm PySem.F.plainAttrs_list PySem.F.slot_list_append PySem.F.type_list_append mt_append (pv 5) (pa_cons (pe_tup (pa_cons (pv 7) (pa_cons (pe_op op_mul (C8.pe_c c_L_draw hr (by decide) rfl (pa_cons (pv 0) (pa_cons (pv 3) pa_nil))) (pe_callTy call_int1 (by rfl) T.fr_int bt_int (pa_cons (pe_dget hu (pv 4) (pv 7) (fun _ _ => rfl)) pa_nil))) pa_nil))) pa_nil)))))
      (pss_one (ps_ret (pe_frz (pv 5))))))), ?_⟩
    have hb0 := hb
    obtain ⟨ka, da, hb1, ⟨kks, hk1, hk2⟩, ⟨das, hb2, hb3⟩⟩ := hb
    obtain ⟨da_, hda, la, sa, hd1, ⟨las, hl1, hl2⟩, _⟩ := pd_get hb3 hj
    obtain ⟨kn, many, hkn, hBd⟩ := hB.kinds
    have hD := hBd d (List.mem_of_getElem? hj)
    have hsk : PyData.strOk kn = true := hN (kn, many) (by rw [hkn]; exact .head _)
    rw [hkn] at hk2
    refine ⟨_, rfl, bk, _, _, _, rfl, rfl, hb1, rfl, ka, kks, [(.inr kn, .bl many)], rfl, hk1.seq, ?_, fun Dd hDd => ?_⟩
    · cases hk2 with
      | cons h t => cases t; exact .cons h .nil
    have g2 : Fr0 K H (upd H Dd (.dK (mergeK [] [(.inr kn, .bl many)]))) := .new hDd
    have gD : upd H Dd (.dK (mergeK [] [((.inr kn : Key), V.bl many)])) Dd = some (.dK [(.inr kn, .bl many)]) := upd_same
    generalize upd H Dd (.dK (mergeK [] [((.inr kn : Key), V.bl many)])) = H2 at g2 gD ⊢
    refine ⟨Nat.zero_le _, fun D hDn => ?_⟩
    have g3 : Fr0 K H2 (upd H2 D (.lst [])) := .new hDn
    have hD3 : upd H2 D (.lst []) D = some (.lst []) := upd_same
    have nDd : Dd ≠ D := fun z => by rw [← z, gD] at hDn; cases hDn
    have nwD : Nw H D := g2.nw (fun z => z) (.of hDn)
    obtain ⟨px, py, hP0⟩ := hP
    have hP2 := g2.lst hP0 (fun z => z)
    have naD : a ≠ D := fun z => by rw [← z, hP2] at hDn; cases hDn
    have naDd : Dd ≠ a := fun z => by rw [z, hP2] at gD; cases gD
    have gD3 := g3.dK gD (fun z => z)
    have hP3 : PoolAt (upd H2 D (.lst [])) a := ⟨px, py, g3.lst hP2 (fun z => z)⟩
    have g23 := g2.trans g3
    generalize upd H2 D (.lst []) = H3 at g3 hD3 gD3 hP3 g23 ⊢
    have hl3 := g23.fzl hl1
    refine ⟨_, rfl, bk, _, _, _, rfl, rfl, g23.tup hb1, rfl, _, rfl, da, _, _, _, rfl, rfl, (g23.fzl hb2).seq, at_of rfl (get_map hda), da_, _, _, _, rfl, rfl, g23.tup hd1, rfl, la, rfl, ⟨_, hl3.seq⟩, ?_⟩
    let good : KeyD → Prop := fun k => k.1 = kn ∧ 0 ≤ k.2 ∧ (many = true ∨ k.2 = 0)
    refine for_it (walk_list (K := K) (a := la) (xs := las.map V.ref)) (fun i σ' H' => (∃ y z, σ' = [some (.ref a), some (.ref bk), some (.int (j : Nat)), some (.int 3), some (.ref Dd), some (.ref D), y, z]) ∧ Fr K (fun c => c = a ∨ c = D) H3 H' ∧ PoolAt H' a ∧
      ∃ (as : List Addr) (ks : List KeyD), H' D = some (.lst (as.map V.ref)) ∧ as.length = i ∧ Paired (KeyAt K H') as ks ∧ ∀ k ∈ ks, good k) ⟨⟨none, none, rfl⟩, .refl _, hP3, [], [], hD3, rfl, .nil, fun _ h => absurd h List.not_mem_nil⟩ ?_ ?_ ?_
    · rintro i σ' H' _ ⟨_, f, _⟩
      exact (f.fzl hl3).seq
    · rintro i y σ' H0 H' hi ⟨⟨y', z', rfl⟩, f, hP', as, ks, hq, hl, hp, hg⟩ ⟨rfl, hy⟩
      obtain ⟨lp, hlp, rfl⟩ := map_get hy
      obtain ⟨pr, hpr, hpt⟩ := pd_getL hl2 hlp
      have hpt' := f.tup (g23.tup hpt)
      have hkd := hD.kind pr (List.mem_of_getElem? hpr)
      have h4 := hD.lets.2
      have hi4 : i < 4 := by have := (List.getElem?_eq_some_iff.mp hpr).1; omega
      have gD' := f.dK gD3 (fun z => z.elim naDd nDd)
      refine ⟨lp, _, rfl, hpt', rfl, _, _, rfl, _, _, rfl, rfl, ?_⟩
      rw [hkd]
      refine ⟨_, rfl, .inl ⟨rfl, _, .of hq⟩, _, rfl, _, rfl, _, rfl, a, 3, rfl, hP', by decide, by decide, fun v H5 v0 v3 hP5 f5 => ?_⟩
      have gD5 := f5.dK gD' naDd
      have ev : valV [((.inr kn : Key), V.bl many)] (.inr kn) = some (.bl many) := valV_pos (p := ((.inr kn : Key), V.bl many)) rfl
      refine ⟨_, rfl, _, rfl, Dd, .bl many, rfl, .inl ⟨_, .inr kn, .inl gD5, rfl, ev.symm⟩, .inr ⟨many, rfl, ?_⟩⟩
      refine ⟨_, _, rfl, rfl, .inr (b01 _), (by show 2 ≤ sizeLine; decide), fun t ht => ?_⟩
      have hq5 := f5.lst hq (fun z => naD z.symm)
      let k : KeyD := (kn, v * (if many = true then 1 else 0))
      have gk : good k := by
        refine ⟨rfl, ?_, ?_⟩
        · show 0 ≤ v * (if many = true then 1 else 0)
          split <;> omega
        · cases many
          · exact .inr (by show v * (if false = true then 1 else 0) = 0; simp)
          · exact .inl rfl
      have gt : Fr0 K H5 (upd H5 t (.tup [.str kn, .int k.2])) := .new ht
      have htt : KeyAt K (upd H5 t (.tup [.str kn, .int k.2])) t k := ⟨.of upd_same, hsk⟩
      have hqt := gt.lst hq5 (fun z => z)
      generalize upd H5 t (.tup [.str kn, .int k.2]) = H6 at gt htt hqt ⊢
      have f7 : Fr K (fun c => c = D) H6 (upd H6 D (.lst (as.map V.ref ++ [V.ref t]))) := .at_ rfl hqt trivial
      have f57 : Fr K (fun c => c = a ∨ c = D) H' H6 := (f5.trans gt.wide).mono fun c z => .inl z
      refine ⟨D, _, _, rfl, rfl, hqt, by rw [List.length_map]; exact small1000 (by omega), ⟨_, _, rfl⟩, (f.trans f57).trans (f7.mono fun c z => .inr z), ?_, as ++ [t], ks ++ [k], by rw [List.map_append]; exact upd_same, by rw [List.length_append, hl] <;> rfl, ?_, fun k' hk' => ?_⟩
      · obtain ⟨qx, qy, hq6⟩ := hP5
        exact ⟨qx, qy, f7.lst (gt.lst hq6 (fun z => z)) naD⟩
      · exact pd_snoc (pd_map hp fun _ _ z => f7.key (f57.key z)) (f7.key htt)
      · rcases List.mem_append.mp hk' with z | z
        · exact hg k' z
        · rw [List.mem_singleton.mp z]; exact gk
    · rintro σ' H' ⟨⟨y', z', rfl⟩, f, hP', as, ks, hq, hl, hp, hg⟩
      refine ⟨_, rfl, [D], mut_lst hq, fun H5 z5 => ?_⟩
      have gall : Fr K (fun c => c = a) H H' := (g23.wide.trans f).narrow fun c hc => hc.elim .inl fun e => .inr (by rw [e]; exact nwD)
      obtain ⟨f5, q5, f6⟩ := frz_own (K := K) gall nwD hq z5
      have hlen : as.length = d.letters.length := by rw [hl, List.length_map]; exact pd_len hl2
      refine q D ks H5 nwD f5 ?_ ⟨as, q5, pd_map hp fun _ _ z => f6.key z⟩ ⟨by rw [← pd_len hp]; exact hlen, kn, many, hkn, hD.kind, hg⟩
      obtain ⟨px', py', hpx⟩ := hP'
      exact ⟨px', py', f6.lst hpx naD⟩
end
end Sn
set_option Elab.async false
set_option linter.all false
set_option maxRecDepth 100000
set_option maxHeartbeats 4000000
/-! The law's world tied to the played rows. -/
namespace Sn
open PySem PySem.Spec PyProof.Rows L2
structure TieM (b : BookD) (d : DM) (m : WM) : Prop where
  deal : b.deals[m.j]? = some m.d
  fit : KeysFit b m.d m.ks
  ahead : d.ahead = resolve m.d m.ks
  told : m.n = d.told.length
  open_ : m.word = ("open" : Str) ↔ d.word = ("open" : Str)
structure RunSt (K : PySem.W.Frag) (H : Hp) (b : BookD) (wl rl : Addr) (xs : List WA) (ms : List WM) (ras : List Addr) (rs : List RowM) : Prop where
  world : WorldAt K H wl xs ms
  rows : H rl = some (.lst (ras.map V.ref))
  each : Paired (RowAt K b H) ras rs
  goes : Goes rs
  few : ms.length ≤ 12
  fin : ∀ m ∈ ms, m.word = ("stands" : Str) → ∃ e, m.ended = some e
  apart : rl ≠ wl ∧ rl ∉ xs.map (·.sl)
  tie : Paired (TieM b) (play rs) ms
theorem set_at {α : Type} {l : List α} {i : Nat} {a : α} (h : l[i]? = some a) : l.set i a = l := by
  apply List.ext_getElem?
  intro j
  by_cases c : i = j
  · subst c
    rw [List.getElem?_set_self ((List.getElem?_eq_some_iff.mp h).1), h]
  · rw [List.getElem?_set_ne c]
section
variable {P : Program} {w : World} {K : PySem.W.Frag} {mg : Str → Option Value} {base : Heap} {S : Addr → Prop} {H H1 : Hp} {b : BookD} {x : WA} {m : WM} {wl rl : Addr} {xs : List WA} {ms : List WM} {ras : List Addr} {rs : List RowM}
theorem RunSt.wok (h : RunSt K H b wl rl xs ms ras rs) : WOk ms := by
  refine ⟨h.few, fun m hm => ?_, h.fin⟩
  obtain ⟨i, hi⟩ := List.mem_iff_getElem?.mp hm
  obtain ⟨d, hd, ht⟩ := pd_get h.tie hi
  have := (wf_play h.goes).len i d hd
  rw [ht.told]
  omega
/-- the cost of a played run: one for a begin, one for each step, one for an end -/
def costD (d : DM) : Nat := 1 + d.told.length + (if d.ended = none then 0 else 1)
def cost (ds : List DM) : Nat := (ds.map costD).sum
theorem cost_set : ∀ {ds : List DM} {i : Nat} {d d' : DM}, ds[i]? = some d → costD d' = costD d + 1 → cost (ds.set i d') = cost ds + 1
  | [], i, _, _, h, _ => by simp at h
  | a :: ds, 0, d, d', h, e => by
    have h : a = d := Option.some.inj h
    subst h
    show costD d' + cost ds = costD a + cost ds + 1
    omega
  | a :: ds, i + 1, d, d', h, e => by
    have := cost_set (ds := ds) (i := i) h e
    show costD a + cost (ds.set i d') = costD a + cost ds + 1
    omega
theorem cost_app (ds : List DM) (d : DM) : cost (ds ++ [d]) = cost ds + costD d := by
  unfold cost
  rw [List.map_append, List.sum_append]
  simp
theorem cost_step {n : Nat} {ds : List DM} (W : WF n ds) {r : RowM} (hr : RowOk ds r) : cost (doM n ds r) = cost ds + 1 := by
  cases r with
  | begin ah =>
    show cost (ds ++ [_]) = _
    rw [cost_app] <;> rfl
  | step i =>
    obtain ⟨d, h1, h2, h3⟩ := hr
    obtain ⟨q, hq⟩ : ∃ q, d.ahead[d.told.length]? = some q := ⟨_, List.getElem?_eq_getElem h3⟩
    show cost (match ds[i]? with | some d => _ | none => ds) = _
    rw [h1]
    show cost (match d.ahead[d.told.length]? with | some (deed, k) => _ | none => ds) = _
    rw [hq]
    refine cost_set h1 ?_
    unfold costD
    simp only [List.length_append, List.length_singleton]
    omega
  | fin i =>
    obtain ⟨d, h1, h2, h3⟩ := hr
    show cost (match ds[i]? with | some d => _ | none => ds) = _
    rw [h1]
    refine cost_set h1 ?_
    have := (W.opn i d h1).mp h2
    show 1 + d.told.length + (if (some n : Option Nat) = none then 0 else 1) = 1 + d.told.length + (if d.ended = none then 0 else 1) + 1
    rw [if_neg (fun z => nomatch z), if_pos this]
  | drop i =>
    obtain ⟨d, h1, h2⟩ := hr
    show cost (match ds[i]? with | some d => _ | none => ds) = _
    rw [h1]
    refine cost_set h1 ?_
    have := (W.opn i d h1).mp h2
    show 1 + d.told.length + (if (some n : Option Nat) = none then 0 else 1) = 1 + d.told.length + (if d.ended = none then 0 else 1) + 1
    rw [if_neg (fun z => nomatch z), if_pos this]
theorem cost_play : ∀ (rs : List RowM) (n : Nat) (ds : List DM), WF n ds → OkF n ds rs → cost (playF n ds rs) = cost ds + rs.length
  | [], n, ds, _, _ => rfl
  | r :: rs, n, ds, W, ⟨h1, h2⟩ => by
    show cost (playF (n + 1) (doM n ds r) rs) = _
    rw [cost_play rs (n + 1) (doM n ds r) (W.step h1) h2, cost_step W h1, List.length_cons]
    omega
theorem cost_le : ∀ {ds : List DM}, (∀ d ∈ ds, d.told.length ≤ 8) → cost ds ≤ 10 * ds.length
  | [], _ => Nat.zero_le _
  | d :: ds, h => by
    have h1 := cost_le (ds := ds) fun d' hd => h d' (.tail _ hd)
    have h2 := h d (.head _)
    have h3 : costD d ≤ 10 := by
      unfold costD
      split <;> omega
    show costD d + cost ds ≤ 10 * (ds.length + 1)
    omega
theorem rows_few {rs : List RowM} (G : Goes rs) (h : (play rs).length ≤ 12) : rs.length ≤ 120 := by
  have W := wf_play G
  have e := cost_play rs 0 [] .nil G
  have l := cost_le (ds := play rs) fun d hd => by
    obtain ⟨i, hi⟩ := List.mem_iff_getElem?.mp hd
    have := W.len i d hi
    omega
  have z : cost ([] : List DM) = 0 := rfl
  rw [z, Nat.zero_add] at e
  have e : cost (play rs) = rs.length := e
  omega
end
end Sn
set_option Elab.async false
set_option linter.all false
set_option maxRecDepth 100000
set_option maxHeartbeats 4000000
namespace Sn
open PySem PySem.Spec PyProof.Rows L2
section
variable {P : Program} {w : World} {K : PySem.W.Frag} {mg : Str → Option Value} {base : Heap} {S : Addr → Prop} {H H1 : Hp} {b : BookD} {x : WA} {m : WM} {wl rl : Addr} {xs : List WA} {ms : List WM} {ras : List Addr} {rs : List RowM}
theorem WDAt.ne {x' : WA} {m' : WM} (h : WDAt K H x m) (h' : WDAt K H x' m') : x.a ≠ x'.sl := fun z => by
  obtain ⟨ts, h1, _⟩ := h'.steps
  have := h.dict
  rw [z, h1] at this
  cases this
theorem WorldAt.nwa (h : WorldAt K H wl xs ms) {i : Nat} (hx : xs[i]? = some x) : wl ≠ x.a := fun z => by
  obtain ⟨m, _, hw⟩ := pd_getL h.each hx
  have := hw.dict
  rw [← z, h.at_] at this
  cases this
theorem nd_get {α : Type} {l : List α} (nd : l.Nodup) {i j : Nat} {a : α} (h1 : l[i]? = some a) (h2 : l[j]? = some a) : i = j := (List.getElem?_inj (List.getElem?_eq_some_iff.mp h1).1 nd).mp (h1.trans h2.symm)
/-- one deal of the world is changed -/
theorem WorldAt.put (h : WorldAt K H wl xs ms) {i : Nat} {m' : WM} (hx : xs[i]? = some x) (f : Fr K S H H1) (hS : ∀ c, S c → c = x.a ∨ c = x.sl) (h' : WDAt K H1 x m') : WorldAt K H1 wl xs (ms.set i m') := by
  obtain ⟨m, hm, hw⟩ := pd_getL h.each hx
  have hi := (List.getElem?_eq_some_iff.mp hm).1
  have nsl : wl ≠ x.sl := fun z => h.nw (by rw [z]; exact List.mem_map.mpr ⟨x, List.mem_of_getElem? hx, rfl⟩)
  refine ⟨f.lst h.at_ (fun z => (hS _ z).elim (h.nwa hx) nsl), pd_of (by rw [List.length_set]; exact pd_len h.each) fun j y d e1 e2 => ?_, h.nda, h.nds, h.nw⟩
  by_cases c : i = j
  · subst c
    rw [hx] at e1
    rw [List.getElem?_set_self hi] at e2
    rw [← Option.some.inj e1, ← Option.some.inj e2]
    exact h'
  · rw [List.getElem?_set_ne c] at e2
    obtain ⟨d', e3, e4⟩ := pd_getL h.each e1
    rw [e2] at e3
    rw [Option.some.inj e3]
    refine f.wd e4 (fun z => ?_) (fun z => ?_)
    · rcases hS _ z with z | z
      · exact c (nd_get h.nda (by rw [List.getElem?_map, hx] <;> rfl) (by rw [List.getElem?_map, e1]; exact congrArg some z))
      · exact e4.ne hw z
    · rcases hS _ z with z | z
      · exact hw.ne e4 z.symm
      · exact c (nd_get h.nds (by rw [List.getElem?_map, hx] <;> rfl) (by rw [List.getElem?_map, e1]; exact congrArg some z))
/-- what the law's run may write -/
def Own (wl rl : Addr) (xs : List WA) (c : Addr) : Prop := c = wl ∨ c = rl ∨ c ∈ xs.map (·.a) ∨ c ∈ xs.map (·.sl)
theorem put_ended (x : WA) (m : WM) (e : Nat) : putK (wdV x m) (.inr "ended") (.int (e : Nat)) = wdV x { m with ended := some e } := rfl
theorem put_word (x : WA) (m : WM) (s : Str) : putK (wdV x m) (.inr "word") (.str s) = wdV x { m with word := s } := rfl
def spLDo (K : PySem.W.Frag) : Sp := fun vs H Q _ => ∃ (bk wl rl row : Addr) (b : BookD) (xs : List WA) (ms : List WM) (ras : List Addr) (rs : List RowM) (r : RowM), vs = [.ref bk, .ref wl, .ref rl, .ref row] ∧ BookAt K H bk b ∧ BookOk b ∧
  RunSt K H b wl rl xs ms ras rs ∧ RowAt K b H row r ∧ RowOk (play rs) r ∧ ((∃ ah, r = .begin ah) → ms.length < 12) ∧
  ∀ v H' xs' ms', Fr K (Own wl rl xs) H H' → RunSt K H' b wl rl xs' ms' (ras ++ [row]) (rs ++ [r]) → (∀ x ∈ xs', x ∈ xs ∨ (Nw H x.a ∧ Nw H x.sl)) → ((∀ ah, r ≠ .begin ah) → xs' = xs) → Q v H'
theorem c_L_do (T : Tx K mg) : C8.Cal P w K mg base 4 "_law_do" (spLDo K) [] := by
  have c_L_step : C8.Cal P w K mg base 3 "_law_step" (spLStep K) [] := c_L_step T
  have c_L_is_off : C8.Cal P w K mg base 2 "_law_is_off" (spLIsOff K) [] := c_L_is_off T
  refine T.cal T.D_L_do T.g_L_do b_L_do sc_L_do (fun vs H Q E h => ?_) (fun cdv A outer s H vs Q E hr h => ?_)
  · obtain ⟨bk, wl, rl, row, b, xs, ms, ras, rs, r, rfl, _⟩ := h
    rfl
  · obtain ⟨bk, wl, rl, row, b, xs, ms, ras, rs, r, rfl, hb, hB, hR, hrow, hok, hnew, q⟩ := h
    have hu := hu_of hr
    refine ⟨_, (pss_cons (ps_expr (pe_bm PySem.F.plainAttrs_list PySem.F.slot_list_append PySem.F.type_list_append mt_append (pv 2) (pa_cons (pv 3) pa_nil)))
      (pss_cons (ps_if (pt_cmpR op_eq (pe_ix ix_tup (pv 3) pe_int (fun _ _ => rfl)) pe_str (nomark _))
        (pss_cons (ps_set (i := 4) sc_L_do.nd rfl (Or.inl rfl) (pe_bm PySem.F.plainAttrs_list PySem.F.slot_list_index PySem.F.type_list_index mt_index (pe_lc (own := [("_law_one", 7)]) (by rfl) sc_L_do.nd (pi_list (pe_ix ix_tup (pv 0) pe_int (fun _ _ => rfl))) (blkOk_by (own := [("_law_one", 7)]) (N := n_L_do) (sc := defScope s_L_do) (by decide +kernel)) (fun _ _ _ _ _ => (pg_name (i := 7) sc_L_do.nd rfl (Or.inl rfl))) (fun _ _ _ _ _ => pts_nil) (fun _ _ _ _ _ => (pe_ix (ix_tupK (K := K) rfl) (pv 7) pe_int (fun _ _ => rfl)))) (pa_cons (pe_ix ix_tup (pv 3) pe_int (fun _ _ => rfl)) pa_nil)))
        (pss_cons (ps_set (i := 5) sc_L_do.nd rfl (Or.inl rfl) (pe_disp (pps_cons pe_str (pv 4) (pps_cons pe_str (pe_frz (pe_callTy call_list_of (by rfl) T.fr_list bt_list (pa_cons (pe_ix ix_tup (pv 3) pe_int (fun _ _ => rfl)) pa_nil))) (pps_cons pe_str (pe_op op_sub (pe_callB call_len_seq (by rfl) T.fr_len bt_len (pa_cons (pv 2) pa_nil)) pe_int) (pps_cons pe_str pe_non (pps_cons pe_str pe_str pps_nil))))) (by rfl) (by rfl) (fun z => by cases z) (by decide)))
        (pss_cons (ps_dput hu (pv 5) pe_str (pe_lst pa_nil) rfl)
        (pss_cons (ps_expr (pe_bm PySem.F.plainAttrs_list PySem.F.slot_list_append PySem.F.type_list_append mt_append (pv 1) (pa_cons (pv 5) pa_nil)))
        (pss_one (ps_ret (pe_op op_sub (pe_callB call_len_seq (by rfl) T.fr_len bt_len (pa_cons (pv 1) pa_nil)) pe_int)))))))
        pss_nil)
      (pss_cons (ps_if (pt_cmpR op_eq (pe_ix ix_tup (pv 3) pe_int (fun _ _ => rfl)) pe_str (nomark _))
        (pss_one (ps_ret (C8.pe_c c_L_step hr (by decide) rfl (pa_cons (pv 0) (pa_cons (pv 1) (pa_cons (pe_ix ix_tup (pv 3) pe_int (fun _ _ => rfl)) pa_nil))))))
        pss_nil)
      (pss_cons (ps_set (i := 5) sc_L_do.nd rfl (Or.inl rfl) (pe_ix ix_list (pv 1) (pe_ix ix_tup (pv 3) pe_int (fun _ _ => rfl)) (fun _ _ => rfl)))
      (pss_cons (ps_set (i := 6) sc_L_do.nd rfl (Or.inl rfl) (pe_and (pe_cmpR op_eq (pe_ix ix_tup (pv 3) pe_int (fun _ _ => rfl)) pe_str (nomark _)) (pe_one (pe_not (C8.pe_c c_L_is_off hr (by decide) rfl (pa_cons (pv 1) (pa_cons (pv 5) pa_nil)))))))
      (pss_cons (ps_dput hu (pv 5) pe_str (pe_op op_sub (pe_callB call_len_seq (by rfl) T.fr_len bt_len (pa_cons (pv 2) pa_nil)) pe_int) rfl)
      (pss_cons (ps_dput hu (pv 5) pe_str (pe_ix ix_list (pe_lst (pa_cons pe_str (pa_cons pe_str pa_nil))) (pe_callTy call_int1 (by rfl) T.fr_int bt_int (pa_cons (pv 6) pa_nil)) (fun _ _ => rfl)) rfl)
      (pss_one (ps_ret (pe_ix ix_list (pe_lst (pa_cons pe_non (pa_cons (pv 6) pa_nil))) (pe_callTy call_int1 (by rfl) T.fr_int bt_int (pa_cons (pe_cmpR op_eq (pe_ix ix_tup (pv 3) pe_int (fun _ _ => rfl)) pe_str (nomark _)) pa_nil)) (fun _ _ => rfl))))))))))), ?_⟩
    have hW := wf_play hR.goes
    have xl : xs.length = ms.length := pd_len hR.world.each
    have dl : (play rs).length = ms.length := pd_len hR.tie
    have rl_ : ras.length = rs.length := pd_len hR.each
    have rfew : rs.length ≤ 120 := rows_few hR.goes (by rw [dl]; exact hR.few)
    have few := hR.few
    refine ⟨_, rfl, .inl ⟨rfl, _, .of hR.rows⟩, _, rfl, rl, _, _, rfl, rfl, hR.rows, by rw [List.length_map]; exact small1000 (by omega), ?_⟩
    have f1 : Fr K (fun c => c = rl) H (upd H rl (.lst (ras.map V.ref ++ [V.ref row]))) := .at_ rfl hR.rows trivial
    have hr1 : upd H rl (.lst (ras.map V.ref ++ [V.ref row])) rl = some (.lst ((ras ++ [row]).map V.ref)) := by rw [List.map_append]; exact upd_same
    generalize upd H rl (.lst (ras.map V.ref ++ [V.ref row])) = H1 at f1 hr1 ⊢
    have hW1 : WorldAt K H1 wl xs ms := f1.world hR.world hR.apart.1.symm fun x hx => by
      obtain ⟨i, hi⟩ := List.mem_iff_getElem?.mp hx
      obtain ⟨m, _, hm⟩ := pd_getL hR.world.each hi
      refine ⟨fun z => ?_, fun z => hR.apart.2 (by rw [← z]; exact List.mem_map.mpr ⟨x, hx, rfl⟩)⟩
      have := hm.dict
      rw [z, hR.rows] at this
      cases this
    have hb1 := f1.book hb
    have hrow1 := f1.row hrow
    have each1 : Paired (RowAt K b H1) (ras ++ [row]) (rs ++ [r]) := pd_snoc (pd_map hR.each fun _ _ z => f1.row z) hrow1
    have goes1 := goes_snoc hR.goes hok
    cases r with
    | begin ah =>
      obtain ⟨j, dd, kl, ks, hj, hrt, hks, hfit, hah⟩ := hrow1
      have hb1' := hb1
      obtain ⟨bka, bda, hbt, _, ⟨das, hbd1, hbd2⟩⟩ := hb1'
      refine ⟨_, rfl, row, _, _, _, rfl, rfl, hrt, rfl, rfl, _, rfl, ?_⟩
      rw [show decide (V.str "begin" = V.str "begin") = true from by decide +kernel]
      refine ⟨_, rfl, bk, _, _, _, rfl, rfl, hbt, rfl, bda, rfl, ⟨_, hbd1.seq⟩, fun D hD => ?_⟩
      refine lc_it (walk_list (K := K) (a := bda) (xs := das.map V.ref)) (fun i H2 => Fr0 K H1 H2 ∧ H2 D = some (.lst (((b.deals.take i).map (·.name)).map V.str))) ⟨.new hD, upd_same⟩ ?_ ?_ ?_
      · rintro i H2 _ ⟨g, _⟩
        exact (g.fzl hbd1).seq
      · rintro i2 y H0 H2 hi ⟨g, hq⟩ ⟨rfl, hy⟩
        obtain ⟨da_, hda, rfl⟩ := map_get hy
        obtain ⟨d2, hd2, la, sa, hdt, _⟩ := pd_getL hbd2 hda
        have h3 := hB.some_.2
        have hi3 : i2 < b.deals.length := (List.getElem?_eq_some_iff.mp hd2).1
        refine ⟨rfl, _, rfl, da_, _, _, _, rfl, rfl, g.tup hdt, rfl, ?_⟩
        refine ⟨_, hq, by rw [List.length_map, List.length_map, List.length_take]; exact small1000 (by omega), g.own (.of hD) hq trivial, ?_⟩
        rw [take_snoc hd2, List.map_append, List.map_append]
        exact upd_same
      · rintro H2 ⟨g, hq⟩
        rw [List.length_map, pd_len hbd2, List.take_length] at hq
        obtain ⟨j', hjx, i1, i2, i3, i4⟩ := index_str (l := b.deals.map (·.name)) (x := dd.name) (List.mem_map.mpr ⟨dd, List.mem_of_getElem? hj, rfl⟩)
        refine ⟨.inl ⟨rfl, _, .of hq⟩, _, rfl, row, _, _, _, rfl, rfl, g.tup hrt, rfl, D, _, _, j', _, rfl, rfl, .of hq, rfl, i1, i2, i3, i4, ?_⟩
        have hjj : j' = j := nd_get hB.names hjx (by rw [List.getElem?_map, hj] <;> rfl)
        rw [hjj]
        refine fun p hp => ?_
        have g3 : Fr0 K H2 (upd H2 p (.dK [])) := .new hp
        have hp3 : upd H2 p (.dK []) p = some (.dK []) := upd_same
        generalize upd H2 p (.dK []) = H3 at g3 hp3 ⊢
        have g13 := g.trans g3
        obtain ⟨kas, hk1, hk2⟩ := hks
        refine ⟨_, rfl, _, rfl, row, _, _, _, rfl, rfl, g13.tup hrt, rfl, kl, _, rfl, .inl (g13.fzl hk1).seq, fun kn hkn => ?_⟩
        refine ⟨[kn], mut_lst upd_same, fun H5 z5 => ?_⟩
        obtain ⟨g5, q5⟩ := frz_new (K := K) (S := No) hkn z5
        have g15 := g13.trans g5
        have hr5 := g15.lst hr1 (fun z => z)
        refine ⟨_, rfl, rl, _, rfl, .inl (.of hr5), _, _, rfl, rfl, ?_⟩
        rw [List.length_map, List.length_append, rl_, List.length_singleton]
        have hp5 := g5.dK hp3 (fun z => z)
        refine ⟨hp5, [(.inr "deal", .int (j : Nat)), (.inr "keys", .ref kn), (.inr "begun", .int (((rs.length + 1 : Nat) : Int) - 1)), (.inr "ended", .non), (.inr "word", .str "open")], rfl, (by show 5 ≤ 15; decide), ?_⟩
        have hv : V.int (((rs.length + 1 : Nat) : Int) - 1) = V.int (rs.length : Nat) := congrArg V.int (by omega)
        let kv0 : List (Key × V) := [(.inr "deal", .int (j : Nat)), (.inr "keys", .ref kn), (.inr "begun", .int (((rs.length + 1 : Nat) : Int) - 1)), (.inr "ended", .non), (.inr "word", .str "open")]
        have hm0 : mergeK [] kv0 = kv0 := rfl
        have f6 : Fr K (fun c => c = p) H5 (upd H5 p (.dK kv0)) := .at_ rfl hp5 trivial
        have hp6 : upd H5 p (.dK kv0) p = some (.dK kv0) := upd_same
        show gName 5 _ _ (upd H5 p (.dK (mergeK [] kv0))) _
        rw [hm0]
        generalize upd H5 p (.dK kv0) = H6 at f6 hp6 ⊢
        refine ⟨Nat.zero_le _, fun sl hsl => ?_⟩
        have g7 : Fr0 K H6 (upd H6 sl (.lst [])) := .new hsl
        have hs7 : upd H6 sl (.lst []) sl = some (.lst []) := upd_same
        generalize upd H6 sl (.lst []) = H7 at g7 hs7 ⊢
        have hp7 := g7.dK hp6 (fun z => z)
        let x0 : WA := ⟨p, sl, kn⟩
        let m0 : WM := ⟨j, dd, ks, rs.length, none, "open", 0⟩
        have e0 : putK kv0 (.inr "steps") (.ref sl) = wdV x0 m0 := by
          show putK [(.inr "deal", .int (j : Nat)), (.inr "keys", .ref kn), (.inr "begun", V.int (((rs.length + 1 : Nat) : Int) - 1)), (.inr "ended", .non), (.inr "word", .str "open")] (.inr "steps") (.ref sl) = wdV x0 m0
          rw [hv] <;> rfl
        refine ⟨_, rfl, p, upd H7 p (.dK (wdV x0 m0)), rfl, .inl ⟨_, .inr "steps", hp7, rfl, (by show 5 < sizeLine; decide), (congrArg (fun z => upd H7 p (.dK z)) e0.symm)⟩, ?_⟩
        have f8 : Fr K (fun c => c = p) H7 (upd H7 p (.dK (wdV x0 m0))) := .at_ rfl hp7 trivial
        have hp8 : upd H7 p (.dK (wdV x0 m0)) p = some (.dK (wdV x0 m0)) := upd_same
        generalize upd H7 p (.dK (wdV x0 m0)) = H8 at f8 hp8 ⊢
        have nwp : Nw H1 p := g.nw (fun z => z) (.of hp)
        have f18 : Fr0 K H1 H8 := ((((g13.trans g5).wide.trans f6).trans g7.wide).trans f8).narrow fun c z => .inr (by rw [z]; exact nwp)
        have hW8 := f18.world0 hW1
        have hr8 := f18.lst hr1 (fun z => z)
        refine ⟨_, rfl, .inl ⟨rfl, _, .of hW8.at_⟩, _, rfl, wl, _, _, rfl, rfl, hW8.at_, by rw [List.length_map]; exact small1000 (by omega), ?_⟩
        have f9 : Fr K (fun c => c = wl) H8 (upd H8 wl (.lst (xs.map (fun x => V.ref x.a) ++ [V.ref p]))) := .at_ rfl hW8.at_ trivial
        have hw9 : upd H8 wl (.lst (xs.map (fun x => V.ref x.a) ++ [V.ref p])) wl = some (.lst ((xs ++ [x0]).map fun x => V.ref x.a)) := by rw [List.map_append]; exact upd_same
        generalize upd H8 wl (.lst (xs.map (fun x => V.ref x.a) ++ [V.ref p])) = H9 at f9 hw9 ⊢
        refine ⟨_, rfl, wl, _, rfl, .inl (.of hw9), _, _, rfl, rfl, ?_⟩
        have f16 : Fr K (fun c => c = p) H1 H6 := (g13.trans g5).wide.trans f6
        have nsp : sl ≠ p := fun z => by rw [z, hp6] at hsl; cases hsl
        have nprl : rl ≠ p := fun z => by rw [← z, g.lst hr1 (fun z => z)] at hp; cases hp
        have nslrl : sl ≠ rl := fun z => by rw [z, f16.lst hr1 nprl] at hsl; cases hsl
        have npwl : p ≠ wl := fun z => by rw [z, (g.world0 hW1).at_] at hp; cases hp
        have nslwl : sl ≠ wl := fun z => by rw [z, f16.lst hW1.at_ npwl.symm] at hsl; cases hsl
        have nwsl1 : Nw H1 sl := f16.nw nsp (.of hsl)
        have hfresh : ∀ y ∈ xs, y.a ≠ p ∧ y.sl ≠ sl := fun y hy => by
          obtain ⟨i, hi⟩ := List.mem_iff_getElem?.mp hy
          obtain ⟨m', _, hm'⟩ := pd_getL hW1.each hi
          obtain ⟨ts, ht1, _⟩ := hm'.steps
          exact ⟨nwp.ne hm'.dict (fun ps z => nomatch z), nwsl1.ne ht1 (fun ps z => nomatch z)⟩
        have each9 : Paired (WDAt K H9) xs ms := pd_of (pd_len hW8.each) fun i y m' e1 e2 => by
          obtain ⟨m2, e3, e4⟩ := pd_getL hW8.each e1
          rw [e2] at e3
          rw [Option.some.inj e3]
          exact f9.wd e4 (hW8.nwa e1).symm fun z => hW8.nw (by rw [← z]; exact List.mem_map.mpr ⟨y, List.mem_of_getElem? e1, rfl⟩)
        have hw0 : WDAt K H9 x0 m0 := ⟨f9.dK hp8 npwl, ⟨[], f9.lst (f8.lst hs7 nsp) nslwl, rfl, fun t ht => absurd ht List.not_mem_nil⟩,
          ⟨kas, f9.fzl (f8.fzl (g7.fzl (f6.fzl q5))), pd_map hk2 fun _ _ z => f9.key (f18.key z)⟩⟩
        have hlt := hnew ⟨_, rfl⟩
        refine q _ H9 (xs ++ [x0]) (ms ++ [m0]) (((f1.mono fun c z => .inr (.inl z)).trans f18.wide).trans (f9.mono fun c z => .inl z)) ?_ (fun y hy => ?_) (fun h => absurd rfl (h ah))
        · refine ⟨⟨hw9, pd_snoc each9 hw0, ?_, ?_, ?_⟩, f9.lst hr8 hR.apart.1, pd_map each1 fun _ _ z => f9.row (f18.row z), goes1, by rw [List.length_append, List.length_singleton]; omega, fun m' hm' hst => ?_, ⟨hR.apart.1, ?_⟩, ?_⟩
          · rw [List.map_append]
            exact List.nodup_append.mpr ⟨hW8.nda, by simp, fun a ha c hc => by
              obtain ⟨y, hy, rfl⟩ := List.mem_map.mp ha
              rw [List.map_singleton, List.mem_singleton] at hc
              rw [hc]; exact (hfresh y hy).1⟩
          · rw [List.map_append]
            exact List.nodup_append.mpr ⟨hW8.nds, by simp, fun a ha c hc => by
              obtain ⟨y, hy, rfl⟩ := List.mem_map.mp ha
              rw [List.map_singleton, List.mem_singleton] at hc
              rw [hc]; exact (hfresh y hy).2⟩
          · rw [List.map_append, List.mem_append, not_or]
            exact ⟨hW8.nw, fun z => nslwl (List.mem_singleton.mp z).symm⟩
          · rcases List.mem_append.mp hm' with z | z
            · exact hR.fin m' z hst
            · rw [List.mem_singleton.mp z] at hst
              exact absurd hst open_ne_stands
          · rw [List.map_append, List.mem_append, not_or]
            exact ⟨hR.apart.2, fun z => nslrl (List.mem_singleton.mp z).symm⟩
          · rw [play_snoc]
            exact pd_snoc hR.tie ⟨hj, hfit, hah, rfl, Iff.rfl⟩
        · rcases List.mem_append.mp hy with z | z
          · exact .inl z
          · rw [List.mem_singleton.mp z]
            exact .inr ⟨f1.nw (fun z => nprl z.symm) nwp, f1.nw nslrl nwsl1⟩
    | step i =>
      obtain ⟨d, hd, hdo, hdl⟩ := hok
      obtain ⟨m, hm, ht⟩ := pd_getL hR.tie hd
      obtain ⟨x, hx, hwd⟩ := hW1.get hm
      have hrt : SqT K H1 row [.str "step", .int (i : Nat)] := hrow1
      refine ⟨_, rfl, row, _, _, _, rfl, rfl, hrt, rfl, rfl, _, rfl, ?_⟩
      rw [show decide (V.str "step" = V.str "begin") = false from by decide +kernel]
      refine ⟨_, rfl, row, _, _, _, rfl, rfl, hrt, rfl, rfl, _, rfl, ?_⟩
      rw [show decide (V.str "step" = V.str "step") = true from by decide +kernel]
      refine ⟨_, rfl, _, rfl, _, rfl, row, _, _, _, rfl, rfl, hrt, rfl, bk, wl, i, b, xs, ms, x, m, rfl, hb1, hB, hW1, hR.wok, hx, hm, ht.deal, ht.fit, ?_, fun v H2 f2 hw2 => ?_⟩
      · have e := congrArg List.length ht.ahead
        unfold resolve at e
        rw [List.length_map] at e
        rw [ht.told, ← e]
        exact hdl
      · have hsl : rl ≠ x.sl := fun z => hR.apart.2 (by rw [z]; exact List.mem_map.mpr ⟨x, List.mem_of_getElem? hx, rfl⟩)
        have hmem : x.sl ∈ xs.map (·.sl) := List.mem_map.mpr ⟨x, List.mem_of_getElem? hx, rfl⟩
        refine q v H2 xs (ms.set i { m with n := m.n + 1 }) ((f1.mono fun c z => .inr (.inl z)).trans (f2.mono fun c z => .inr (.inr (.inr (by rw [z]; exact hmem))))) ?_ (fun y hy => .inl hy) (fun _ => rfl)
        refine ⟨hW1.put hx f2 (fun c z => .inr z) hw2, f2.lst hr1 hsl, pd_map each1 fun _ _ z => f2.row z, goes1, by rw [List.length_set]; exact few, fun m' hm' hst => ?_, hR.apart, ?_⟩
        · rcases List.mem_or_eq_of_mem_set hm' with z | z
          · exact hR.fin m' z hst
          · rw [z] at hst ⊢
            exact hR.fin m (List.mem_of_getElem? hm) hst
        · obtain ⟨pr, hpr⟩ : ∃ pr, d.ahead[d.told.length]? = some pr := ⟨_, List.getElem?_eq_getElem hdl⟩
          rw [play_snoc]
          show Paired (TieM b) (match (play rs)[i]? with | some d => _ | none => play rs) _
          rw [hd]
          show Paired (TieM b) (match d.ahead[d.told.length]? with | some (deed, k) => _ | none => play rs) _
          rw [hpr]
          exact pd_set hR.tie i ⟨ht.deal, ht.fit, ht.ahead, by
            show m.n + 1 = (d.told ++ [_]).length
            rw [List.length_append, ht.told] <;> rfl, ht.open_⟩
    | fin i =>
      obtain ⟨d, hd, hdo, hdl⟩ := hok
      obtain ⟨m, hm, ht⟩ := pd_getL hR.tie hd
      obtain ⟨x, hx, hwd⟩ := hW1.get hm
      have hms := List.mem_of_getElem? hm
      have hrt : SqT K H1 row [.str "end", .int (i : Nat)] := hrow1
      refine ⟨_, rfl, row, _, _, _, rfl, rfl, hrt, rfl, rfl, _, rfl, ?_⟩
      rw [show decide (V.str "end" = V.str "begin") = false from by decide +kernel]
      refine ⟨_, rfl, row, _, _, _, rfl, rfl, hrt, rfl, rfl, _, rfl, ?_⟩
      rw [show decide (V.str "end" = V.str "step") = false from by decide +kernel]
      refine ⟨_, rfl, _, rfl, row, _, _, _, rfl, rfl, hrt, rfl, wl, _, _, .ref x.a, rfl, rfl, .of hW1.at_, at_of rfl (get_map hx), ?_⟩
      refine ⟨_, rfl, row, _, _, _, rfl, rfl, hrt, rfl, rfl, _, rfl, ?_⟩
      rw [show decide (V.str "end" = V.str "end") = true from by decide +kernel]
      refine ⟨_, rfl, _, rfl, wl, x, m, xs, ms, rfl, hW1, hR.wok, hwd, hR.wok.n m hms, fun c H2 g2 => ⟨_, rfl, ?_⟩⟩
      have hr2 := g2.lst hr1 (fun z => z)
      have hwd2 := g2.wd hwd (fun z => z) (fun z => z)
      refine ⟨_, rfl, rl, _, rfl, .inl (.of hr2), _, _, rfl, rfl, ?_⟩
      rw [List.length_map, List.length_append, rl_, List.length_singleton]
      have hv : V.int (((rs.length + 1 : Nat) : Int) - 1) = V.int (rs.length : Nat) := congrArg V.int (by omega)
      let m1 : WM := { m with ended := some rs.length }
      have e6 : putK (wdV x m) (.inr "ended") (V.int (((rs.length + 1 : Nat) : Int) - 1)) = wdV x m1 := by rw [hv]; exact put_ended x m rs.length
      refine ⟨_, rfl, x.a, upd H2 x.a (.dK (wdV x m1)), rfl, .inl ⟨_, .inr "ended", hwd2.dict, rfl, (by show 6 < sizeLine; decide), (congrArg (fun z => upd H2 x.a (.dK z)) e6.symm)⟩, ?_⟩
      have f3 : Fr K (fun c => c = x.a) H2 (upd H2 x.a (.dK (wdV x m1))) := .at_ rfl hwd2.dict trivial
      have hd3 : upd H2 x.a (.dK (wdV x m1)) x.a = some (.dK (wdV x m1)) := upd_same
      generalize upd H2 x.a (.dK (wdV x m1)) = H3 at f3 hd3 ⊢
      refine ⟨(by show 2 ≤ sizeLine; decide), fun z hz => ?_⟩
      have g4 : Fr0 K H3 (upd H3 z (.lst [.str "off", .str "stands"])) := .new hz
      have hz4 : upd H3 z (.lst [.str "off", .str "stands"]) z = some (.lst [.str "off", .str "stands"]) := upd_same
      generalize upd H3 z (.lst [.str "off", .str "stands"]) = H4 at g4 hz4 ⊢
      have hd4 := g4.dK hd3 (fun z => z)
      obtain ⟨wd, hwd', hwe⟩ : ∃ wd : Str, atI [V.str "off", V.str "stands"] (if (!c) = true then (1 : Int) else 0) = some (.str wd) ∧ wd ≠ ("open" : Str) := by
        cases c
        · exact ⟨"stands", rfl, fun z => open_ne_stands z.symm⟩
        · exact ⟨"off", rfl, fun z => open_ne_off z.symm⟩
      let m2 : WM := { m1 with word := wd }
      refine ⟨_, rfl, .inr ⟨_, rfl, z, _, _, .str wd, rfl, rfl, .of hz4, hwd', ?_⟩⟩
      refine ⟨_, rfl, x.a, upd H4 x.a (.dK (wdV x m2)), rfl, .inl ⟨_, .inr "word", hd4, rfl, (by show 6 < sizeLine; decide), (congrArg (fun z => upd H4 x.a (.dK z)) (put_word x m1 wd).symm)⟩, ?_⟩
      have f5 : Fr K (fun c => c = x.a) H4 (upd H4 x.a (.dK (wdV x m2))) := .at_ rfl hd4 trivial
      have hd5 : upd H4 x.a (.dK (wdV x m2)) x.a = some (.dK (wdV x m2)) := upd_same
      generalize upd H4 x.a (.dK (wdV x m2)) = H5 at f5 hd5 ⊢
      refine ⟨_, rfl, (by show 2 ≤ sizeLine; decide), fun z2 hz2 => ?_⟩
      have g6 : Fr0 K H5 (upd H5 z2 (.lst [.non, .bl (!c)])) := .new hz2
      have hz6 : upd H5 z2 (.lst [.non, .bl (!c)]) z2 = some (.lst [.non, .bl (!c)]) := upd_same
      generalize upd H5 z2 (.lst [.non, .bl (!c)]) = H6 at g6 hz6 ⊢
      have f26 : Fr K (fun c => c = x.a) H1 H6 := (((g2.wide.trans f3).trans g4.wide).trans f5).trans g6.wide
      refine ⟨_, rfl, row, _, _, _, rfl, rfl, f26.tup hrt, rfl, rfl, .inr ⟨_, rfl, ?_⟩⟩
      rw [show decide (V.str "end" = V.str "end") = true from by decide +kernel]
      refine ⟨z2, _, _, .bl (!c), rfl, rfl, .of hz6, rfl, ?_⟩
      have hmem : x.a ∈ xs.map (·.a) := List.mem_map.mpr ⟨x, List.mem_of_getElem? hx, rfl⟩
      have hra : rl ≠ x.a := fun z => by
        have := hwd.dict
        rw [← z, hr1] at this
        cases this
      have hw6 : WDAt K H6 x m2 := by
        obtain ⟨ts, h1, h2, h3⟩ := hwd.steps
        exact ⟨g6.dK hd5 (fun z => z), ⟨ts, f26.lst h1 (hwd.ne hwd).symm, h2, fun t ht => f26.stp (h3 t ht)⟩, f26.keys hwd.keys⟩
      refine q _ H6 xs (ms.set i m2) ((f1.mono fun c z => .inr (.inl z)).trans (f26.mono fun c z => .inr (.inr (.inl (by rw [z]; exact hmem))))) ?_ (fun y hy => .inl hy) (fun _ => rfl)
      refine ⟨hW1.put hx f26 (fun c z => .inl z) hw6, f26.lst hr1 hra, pd_map each1 fun _ _ z => f26.row z, goes1, by rw [List.length_set]; exact few, fun m' hm' hst => ?_, hR.apart, ?_⟩
      · rcases List.mem_or_eq_of_mem_set hm' with z | z
        · exact hR.fin m' z hst
        · rw [z]; exact ⟨_, rfl⟩
      · rw [play_snoc]
        show Paired (TieM b) (match (play rs)[i]? with | some d => _ | none => play rs) _
        rw [hd]
        refine pd_set hR.tie i ⟨ht.deal, ht.fit, ht.ahead, ht.told, ⟨fun z => absurd z hwe, fun z => ?_⟩⟩
        exfalso
        revert z
        classical
        show ¬ (if Off (play rs) d then ("off" : Str) else ("stands" : Str)) = ("open" : Str)
        split
        · exact fun z => open_ne_off z.symm
        · exact fun z => open_ne_stands z.symm
    | drop i =>
      obtain ⟨d, hd, hdo⟩ := hok
      obtain ⟨m, hm, ht⟩ := pd_getL hR.tie hd
      obtain ⟨x, hx, hwd⟩ := hW1.get hm
      have hms := List.mem_of_getElem? hm
      have hrt : SqT K H1 row [.str "drop", .int (i : Nat)] := hrow1
      refine ⟨_, rfl, row, _, _, _, rfl, rfl, hrt, rfl, rfl, _, rfl, ?_⟩
      rw [show decide (V.str "drop" = V.str "begin") = false from by decide +kernel]
      refine ⟨_, rfl, row, _, _, _, rfl, rfl, hrt, rfl, rfl, _, rfl, ?_⟩
      rw [show decide (V.str "drop" = V.str "step") = false from by decide +kernel]
      refine ⟨_, rfl, _, rfl, row, _, _, _, rfl, rfl, hrt, rfl, wl, _, _, .ref x.a, rfl, rfl, .of hW1.at_, at_of rfl (get_map hx), ?_⟩
      refine ⟨_, rfl, row, _, _, _, rfl, rfl, hrt, rfl, rfl, _, rfl, ?_⟩
      rw [show decide (V.str "drop" = V.str "end") = false from by decide +kernel]
      have g2 : Fr0 K H1 H1 := .refl _
      have hr2 := hr1
      have hwd2 := g2.wd hwd (fun z => z) (fun z => z)
      refine ⟨_, rfl, rl, _, rfl, .inl (.of hr2), _, _, rfl, rfl, ?_⟩
      rw [List.length_map, List.length_append, rl_, List.length_singleton]
      have hv : V.int (((rs.length + 1 : Nat) : Int) - 1) = V.int (rs.length : Nat) := congrArg V.int (by omega)
      let m1 : WM := { m with ended := some rs.length }
      have e6 : putK (wdV x m) (.inr "ended") (V.int (((rs.length + 1 : Nat) : Int) - 1)) = wdV x m1 := by rw [hv]; exact put_ended x m rs.length
      refine ⟨_, rfl, x.a, upd H1 x.a (.dK (wdV x m1)), rfl, .inl ⟨_, .inr "ended", hwd2.dict, rfl, (by show 6 < sizeLine; decide), (congrArg (fun z => upd H1 x.a (.dK z)) e6.symm)⟩, ?_⟩
      have f3 : Fr K (fun c => c = x.a) H1 (upd H1 x.a (.dK (wdV x m1))) := .at_ rfl hwd2.dict trivial
      have hd3 : upd H1 x.a (.dK (wdV x m1)) x.a = some (.dK (wdV x m1)) := upd_same
      generalize upd H1 x.a (.dK (wdV x m1)) = H3 at f3 hd3 ⊢
      refine ⟨(by show 2 ≤ sizeLine; decide), fun z hz => ?_⟩
      have g4 : Fr0 K H3 (upd H3 z (.lst [.str "off", .str "stands"])) := .new hz
      have hz4 : upd H3 z (.lst [.str "off", .str "stands"]) z = some (.lst [.str "off", .str "stands"]) := upd_same
      generalize upd H3 z (.lst [.str "off", .str "stands"]) = H4 at g4 hz4 ⊢
      have hd4 := g4.dK hd3 (fun z => z)
      obtain ⟨wd, hwd', hwe⟩ : ∃ wd : Str, atI [V.str "off", V.str "stands"] (if false = true then (1 : Int) else 0) = some (.str wd) ∧ wd ≠ ("open" : Str) := ⟨"off", rfl, fun z => open_ne_off z.symm⟩
      let m2 : WM := { m1 with word := wd }
      refine ⟨_, rfl, .inr ⟨_, rfl, z, _, _, .str wd, rfl, rfl, .of hz4, hwd', ?_⟩⟩
      refine ⟨_, rfl, x.a, upd H4 x.a (.dK (wdV x m2)), rfl, .inl ⟨_, .inr "word", hd4, rfl, (by show 6 < sizeLine; decide), (congrArg (fun z => upd H4 x.a (.dK z)) (put_word x m1 wd).symm)⟩, ?_⟩
      have f5 : Fr K (fun c => c = x.a) H4 (upd H4 x.a (.dK (wdV x m2))) := .at_ rfl hd4 trivial
      have hd5 : upd H4 x.a (.dK (wdV x m2)) x.a = some (.dK (wdV x m2)) := upd_same
      generalize upd H4 x.a (.dK (wdV x m2)) = H5 at f5 hd5 ⊢
      refine ⟨_, rfl, (by show 2 ≤ sizeLine; decide), fun z2 hz2 => ?_⟩
      have g6 : Fr0 K H5 (upd H5 z2 (.lst [.non, .bl false])) := .new hz2
      have hz6 : upd H5 z2 (.lst [.non, .bl false]) z2 = some (.lst [.non, .bl false]) := upd_same
      generalize upd H5 z2 (.lst [.non, .bl false]) = H6 at g6 hz6 ⊢
      have f26 : Fr K (fun c => c = x.a) H1 H6 := (((g2.wide.trans f3).trans g4.wide).trans f5).trans g6.wide
      refine ⟨_, rfl, row, _, _, _, rfl, rfl, f26.tup hrt, rfl, rfl, .inr ⟨_, rfl, ?_⟩⟩
      rw [show decide (V.str "drop" = V.str "end") = false from by decide +kernel]
      refine ⟨z2, _, _, .non, rfl, rfl, .of hz6, rfl, ?_⟩
      have hmem : x.a ∈ xs.map (·.a) := List.mem_map.mpr ⟨x, List.mem_of_getElem? hx, rfl⟩
      have hra : rl ≠ x.a := fun z => by
        have := hwd.dict
        rw [← z, hr1] at this
        cases this
      have hw6 : WDAt K H6 x m2 := by
        obtain ⟨ts, h1, h2, h3⟩ := hwd.steps
        exact ⟨g6.dK hd5 (fun z => z), ⟨ts, f26.lst h1 (hwd.ne hwd).symm, h2, fun t ht => f26.stp (h3 t ht)⟩, f26.keys hwd.keys⟩
      refine q _ H6 xs (ms.set i m2) ((f1.mono fun c z => .inr (.inl z)).trans (f26.mono fun c z => .inr (.inr (.inl (by rw [z]; exact hmem))))) ?_ (fun y hy => .inl hy) (fun _ => rfl)
      refine ⟨hW1.put hx f26 (fun c z => .inl z) hw6, f26.lst hr1 hra, pd_map each1 fun _ _ z => f26.row z, goes1, by rw [List.length_set]; exact few, fun m' hm' hst => ?_, hR.apart, ?_⟩
      · rcases List.mem_or_eq_of_mem_set hm' with z | z
        · exact hR.fin m' z hst
        · rw [z]; exact ⟨_, rfl⟩
      · rw [play_snoc]
        show Paired (TieM b) (match (play rs)[i]? with | some d => _ | none => play rs) _
        rw [hd]
        refine pd_set hR.tie i ⟨ht.deal, ht.fit, ht.ahead, ht.told, ⟨fun z => absurd z hwe, fun z => ?_⟩⟩
        have z : ("off" : Str) = ("open" : Str) := z
        exact absurd z.symm open_ne_off
end
end Sn
set_option Elab.async false
set_option linter.all false
set_option maxRecDepth 100000
set_option maxHeartbeats 4000000
namespace Sn
open PySem PySem.Spec PyProof.Rows L2
theorem okF_steps : ∀ (k n : Nat) (ds : List DM) (i : Nat) (d : DM), ds[i]? = some d → d.word = ("open" : Str) → d.told.length + k ≤ d.ahead.length → OkF n ds (List.replicate k (RowM.step i))
  | 0, _, _, _, _, _, _, _ => trivial
  | k + 1, n, ds, i, d, h1, h2, h3 => by
    rw [List.replicate_succ]
    have hlt : d.told.length < d.ahead.length := by omega
    refine ⟨⟨d, h1, h2, hlt⟩, ?_⟩
    obtain ⟨pr, hpr⟩ : ∃ pr, d.ahead[d.told.length]? = some pr := ⟨_, List.getElem?_eq_getElem hlt⟩
    show OkF (n + 1) (match ds[i]? with | some d => _ | none => ds) _
    rw [h1]
    show OkF (n + 1) (match d.ahead[d.told.length]? with | some (deed, k) => _ | none => ds) _
    rw [hpr]
    refine okF_steps k (n + 1) _ i { d with told := d.told ++ [(pr.1, pr.2, seenBy ds i d pr.1 pr.2)] } (List.getElem?_set_self (List.getElem?_eq_some_iff.mp h1).1) h2 ?_
    show (d.told ++ [_]).length + k ≤ d.ahead.length
    rw [List.length_append, List.length_singleton]
    omega
theorem if_by {t : TT} {tb te : TS} {D σ H} (R : Bool → Hp → Prop) (h : ∀ Q : Bool → Hp → Prop, (∀ c H', R c H' → Q c H') → t σ H Q) (h1 : ∀ H', R true H' → tb D σ H') (h2 : ∀ H', R false H' → te D σ H') : tIfS t tb te D σ H := by
  refine h _ fun c H' r => ?_
  cases c
  · exact h2 H' r
  · exact h1 H' r
theorem by_name {i : Nat} {x : V} {σ : L2.St} {H : Hp} {D D' : Ends} {u : TS} (h : u D' (σ.set i (some x)) H) : gName i x σ H ({ D with nx := u D' } : Ends).nx := h
theorem seq_if_by {t : TT} {tb te u : TS} {D σ H} (R : Bool → Hp → Prop) (h : ∀ Q : Bool → Hp → Prop, (∀ c H', R c H' → Q c H') → t σ H Q) (h1 : ∀ H', R true H' → tb { D with nx := u D } σ H') (h2 : ∀ H', R false H' → te { D with nx := u D } σ H') : tSeq (tIfS t tb te) u D σ H := if_by R h h1 h2
theorem when_by {t : TT} {tb u : TS} {D σ H} (R : Bool → Hp → Prop) (h : ∀ Q : Bool → Hp → Prop, (∀ c H', R c H' → Q c H') → t σ H Q) (h1 : ∀ H', R true H' → tb { D with nx := u D } σ H') (h2 : ∀ H', R false H' → u D σ H') : tSeq (tIfS t tb tNext) u D σ H := if_by R h h1 h2
section
variable {P : Program} {w : World} {K : PySem.W.Frag} {mg : Str → Option Value} {base : Heap} {S : Addr → Prop} {H H1 : Hp} {b : BookD} {x : WA} {m : WM} {wl rl : Addr} {xs : List WA} {ms : List WM} {ras : List Addr} {rs : List RowM}
def spLNext (K : PySem.W.Frag) : Sp := fun vs H Q _ => ∃ (a bk wl rl : Addr) (b : BookD) (xs : List WA) (ms : List WM) (ras : List Addr) (rs : List RowM), vs = [.ref a, .ref bk, .ref wl, .int 12, .int 3] ∧ PoolAt H a ∧ BookAt K H bk b ∧ BookOk b ∧ NamesOk b ∧
  RunSt K H b wl rl xs ms ras rs ∧ ¬ Own wl rl xs a ∧
  ∀ (p : Addr) (as : List Addr) (qs : List RowM) H', Nw H p → Fr K (fun c => c = a) H H' → H' p = some (.lst (as.map V.ref)) → Paired (RowAt K b H') as qs → OkF rs.length (play rs) qs → qs.length ≤ 8 → (∀ ah, RowM.begin ah ∈ qs → qs.length = 1 ∧ ms.length < 12) → Q (.ref p) H'
theorem c_L_next (T : Tx K mg) : C8.Cal P w K mg base 3 "_law_next" (spLNext K) [] := by
  have c_L_draw : C8.Cal P w K mg base 1 "_law_draw" (spDraw K) [] := c_L_draw T
  have c_L_left : C8.Cal P w K mg base 1 "_law_left" (spLLeft K) [] := c_L_left T
  have c_L_keys : C8.Cal P w K mg base 2 "_law_keys" (spLKeys K) [] := c_L_keys T
  refine T.cal T.D_L_next T.g_L_next b_L_next sc_L_next (fun vs H Q E h => ?_) (fun cdv A outer s H vs Q E hr h => ?_)
  · obtain ⟨a, bk, wl, rl, b, xs, ms, ras, rs, rfl, _⟩ := h
    rfl
  · obtain ⟨a, bk, wl, rl, b, xs, ms, ras, rs, rfl, hP, hb, hB, hN, hR, hna, q⟩ := h
    have hu := hu_of hr
    refine ⟨_, (pss_cons (ps_setLc (i := 5) (own := [("_law_number", 7), ("_law_deal", 9)]) (by rfl) sc_L_next.nd rfl rfl (sw_true rfl rfl rfl (by decide +kernel)) (pi_enum (by rfl) T.fr_enumerate (pa_cons (pv 2) pa_nil)) (blkOk_by (own := [("_law_number", 7), ("_law_deal", 9)]) (N := n_L_next) (sc := defScope s_L_next) (by decide +kernel)) (fun _ _ _ _ _ => (pg_tupK (K := K) (n := 2) rfl rfl (pgs_cons (pg_name (i := 7) sc_L_next.nd rfl (Or.inl rfl)) (pgs_cons (pg_name (i := 9) sc_L_next.nd rfl (Or.inl rfl)) pgs_nil)))) (fun _ _ _ _ _ => (pts_one (pt_cmpR op_eq (pe_dget hu (pv 9) pe_str (fun _ _ => rfl)) pe_str (nomark _)))) (fun _ _ _ _ _ => (pv 7)))
      (pss_cons (ps_set (i := 6) sc_L_next.nd rfl (Or.inl rfl) (C8.pe_c c_L_draw hr (by decide) rfl (pa_cons (pv 0) (pa_cons pe_int pa_nil))))
      (pss_cons (ps_if (PW.pt (pw_and (pt_cmpR op_lt (pe_callB call_len_seq (by rfl) T.fr_len bt_len (pa_cons (pv 2) pa_nil)) (pv 3) (nomark _)) (pw_and1 (PW.pt (pw_or (pt_cmpR (op_eqD hr.units) (pv 5) (pe_lst pa_nil) (nomark _)) (pw_or1 (pt_cmpR op_eq (pv 6) pe_int (nomark _))))))))
        (pss_cons (ps_set (i := 7) sc_L_next.nd rfl (Or.inl rfl) (C8.pe_c c_L_draw hr (by decide) rfl (pa_cons (pv 0) (pa_cons (pe_callB call_len_seq (by rfl) T.fr_len bt_len (pa_cons (pe_ix ix_tup (pv 1) pe_int (fun _ _ => rfl)) pa_nil)) pa_nil))))
        (pss_one (ps_ret (pe_lst (pa_cons (pe_tup (pa_cons pe_str (pa_cons (pe_ix ix_tup (pe_ix ix_list (pe_ix ix_tup (pv 1) pe_int (fun _ _ => rfl)) (pv 7) (fun _ _ => rfl)) pe_int (fun _ _ => rfl)) (pa_cons (C8.pe_c c_L_keys hr (by decide) rfl (pa_cons (pv 0) (pa_cons (pv 1) (pa_cons (pv 7) (pa_cons (pv 4) pa_nil))))) pa_nil)))) pa_nil)))))
        pss_nil)
      (pss_cons (ps_if (pt_cmpR (op_eqD hr.units) (pv 5) (pe_lst pa_nil) (nomark _))
        (pss_one (ps_ret (pe_lst pa_nil)))
        pss_nil)
      (pss_cons (ps_set (i := 7) sc_L_next.nd rfl (Or.inl rfl) (pe_ix ix_list (pv 5) (C8.pe_c c_L_draw hr (by decide) rfl (pa_cons (pv 0) (pa_cons (pe_callB call_len_seq (by rfl) T.fr_len bt_len (pa_cons (pv 5) pa_nil)) pa_nil))) (fun _ _ => rfl)))
      (pss_cons (ps_set (i := 8) sc_L_next.nd rfl (Or.inl rfl) (C8.pe_c c_L_left hr (by decide) rfl (pa_cons (pv 1) (pa_cons (pe_ix ix_list (pv 2) (pv 7) (fun _ _ => rfl)) pa_nil))))
      (pss_cons (ps_if (pt_cmpR op_eq (pv 8) pe_int (nomark _))
        (pss_one (ps_ret (pe_lst (pa_cons (pe_tup (pa_cons (pe_ix ix_list (pe_lst (pa_cons pe_str (pa_cons pe_str (pa_cons pe_str (pa_cons pe_str (pa_cons pe_str (pa_cons pe_str pa_nil))))))) (C8.pe_c c_L_draw hr (by decide) rfl (pa_cons (pv 0) (pa_cons pe_int pa_nil))) (fun _ _ => rfl)) (pa_cons (pv 7) pa_nil))) pa_nil))))
        pss_nil)
      (pss_cons (ps_if (pt_cmpR op_eq (C8.pe_c c_L_draw hr (by decide) rfl (pa_cons (pv 0) (pa_cons pe_int pa_nil))) pe_int (nomark _))
        (pss_one (ps_ret (pe_lst (pa_cons (pe_tup (pa_cons pe_str (pa_cons (pv 7) pa_nil))) pa_nil))))
        pss_nil)
      (pss_one (ps_ret (pe_op op_rep (pe_lst (pa_cons (pe_tup (pa_cons pe_str (pa_cons (pv 7) pa_nil))) pa_nil)) (pe_callB (call_min2 rfl) (by rfl) T.fr_min bt_min (pa_cons (pv 8) (pa_cons (pe_op op_add pe_int (C8.pe_c c_L_draw hr (by decide) rfl (pa_cons (pv 0) (pa_cons pe_int pa_nil)))) pa_nil)))))))))))))), ?_⟩
    have hW := wf_play hR.goes
    have xl : xs.length = ms.length := pd_len hR.world.each
    have dl : (play rs).length = ms.length := pd_len hR.tie
    have few := hR.few
    have nal : a ≠ wl := fun z => hna (.inl z)
    refine ⟨_, rfl, wl, _, rfl, .of hR.world.at_, fun D hD => ?_⟩
    have nDa : a ≠ D := fun z => by
      obtain ⟨px, py, hp⟩ := hP
      rw [z, hD] at hp
      cases hp
    refine lc_it (walk_enum (K := K) (a := wl) (xs := xs.map fun x => V.ref x.a)) (fun i H2 => Fr0 K H H2 ∧ ∃ os : List Nat, H2 D = some (.lst (natL os)) ∧ os.length ≤ i ∧ ∀ o ∈ os, ∃ m, ms[o]? = some m ∧ m.word = ("open" : Str)) ⟨.new hD, [], upd_same, Nat.le_refl _, fun _ h => absurd h List.not_mem_nil⟩ ?_ ?_ ?_
    · rintro i H2 _ ⟨g, _⟩
      exact .of (g.world0 hR.world).at_
    · rintro i y H0 H2 hi ⟨g, os, hq, hl, hos⟩ ⟨t, u, v, rfl, ht, rfl, hu1, hu2⟩
      obtain ⟨x, hx, rfl⟩ := map_get hu2
      obtain rfl := Option.some.inj hu1
      have gt : Fr0 K H0 (upd H0 t (.tup [.int (i : Nat), .ref x.a])) := .new ht
      have gg := g.trans gt
      have hW2 := gg.world0 hR.world
      obtain ⟨m, hm, hwd⟩ := pd_getL hW2.each hx
      have hq2 := gt.lst hq (fun z => z)
      rw [List.length_map] at hi
      refine ⟨t, _, rfl, .of upd_same, rfl, _, _, rfl, _, _, rfl, rfl, rfl, ?_⟩
      refine ⟨_, rfl, x.a, _, rfl, hwd.get (wd_word x m), rfl, _, rfl, ite2 (fun c => ?_) (fun c => ?_)⟩
      · have c := V.str.inj (of_decide_eq_true c)
        refine ⟨_, rfl, _, hq2, by rw [natL_len]; exact small1000 (by omega), gg.own (.of hD) hq2 trivial, os ++ [i], by rw [natL_snoc]; exact upd_same, by rw [List.length_append, List.length_singleton]; omega, fun o ho => ?_⟩
        rcases List.mem_append.mp ho with z | z
        · exact hos o z
        · rw [List.mem_singleton.mp z]; exact ⟨m, hm, c⟩
      · exact ⟨gg, os, hq2, by omega, hos⟩
    · rintro H2 ⟨g2, os, hq, hl, hos⟩
      rw [List.length_map] at hl
      have hP2 : PoolAt H2 a := by
        obtain ⟨px, py, hp⟩ := hP
        exact ⟨px, py, g2.lst hp (fun z => z)⟩
      refine ⟨_, rfl, a, 4, rfl, hP2, by decide, by decide, fun v H3 v0 v4 hP3 f3 => ?_⟩
      have hq3 := f3.lst hq (fun z => nDa z.symm)
      have f13 : Fr K (fun c => c = a) H H3 := g2.wide.trans f3
      have hW3 : WorldAt K H3 wl xs ms := f13.world hR.world nal.symm fun y hy => ⟨fun z => hna (.inr (.inr (.inl (List.mem_map.mpr ⟨y, hy, z⟩)))), fun z => hna (.inr (.inr (.inr (List.mem_map.mpr ⟨y, hy, z⟩))))⟩
      refine by_name ?_
      refine when_by (fun c H4 => Fr0 K H3 H4 ∧ (c = true → ms.length < 12) ∧ (c = false → os = [] → 12 ≤ ms.length)) (fun Q hQ => ?_) (fun H4 ⟨f4, hlt, _⟩ => ?_) (fun H4 ⟨f4, _⟩ => ?_)
      · refine ⟨_, rfl, wl, _, rfl, .inl (.of hW3.at_), _, rfl, _, _, rfl, rfl, _, rfl, ?_⟩
        rw [List.length_map, xl]
        by_cases c : ms.length < 12
        · rw [show decide ((ms.length : Int) < 12) = true from decide_eq_true (by omega)]
          refine ⟨_, rfl, Nat.zero_le _, fun z hz => ?_⟩
          have g4 : Fr0 K H3 (upd H3 z (.lst [])) := .new hz
          have hq4 := g4.lst hq3 (fun z => z)
          refine eqD_nil (SqL.of hq4) (.of upd_same) ⟨_, rfl, ?_⟩
          cases os with
          | nil => exact hQ true _ ⟨g4, fun _ => c, fun z => absurd z.symm Bool.false_ne_true⟩
          | cons o os =>
            refine ⟨_, rfl, rfl, _, rfl, ?_⟩
            exact hQ _ _ ⟨g4, fun _ => c, fun _ z => absurd z (List.cons_ne_nil _ _)⟩
        · rw [show decide ((ms.length : Int) < 12) = false from decide_eq_false (by omega)]
          exact hQ false _ ⟨.refl _, fun z => absurd z Bool.false_ne_true, fun _ _ => by omega⟩
      · have hP4 : PoolAt H4 a := by
          obtain ⟨px, py, hp⟩ := hP3
          exact ⟨px, py, f4.lst hp (fun z => z)⟩
        have f14 : Fr K (fun c => c = a) H H4 := f13.trans f4.wide
        have hb0 := hb
        obtain ⟨ka, da, hb1, _, ⟨das, hb2, hb3⟩⟩ := hb
        have dl3 := pd_len hb3
        obtain ⟨b1, b3⟩ := hB.some_
        refine ⟨_, rfl, _, rfl, bk, _, _, _, rfl, rfl, f14.tup hb1, rfl, da, _, rfl, .inl (f14.fzl hb2).seq, a, _, rfl, hP4, by rw [List.length_map]; omega, by rw [List.length_map]; omega, fun j H5 j0 j1 hP5 f5 => ?_⟩
        obtain ⟨j, rfl⟩ : ∃ k : Nat, j = (k : Int) := ⟨j.toNat, by omega⟩
        rw [List.length_map] at j1
        obtain ⟨d, hj⟩ : ∃ d, b.deals[j]? = some d := ⟨_, List.getElem?_eq_getElem (show j < b.deals.length by omega)⟩
        obtain ⟨da_, hda, la, sa, hd1, _⟩ := pd_get hb3 hj
        have f15 : Fr K (fun c => c = a) H H5 := f14.trans f5
        refine by_name ?_
        refine ⟨_, rfl, bk, _, _, _, rfl, rfl, f15.tup hb1, rfl, _, rfl, da, _, _, _, rfl, rfl, (f15.fzl hb2).seq, at_of rfl (get_map hda), da_, _, _, _, rfl, rfl, f15.tup hd1, rfl, ?_⟩
        refine ⟨_, rfl, _, rfl, _, rfl, _, rfl, a, bk, j, b, d, rfl, hP5, f15.book hb0, hB, hN, hj, fun kl ks H6 nwk f6 hP6 hka hfit => ?_⟩
        refine ⟨(by show 3 ≤ sizeLine; decide), fun t ht => ?_⟩
        have g7 : Fr0 K H6 (upd H6 t (.tup [.str "begin", .str d.name, .ref kl])) := .new ht
        have ht7 : SqT K (upd H6 t (.tup [.str "begin", .str d.name, .ref kl])) t [.str "begin", .str d.name, .ref kl] := .of upd_same
        generalize upd H6 t (.tup [.str "begin", .str d.name, .ref kl]) = H7 at g7 ht7 ⊢
        refine ⟨(by show 1 ≤ sizeLine; decide), fun z hz => ?_⟩
        have g8 : Fr0 K H7 (upd H7 z (.lst [.ref t])) := .new hz
        have f78 : Fr K (fun c => c = a) H H7 := (f15.trans f6).trans g7.wide
        have hrow : RowAt K b (upd H7 z (.lst [.ref t])) t (.begin (resolve d ks)) := ⟨j, d, kl, ks, hj, g8.tup ht7, g8.keys (g7.keys hka), hfit, rfl⟩
        have hbd := hlt rfl
        have hD := hB.kinds
        obtain ⟨kn, _, _, hBd⟩ := hB.kinds
        have h8 := (hBd d (List.mem_of_getElem? hj)).stps.2
        refine q z [t] [.begin (resolve d ks)] _ (f78.nw (fun h => ?_) (.of hz)) (f78.trans g8.wide) upd_same (.cons hrow .nil) ⟨⟨by omega, ?_⟩, trivial⟩ (by show 1 ≤ 8; decide) fun ah hah => ⟨rfl, hbd⟩
        · obtain ⟨px, py, hp⟩ := hP6
          have := g7.lst hp (fun z => z)
          rw [← h, hz] at this
          cases this
        · show (resolve d ks).length ≤ 8
          rw [show (resolve d ks).length = d.steps.length from List.length_map ..]
          exact h8
      · have hP4 : PoolAt H4 a := by
          obtain ⟨px, py, hp⟩ := hP3
          exact ⟨px, py, f4.lst hp (fun z => z)⟩
        have f14 : Fr K (fun c => c = a) H H4 := f13.trans f4.wide
        have hq4 := f4.lst hq3 (fun z => z)
        have nwl : ∀ {p : Addr} {Ha : Hp}, Fr K (fun c => c = a) H Ha → PoolAt Ha a → Ha p = none → Nw H p := fun {p Ha} f hp h => by
          refine f.nw (fun z => ?_) (.of h)
          obtain ⟨px, py, hp⟩ := hp
          rw [← z, h] at hp
          cases hp
        have P0 : ∀ {Ha Hb : Hp}, Fr0 K Ha Hb → PoolAt Ha a → PoolAt Hb a := fun f ⟨px, py, hp⟩ => ⟨px, py, f.lst hp (fun z => z)⟩
        refine when_by (fun c H5 => Fr0 K H4 H5 ∧ c = os.isEmpty) (fun Q hQ => ?_) (fun H5 ⟨f5, _⟩ => ?_) (fun H5 ⟨f5, ho⟩ => ?_)
        · refine ⟨_, rfl, Nat.zero_le _, fun z hz => ?_⟩
          have g5 : Fr0 K H4 (upd H4 z (.lst [])) := .new hz
          exact eqD_nil (SqL.of (g5.lst hq4 (fun z => z))) (.of upd_same) ⟨_, rfl, hQ _ _ ⟨g5, rfl⟩⟩
        · refine ⟨Nat.zero_le _, fun z hz => ?_⟩
          have g6 : Fr0 K H5 (upd H5 z (.lst [])) := .new hz
          have f15 := f14.trans f5.wide
          exact q z [] [] _ (nwl f15 (P0 f5 hP4) hz) (f15.trans g6.wide) upd_same .nil trivial (Nat.zero_le _) fun ah h => absurd h List.not_mem_nil
        · have f15 := f14.trans f5.wide
          have hP5 := P0 f5 hP4
          have hq5 := f5.lst hq4 (fun z => z)
          have ol : 0 < os.length := by
            cases os with
            | nil => cases ho
            | cons _ _ => exact Nat.succ_pos _
          refine ⟨_, rfl, _, rfl, _, rfl, D, _, rfl, .inl (.of hq5), a, _, rfl, hP5, by rw [natL_len]; omega, by rw [natL_len]; omega, fun v H6 v0 v1 hP6 f6 => ?_⟩
          obtain ⟨v, rfl⟩ : ∃ k : Nat, v = (k : Int) := ⟨v.toNat, by omega⟩
          rw [natL_len] at v1
          obtain ⟨o, ho⟩ : ∃ o, os[v]? = some o := ⟨_, List.getElem?_eq_getElem (show v < os.length by omega)⟩
          have f16 := f15.trans f6
          have hq6 := f6.lst hq5 (fun z => nDa z.symm)
          refine ⟨D, _, _, .int (o : Nat), rfl, rfl, .of hq6, at_of rfl (get_map ho), ?_⟩
          refine by_name ?_
          have hm := List.mem_of_getElem? ho
          obtain ⟨m, hm1, hmw⟩ := hos o hm
          obtain ⟨d, hd, ht⟩ := pd_get hR.tie hm1
          have hdo := ht.open_.mp hmw
          have hP6' := hP6
          have f36 : Fr K (fun c => c = a) H3 H6 := (f4.trans f5).wide.trans f6
          have hW6 : WorldAt K H6 wl xs ms := f16.world hR.world nal.symm fun y hy => ⟨fun z => hna (.inr (.inr (.inl (List.mem_map.mpr ⟨y, hy, z⟩)))), fun z => hna (.inr (.inr (.inr (List.mem_map.mpr ⟨y, hy, z⟩))))⟩
          obtain ⟨x, hx, hwd⟩ := hW6.get hm1
          refine ⟨_, rfl, _, rfl, _, rfl, wl, _, _, .ref x.a, rfl, rfl, .of hW6.at_, at_of rfl (get_map hx), bk, b, x, m, rfl, f16.book hb, ht.deal, hwd, ?_⟩
          refine by_name ?_
          have hn := ht.told
          have hal : d.ahead.length = m.d.steps.length := by rw [ht.ahead]; exact List.length_map ..
          have hle := hW.len o d hd
          refine when_by (fun c H7 => H7 = H6 ∧ (c = true → d.told.length = d.ahead.length) ∧ (c = false → d.told.length < d.ahead.length)) (fun Q hQ => ?_) (fun H7 ⟨f7, hc, _⟩ => ?_) (fun H7 ⟨f7, _, hc⟩ => ?_)
          · refine ⟨_, rfl, rfl, _, rfl, hQ _ _ ⟨rfl, fun c => ?_, fun c => ?_⟩⟩
            · have c := V.int.inj (of_decide_eq_true c)
              omega
            · have c : V.int _ ≠ V.int _ := of_decide_eq_false c
              have c : ¬ (m.d.steps.length : Int) - (m.n : Int) = 0 := fun e => c (congrArg V.int e)
              omega
          · subst f7
            have hc := hc rfl
            refine ⟨(by show 6 ≤ sizeLine; decide), fun z hz => ?_⟩
            have g8 : Fr0 K H7 (upd H7 z (.lst [.str "end", .str "end", .str "end", .str "end", .str "end", .str "drop"])) := .new hz
            have hz8 : upd H7 z (.lst [.str "end", .str "end", .str "end", .str "end", .str "end", .str "drop"]) z = some (.lst [.str "end", .str "end", .str "end", .str "end", .str "end", .str "drop"]) := upd_same
            have zna : z ≠ a := fun e => by
              obtain ⟨px, py, hp⟩ := hP6
              rw [← e, hz] at hp
              cases hp
            have hP8 := P0 g8 hP6
            generalize upd H7 z (.lst [.str "end", .str "end", .str "end", .str "end", .str "end", .str "drop"]) = H8 at g8 hz8 hP8 ⊢
            refine ⟨_, rfl, a, 6, rfl, hP8, by decide, by decide, fun v H9 v0 v1 hP9 f9 => ?_⟩
            obtain ⟨wd, hw1, hw2⟩ : ∃ wd : Str, atI [V.str "end", .str "end", .str "end", .str "end", .str "end", .str "drop"] v = some (.str wd) ∧ (wd = ("end" : Str) ∨ wd = ("drop" : Str)) := by
              have : v = 0 ∨ v = 1 ∨ v = 2 ∨ v = 3 ∨ v = 4 ∨ v = 5 := by omega
              rcases this with rfl | rfl | rfl | rfl | rfl | rfl
              · exact ⟨_, rfl, .inl rfl⟩
              · exact ⟨_, rfl, .inl rfl⟩
              · exact ⟨_, rfl, .inl rfl⟩
              · exact ⟨_, rfl, .inl rfl⟩
              · exact ⟨_, rfl, .inl rfl⟩
              · exact ⟨_, rfl, .inr rfl⟩
            have f19 := (f16.trans g8.wide).trans f9
            refine ⟨z, _, _, .str wd, rfl, rfl, .of (f9.lst hz8 zna), hw1, _, rfl, (by show 2 ≤ sizeLine; decide), fun t ht => ?_⟩
            have g10 : Fr0 K H9 (upd H9 t (.tup [.str wd, .int (o : Nat)])) := .new ht
            have ht10 : SqT K (upd H9 t (.tup [.str wd, .int (o : Nat)])) t [.str wd, .int (o : Nat)] := .of upd_same
            generalize upd H9 t (.tup [.str wd, .int (o : Nat)]) = H10 at g10 ht10 ⊢
            refine ⟨(by show 1 ≤ sizeLine; decide), fun y hy => ?_⟩
            have g11 : Fr0 K H10 (upd H10 y (.lst [.ref t])) := .new hy
            have fin := nwl (f19.trans g10.wide) (P0 g10 hP9) hy
            have fal := (f19.trans g10.wide).trans g11.wide
            rcases hw2 with rfl | rfl
            · exact q y [t] [.fin o] _ fin fal upd_same (.cons (g11.tup ht10) .nil) ⟨⟨d, hd, hdo, hc⟩, trivial⟩ (by show 1 ≤ 8; decide) fun ah h => by cases h with | tail _ h => cases h
            · exact q y [t] [.drop o] _ fin fal upd_same (.cons (g11.tup ht10) .nil) ⟨⟨d, hd, hdo⟩, trivial⟩ (by show 1 ≤ 8; decide) fun ah h => by cases h with | tail _ h => cases h
          · subst f7
            have hc := hc rfl
            refine when_by (fun c H8 => PoolAt H8 a ∧ Fr K (fun c => c = a) H7 H8) (fun Q hQ => ?_) (fun H8 ⟨hP8, f8⟩ => ?_) (fun H8 ⟨hP8, f8⟩ => ?_)
            · refine ⟨_, rfl, a, 12, rfl, hP6, by decide, by decide, fun v H9 v0 v1 hP9 f9 => ?_⟩
              exact ⟨rfl, _, rfl, hQ _ _ ⟨hP9, f9⟩⟩
            · refine ⟨_, rfl, (by show 2 ≤ sizeLine; decide), fun t ht => ?_⟩
              have g10 : Fr0 K H8 (upd H8 t (.tup [.str "drop", .int (o : Nat)])) := .new ht
              have ht10 : SqT K (upd H8 t (.tup [.str "drop", .int (o : Nat)])) t [.str "drop", .int (o : Nat)] := .of upd_same
              generalize upd H8 t (.tup [.str "drop", .int (o : Nat)]) = H10 at g10 ht10 ⊢
              refine ⟨(by show 1 ≤ sizeLine; decide), fun y hy => ?_⟩
              have g11 : Fr0 K H10 (upd H10 y (.lst [.ref t])) := .new hy
              have fin := nwl ((f16.trans f8).trans g10.wide) (P0 g10 hP8) hy
              have fal := ((f16.trans f8).trans g10.wide).trans g11.wide
              exact q y [t] [.drop o] _ fin fal upd_same (.cons (g11.tup ht10) .nil) ⟨⟨d, hd, hdo⟩, trivial⟩ (by show 1 ≤ 8; decide) fun ah h => by cases h with | tail _ h => cases h
            · refine ⟨_, rfl, (by show 2 ≤ sizeLine; decide), fun t ht => ?_⟩
              have g10 : Fr0 K H8 (upd H8 t (.tup [.str "step", .int (o : Nat)])) := .new ht
              have ht10 : SqT K (upd H8 t (.tup [.str "step", .int (o : Nat)])) t [.str "step", .int (o : Nat)] := .of upd_same
              generalize upd H8 t (.tup [.str "step", .int (o : Nat)]) = H10 at g10 ht10 ⊢
              have hP10 := P0 g10 hP8
              refine ⟨(by show 1 ≤ sizeLine; decide), fun y hy => ?_⟩
              have g11 : Fr0 K H10 (upd H10 y (.lst [.ref t])) := .new hy
              have hy11 : upd H10 y (.lst [.ref t]) y = some (.lst [.ref t]) := upd_same
              have yna : y ≠ a := fun e => by
                obtain ⟨px, py, hp⟩ := hP10
                rw [← e, hy] at hp
                cases hp
              have hP11 := P0 g11 hP10
              generalize upd H10 y (.lst [.ref t]) = H11 at g11 hy11 hP11 ⊢
              refine ⟨_, rfl, _, rfl, a, 5, rfl, hP11, by decide, by decide, fun v H12 v0 v1 hP12 f12 => ?_⟩
              refine ⟨_, _, rfl, rfl, _, _, rfl, ?_⟩
              have hy12 := f12.lst hy11 yna
              have hk : ∃ k : Int, (if 1 + v < (m.d.steps.length : Int) - (m.n : Int) then 1 + v else (m.d.steps.length : Int) - (m.n : Int)) = k ∧ 0 ≤ k ∧ k ≤ 5 ∧ k ≤ (m.d.steps.length : Int) - (m.n : Int) := by
                refine ⟨_, rfl, ?_, ?_, ?_⟩ <;> split <;> omega
              obtain ⟨k, hk, k0, k5, kl⟩ := hk
              rw [hk]
              have f17 : Fr K (fun c => c = a) H7 H12 := ((f8.trans g10.wide).trans g11.wide).trans f12
              refine ⟨y, k, [.ref t], rfl, rfl, hy12, by omega, by omega, by rw [List.length_singleton, Nat.one_mul]; exact Nat.le_trans (show k.toNat ≤ 5 by omega) (by decide), fun p hp => ?_⟩
              rw [show (List.replicate k.toNat [V.ref t]).flatten = (List.replicate k.toNat t).map V.ref from by
                generalize k.toNat = n
                induction n with
                | zero => rfl
                | succ n ih => rw [List.replicate_succ, List.replicate_succ, List.flatten_cons, List.map_cons, ih] <;> rfl]
              have g13 : Fr0 K H12 (upd H12 p (.lst ((List.replicate k.toNat t).map V.ref))) := .new hp
              have f113 := (f16.trans f17).trans g13.wide
              have htt : SqT K (upd H12 p (.lst ((List.replicate k.toNat t).map V.ref))) t [.str "step", .int (o : Nat)] := g13.tup (f12.tup (g11.tup ht10))
              refine q p (List.replicate k.toNat t) (List.replicate k.toNat (.step o)) _ (nwl (f16.trans f17) hP12 hp) f113 upd_same (pd_of (by rw [List.length_replicate, List.length_replicate]) fun i a' r e1 e2 => ?_) (okF_steps _ _ _ o d hd hdo (by omega)) (by rw [List.length_replicate]; omega) fun ah h => ?_
              · have e1 := List.eq_of_mem_replicate (List.mem_of_getElem? e1)
                have e2 := List.eq_of_mem_replicate (List.mem_of_getElem? e2)
                rw [e1, e2]
                exact htt
              · exact absurd (List.eq_of_mem_replicate h) (fun z => by cases z)
end
end Sn
set_option Elab.async false
set_option linter.all false
set_option maxRecDepth 100000
set_option maxHeartbeats 4000000
namespace Sn
open PySem PySem.Spec PyProof.Rows L2
theorem play_step {rs : List RowM} {i : Nat} {d : DM} (hd : (play rs)[i]? = some d) (hl : d.told.length < d.ahead.length) :
    ∃ d', play (rs ++ [.step i]) = (play rs).set i d' ∧ d'.word = d.word ∧ d'.ahead = d.ahead ∧ d'.told.length = d.told.length + 1 := by
  obtain ⟨pr, hpr⟩ : ∃ pr, d.ahead[d.told.length]? = some pr := ⟨_, List.getElem?_eq_getElem hl⟩
  refine ⟨{ d with told := d.told ++ [(pr.1, pr.2, seenBy (play rs) i d pr.1 pr.2)] }, ?_, rfl, rfl, by show (d.told ++ [_]).length = _; rw [List.length_append, List.length_singleton]⟩
  rw [play_snoc]
  show (match (play rs)[i]? with | some d => _ | none => play rs) = _
  rw [hd]
  show (match d.ahead[d.told.length]? with | some (deed, k) => _ | none => play rs) = _
  rw [hpr]
theorem play_fin {rs : List RowM} {i : Nat} {d : DM} (hd : (play rs)[i]? = some d) : ∃ d', play (rs ++ [.fin i]) = (play rs).set i d' ∧ d'.word ≠ ("open" : Str) := by
  classical
  refine ⟨{ d with word := if Off (play rs) d then ("off" : Str) else ("stands" : Str), ended := some rs.length }, ?_, ?_⟩
  · rw [play_snoc]
    show (match (play rs)[i]? with | some d => _ | none => play rs) = _
    rw [hd]
  · show (if Off (play rs) d then ("off" : Str) else ("stands" : Str)) ≠ ("open" : Str)
    split
    · exact fun z => open_ne_off z.symm
    · exact fun z => open_ne_stands z.symm
section
variable {P : Program} {w : World} {K : PySem.W.Frag} {mg : Str → Option Value} {base : Heap} {S : Addr → Prop} {H H1 : Hp} {b : BookD} {x : WA} {m : WM} {wl rl : Addr} {xs : List WA} {ms : List WM} {ras : List Addr} {rs : List RowM}
theorem RunSt.fr (h : RunSt K H b wl rl xs ms ras rs) (f : Fr K S H H1) (n : ∀ c, Own wl rl xs c → ¬ S c) : RunSt K H1 b wl rl xs ms ras rs :=
  ⟨f.world h.world (n _ (.inl rfl)) fun x hx => ⟨n _ (.inr (.inr (.inl (List.mem_map.mpr ⟨x, hx, rfl⟩)))), n _ (.inr (.inr (.inr (List.mem_map.mpr ⟨x, hx, rfl⟩))))⟩, f.lst h.rows (n _ (.inr (.inl rfl))), pd_map h.each fun _ _ z => f.row z, h.goes, h.few, h.fin, h.apart, h.tie⟩
theorem RunSt.fr0 (h : RunSt K H b wl rl xs ms ras rs) (f : Fr0 K H H1) : RunSt K H1 b wl rl xs ms ras rs := h.fr f fun _ _ z => z
def spLEnded (K : PySem.W.Frag) : Sp := fun vs H Q _ => ∃ (bk wl rl : Addr) (b : BookD) (xs : List WA) (ms : List WM) (ras : List Addr) (rs : List RowM), vs = [.ref bk, .ref wl, .ref rl] ∧ BookAt K H bk b ∧ BookOk b ∧
  RunSt K H b wl rl xs ms ras rs ∧ ∀ (t : Addr) (rs' : List RowM) H', Fr K (Own wl rl xs) H H' → SqT K H' t [.ref rl, .ref wl] → RowsAt K b H' rl rs' → RunOk rs' → (play rs').length ≤ 12 → Q (.ref t) H'
theorem c_L_ended (T : Tx K mg) : C8.Cal P w K mg base 5 "_law_ended" (spLEnded K) [] := by
  have c_L_left : C8.Cal P w K mg base 1 "_law_left" (spLLeft K) [] := c_L_left T
  have c_L_do : C8.Cal P w K mg base 4 "_law_do" (spLDo K) [] := c_L_do T
  refine T.cal T.D_L_ended T.g_L_ended b_L_ended sc_L_ended (fun vs H Q E h => ?_) (fun cdv A outer s H vs Q E hr h => ?_)
  · obtain ⟨bk, wl, rl, b, xs, ms, ras, rs, rfl, _⟩ := h
    rfl
  · obtain ⟨bk, wl, rl, b, xs, ms, ras, rs, rfl, hb, hB, hR, q⟩ := h
    have hu := hu_of hr
    refine ⟨_, (pss_cons (ps_for PassesOwn.never rfl (pi_enum (by rfl) T.fr_enumerate (pa_cons (pv 1) pa_nil)) (pg_tup rfl (pgs_cons (pg_name (i := 3) sc_L_ended.nd rfl (Or.inl rfl)) (pgs_cons (pg_name (i := 4) sc_L_ended.nd rfl (Or.inl rfl)) pgs_nil)))
        (pss_one (ps_if (pt_cmpR op_eq (pe_dget hu (pv 4) pe_str (fun _ _ => rfl)) pe_str (nomark _))
          (pss_cons (ps_for PassesOwn.never rfl (pi_range1 rfl T.fr_range (pa_cons (C8.pe_c c_L_left hr (by decide) rfl (pa_cons (pv 0) (pa_cons (pv 4) pa_nil))) pa_nil)) (pg_name (i := 5) sc_L_ended.nd rfl (Or.inl rfl))
            (pss_one (ps_expr (C8.pe_c c_L_do hr (by decide) rfl (pa_cons (pv 0) (pa_cons (pv 1) (pa_cons (pv 2) (pa_cons (pe_tup (pa_cons pe_str (pa_cons (pv 3) pa_nil))) pa_nil))))))))
          (pss_one (ps_expr (C8.pe_c c_L_do hr (by decide) rfl (pa_cons (pv 0) (pa_cons (pv 1) (pa_cons (pv 2) (pa_cons (pe_tup (pa_cons pe_str (pa_cons (pv 3) pa_nil))) pa_nil))))))))
          pss_nil)))
      (pss_one (ps_ret (pe_tup (pa_cons (pe_frz (pv 2)) (pa_cons (pv 1) pa_nil)))))), ?_⟩
    have xl : xs.length = ms.length := pd_len hR.world.each
    refine ⟨_, rfl, wl, _, rfl, .of hR.world.at_, ?_⟩
    refine for_it (walk_enum (K := K) (a := wl) (xs := xs.map fun x => V.ref x.a)) (fun i σ' H' => (∃ x y z, σ' = [some (.ref bk), some (.ref wl), some (.ref rl), x, y, z]) ∧ Fr K (Own wl rl xs) H H' ∧
      ∃ ms' ras' rs', RunSt K H' b wl rl xs ms' ras' rs' ∧ ∀ j d, j < i → (play rs')[j]? = some d → d.word ≠ ("open" : Str)) ⟨⟨none, none, none, rfl⟩, .refl _, ms, ras, rs, hR, fun j d h => absurd h (Nat.not_lt_zero _)⟩ ?_ ?_ ?_
    · rintro i σ' H' _ ⟨_, _, ms', ras', rs', hR', _⟩
      exact .of hR'.world.at_
    · rintro i y σ' H0 H' hi ⟨⟨x', y', z', rfl⟩, f, ms', ras', rs', hR', hlow⟩ ⟨t, u, v, rfl, ht, rfl, hu1, hu2⟩
      obtain ⟨x, hx, rfl⟩ := map_get hu2
      obtain rfl := Option.some.inj hu1
      have gt : Fr0 K H0 (upd H0 t (.tup [.int (i : Nat), .ref x.a])) := .new ht
      have hR2 := hR'.fr0 gt
      have f2 := f.trans (gt.wide (S := Own wl rl xs))
      obtain ⟨m, hm, hwd⟩ := pd_getL hR2.world.each hx
      obtain ⟨d, hd, htie⟩ := pd_get hR2.tie hm
      refine ⟨t, _, rfl, .of upd_same, rfl, _, _, rfl, _, _, rfl, rfl, ?_⟩
      generalize upd H0 t (.tup [.int (i : Nat), .ref x.a]) = H2 at gt hR2 f2 hwd ⊢
      refine ⟨_, rfl, x.a, _, rfl, hwd.get (wd_word x m), rfl, _, rfl, ite2 (fun c => ?_) (fun c => ?_)⟩
      · have c := htie.open_.mp (V.str.inj (of_decide_eq_true c))
        refine ⟨_, rfl, _, rfl, bk, b, x, m, rfl, f2.book hb, htie.deal, hwd, ?_⟩
        have hal : d.ahead.length = m.d.steps.length := by rw [htie.ahead]; exact List.length_map ..
        have htn := htie.told
        have hlen := (wf_play hR2.goes).len i d hd
        refine ⟨_, rfl, by omega, by omega, ?_⟩
        refine for_it (walk_range (lo := 0)) (fun k σ' H' => (∃ z, σ' = [some (.ref bk), some (.ref wl), some (.ref rl), some (.int (i : Nat)), some (.ref x.a), z]) ∧ Fr K (Own wl rl xs) H H' ∧
          ∃ ms' ras' rs', RunSt K H' b wl rl xs ms' ras' rs' ∧ (∃ d', (play rs')[i]? = some d' ∧ d'.word = ("open" : Str) ∧ d'.ahead.length = d.ahead.length ∧ d'.told.length = d.told.length + k) ∧ ∀ j d, j < i → (play rs')[j]? = some d → d.word ≠ ("open" : Str))
          ⟨⟨_, rfl⟩, f2, ms', ras', rs', hR2, ⟨d, hd, c, rfl, rfl⟩, hlow⟩ (fun _ _ _ _ _ => trivial) ?_ ?_
        · rintro k _ σ' _ H' hk ⟨⟨z', rfl⟩, f3, ms3, ras3, rs3, hR3, ⟨d3, hd3, hw3, ha3, ht3⟩, hlow3⟩ ⟨rfl, rfl⟩
          refine ⟨_, rfl, _, rfl, _, rfl, _, rfl, (by show 2 ≤ sizeLine; decide), fun t ht => ?_⟩
          have g4 : Fr0 K H' (upd H' t (.tup [.str "step", .int (i : Nat)])) := .new ht
          have hrow : RowAt K b (upd H' t (.tup [.str "step", .int (i : Nat)])) t (.step i) := .of upd_same
          generalize upd H' t (.tup [.str "step", .int (i : Nat)]) = H4 at g4 hrow ⊢
          have f4 := f3.trans (g4.wide (S := Own wl rl xs))
          refine ⟨bk, wl, rl, t, b, xs, ms3, ras3, rs3, .step i, rfl, f4.book hb, hB, hR3.fr0 g4, hrow, ⟨d3, hd3, hw3, by omega⟩, (fun ⟨ah, e⟩ => nomatch e), fun v H6 xs2 ms2 f6 hR6 _ hx => ?_⟩
          have hx := hx fun ah e => nomatch e
          subst hx
          obtain ⟨d6, e6, hw6, ha6, ht6⟩ := play_step hd3 (by omega)
          refine ⟨⟨_, rfl⟩, f4.trans f6, ms2, _, _, hR6, ⟨d6, ?_, hw6.trans hw3, by rw [ha6, ha3], by omega⟩, fun j d' hj hd' => ?_⟩
          · rw [e6]; exact List.getElem?_set_self (List.getElem?_eq_some_iff.mp hd3).1
          · rw [e6, List.getElem?_set_ne (by omega)] at hd'
            exact hlow3 j d' hj hd'
        · rintro σ' H' ⟨⟨z', rfl⟩, f3, ms3, ras3, rs3, hR3, ⟨d3, hd3, hw3, ha3, ht3⟩, hlow3⟩
          refine ⟨_, rfl, _, rfl, _, rfl, _, rfl, (by show 2 ≤ sizeLine; decide), fun t ht => ?_⟩
          have g4 : Fr0 K H' (upd H' t (.tup [.str "end", .int (i : Nat)])) := .new ht
          have hrow : RowAt K b (upd H' t (.tup [.str "end", .int (i : Nat)])) t (.fin i) := .of upd_same
          generalize upd H' t (.tup [.str "end", .int (i : Nat)]) = H4 at g4 hrow ⊢
          have f4 := f3.trans (g4.wide (S := Own wl rl xs))
          refine ⟨bk, wl, rl, t, b, xs, ms3, ras3, rs3, .fin i, rfl, f4.book hb, hB, hR3.fr0 g4, hrow, ⟨d3, hd3, hw3, by omega⟩, (fun ⟨ah, e⟩ => nomatch e), fun v H6 xs2 ms2 f6 hR6 _ hx => ?_⟩
          have hx := hx fun ah e => nomatch e
          subst hx
          obtain ⟨d6, e6, hw6⟩ := play_fin hd3
          refine ⟨⟨_, _, _, rfl⟩, f4.trans f6, ms2, _, _, hR6, fun j d' hj hd' => ?_⟩
          rw [e6] at hd'
          by_cases cj : i = j
          · subst cj
            rw [List.getElem?_set_self (List.getElem?_eq_some_iff.mp hd3).1] at hd'
            rw [← Option.some.inj hd']
            exact hw6
          · rw [List.getElem?_set_ne cj] at hd'
            exact hlow3 j d' (by omega) hd'
      · exact ⟨⟨_, _, _, rfl⟩, f2, ms', ras', rs', hR2, fun j d' hj hd' => by
          rcases Nat.lt_succ_iff_lt_or_eq.mp hj with z | z
          · exact hlow j d' z hd'
          · rw [z, hd] at hd'
            rw [← Option.some.inj hd']
            exact fun e => c (decide_eq_true (congrArg V.str (htie.open_.mpr e)))⟩
    · rintro σ' H' ⟨⟨x', y', z', rfl⟩, f, ms', ras', rs', hR', hlow⟩
      have dl : (play rs').length = ms'.length := pd_len hR'.tie
      have few := hR'.few
      have xl' : xs.length = ms'.length := pd_len hR'.world.each
      have rl_ : ras'.length = rs'.length := pd_len hR'.each
      have rfew : rs'.length ≤ 120 := rows_few hR'.goes (by rw [dl]; exact few)
      refine ⟨_, rfl, [rl], mut_lst hR'.rows, fun H5 z5 => ?_⟩
      have f5 : Fr K (Own wl rl xs) H H5 := z5.fr (mut_lst hR'.rows) (wr_lst hR'.rows) f fun b hb => .inr (by rw [List.mem_singleton.mp hb]; exact .inr (.inl rfl))
      have q5 : FzL H5 rl (ras'.map V.ref) := z5.lst in_one hR'.rows
      have f6 : Fr K (fun c => c = rl) H' H5 := z5.fr (mut_lst hR'.rows) (wr_lst hR'.rows) (.refl _) fun b hb => .inr (List.mem_singleton.mp hb)
      refine ⟨_, rfl, (by show 2 ≤ sizeLine; decide), fun t ht => ?_⟩
      have g7 : Fr0 K H5 (upd H5 t (.tup [.ref rl, .ref wl])) := .new ht
      refine q t rs' _ (f5.trans g7.wide) (.of upd_same) ⟨ras', g7.fzl q5, pd_map hR'.each fun _ _ z => g7.row (f6.row z)⟩ ⟨by omega, hR'.goes, fun i d hd => hlow i d ?_ hd⟩ (by omega)
      have := (List.getElem?_eq_some_iff.mp hd).1
      rw [List.length_map]
      omega
end
end Sn
set_option Elab.async false
set_option linter.all false
set_option maxRecDepth 100000
set_option maxHeartbeats 4000000
namespace Sn
open PySem PySem.Spec PyProof.Rows L2
section
variable {P : Program} {w : World} {K : PySem.W.Frag} {mg : Str → Option Value} {base : Heap} {S : Addr → Prop} {H H1 : Hp} {b : BookD} {x : WA} {m : WM} {wl rl : Addr} {xs : List WA} {ms : List WM} {ras : List Addr} {rs : List RowM}
theorem Fr.sql {a : Addr} {ys : List V} (f : Fr K S H H1) (h : SqL K H a ys) (n : ¬ S a) : SqL K H1 a ys := by
  rcases h with (h | ⟨o, h⟩) | h
  · exact .inl (.inl (f.lst h n))
  · exact .inl (.inr ⟨o, f.imm _ _ h trivial⟩)
  · exact .inr h
def spLRun (K : PySem.W.Frag) : Sp := fun vs H Q _ => ∃ (sl bk : Addr) (ns : List Int) (b : BookD), vs = [.ref sl, .int 1, .ref bk, .int 12, .int 3] ∧ SqL K H sl (ns.map V.int) ∧ BookAt K H bk b ∧ BookOk b ∧ NamesOk b ∧
  ∀ (t rl wl : Addr) (rs : List RowM) H', Fr0 K H H' → SqT K H' t [.ref rl, .ref wl] → RowsAt K b H' rl rs → RunOk rs → (play rs).length ≤ 12 → Q (.ref t) H'
theorem c_L_run (T : Tx K mg) : C8.Cal P w K mg base 6 "_law_run" (spLRun K) [] := by
  have c_L_pool : C8.Cal P w K mg base 1 "_law_pool" (spPool K) [] := c_L_pool T
  have c_L_next : C8.Cal P w K mg base 3 "_law_next" (spLNext K) [] := c_L_next T
  have c_L_do : C8.Cal P w K mg base 4 "_law_do" (spLDo K) [] := c_L_do T
  have c_L_ended : C8.Cal P w K mg base 5 "_law_ended" (spLEnded K) [] := c_L_ended T
  refine T.cal T.D_L_run T.g_L_run b_L_run sc_L_run (fun vs H Q E h => ?_) (fun cdv A outer s H vs Q E hr h => ?_)
  · obtain ⟨sl, bk, ns, b, rfl, _⟩ := h
    rfl
  · obtain ⟨sl, bk, ns, b, rfl, hsl, hb, hB, hN, q⟩ := h
    have hu := hu_of hr
    refine ⟨_, (pss_cons (ps_set (i := 5) sc_L_run.nd rfl (Or.inl rfl) (pe_lst pa_nil))
      (pss_cons (ps_set (i := 6) sc_L_run.nd rfl (Or.inl rfl) (pe_lst pa_nil))
      (pss_cons (ps_for PassesOwn.never rfl (pi_range2 rfl T.fr_range (pa_cons (pv 1) (pa_cons (pe_callB (call_max2 rfl) (by rfl) T.fr_max bt_max (pa_cons (pe_op op_add (pv 1) pe_int) (pa_cons (pe_callB (call_min2 rfl) (by rfl) T.fr_min bt_min (pa_cons (pe_callB call_len_seq (by rfl) T.fr_len bt_len (pa_cons (pv 0) pa_nil)) (pa_cons pe_int pa_nil))) pa_nil))) pa_nil))) (pg_name (i := 7) sc_L_run.nd rfl (Or.inl rfl))
        (pss_cons (ps_set (i := 8) sc_L_run.nd rfl (Or.inl rfl) (C8.pe_c c_L_pool hr (by decide) rfl (pa_cons (pv 0) (pa_cons (pv 7) pa_nil))))
        (pss_one (ps_for PassesOwn.never rfl (pi_list (C8.pe_c c_L_next hr (by decide) rfl (pa_cons (pv 8) (pa_cons (pv 2) (pa_cons (pv 5) (pa_cons (pv 3) (pa_cons (pv 4) pa_nil))))))) (pg_name (i := 9) sc_L_run.nd rfl (Or.inl rfl))
          (pss_one (ps_expr (C8.pe_c c_L_do hr (by decide) rfl (pa_cons (pv 2) (pa_cons (pv 5) (pa_cons (pv 6) (pa_cons (pv 9) pa_nil)))))))))))
      (pss_one (ps_ret (C8.pe_c c_L_ended hr (by decide) rfl (pa_cons (pv 2) (pa_cons (pv 5) (pa_cons (pv 6) pa_nil))))))))), ?_⟩
    refine ⟨Nat.zero_le _, fun wl hwl => ?_⟩
    have g1 : Fr0 K H (upd H wl (.lst [])) := .new hwl
    have hw1 : upd H wl (.lst []) wl = some (.lst []) := upd_same
    generalize upd H wl (.lst []) = H1 at g1 hw1 ⊢
    refine ⟨Nat.zero_le _, fun rl hrl => ?_⟩
    have g2 : Fr0 K H1 (upd H1 rl (.lst [])) := .new hrl
    have hr2 : upd H1 rl (.lst []) rl = some (.lst []) := upd_same
    have nrw : rl ≠ wl := fun z => by rw [z, hw1] at hrl; cases hrl
    have nwr : Nw H rl := g1.nw (fun z => z) (.of hrl)
    have hw2 := g2.lst hw1 (fun z => z)
    have g12 := g1.trans g2
    generalize upd H1 rl (.lst []) = H2 at g2 hr2 hw2 g12 ⊢
    have hR2 : RunSt K H2 b wl rl [] [] [] [] := ⟨⟨hw2, .nil, List.nodup_nil, List.nodup_nil, List.not_mem_nil⟩, hr2, .nil, trivial, Nat.zero_le _, fun _ h => absurd h List.not_mem_nil, ⟨nrw, List.not_mem_nil⟩, .nil⟩
    have nw2 : ∀ c, Own wl rl [] c → Nw H c := fun c hc => by
      rcases hc with rfl | rfl | hc | hc
      · exact .of hwl
      · exact nwr
      · exact absurd hc List.not_mem_nil
      · exact absurd hc List.not_mem_nil
    refine ⟨_, rfl, _, rfl, _, _, rfl, rfl, _, rfl, _, _, rfl, .inl (g12.sql hsl (fun z => z)), _, _, rfl, _, _, rfl, _, _, rfl, ?_⟩
    have hj : ∃ j : Int, (if (if (63 : Int) < ((ns.map V.int).length : Nat) then (63 : Int) else ((ns.map V.int).length : Nat)) > 1 + 16 then (if (63 : Int) < ((ns.map V.int).length : Nat) then (63 : Int) else ((ns.map V.int).length : Nat)) else 1 + 16) = j ∧ 1 ≤ j ∧ j ≤ 63 := by
      refine ⟨_, rfl, ?_, ?_⟩ <;> split <;> first | omega | (split <;> omega)
    obtain ⟨j, ej, j1, j2⟩ := hj
    rw [ej]
    refine ⟨⟨by omega, by omega, by omega, by omega⟩, ?_⟩
    refine for_it (walk_range (lo := 1)) (fun i σ' H' => (∃ x y z, σ' = [some (.ref sl), some (.int 1), some (.ref bk), some (.int 12), some (.int 3), some (.ref wl), some (.ref rl), x, y, z]) ∧ Fr0 K H H' ∧
      ∃ xs ms ras rs, RunSt K H' b wl rl xs ms ras rs ∧ ∀ c, Own wl rl xs c → Nw H c) ⟨⟨none, none, none, rfl⟩, g12, [], [], [], [], hR2, nw2⟩ (fun _ _ _ _ _ => trivial) ?_ ?_
    · rintro i _ σ' _ H' hi ⟨⟨x', y', z', rfl⟩, g, xs, ms, ras, rs, hR, hnw⟩ ⟨rfl, rfl⟩
      refine ⟨_, rfl, _, rfl, sl, ns, _, rfl, g.sql hsl (fun z => z), by omega, by omega, fun a px py ha => ?_⟩
      have g3 : Fr0 K H' (upd H' a (.lst [.int px, .int py])) := .new ha
      have hP3 : PoolAt (upd H' a (.lst [.int px, .int py])) a := ⟨px, py, upd_same⟩
      have hR3 := hR.fr0 g3
      generalize upd H' a (.lst [.int px, .int py]) = H3 at g3 hP3 hR3 ⊢
      have g13 := g.trans g3
      have nwa : Nw H a := g.nw (fun z => z) (.of ha)
      have nOa : ¬ Own wl rl xs a := fun hO => by
        rcases hO with rfl | rfl | z | z
        · rw [hR.world.at_] at ha; cases ha
        · rw [hR.rows] at ha; cases ha
        · obtain ⟨x, hx, rfl⟩ := List.mem_map.mp z
          obtain ⟨i, hi⟩ := List.mem_iff_getElem?.mp hx
          obtain ⟨m, _, hw⟩ := pd_getL hR.world.each hi
          rw [hw.dict] at ha; cases ha
        · obtain ⟨x, hx, rfl⟩ := List.mem_map.mp z
          obtain ⟨i, hi⟩ := List.mem_iff_getElem?.mp hx
          obtain ⟨m, _, hw⟩ := pd_getL hR.world.each hi
          obtain ⟨ts, h1, _⟩ := hw.steps
          rw [h1] at ha; cases ha
      refine by_name ?_
      refine ⟨_, rfl, _, rfl, _, rfl, _, rfl, _, rfl, a, bk, wl, rl, b, xs, ms, ras, rs, rfl, hP3, g13.book hb, hB, hN, hR3, nOa, fun p as qs H4 hp f4 hpl hpair hok h8 hbeg => ?_⟩
      have inO : ∀ {Ha : Hp} {xs : List WA} {ms ras rs}, RunSt K Ha b wl rl xs ms ras rs → ∀ c, Own wl rl xs c → ¬ Nw Ha c := fun {Ha xs ms ras rs} hR c hc n => by
        have no : ∀ {o : HO}, Ha c = some o → (∀ ps, o ≠ .tbl ps) → False := fun e t => by
          obtain ⟨ps, z⟩ := n _ e
          exact t ps z
        rcases hc with rfl | rfl | z | z
        · exact no hR.world.at_ fun _ z => nomatch z
        · exact no hR.rows fun _ z => nomatch z
        · obtain ⟨x, hx, rfl⟩ := List.mem_map.mp z
          obtain ⟨i, hi⟩ := List.mem_iff_getElem?.mp hx
          obtain ⟨m, _, hw⟩ := pd_getL hR.world.each hi
          exact no hw.dict fun _ z => nomatch z
        · obtain ⟨x, hx, rfl⟩ := List.mem_map.mp z
          obtain ⟨i, hi⟩ := List.mem_iff_getElem?.mp hx
          obtain ⟨m, _, hw⟩ := pd_getL hR.world.each hi
          obtain ⟨ts, h1, _⟩ := hw.steps
          exact no h1 fun _ z => nomatch z
      have hR4 : RunSt K H4 b wl rl xs ms ras rs := hR3.fr f4 fun c hc z => nOa (by rw [← z]; exact hc)
      have g14 : Fr0 K H H4 := (g13.wide.trans f4).narrow fun c hc => .inr (by rw [hc]; exact nwa)
      refine ⟨p, rfl, ⟨_, .of hpl⟩, ?_⟩
      refine for_it (walk_list (K := K) (a := p) (xs := as.map V.ref)) (fun k σ' H' => (∃ x z, σ' = [some (.ref sl), some (.int 1), some (.ref bk), some (.int 12), some (.int 3), some (.ref wl), some (.ref rl), x, some (.ref a), z]) ∧ Fr0 K H H' ∧ H' p = some (.lst (as.map V.ref)) ∧ Paired (RowAt K b H') as qs ∧
        ∃ xs ms ras rs, RunSt K H' b wl rl xs ms ras rs ∧ (∀ c, Own wl rl xs c → Nw H c) ∧ ¬ Own wl rl xs p ∧ OkF rs.length (play rs) (qs.drop k) ∧ ∀ ah, RowM.begin ah ∈ qs.drop k → qs.length = 1 ∧ ms.length < 12)
        ⟨⟨_, _, rfl⟩, g14, hpl, hpair, xs, ms, ras, rs, hR4, hnw, fun z => inO hR3 p z hp, hok, hbeg⟩ ?_ ?_ ?_
      · rintro k σ' H' _ ⟨_, _, hq, _⟩
        exact .of hq
      · rintro k y σ' _ H' hk ⟨⟨x', z', rfl⟩, g5, hq5, hpair5, xs, ms, ras, rs, hR5, hnw5, nO5, hok5, hbeg5⟩ ⟨rfl, hy⟩
        obtain ⟨row, hrow, rfl⟩ := map_get hy
        obtain ⟨r, hr5, hrat⟩ := pd_getL hpair5 hrow
        have hkq := (List.getElem?_eq_some_iff.mp hr5).1
        have ed : qs.drop k = r :: qs.drop (k + 1) := by
          rw [List.drop_eq_getElem_cons hkq]
          rw [List.getElem?_eq_getElem hkq] at hr5
          rw [Option.some.inj hr5]
        rw [ed] at hok5 hbeg5
        obtain ⟨hro, hrest⟩ := hok5
        refine ⟨_, rfl, _, rfl, _, rfl, _, rfl, bk, wl, rl, row, b, xs, ms, ras, rs, r, rfl, g5.book hb, hB, hR5, hrat, hro, (fun ⟨ah, e⟩ => (hbeg5 ah (by rw [e]; exact .head _)).2), fun v H6 xs6 ms6 f6 hR6 hx6 _ => ?_⟩
        have g6 : Fr0 K H H6 := (g5.wide.trans f6).narrow fun c hc => .inr (hnw5 c hc)
        refine ⟨⟨_, _, rfl⟩, g6, f6.lst hq5 nO5, pd_map hpair5 fun _ _ z => f6.row z, xs6, ms6, _, _, hR6, fun c hc => ?_, fun hc => ?_, ?_, fun ah hah => ?_⟩
        · rcases hc with rfl | rfl | z | z
          · exact hnw5 _ (.inl rfl)
          · exact hnw5 _ (.inr (.inl rfl))
          · obtain ⟨x, hx, rfl⟩ := List.mem_map.mp z
            rcases hx6 x hx with h | ⟨h, _⟩
            · exact hnw5 _ (.inr (.inr (.inl (List.mem_map.mpr ⟨x, h, rfl⟩))))
            · exact g5.nw (fun z => z) h
          · obtain ⟨x, hx, rfl⟩ := List.mem_map.mp z
            rcases hx6 x hx with h | ⟨_, h⟩
            · exact hnw5 _ (.inr (.inr (.inr (List.mem_map.mpr ⟨x, h, rfl⟩))))
            · exact g5.nw (fun z => z) h
        · rcases hc with z | z | z | z
          · exact nO5 (.inl z)
          · exact nO5 (.inr (.inl z))
          · obtain ⟨x, hx, e⟩ := List.mem_map.mp z
            rcases hx6 x hx with h | ⟨h, _⟩
            · exact nO5 (.inr (.inr (.inl (List.mem_map.mpr ⟨x, h, e⟩))))
            · exact h.ne hq5 (fun _ z => nomatch z) e.symm
          · obtain ⟨x, hx, e⟩ := List.mem_map.mp z
            rcases hx6 x hx with h | ⟨_, h⟩
            · exact nO5 (.inr (.inr (.inr (List.mem_map.mpr ⟨x, h, e⟩))))
            · exact h.ne hq5 (fun _ z => nomatch z) e.symm
        · rw [play_snoc, List.length_append, List.length_singleton]
          exact hrest
        · exfalso
          have h1 := (hbeg5 ah (.tail _ hah)).1
          rw [List.drop_eq_nil_of_le (by omega)] at hah
          exact List.not_mem_nil hah
      · rintro σ' H' ⟨⟨x', z', rfl⟩, g5, hq5, hpair5, xs, ms, ras, rs, hR5, hnw5, _⟩
        exact ⟨⟨_, _, _, rfl⟩, g5, xs, ms, ras, rs, hR5, hnw5⟩
    · rintro σ' H' ⟨⟨x', y', z', rfl⟩, g, xs, ms, ras, rs, hR, hnw⟩
      refine ⟨_, rfl, _, rfl, _, rfl, bk, wl, rl, b, xs, ms, ras, rs, rfl, g.book hb, hB, hR, fun t rs' H5 f5 ht hrows hrun h12 => ?_⟩
      exact q t rl wl rs' H5 ((g.wide.trans f5).narrow fun c hc => .inr (hnw c hc)) ht hrows hrun h12
end
end Sn
set_option Elab.async false
set_option linter.all false
set_option maxRecDepth 100000
set_option maxHeartbeats 4000000
/-! mark = left[draw(.., len(left))]; left = left.replace(mark, ''): the token of the mark is known. -/
namespace Sn
open PySem PySem.Spec PyProof.Rows L2
section
variable {X : Cx} {pins : List (Addr × Obj)} {σ : L2.St} {H : Hp} {s : Shared}
/-- a local name is stored: its own value is what the name has behind -/
theorem store_raw {M : Model} {A : Around} {E : Value → Shared → Prop} {i : Nat} {x : Str} {v : V} {u : Value} {Q : Unit → Shared → Prop} (I : L2.Inv X pins σ H s) (nd : X.N.Nodup) (ix : X.N[i]? = some x)
    (lo : X.env.kindOf x = some .local) (rv : RelV v u) (go : ∀ s' m, L2.Inv X pins (σ.set i (some v)) H s' → s'.toks = s.toks + 1 → s'.heap.Ns X.env.locals m → m x = some u → Q () s') : wpAny M A (storeName X.env x u) Q E s := by
  obtain ⟨m, ns, look⟩ := I.loc
  have cl : (X.env.scope.kind == .class || (X.env.scope.kind == .module && X.env.locals != X.env.globals)) = false := by
    rw [I.ok.kind] <;> rfl
  have hi : i < σ.length := I.len ▸ (List.getElem?_eq_some_iff.mp ix).1
  refine wpAny_storeName_local lo ns (fun g ng same => ?_) cl
  have far : ∀ {b : Addr} {o : Obj}, X.s_0.heap.get? b = some o → g.get? b = s.heap.get? b := fun {b o} e =>
    same.2 b fun z => absurd (Heap.lt_size e) (by rw [z]; exact Nat.not_lt.mpr I.ok.above)
  have bs : Un X.fs X.ex X.H_0 H X.s_0.heap g := ⟨fun b o e n f x => (far e).trans (I.base.keep b o e n f x), fun b o e n f x => (I.base.slot b o e n f x).imp fun _ z => (far e).trans z, I.base.free,
    fun b o e x => (I.base.there b o e x).imp fun _ z => (far e).trans z, I.base.tups, I.base.frzs, I.base.tbls⟩
  have ncell : ∀ {y : Str} {c : Addr}, X.env.cells.lookup y = some c → g.get? c = s.heap.get? c := fun {y c} e => same.2 c (I.cne y c e)
  have cells : ∀ {y : Str} {c : Addr} {q : Option Value}, X.env.cells.lookup y = some c → s.heap.IsCell c q → g.IsCell c q := fun {y c q} e ⟨o, h1, h2⟩ => ⟨o, (ncell e).trans h1, h2⟩
  have ok : HOk X.prog X.w H g := fun b o e => (I.hok b o e).stay (fun c q hc z => (same.2 c fun w => by
    rw [w] at hc
    rcases hc with hc | hc
    · rw [← hc, I.free] at e; cases e
    · rw [I.free] at hc; cases hc).trans z) (fun _ z => z) fun _ _ z => z
  refine go _ _ ⟨I.ok, I.os, I.bare, bs, ⟨_, ng, fun j y q e1 e2 e3 => ?_⟩, fun y c e => (I.cell y c e).imp fun _ z => cells e z, I.free, I.freeC, fun p hp => ?_, ok, (List.length_set ..).trans I.len⟩ rfl ng (if_pos rfl)
  · by_cases ij : i = j
    · subst ij
      rw [List.getElem?_set_self hi] at e2
      have ex : x = y := Option.some.inj (ix.symm.trans e1)
      have ev : v = q := Option.some.inj (Option.some.inj e2)
      exact ⟨u, ev ▸ rv, .inl ⟨ex ▸ lo, if_pos ex.symm⟩⟩
    · rw [List.getElem?_set_ne ij] at e2
      have nxy : y ≠ x := fun z => ij (nodup_ix nd ix (z ▸ e1))
      obtain ⟨u', r', l'⟩ := look j y q e1 e2 e3
      refine ⟨u', r', ?_⟩
      rcases l' with ⟨k, z⟩ | ⟨k, c, z, z2⟩
      · exact .inl ⟨k, (if_neg nxy).trans z⟩
      · exact .inr ⟨k, c, z, cells z z2⟩
  · obtain ⟨e, n, ne, nf, d⟩ := I.pin p hp
    exact ⟨(same.2 p.1 ne).trans e, n, ne, nf, d⟩
/-- an expression behind which a token is out; arguments behind which a token is out -/
def PE1 (X : Cx) (e : Expr) (t : TE) : Prop := ∀ (pins : List (Addr × Obj)) (s : Shared) (σ : L2.St) (H : Hp) (Q : VK), L2.Inv X pins σ H s → t σ H Q → wpAny (model X.prog X.w) X.A (eval e X.env) (fun u s' => 1 ≤ s'.toks ∧ EP X pins σ Q u s') X.xe s
def PA1 (X : Cx) (es : List Expr) (t : TA) : Prop := ∀ (pos : Pos) (pins : List (Addr × Obj)) (s : Shared) (σ : L2.St) (H : Hp) (Q : List V → Hp → Prop), L2.Inv X pins σ H s → t σ H Q →
  wpAny (model X.prog X.w) X.A (spliced (backTo pos (starEach es X.env))) (fun us s' => 1 ≤ s'.toks ∧ AP X pins σ Q us s') X.xe s
variable {e o : Expr} {es : List Expr} {te : TE} {t : TA} {p pos : Pos}
theorem pa1_last (h : PE1 X e te) (hs : starEach [e] X.env = [(false, eval e X.env)] := by rfl) : PA1 X [e] (tCons te tNil) := by
  intro pos pins s σ H Q I q
  rw [hs]
  refine Calls.spliced_cons (thn (h pins s σ H _ I q) fun u s1 ⟨k, x, H1, I1, r1, q1⟩ => ?_)
  exact Calls.spliced_nil ⟨k, [x], H1, I1, .cons r1 .nil, q1⟩
theorem pa1_cons (h : PE X e te) (hr : PA1 X es t) (hs : starEach (e :: es) X.env = (false, eval e X.env) :: starEach es X.env := by rfl) : PA1 X (e :: es) (tCons te t) := by
  intro pos pins s σ H Q I q
  rw [hs]
  refine Calls.spliced_cons (thn (h.run pins s σ H _ I q) fun u s1 ⟨x, H1, I1, r1, q1⟩ => ?_)
  exact thn (hr pos pins s1 σ H1 _ I1 q1) fun us s2 ⟨k, xs, H2, I2, r2, q2⟩ => ⟨k, x :: xs, H2, I2, .cons r1 r2, q2⟩
/-- len of a text -/
theorem pe1_len (hg : Gl X "len") (hm : X.mg "len" = none) (ha : PA X [e] t) (he : starEach [e] X.env = [(false, eval e X.env)] := by rfl) :
    PE1 X (.Call (.Name "len" p) [e] [] pos) (tCB (fun xs H Q => ∃ z, xs = [.str z] ∧ z.length ≤ sizeLine ∧ Q (.int z.length) H) t) := by
  intro pins s σ H Q I q
  refine wpAny_Call_Name_kw (ld_blt I hg hm bt_len ?_)
  refine PyProof.Rows.callWith_builtin1 (thn (ha.run pos pins s σ H _ I q) fun us s1 ⟨vs, H1, I1, r1, z, ez, hz, q1⟩ => ?_) he rfl
  subst ez
  obtain ⟨u, rfl, tt, rfl⟩ := vals1 r1
  have := line63
  exact len_str (by omega) ⟨Nat.succ_le_succ (Nat.zero_le _), .int z.length, H1, I1.tok _, ⟨_, rfl⟩, q1⟩
/-- a call of a def -/
theorem pe1_c {k j : Nat} {x : Str} {sp : Sp} {dvs : List V} (c : C8.Cal X.prog X.w X.K X.mg X.base k x sp dvs) (hr : Room j X.A) (hk : k ≤ j) (hg : Gl X x) (ha : PA1 X (e :: es) t) (hdb : (x == ("__debug__" : Str)) = false := by decide)
    (he : starEach (e :: es) X.env = (false, eval e X.env) :: starEach es X.env := by rfl) (hpl : (backTo pos (starEach es X.env)).any (·.1) = false := by rfl) : PE1 X (.Call (.Name x p) (e :: es) [] pos) (tCall sp dvs C8.E0 t) := by
  intro pins s σ H Q I q
  obtain ⟨f, fd, ps, ds, F, hm, kp, b, d⟩ := c.ex
  refine wpAny_Call_Name_kw (ld_glob I hg hm ?_ hdb)
  refine PySem.W.callWith_K (h₀ := X.base) I.ok.mod.kin kp (thn (ha pos pins s σ H _ I q) fun us s1 ⟨k1, vs, H1, I1, r, q1⟩ => ⟨I1.kIn, ?_⟩) he hpl
  exact wpAny_mono (wpAny_toks_of k1 (run_fn F (hr.mono hk) b d C8.pass0 I1 r q1)) (fun _ _ z => z) fun _ _ z => z.2
def tMark (i j : Nat) (te : TE) (u : TS) : TS := fun D σ H => ∃ z, σ[j]? = some (some (.str z)) ∧ te σ H fun v H1 => ∃ (n : Nat) (c : Nat), v = .int (n : Nat) ∧ z.cps[n]? = some c ∧ z.length ≤ 1000 ∧
  u D ((σ.set i (some (.str ⟨#[c]⟩))).set j (some (.str (Txt.replace z ⟨#[c]⟩ ("" : Str))))) H1
theorem mark_ne (c : Nat) : ((⟨#[c]⟩ : Str) == ("" : Str)) = false := by
  refine beq_eq_false_iff_ne.mpr fun h => ?_
  have h : (1 : Nat) = 0 := congrArg (fun z : Str => z.cps.size) h
  cases h
theorem pss_mark {i j k0 : Nat} {x l : Str} {rest : List Stmt} {u : TS} {p1 p2 p3 p4 p5 p6 p7 p8 p9 p10 p11 : Pos} (nd : X.N.Nodup) (hi : X.N[i]? = some x) (hj : X.N[j]? = some l) (ij : i ≠ j) (lo : X.env.scope.names.lookup x = some .local)
    (lol : X.env.scope.names.lookup l = some .local) (he : PE1 X e te) (pl : PlainIx e) (h2 : PSs X rest u)
    (dx : (x == ("__debug__" : Str)) = false := by decide) (dl : (l == ("__debug__" : Str)) = false := by decide) (cl : (l == ("__classdict__" : Str)) = false := by decide)
    (s1 : swapsWith (.Subscript (.Name l p1) e p2) (some (.Name x p3)) p4.line X.env = pure false := by rfl)
    (s2 : swapsWith (.Call (.Attribute (.Name l p5) "replace" p6) [.Name x p7, .Constant (.str ("" : Str)) k0 p8] [] p9) (some (.Name l p10)) p11.line X.env = pure false := by rfl)
    (st : starEach [.Name x p7, .Constant (.str ("" : Str)) k0 p8] X.env = [(false, eval (.Name x p7) X.env), (false, eval (.Constant (.str ("" : Str)) k0 p8) X.env)] := by rfl)
    (hb : attributeBase (.Name l p5) "replace" X.env (eval (.Name l p5) X.env) = eval (.Name l p5) X.env := by rfl) (hl : (p6.endLine == p9.line) = true := by rfl) :
    PSs X (.Assign [.Name x p3] (.Subscript (.Name l p1) e p2) p4 :: .Assign [.Name l p10] (.Call (.Attribute (.Name l p5) "replace" p6) [.Name x p7, .Constant (.str ("" : Str)) k0 p8] [] p9) p11 :: rest) (tMark i j te u) := by
  refine ⟨fun pins s σ H D I q => ?_⟩
  obtain ⟨z, hz, q⟩ := q
  refine wpAny_execs_cons (wpAny_Assign_Name (Subscript_ (raw_name hj (.inl lol) I hz (fun v rv => ?_) dl cl)) s1)
  obtain ⟨tz, rfl⟩ := rv
  refine thn (he pins s σ H _ I q) fun w' s3 ⟨k3, v3, H3, I3, r3, n, c, ev, hc, z1000, q3⟩ => ?_
  subst ev
  obtain ⟨t3, rfl⟩ := r3
  have hn : n < z.length := (Array.getElem?_eq_some_iff.mp hc).1
  have sx : seqIndex? ((n : Nat) : Int) z.length = some n := by rw [PySem.StrLaws.seqIndex_nonneg (by omega) (by omega)]; exact congrArg some (Int.toNat_natCast n)
  refine tail_any (typeIs_str s3 z tz) slot_str_getitem.lookup (getItem_str (c := c) (by
    rw [decide_eq_false (show ¬ ((n : Nat) : Int) < -(2 ^ 63) by omega), decide_eq_false (show ¬ ((n : Nat) : Int) ≥ 2 ^ 63 by omega)] <;> rfl) (by rw [sx]; exact hc) ?_) (pl _ _)
  have I4 := I3.tok (s3.toks + 1)
  refine store_raw I4 nd hi lo (v := .str ⟨#[c]⟩) ⟨_, rfl⟩ fun s5 m I5 k5 ns hm => ?_
  have hz5 : (σ.set i (some (.str ⟨#[c]⟩)))[j]? = some (some (.str z)) := by rw [List.getElem?_set_ne ij]; exact hz
  refine wpAny_execs_cons (wpAny_Assign_Name (PySem.Call_method2 hb st hl (raw_name hj (.inl lol) I5 hz5 (fun v rv => ?_) dl cl)) s2)
  obtain ⟨t6, rfl⟩ := rv
  refine ⟨"str", _, F.plainAttrs_str, F.slot_str_replace, F.type_str_replace, typeIs_str _ _ _, (fun _ e => nomatch e), Calls.callWith_builtin rfl (Calls.evalArgs_plain (Calls.spliced_cons ?_))⟩
  refine wpAny_Name (wpAny_loadName_local I5.ok.kind lo ns hm ?_) dx
  refine Calls.spliced_cons (Calls.Constant_str (Calls.spliced_nil ?_))
  have k5 : s5.toks = s3.toks + 1 + 1 := k5
  refine PySem.SC.replace (show s3.toks ≠ 0 by omega) (show s5.toks ≠ 0 by omega) (show s3.toks ≠ s5.toks by omega) (mark_ne c) (by show z.length + (z.length + 1) * 0 ≤ 16777216; omega) fun t' k => ?_
  refine store_ok (v := .str (Txt.replace z ⟨#[c]⟩ ("" : Str))) (I5.tok k) nd hj (.inl lol) ⟨_, rfl⟩ (fun s7 I7 => ?_) (.inr lol)
  exact h2.run pins s7 _ H3 D I7 q3
end
end Sn
set_option Elab.async false
set_option linter.all false
set_option maxRecDepth 100000
set_option maxHeartbeats 4000000
namespace Sn
open PySem PySem.Spec PyProof.Rows L2
abbrev abcS : Str := "abcdefghijklmnopqrstuvwxyz"
theorem abc_len : abcS.length = 26 := by decide +kernel
theorem abc_nodup : abcS.cps.toList.Nodup := by decide +kernel
theorem repl_one (c : Nat) : ∀ l : List Nat, StrLaws.replL [c] [] l = l.filter fun d => decide (d ≠ c)
  | [] => by rw [StrLaws.replL_nil] <;> rfl
  | d :: r => by
    by_cases e : d = c
    · subst e
      rw [StrLaws.replL_hit (List.cons_ne_nil _ _) rfl, List.filter_cons_of_neg (by simp)]
      exact repl_one d r
    · rw [StrLaws.replL_miss (y := [c]) (z := []) (c := d) (r := r) (show ¬ (d :: r).take 1 = [c] from fun z => e (List.cons.inj (show d :: [] = [c] from z)).1), List.filter_cons_of_pos (by simpa using e), repl_one c r]
theorem erased_len : ∀ {l : List Nat} {c : Nat}, l.Nodup → c ∈ l → (l.filter fun d => decide (d ≠ c)).length + 1 = l.length
  | [], c, _, h => absurd h List.not_mem_nil
  | d :: r, c, nd, h => by
    obtain ⟨n1, n2⟩ := List.nodup_cons.mp nd
    by_cases e : d = c
    · subst e
      rw [List.filter_cons_of_neg (by simp), List.length_cons]
      have e : (r.filter fun x => decide (x ≠ d)) = r := List.filter_eq_self.mpr fun x hx => decide_eq_true fun z => n1 (z ▸ hx)
      rw [e]
    · rw [List.filter_cons_of_pos (by simpa using e), List.length_cons, List.length_cons, erased_len n2 ((List.mem_cons.mp h).resolve_left fun z => e z.symm)]
section
variable {P : Program} {w : World} {K : PySem.W.Frag} {mg : Str → Option Value} {base : Heap} {S : Addr → Prop} {H H1 : Hp}
def spLMarks (K : PySem.W.Frag) : Sp := fun vs H Q _ => ∃ (a : Addr) (n : Nat), vs = [.ref a, .int (n : Nat)] ∧ PoolAt H a ∧ n ≤ 4 ∧
  ∀ (p : Addr) (ms : List Str) H', Nw H p → Fr K (fun c => c = a) H H' → PoolAt H' a → H' p = some (.lst (ms.map V.str)) → ms.length = n → ms.Nodup → Q (.ref p) H'
theorem c_L_marks (T : Tx K mg) : C8.Cal P w K mg base 2 "_law_marks" (spLMarks K) [] := by
  have c_L_draw : C8.Cal P w K mg base 1 "_law_draw" (spDraw K) [] := c_L_draw T
  refine T.cal T.D_L_marks T.g_L_marks b_L_marks sc_L_marks (fun vs H Q E h => ?_) (fun cdv A outer s H vs Q E hr h => ?_)
  · obtain ⟨a, n, rfl, _⟩ := h
    rfl
  · obtain ⟨a, n, rfl, hP, n4, q⟩ := h
    refine ⟨_, (pss_cons (ps_set (i := 2) sc_L_marks.nd rfl (Or.inl rfl) pe_str)
      (pss_cons (ps_set (i := 3) sc_L_marks.nd rfl (Or.inl rfl) (pe_lst pa_nil))
      (pss_cons (ps_for PassesOwn.never rfl (pi_range1 rfl T.fr_range (pa_cons (pv 1) pa_nil)) (pg_name (i := 4) sc_L_marks.nd rfl (Or.inl rfl))
        (pss_mark (i := 5) (j := 2) sc_L_marks.nd rfl rfl (by decide) rfl rfl (pe1_c c_L_draw hr (by decide) rfl (pa1_cons (pv 0) (pa1_last (pe1_len (by rfl) T.fr_len (pa_cons (pv 2) pa_nil))))) (fun _ _ => rfl)
          (pss_one (ps_expr (pe_bm PySem.F.plainAttrs_list PySem.F.slot_list_append PySem.F.type_list_append mt_append (pv 3) (pa_cons (pv 5) pa_nil))))))
      (pss_one (ps_ret (pv 3)))))), ?_⟩
    refine ⟨Nat.zero_le _, fun D hD => ?_⟩
    have g1 : Fr0 K H (upd H D (.lst [])) := .new hD
    have hq1 : upd H D (.lst []) D = some (.lst []) := upd_same
    have hP1 : PoolAt (upd H D (.lst [])) a := by
      obtain ⟨px, py, hp⟩ := hP
      exact ⟨px, py, g1.lst hp (fun z => z)⟩
    have naD : D ≠ a := fun z => by
      obtain ⟨px, py, hp⟩ := hP
      rw [z, hp] at hD
      cases hD
    generalize upd H D (.lst []) = H1 at g1 hq1 hP1 ⊢
    refine ⟨_, rfl, _, rfl, by omega, by omega, ?_⟩
    refine for_it (walk_range (lo := 0)) (fun k σ' H' => ∃ (z : Str) (ms : List Str), (∃ x y, σ' = [some (.ref a), some (.int (n : Nat)), some (.str z), some (.ref D), x, y]) ∧ Fr K (fun c => c = a) H H' ∧ PoolAt H' a ∧ H' D = some (.lst (ms.map V.str)) ∧ ms.length = k ∧ ms.Nodup ∧
      z.length + k = 26 ∧ z.cps.toList.Nodup ∧ ∀ c ∈ z.cps.toList, (⟨#[c]⟩ : Str) ∉ ms) ⟨abcS, [], ⟨none, none, rfl⟩, g1.wide, hP1, hq1, rfl, List.nodup_nil, abc_len, abc_nodup, fun _ _ => List.not_mem_nil⟩ (fun _ _ _ _ _ => trivial) ?_ ?_
    · rintro k _ σ' _ H' hk ⟨z, ms, ⟨x', y', rfl⟩, f, hP', hq, hl, hnd, hz, hznd, hzm⟩ ⟨rfl, rfl⟩
      have zl : z.length ≤ sizeLine := Nat.le_trans (show z.length ≤ 26 by omega) (by decide)
      refine ⟨z, rfl, _, rfl, _, rfl, z, rfl, zl, a, _, rfl, hP', by omega, by omega, fun v H5 v0 v1 hP5 f5 => ?_⟩
      obtain ⟨v, rfl⟩ : ∃ k : Nat, v = (k : Int) := ⟨v.toNat, by omega⟩
      obtain ⟨c, hc⟩ : ∃ c, z.cps[v]? = some c := ⟨_, Array.getElem?_eq_getElem (show v < z.cps.size from by have : (v : Int) < z.length := v1; exact Int.ofNat_lt.mp this)⟩
      refine ⟨v, c, rfl, hc, by omega, ?_⟩
      have hcm : c ∈ z.cps.toList := by
        rw [← Array.getElem?_toList] at hc
        exact List.mem_of_getElem? hc
      have ez : (Txt.replace z ⟨#[c]⟩ ("" : Str)).cps.toList = z.cps.toList.filter fun d => decide (d ≠ c) := by
        rw [StrLaws.replace_list (y := ⟨#[c]⟩) (show 1 ≤ 1 from Nat.le_refl 1)]
        exact repl_one c _
      have el := erased_len hznd hcm
      generalize Txt.replace z ⟨#[c]⟩ ("" : Str) = z2 at ez ⊢
      have hq5 := f5.lst hq naD
      have f6 : Fr K (fun c => c = D) H5 (upd H5 D (.lst (ms.map V.str ++ [V.str ⟨#[c]⟩]))) := .at_ rfl hq5 trivial
      have l2 : z2.cps.toList.length = z2.length := rfl
      have l1 : z.cps.toList.length = z.length := rfl
      refine ⟨_, rfl, .inl ⟨rfl, _, .of hq5⟩, _, rfl, D, _, _, rfl, rfl, hq5, by rw [List.length_map]; exact small1000 (by omega), z2, ms ++ [⟨#[c]⟩], ⟨_, _, rfl⟩, (f.trans f5).own (.of hD) hq5 trivial, ?_, by rw [List.map_append]; exact upd_same, by rw [List.length_append, List.length_singleton]; omega, ?_, ?_, ?_, ?_⟩
      · obtain ⟨px, py, hp⟩ := hP5
        exact ⟨px, py, f6.lst hp fun z => naD z.symm⟩
      · refine List.nodup_append.mpr ⟨hnd, by simp, fun a ha b hb e => ?_⟩
        rw [e, List.mem_singleton.mp hb] at ha
        exact hzm c hcm ha
      · rw [ez] at l2
        omega
      · rw [ez]
        exact hznd.filter _
      · intro d hd hm
        rw [ez] at hd
        obtain ⟨h1, h2⟩ := List.mem_filter.mp hd
        rcases List.mem_append.mp hm with y | y
        · exact hzm d h1 y
        · have y := List.mem_singleton.mp y
          have : d = c := by
            have e := congrArg (fun z : Str => z.cps.toList) y
            exact (List.cons.inj e).1
          exact (of_decide_eq_true h2) this
    · rintro σ' H' ⟨z, ms, ⟨x', y', rfl⟩, f, hP', hq, hl, hnd, _⟩
      exact ⟨_, rfl, q D ms H' (.of hD) f hP' hq (by omega) hnd⟩
end
end Sn
set_option Elab.async false
set_option linter.all false
set_option maxRecDepth 100000
set_option maxHeartbeats 4000000
namespace Sn
open PySem PySem.Spec PyProof.Rows L2
theorem pd_ins {α β : Type} {F : α → β → Prop} {a : α} {b : β} : ∀ {as : List α} {bs : List β}, Paired F as bs → ∀ (k : Nat), F a b → Paired F (as.take k ++ [a] ++ as.drop k) (bs.take k ++ [b] ++ bs.drop k)
  | _, _, .nil, k, h => by
    rw [List.take_nil, List.take_nil, List.drop_nil, List.drop_nil]
    exact .cons h .nil
  | _, _, .cons r t, 0, h => .cons h (.cons r t)
  | _, _, .cons r t, k + 1, h => .cons r (pd_ins t k h)
section
variable {P : Program} {w : World} {K : PySem.W.Frag} {mg : Str → Option Value} {base : Heap} {S : Addr → Prop} {H H1 : Hp}
def StepOk (ms : List Str) (p : Str × Str) : Prop := (p.1 = ("read" : Str) ∨ p.1 = ("write" : Str) ∨ p.1 = ("ask" : Str)) ∧ p.2 ∈ ms
def PairAt (K : PySem.W.Frag) (H : Hp) (a : Addr) (p : Str × Str) : Prop := SqT K H a [.str p.1, .str p.2]
def spLSteps (K : PySem.W.Frag) : Sp := fun vs H Q _ => ∃ (a ml : Addr) (ms : List Str), vs = [.ref a, .ref ml] ∧ PoolAt H a ∧ H ml = some (.lst (ms.map V.str)) ∧ 1 ≤ ms.length ∧ ms.length ≤ 4 ∧
  ∀ (p : Addr) (as : List Addr) (ps : List (Str × Str)) H', Nw H p → Fr K (fun c => c = a) H H' → PoolAt H' a → H' p = some (.lst (as.map V.ref)) → Paired (PairAt K H') as ps → 1 ≤ ps.length ∧ ps.length ≤ 8 → (∀ q ∈ ps, StepOk ms q) → Q (.ref p) H'
theorem c_L_steps (T : Tx K mg) : C8.Cal P w K mg base 2 "_law_steps" (spLSteps K) [] := by
  have c_L_draw : C8.Cal P w K mg base 1 "_law_draw" (spDraw K) [] := c_L_draw T
  refine T.cal T.D_L_steps T.g_L_steps b_L_steps sc_L_steps (fun vs H Q E h => ?_) (fun cdv A outer s H vs Q E hr h => ?_)
  · obtain ⟨a, ml, ms, rfl, _⟩ := h
    rfl
  · obtain ⟨a, ml, ms, rfl, hP, hml, m1, m4, q⟩ := h
    refine ⟨_, (pss_cons (ps_set (i := 2) sc_L_steps.nd rfl (Or.inl rfl) (pe_lst pa_nil))
      (pss_cons (ps_setLc (i := 3) (own := [("_law_k", 6)]) (by rfl) sc_L_steps.nd rfl rfl (sw_true rfl rfl rfl (by decide +kernel)) (pi_range1 rfl T.fr_range (pa_cons (C8.pe_c c_L_draw hr (by decide) rfl (pa_cons (pv 0) (pa_cons pe_int pa_nil))) pa_nil)) (blkOk_by (own := [("_law_k", 6)]) (N := n_L_steps) (sc := defScope s_L_steps) (by decide +kernel)) (fun _ _ _ _ _ => (pg_name (i := 6) sc_L_steps.nd rfl (Or.inl rfl))) (fun _ _ _ _ _ => pts_nil) (fun _ _ _ _ _ => (pe_ix (ix_listK (K := K) rfl) (pv 1) (C8.pe_c c_L_draw hr (by decide) rfl (pa_cons (pv 0) (pa_cons (pe_callB (call_len_seqK (K := K) rfl) (by rfl) T.fr_len bt_len (pa_cons (pv 1) pa_nil)) pa_nil))) (fun _ _ => rfl))))
      (pss_cons (ps_for PassesOwn.never rfl (pi_list (pe_op op_cat (pv 1) (pv 3))) (pg_name (i := 4) sc_L_steps.nd rfl (Or.inl rfl))
        (pss_cons (ps_set (i := 5) sc_L_steps.nd rfl (Or.inl rfl) (pe_ix ix_list (pe_lst (pa_cons pe_str (pa_cons pe_str (pa_cons pe_str (pa_cons pe_str (pa_cons pe_str (pa_cons pe_str pa_nil))))))) (C8.pe_c c_L_draw hr (by decide) rfl (pa_cons (pv 0) (pa_cons pe_int pa_nil))) (fun _ _ => rfl)))
        (pss_one (ps_expr (pe_bm PySem.F.plainAttrs_list PySem.F.slot_list_insert PySem.F.type_list_insert mt_insert (pv 2) (pa_cons (C8.pe_c c_L_draw hr (by decide) rfl (pa_cons (pv 0) (pa_cons (pe_op op_add (pe_callB call_len_seq (by rfl) T.fr_len bt_len (pa_cons (pv 2) pa_nil)) pe_int) pa_nil))) (pa_cons (pe_tup (pa_cons (pv 5) (pa_cons (pv 4) pa_nil))) pa_nil)))))))
      (pss_one (ps_ret (pv 2)))))), ?_⟩
    have hu := hu_of hr
    obtain ⟨px, py, hP0⟩ := hP
    refine ⟨Nat.zero_le _, fun D hD => ?_⟩
    have g1 : Fr0 K H (upd H D (.lst [])) := .new hD
    have hq1 : upd H D (.lst []) D = some (.lst []) := upd_same
    have hP1 : PoolAt (upd H D (.lst [])) a := ⟨px, py, g1.lst hP0 (fun z => z)⟩
    have naD : D ≠ a := fun z => by rw [z, hP0] at hD; cases hD
    have nmD : ml ≠ D := fun z => by rw [← z, hml] at hD; cases hD
    have nma : ml ≠ a := fun z => by
      rw [z, hP0] at hml
      have hml := HO.lst.inj (Option.some.inj hml)
      cases ms with
      | nil => cases hml
      | cons x r => cases hml
    have hml1 := g1.lst hml (fun z => z)
    generalize upd H D (.lst []) = H1 at g1 hq1 hP1 hml1 ⊢
    refine ⟨_, rfl, a, 5, rfl, hP1, by decide, by decide, fun v H2 v0 v1 hP2 f2 => ⟨_, rfl, by omega, by omega, fun D2 hD2 => ?_⟩⟩
    have hq2 := f2.lst hq1 naD
    have hml2 := f2.lst hml1 nma
    have na2 : D2 ≠ a := fun z => by
      obtain ⟨px, py, hp⟩ := hP2
      rw [z, hp] at hD2
      cases hD2
    have f12 : Fr K (fun c => c = a) H H2 := g1.wide.trans f2
    refine lc_it (walk_range (lo := 0)) (fun i H3 => Fr K (fun c => c = a) H2 H3 ∧ PoolAt H3 a ∧ ∃ rs : List Str, H3 D2 = some (.lst (rs.map V.str)) ∧ rs.length = i ∧ ∀ r ∈ rs, r ∈ ms) ?_ (fun _ _ _ _ => trivial) ?_ ?_
    · have g : Fr0 K H2 (upd H2 D2 (.lst [])) := .new hD2
      obtain ⟨px, py, hp⟩ := hP2
      exact ⟨g.wide, ⟨px, py, g.lst hp (fun z => z)⟩, [], upd_same, rfl, fun _ h => absurd h List.not_mem_nil⟩
    · rintro i _ _ H3 hi ⟨f3, hP3, rs, hq3, hl3, hrs⟩ ⟨rfl, rfl⟩
      have hml3 := f3.lst hml2 nma
      refine ⟨rfl, _, rfl, _, rfl, _, rfl, ml, _, rfl, .inl (.of hml3), a, _, rfl, hP3, by rw [List.length_map]; omega, by rw [List.length_map]; omega, fun v4 H4 w0 w1 hP4 f4 => ?_⟩
      obtain ⟨v4, rfl⟩ : ∃ k : Nat, v4 = (k : Int) := ⟨v4.toNat, by omega⟩
      rw [List.length_map] at w1
      obtain ⟨r, hr⟩ : ∃ r, ms[v4]? = some r := ⟨_, List.getElem?_eq_getElem (show v4 < ms.length by omega)⟩
      have hq4 := f4.lst hq3 na2
      have f5 : Fr K (fun c => c = D2) H4 (upd H4 D2 (.lst (rs.map V.str ++ [V.str r]))) := .at_ rfl hq4 trivial
      refine ⟨ml, _, _, .str r, rfl, rfl, .of (f4.lst hml3 nma), at_of rfl (get_map hr), _, hq4, by rw [List.length_map]; exact small1000 (by omega), (f3.trans f4).own (.of hD2) hq4 trivial, ?_, rs ++ [r], by rw [List.map_append]; exact upd_same, by rw [List.length_append, List.length_singleton, hl3], fun x hx => ?_⟩
      · obtain ⟨px, py, hp⟩ := hP4
        exact ⟨px, py, f5.lst hp fun z => na2 z.symm⟩
      · rcases List.mem_append.mp hx with y | y
        · exact hrs x y
        · rw [List.mem_singleton.mp y]; exact List.mem_of_getElem? hr
    · rintro H3 ⟨f3, hP3, rs, hq3, hl3, hrs⟩
      have hml3 := f3.lst hml2 nma
      have hqD3 := f3.lst hq2 naD
      have f13 : Fr K (fun c => c = a) H H3 := f12.trans f3
      refine ⟨_, rfl, _, rfl, ml, D2, _, _, rfl, rfl, hml3, hq3, by rw [List.length_map, List.length_map]; exact Nat.le_trans (show ms.length + rs.length ≤ 8 by omega) (by decide), fun L hL => ?_⟩
      rw [← List.map_append]
      have g4 : Fr0 K H3 (upd H3 L (.lst ((ms ++ rs).map V.str))) := .new hL
      have hL4 : upd H3 L (.lst ((ms ++ rs).map V.str)) L = some (.lst ((ms ++ rs).map V.str)) := upd_same
      have hall : ∀ r ∈ ms ++ rs, r ∈ ms := fun r h => (List.mem_append.mp h).elim id (hrs r)
      have hlen : (ms ++ rs).length = ms.length + rs.length := List.length_append
      have nLD : L ≠ D := fun z => by rw [z, hqD3] at hL; cases hL
      have nLa : L ≠ a := fun z => by
        obtain ⟨px, py, hp⟩ := hP3
        rw [z, hp] at hL
        cases hL
      have hP4 : PoolAt (upd H3 L (.lst ((ms ++ rs).map V.str))) a := by
        obtain ⟨px, py, hp⟩ := hP3
        exact ⟨px, py, g4.lst hp (fun z => z)⟩
      have hqD4 := g4.lst hqD3 (fun z => z)
      generalize upd H3 L (.lst ((ms ++ rs).map V.str)) = H4 at g4 hL4 hP4 hqD4 ⊢
      generalize ms ++ rs = ls at hL4 hall hlen
      have f14 := f13.trans (g4.wide (S := fun c => c = a))
      refine ⟨L, rfl, ⟨_, .of hL4⟩, ?_⟩
      refine for_it (walk_list (K := K) (a := L) (xs := ls.map V.str)) (fun i σ' H' => (∃ x y z, σ' = [some (.ref a), some (.ref ml), some (.ref D), some (.ref D2), x, y, z]) ∧ Fr K (fun c => c = a ∨ c = D) H4 H' ∧ PoolAt H' a ∧
        ∃ (as : List Addr) (ps : List (Str × Str)), H' D = some (.lst (as.map V.ref)) ∧ as.length = i ∧ Paired (PairAt K H') as ps ∧ ∀ p ∈ ps, StepOk ms p) ⟨⟨_, _, _, rfl⟩, .refl _, hP4, [], [], hqD4, rfl, .nil, fun _ h => absurd h List.not_mem_nil⟩ ?_ ?_ ?_
      · rintro i σ' H' _ ⟨_, f, _⟩
        exact .of (f.lst hL4 (fun z => z.elim nLa nLD))
      · rintro i y σ' _ H' hi ⟨⟨x', y', z', rfl⟩, f5, hP5, as, ps, hq5, hl5, hp5, hs5⟩ ⟨rfl, hy⟩
        obtain ⟨mk, hmk, rfl⟩ := map_get hy
        rw [List.length_map] at hi
        refine ⟨(by show 6 ≤ sizeLine; decide), fun z hz => ?_⟩
        have g6 : Fr0 K H' (upd H' z (.lst [.str "read", .str "read", .str "read", .str "write", .str "write", .str "ask"])) := .new hz
        have hz6 : upd H' z (.lst [.str "read", .str "read", .str "read", .str "write", .str "write", .str "ask"]) z = some (.lst [.str "read", .str "read", .str "read", .str "write", .str "write", .str "ask"]) := upd_same
        have zna : z ≠ a := fun e => by
          obtain ⟨px, py, hp⟩ := hP5
          rw [← e, hz] at hp
          cases hp
        have hP6 : PoolAt (upd H' z (.lst [.str "read", .str "read", .str "read", .str "write", .str "write", .str "ask"])) a := by
          obtain ⟨px, py, hp⟩ := hP5
          exact ⟨px, py, g6.lst hp (fun z => z)⟩
        generalize upd H' z (.lst [.str "read", .str "read", .str "read", .str "write", .str "write", .str "ask"]) = H6 at g6 hz6 hP6 ⊢
        refine ⟨_, rfl, a, 6, rfl, hP6, by decide, by decide, fun v H7 w0 w1 hP7 f7 => ?_⟩
        obtain ⟨wd, hw1, hw2⟩ : ∃ wd : Str, atI [V.str "read", .str "read", .str "read", .str "write", .str "write", .str "ask"] v = some (.str wd) ∧ (wd = ("read" : Str) ∨ wd = ("write" : Str) ∨ wd = ("ask" : Str)) := by
          have : v = 0 ∨ v = 1 ∨ v = 2 ∨ v = 3 ∨ v = 4 ∨ v = 5 := by omega
          rcases this with rfl | rfl | rfl | rfl | rfl | rfl
          · exact ⟨_, rfl, .inl rfl⟩
          · exact ⟨_, rfl, .inl rfl⟩
          · exact ⟨_, rfl, .inl rfl⟩
          · exact ⟨_, rfl, .inr (.inl rfl)⟩
          · exact ⟨_, rfl, .inr (.inl rfl)⟩
          · exact ⟨_, rfl, .inr (.inr rfl)⟩
        refine ⟨z, _, _, .str wd, rfl, rfl, .of (f7.lst hz6 zna), hw1, ?_⟩
        have hq7 := f7.lst (g6.lst hq5 (fun z => z)) naD
        have f57 : Fr K (fun c => c = a ∨ c = D) H' H7 := (g6.wide.trans f7).mono fun c z => .inl z
        refine ⟨_, rfl, .inl ⟨rfl, _, .of hq7⟩, _, rfl, _, rfl, D, _, rfl, .inl (.of hq7), _, _, rfl, rfl, a, _, rfl, hP7, by omega, by rw [List.length_map]; omega, fun v8 H8 w80 w81 hP8 f8 => ?_⟩
        rw [List.length_map] at w81
        refine ⟨_, rfl, _, rfl, (by show 2 ≤ sizeLine; decide), fun t ht => ?_⟩
        have hq8 := f8.lst hq7 naD
        have g9 : Fr0 K H8 (upd H8 t (.tup [.str wd, .str mk])) := .new ht
        have ht9 : PairAt K (upd H8 t (.tup [.str wd, .str mk])) t (wd, mk) := .of upd_same
        have hq9 := g9.lst hq8 (fun z => z)
        have hP9 : PoolAt (upd H8 t (.tup [.str wd, .str mk])) a := by
          obtain ⟨px, py, hp⟩ := hP8
          exact ⟨px, py, g9.lst hp (fun z => z)⟩
        generalize upd H8 t (.tup [.str wd, .str mk]) = H9 at g9 ht9 hq9 hP9 ⊢
        have f10 : Fr K (fun c => c = D) H9 (upd H9 D (.lst ((as.map V.ref).take v8.toNat ++ [V.ref t] ++ (as.map V.ref).drop v8.toNat))) := .at_ rfl hq9 trivial
        have f79 : Fr K (fun c => c = a ∨ c = D) H7 H9 := (f8.trans g9.wide).mono fun c z => .inl z
        have fAll : Fr K (fun c => c = a ∨ c = D) H' (upd H9 D (.lst ((as.map V.ref).take v8.toNat ++ [V.ref t] ++ (as.map V.ref).drop v8.toNat))) := (f57.trans f79).trans (f10.mono fun c z => .inr z)
        refine ⟨D, _, v8, _, rfl, rfl, hq9, by rw [List.length_map]; exact small1000 (by omega), w80, by omega, ⟨_, _, _, rfl⟩, f5.trans fAll, ?_, as.take v8.toNat ++ [t] ++ as.drop v8.toNat, ps.take v8.toNat ++ [(wd, mk)] ++ ps.drop v8.toNat, ?_, ?_, ?_, ?_⟩
        · obtain ⟨px, py, hp⟩ := hP9
          exact ⟨px, py, f10.lst hp fun z => naD z.symm⟩
        · rw [List.map_append, List.map_append, List.map_take, List.map_drop]
          exact upd_same
        · rw [List.length_append, List.length_append, List.length_take, List.length_drop, List.length_singleton]
          omega
        · exact pd_ins (pd_map hp5 fun _ _ z => fAll.tup z) v8.toNat (f10.tup ht9)
        · intro p hp
          rcases List.mem_append.mp hp with y | y
          · rcases List.mem_append.mp y with y | y
            · exact hs5 p (List.mem_of_mem_take y)
            · rw [List.mem_singleton.mp y]
              exact ⟨hw2, hall mk (List.mem_of_getElem? hmk)⟩
          · exact hs5 p (List.mem_of_mem_drop y)
      · rintro σ' H' ⟨⟨x', y', z', rfl⟩, f5, hP5, as, ps, hq5, hl5, hp5, hs5⟩
        rw [List.length_map] at hl5
        have pl := pd_len hp5
        refine ⟨_, rfl, q D as ps H' (.of hD) (((f14.mono fun c z => .inl z).trans f5).narrow fun c hc => hc.elim .inl fun e => .inr (by rw [e]; exact .of hD)) hP5 hq5 hp5 (by omega) hs5⟩
end
end Sn
set_option Elab.async false
set_option linter.all false
set_option maxRecDepth 100000
set_option maxHeartbeats 4000000
namespace Sn
open PySem PySem.Spec PyProof.Rows L2
theorem strOk_iff {x : Str} : PyData.strOk x = true ↔ ∀ c ∈ x.cps.toList, c < 0x110000 := by
  show x.cps.all (fun c => decide (c < 0x110000)) = true ↔ _
  rw [← Array.all_toList, List.all_eq_true]
  exact ⟨fun h c hc => of_decide_eq_true (h c hc), fun h c hc => decide_eq_true (h c hc)⟩
theorem strOk_add {x y : Str} (h1 : PyData.strOk x = true) (h2 : PyData.strOk y = true) : PyData.strOk (x ++ y) = true := by
  rw [strOk_iff] at *
  intro c hc
  have hc : c ∈ (x.cps ++ y.cps).toList := hc
  rw [Array.toList_append] at hc
  exact (List.mem_append.mp hc).elim (h1 c) (h2 c)
theorem strOk_cut {x : Str} (lo hi : Option Int) (h : PyData.strOk x = true) : PyData.strOk (cutS x lo hi) = true := by
  rw [strOk_iff] at *
  intro c hc
  have hc : c ∈ ((x.cps.toList.drop (HT.sIx x.length 0 lo)).take (HT.sIx x.length x.length hi - HT.sIx x.length 0 lo)).toArray.toList := hc
  rw [List.toList_toArray] at hc
  exact h c (List.mem_of_mem_drop (List.mem_of_mem_take hc))
theorem abc_ok {c : Nat} (h : c ∈ abcS.cps.toList) : PyData.strOk ⟨#[c]⟩ = true := by
  have : ∀ c ∈ abcS.cps.toList, decide (c < 0x110000) = true := by decide +kernel
  rw [strOk_iff]
  intro d hd
  rw [List.mem_singleton.mp (show d ∈ [c] from hd)]
  exact of_decide_eq_true (this c h)
theorem strOk_nil : PyData.strOk ("" : Str) = true := by decide +kernel
theorem strOk_join {l : List Str} (h : ∀ x ∈ l, PyData.strOk x = true) : PyData.strOk (Txt.join ("" : Str) l) = true := by
  show PyData.strOk (Builtin.Str.glued ("" : Str) l) = true
  rw [StrLaws.glued_eq_join]
  induction l with
  | nil => exact strOk_nil
  | cons x r ih =>
    cases r with
    | nil => exact h x (.head _)
    | cons y r => exact strOk_add (strOk_add (h x (.head _)) strOk_nil) (ih fun z hz => h z (.tail _ hz))
theorem join_len {l : List Str} (h : ∀ x ∈ l, x.length = 1) : (l.map (·.length)).sum = l.length := by
  induction l with
  | nil => rfl
  | cons x r ih =>
    rw [List.map_cons, List.sum_cons, List.length_cons, h x (.head _), ih fun z hz => h z (.tail _ hz)]
    omega
theorem inV_str (x : Str) : ∀ xs : List Str, inV (.str x) (xs.map V.str) = decide (x ∈ xs)
  | [] => by simp [inV]
  | y :: l => by
    have ih := inV_str x l
    have e : inV (.str x) ((y :: l).map V.str) = (eqV (.str y) (.str x) || inV (.str x) (l.map V.str)) := rfl
    rw [e, ih, eqV_str]
    by_cases c : x = y
    · subst c; simp
    · have c' : ¬ y = x := fun z => c z.symm
      simp [c, c']
theorem flat_str (xs : List Str) : (xs.map V.str).all flatV = true := List.all_eq_true.mpr fun v hv => by
  obtain ⟨s, _, rfl⟩ := List.mem_map.mp hv
  rfl
/-- one of three is not among two -/
theorem three_two {a b c : Str} (h1 : a ≠ b) (h2 : a ≠ c) (h3 : b ≠ c) : ∀ l : List Str, l.length ≤ 2 → ∃ x, (x = a ∨ x = b ∨ x = c) ∧ x ∉ l
  | [], _ => ⟨a, .inl rfl, List.not_mem_nil⟩
  | [u], _ => by
    by_cases e : a = u
    · exact ⟨b, .inr (.inl rfl), fun z => h1 (e.trans (List.mem_singleton.mp z).symm)⟩
    · exact ⟨a, .inl rfl, fun z => e (List.mem_singleton.mp z)⟩
  | [u, v], _ => by
    have two : ∀ {x : Str}, x ≠ u → x ≠ v → x ∉ [u, v] := fun {x} e1 e2 z => by
      rcases List.mem_cons.mp z with z | z
      · exact e1 z
      · exact e2 (List.mem_singleton.mp z)
    by_cases ea : a = u
    · by_cases eb : b = v
      · exact ⟨c, .inr (.inr rfl), two (fun z => h2 (ea.trans z.symm)) fun z => h3 (eb.trans z.symm)⟩
      · exact ⟨b, .inr (.inl rfl), two (fun z => h1 (ea.trans z.symm)) eb⟩
    · by_cases ea2 : a = v
      · by_cases eb : b = u
        · exact ⟨c, .inr (.inr rfl), two (fun z => h3 (eb.trans z.symm)) fun z => h2 (ea2.trans z.symm)⟩
        · exact ⟨b, .inr (.inl rfl), two eb fun z => h1 (ea2.trans z.symm)⟩
      · exact ⟨a, .inl rfl, two ea ea2⟩
  | _ :: _ :: _ :: _, h => absurd h (by simp)
theorem add_ne (z : Str) {c d : Nat} (h : c ≠ d) : z ++ (⟨#[c]⟩ : Str) ≠ z ++ (⟨#[d]⟩ : Str) := fun e => by
  have e : (z.cps ++ #[c]).toList = (z.cps ++ #[d]).toList := congrArg (fun y : Str => y.cps.toList) e
  rw [Array.toList_append, Array.toList_append] at e
  exact h (List.cons.inj (List.append_cancel_left e)).1
theorem by_nameE {i : Nat} {x y : V} {σ : L2.St} {H : Hp} {D D' : Ends} {u : TS} (e : x = y) (h : u D' (σ.set i (some y)) H) : gName i x σ H ({ D with nx := u D' } : Ends).nx := e ▸ h
section
variable {P : Program} {w : World} {K : PySem.W.Frag} {mg : Str → Option Value} {base : Heap} {S : Addr → Prop} {H H1 : Hp}
def spLNames (K : PySem.W.Frag) : Sp := fun vs H Q _ => ∃ (a : Addr) (n : Nat), vs = [.ref a, .int (n : Nat)] ∧ PoolAt H a ∧ n ≤ 3 ∧
  ∀ (p : Addr) (xs : List Str) H', Nw H p → Fr K (fun c => c = a) H H' → PoolAt H' a → H' p = some (.lst (xs.map V.str)) → xs.length = n → xs.Nodup → (∀ x ∈ xs, PyData.strOk x = true) → Q (.ref p) H'
theorem c_L_names (T : Tx K mg) : C8.Cal P w K mg base 2 "_law_names" (spLNames K) [] := by
  have c_L_draw : C8.Cal P w K mg base 1 "_law_draw" (spDraw K) [] := c_L_draw T
  refine T.cal T.D_L_names T.g_L_names b_L_names sc_L_names (fun vs H Q E h => ?_) (fun cdv A outer s H vs Q E hr h => ?_)
  · obtain ⟨a, n, rfl, _⟩ := h
    rfl
  · obtain ⟨a, n, rfl, hP, n3, q⟩ := h
    have hu := hu_of hr
    refine ⟨_, (pss_cons (ps_set (i := 2) sc_L_names.nd rfl (Or.inr rfl) pe_str)
      (pss_cons (ps_set (i := 3) sc_L_names.nd rfl (Or.inr rfl) (pe_lst pa_nil))
      (pss_cons (ps_for PassesOwn.never rfl (pi_range1 rfl T.fr_range (pa_cons (pv 1) pa_nil)) (pg_name (i := 4) sc_L_names.nd rfl (Or.inl rfl))
        (pss_cons (ps_set (i := 5) sc_L_names.nd rfl (Or.inl rfl) (pe_op op_add pe_int (pe_op op_mul (C8.pe_c c_L_draw hr (by decide) rfl (pa_cons (pv 0) (pa_cons pe_int pa_nil))) (C8.pe_c c_L_draw hr (by decide) rfl (pa_cons (pv 0) (pa_cons pe_int pa_nil))))))
        (pss_cons (ps_set (i := 6) sc_L_names.nd rfl (Or.inr rfl) (pe_join pe_str (pe_lc (own := [("_law_at", 8)]) (by rfl) sc_L_names.nd (pi_range1 rfl T.fr_range (pa_cons (pv 5) pa_nil)) (blkOk_by (own := [("_law_at", 8)]) (N := n_L_names) (sc := defScope s_L_names) (by decide +kernel)) (fun _ _ _ _ _ => (pg_name (i := 8) sc_L_names.nd rfl (Or.inl rfl))) (fun _ _ _ _ _ => pts_nil) (fun _ _ _ _ _ => (pe_item_str (pv 2) (C8.pe_c c_L_draw hr (by decide) rfl (pa_cons (pv 0) (pa_cons pe_int pa_nil))) (fun _ _ => rfl))))))
        (pss_cons (ps_set (i := 7) sc_L_names.nd rfl (Or.inl rfl) (pe_op op_cat (pe_lst (pa_cons (pv 6) pa_nil)) (pe_lc (own := [("_law_letter", 9)]) (by rfl) sc_L_names.nd (pi_str (pv 2)) (blkOk_by (own := [("_law_letter", 9)]) (N := n_L_names) (sc := defScope s_L_names) (by decide +kernel)) (fun _ _ _ _ _ => (pg_name (i := 9) sc_L_names.nd rfl (Or.inl rfl))) (fun _ _ _ _ _ => pts_nil) (fun _ _ _ _ _ => (pe_op op_add_str (pe_slice sl_str (pv 6) po_none (po_some (pe_un un_neg pe_int))) (pv 9))))))
        (pss_one (ps_expr (pe_bm PySem.F.plainAttrs_list PySem.F.slot_list_append PySem.F.type_list_append mt_append (pv 3) (pa_cons (pe_ix ix_list (pe_lc (own := [("_law_one", 10)]) (by rfl) sc_L_names.nd (pi_list (pv 7)) (blkOk_by (own := [("_law_one", 10)]) (N := n_L_names) (sc := defScope s_L_names) (by decide +kernel)) (fun _ _ _ _ _ => (pg_name (i := 10) sc_L_names.nd rfl (Or.inl rfl))) (fun _ _ _ _ _ => (pts_one (pt_cmpR (op_notIn_seqK (K := K) rfl) (pv 10) (pv 3) (by rfl)))) (fun _ _ _ _ _ => (pv 10))) pe_int (fun _ _ => rfl)) pa_nil))))))))
      (pss_one (ps_ret (pv 3)))))), ?_⟩
    obtain ⟨px, py, hP0⟩ := hP
    refine ⟨Nat.zero_le _, fun D hD => ?_⟩
    have g1 : Fr0 K H (upd H D (.lst [])) := .new hD
    have hq1 : upd H D (.lst []) D = some (.lst []) := upd_same
    have hP1 : PoolAt (upd H D (.lst [])) a := ⟨px, py, g1.lst hP0 (fun z => z)⟩
    have naD : D ≠ a := fun z => by rw [z, hP0] at hD; cases hD
    generalize upd H D (.lst []) = H1 at g1 hq1 hP1 ⊢
    refine ⟨_, rfl, _, rfl, by omega, by omega, ?_⟩
    refine for_it (walk_range (lo := 0)) (fun k σ' H' => (∃ x y z u, σ' = [some (.ref a), some (.int (n : Nat)), some (.str abcS), some (.ref D), x, y, z, u, none, none, none]) ∧ Fr K (fun c => c = a) H H' ∧ PoolAt H' a ∧
      ∃ xs : List Str, H' D = some (.lst (xs.map V.str)) ∧ xs.length = k ∧ xs.Nodup ∧ ∀ x ∈ xs, PyData.strOk x = true) ⟨⟨none, none, none, none, rfl⟩, g1.wide, hP1, [], hq1, rfl, List.nodup_nil, fun _ h => absurd h List.not_mem_nil⟩ (fun _ _ _ _ _ => trivial) ?_ ?_
    · rintro k _ σ' _ H' hk ⟨⟨x', y', z', u', rfl⟩, f, hP', xs, hq, hl, hnd, hok⟩ ⟨rfl, rfl⟩
      refine ⟨_, rfl, a, 2, rfl, hP', by decide, by decide, fun v1 H2 v10 v11 hP2 f2 => ⟨_, rfl, a, 8, rfl, hP2, by decide, by decide, fun v2 H3 v20 v21 hP3 f3 => ?_⟩⟩
      have hz : ∃ z : Int, 1 + v1 * v2 = z ∧ 1 ≤ z ∧ z ≤ 8 := by
        refine ⟨_, rfl, ?_, ?_⟩
        · have := Int.mul_nonneg v10 v20
          omega
        · have : v1 = 0 ∨ v1 = 1 := by omega
          rcases this with rfl | rfl <;> omega
      obtain ⟨sz, esz, sz1, sz8⟩ := hz
      refine ⟨_, _, rfl, rfl, .inl (by omega), _, _, rfl, rfl, ?_⟩
      refine by_nameE (y := .int sz) (congrArg V.int esz) ?_
      have hq3 := f3.lst (f2.lst hq naD) naD
      have f13 : Fr K (fun c => c = a) H H3 := (f.trans f2).trans f3
      refine ⟨⟨_, rfl⟩, _, rfl, _, rfl, by omega, by omega, fun D2 hD2 => ?_⟩
      have na2 : D2 ≠ a := fun z => by
        obtain ⟨px, py, hp⟩ := hP3
        rw [z, hp] at hD2
        cases hD2
      refine lc_it (walk_range (lo := 0)) (fun i H4 => Fr K (fun c => c = a) H3 H4 ∧ PoolAt H4 a ∧ ∃ rs : List Str, H4 D2 = some (.lst (rs.map V.str)) ∧ rs.length = i ∧ (∀ r ∈ rs, r.length = 1) ∧ ∀ r ∈ rs, PyData.strOk r = true) ?_ (fun _ _ _ _ => trivial) ?_ ?_
      · have g : Fr0 K H3 (upd H3 D2 (.lst [])) := .new hD2
        obtain ⟨px, py, hp⟩ := hP3
        exact ⟨g.wide, ⟨px, py, g.lst hp (fun z => z)⟩, [], upd_same, rfl, fun _ h => absurd h List.not_mem_nil, fun _ h => absurd h List.not_mem_nil⟩
      · rintro i _ _ H4 hi ⟨f4, hP4, rs, hq4, hl4, hr1, hr2⟩ ⟨rfl, rfl⟩
        refine ⟨rfl, _, rfl, _, rfl, a, 26, rfl, hP4, by decide, by decide, fun v5 H5 w0 w1 hP5 f5 => ?_⟩
        obtain ⟨v5, rfl⟩ : ∃ k : Nat, v5 = (k : Int) := ⟨v5.toNat, by omega⟩
        have hv : v5 < abcS.length := by rw [abc_len]; omega
        obtain ⟨c, hc⟩ : ∃ c, abcS.cps[v5]? = some c := ⟨_, Array.getElem?_eq_getElem hv⟩
        have hcm : c ∈ abcS.cps.toList := by
          rw [← Array.getElem?_toList] at hc
          exact List.mem_of_getElem? hc
        have hq5 := f5.lst hq4 na2
        have f6 : Fr K (fun c => c = D2) H5 (upd H5 D2 (.lst (rs.map V.str ++ [V.str ⟨#[c]⟩]))) := .at_ rfl hq5 trivial
        refine ⟨abcS, v5, c, rfl, rfl, by omega, by omega, Int.ofNat_lt.mpr hv, by rw [Int.toNat_natCast]; exact hc, _, hq5, by rw [List.length_map]; exact small1000 (by omega), (f4.trans f5).own (.of hD2) hq5 trivial, ?_, rs ++ [⟨#[c]⟩], by rw [List.map_append]; exact upd_same, by rw [List.length_append, List.length_singleton, hl4], fun x hx => ?_, fun x hx => ?_⟩
        · obtain ⟨px, py, hp⟩ := hP5
          exact ⟨px, py, f6.lst hp fun z => na2 z.symm⟩
        · rcases List.mem_append.mp hx with y | y
          · exact hr1 x y
          · rw [List.mem_singleton.mp y] <;> rfl
        · rcases List.mem_append.mp hx with y | y
          · exact hr2 x y
          · rw [List.mem_singleton.mp y]; exact abc_ok hcm
      · rintro H4 ⟨f4, hP4, rs, hq4, hl4, hr1, hr2⟩
        have f14 := f13.trans f4
        have hqD4 := f4.lst hq3 naD
        have sl := join_len hr1
        refine ⟨_, D2, rs, rfl, rfl, .inl (.of hq4), by rw [sl]; exact Nat.le_trans (show rs.length + rs.length * 0 ≤ 8 by omega) (by decide), ?_⟩
        have hnm := strOk_join hr2
        have nml : (Txt.join ("" : Str) rs).length ≤ 8 := by
          have h := StrLaws.join_length_le ("" : Str) rs
          rw [← StrLaws.glued_eq_join] at h
          have h : (Txt.join ("" : Str) rs).length ≤ _ := h
          rw [sl] at h
          have : (("" : Str)).length = 0 := rfl
          rw [this] at h
          omega
        generalize Txt.join ("" : Str) rs = nm at hnm nml ⊢
        refine ⟨_, rfl, (by show 1 ≤ sizeLine; decide), fun L1 hL1 => ?_⟩
        have g5 : Fr0 K H4 (upd H4 L1 (.lst [.str nm])) := .new hL1
        have h15 : upd H4 L1 (.lst [.str nm]) L1 = some (.lst [.str nm]) := upd_same
        have hqD5 := g5.lst hqD4 (fun z => z)
        have P0 : ∀ {Ha Hb : Hp}, Fr0 K Ha Hb → PoolAt Ha a → PoolAt Hb a := fun f ⟨px, py, hp⟩ => ⟨px, py, f.lst hp (fun z => z)⟩
        have hP5 := P0 g5 hP4
        generalize upd H4 L1 (.lst [.str nm]) = H5 at g5 h15 hqD5 hP5 ⊢
        refine ⟨_, rfl, abcS, rfl, fun D3 hD3 => ?_⟩
        have cl : (cutS nm none (some (-1))).length ≤ 8 := Nat.le_trans (cutS_length _ _ _) nml
        have ck : PyData.strOk (cutS nm none (some (-1))) = true := strOk_cut _ _ hnm
        have nmz : nm.length ≤ sizeLine := Nat.le_trans nml (by decide)
        have abz : abcS.cps.size = 26 := abc_len
        refine lc_it (walk_str (z := abcS)) (fun i H6 => Fr0 K H5 H6 ∧ H6 D3 = some (.lst ((((abcS.cps.toList.take i).map fun c => cutS nm none (some (-1)) ++ ⟨#[c]⟩)).map V.str))) ⟨.new hD3, upd_same⟩ (fun _ _ _ _ => trivial) ?_ ?_
        · rintro i _ _ H6 hi ⟨g6, hq6⟩ ⟨rfl, c, hc, rfl⟩
          rw [← Array.getElem?_toList] at hc
          refine ⟨rfl, _, rfl, _, rfl, _, rfl, nm, rfl, nmz, _, rfl, _, _, rfl, rfl, Nat.le_trans (show _ + 1 ≤ 9 by omega) (by decide), _, hq6, by rw [List.length_map, List.length_map, List.length_take]; exact small1000 (by omega), g6.own (.of hD3) hq6 trivial, ?_⟩
          rw [take_snoc hc, List.map_append, List.map_append]
          exact upd_same
        · rintro H6 ⟨g6, hq6⟩
          rw [show abcS.cps.toList.take abcS.cps.size = abcS.cps.toList from by rw [← Array.length_toList, List.take_length]] at hq6
          have abl : abcS.cps.toList.length = 26 := abc_len
          refine ⟨L1, D3, _, _, rfl, rfl, g6.lst h15 (fun z => z), hq6, by rw [List.length_map, List.length_map, abl]; exact (show 1 + 26 ≤ sizeLine by decide), fun L hL => ?_⟩
          obtain ⟨sm, hsm, hmem, hok2⟩ : ∃ sm : List Str, [V.str nm] ++ ((abcS.cps.toList.map fun c => cutS nm none (some (-1)) ++ ⟨#[c]⟩)).map V.str = sm.map V.str ∧ (∀ c ∈ abcS.cps.toList, cutS nm none (some (-1)) ++ (⟨#[c]⟩ : Str) ∈ sm) ∧ (∀ x ∈ sm, PyData.strOk x = true) := by
            refine ⟨nm :: (abcS.cps.toList.map fun c => cutS nm none (some (-1)) ++ ⟨#[c]⟩), rfl, fun c hc => .tail _ (List.mem_map.mpr ⟨c, hc, rfl⟩), fun x hx => ?_⟩
            rcases List.mem_cons.mp hx with e | hx
            · rw [e]; exact hnm
            · obtain ⟨c, hc, rfl⟩ := List.mem_map.mp hx
              exact strOk_add ck (abc_ok hc)
          have sml : sm.length = 27 := by
            have := congrArg List.length hsm
            rw [List.length_append, List.length_map, List.length_map, List.length_map, abl] at this
            exact this.symm
          rw [hsm]
          have g7 : Fr0 K H6 (upd H6 L (.lst (sm.map V.str))) := .new hL
          have hL7 : upd H6 L (.lst (sm.map V.str)) L = some (.lst (sm.map V.str)) := upd_same
          have g57 := g6.trans g7
          generalize upd H6 L (.lst (sm.map V.str)) = H7 at g7 hL7 g57 ⊢
          have hqD7 := g57.lst hqD5 (fun z => z)
          refine ⟨_, rfl, .inl ⟨rfl, _, .of hqD7⟩, _, rfl, L, rfl, ⟨_, .of hL7⟩, fun D4 hD4 => ?_⟩
          refine lc_it (walk_list (K := K) (a := L) (xs := sm.map V.str)) (fun i H8 => Fr0 K H7 H8 ∧ H8 D4 = some (.lst (((sm.take i).filter fun x => decide (x ∉ xs)).map V.str))) ⟨.new hD4, upd_same⟩ ?_ ?_ ?_
          · rintro i H8 _ ⟨g8, _⟩
            exact .of (g8.lst hL7 (fun z => z))
          · rintro i y _ H8 hi ⟨g8, hq8⟩ ⟨rfl, hy⟩
            obtain ⟨x, hx, rfl⟩ := map_get hy
            have hl8 : ((sm.take i).filter fun x => decide (x ∉ xs)).length ≤ 27 := Nat.le_trans (List.length_filter_le _ _) (by rw [List.length_take]; omega)
            refine ⟨rfl, _, rfl, _, rfl, D, _, rfl, .inl (.of (g8.lst hqD7 (fun z => z))), rfl, flat_str _, _, rfl, ?_⟩
            show if (!inV (V.str x) (xs.map V.str)) = true then _ else _
            rw [inV_str]
            by_cases c : x ∈ xs
            · rw [decide_eq_true c]
              refine ⟨g8, ?_⟩
              rw [take_snoc hx, List.filter_append, List.filter_cons_of_neg (by simpa using c), List.filter_nil, List.append_nil]
              exact hq8
            · rw [decide_eq_false c]
              refine ⟨_, rfl, _, hq8, by rw [List.length_map]; exact small1000 (by omega), g8.own (.of hD4) hq8 trivial, ?_⟩
              rw [take_snoc hx, List.filter_append, List.filter_cons_of_pos (by simpa using c), List.filter_nil, List.map_append]
              exact upd_same
          · rintro H8 ⟨g8, hq8⟩
            rw [List.length_map, List.take_length] at hq8
            obtain ⟨x, hx1, hx2⟩ := three_two (add_ne (cutS nm none (some (-1))) (show (97 : Nat) ≠ 98 by decide)) (add_ne _ (show (97 : Nat) ≠ 99 by decide)) (add_ne _ (show (98 : Nat) ≠ 99 by decide)) xs (by omega)
            have hx3 : x ∈ sm := by
              rcases hx1 with rfl | rfl | rfl
              · exact hmem 97 (by decide +kernel)
              · exact hmem 98 (by decide +kernel)
              · exact hmem 99 (by decide +kernel)
            have hx4 : x ∈ sm.filter fun x => decide (x ∉ xs) := List.mem_filter.mpr ⟨hx3, decide_eq_true hx2⟩
            obtain ⟨y, r, hyr⟩ : ∃ y r, (sm.filter fun x => decide (x ∉ xs)) = y :: r := by
              cases e : sm.filter fun x => decide (x ∉ xs) with
              | nil => rw [e] at hx4; exact absurd hx4 List.not_mem_nil
              | cons y r => exact ⟨y, r, rfl⟩
            have hy : y ∈ sm.filter fun x => decide (x ∉ xs) := by rw [hyr]; exact .head _
            obtain ⟨hy1, hy2⟩ := List.mem_filter.mp hy
            have hy2 := of_decide_eq_true hy2
            rw [hyr] at hq8
            have hqD8 := g8.lst hqD7 (fun z => z)
            have f9 : Fr K (fun c => c = D) H8 (upd H8 D (.lst (xs.map V.str ++ [V.str y]))) := .at_ rfl hqD8 trivial
            have g48 := (g5.trans g57).trans g8
            refine ⟨D4, _, _, .str y, rfl, rfl, .of hq8, at_of (show (0 : Int) = ((0 : Nat) : Int) from rfl) rfl, D, _, _, rfl, rfl, hqD8, by rw [List.length_map]; exact small1000 (by omega), ⟨_, _, _, _, rfl⟩, (f14.trans g48.wide).own (.of hD) hqD8 trivial, ?_, xs ++ [y], by rw [List.map_append]; exact upd_same, by rw [List.length_append, List.length_singleton]; omega, ?_, fun z hz => ?_⟩
            · obtain ⟨px, py, hp⟩ := P0 g48 hP4
              exact ⟨px, py, f9.lst hp fun z => naD z.symm⟩
            · refine List.nodup_append.mpr ⟨hnd, by simp, fun u hu v hv e => ?_⟩
              rw [e, List.mem_singleton.mp hv] at hu
              exact hy2 hu
            · rcases List.mem_append.mp hz with q | q
              · exact hok z q
              · rw [List.mem_singleton.mp q]; exact hok2 y hy1
    · rintro σ' H' ⟨⟨x', y', z', u', rfl⟩, f, hP', xs, hq, hl, hnd, hok⟩
      exact ⟨_, rfl, q D xs H' (.of hD) f hP' hq (by omega) hnd hok⟩
end
end Sn
set_option Elab.async false
set_option linter.all false
set_option maxRecDepth 100000
set_option maxHeartbeats 4000000
namespace Sn
open PySem PySem.Spec PyProof.Rows L2
section
variable {P : Program} {w : World} {K : PySem.W.Frag} {mg : Str → Option Value} {base : Heap} {S : Addr → Prop} {H H1 : Hp}
theorem PoolAt.fr0 {a : Addr} (h : PoolAt H a) (f : Fr0 K H H1) : PoolAt H1 a := by
  obtain ⟨x, y, h⟩ := h
  exact ⟨x, y, f.lst h (fun z => z)⟩
theorem PoolAt.fr {a : Addr} (h : PoolAt H a) (f : Fr K S H H1) (n : ¬ S a) : PoolAt H1 a := by
  obtain ⟨x, y, h⟩ := h
  exact ⟨x, y, f.lst h n⟩
theorem PoolAt.ne {a c : Addr} (h : PoolAt H a) (e : H c = none) : c ≠ a := fun z => by
  obtain ⟨x, y, h⟩ := h
  rw [z, h] at e
  cases e
theorem PoolAt.nw {a c : Addr} (h : PoolAt H a) (e : Nw H c) : c ≠ a := fun z => by
  obtain ⟨x, y, h⟩ := h
  obtain ⟨ps, q⟩ := e _ (z ▸ h)
  cases q
def KindAt (K : PySem.W.Frag) (H : Hp) (a : Addr) (p : Str × Bool) : Prop := SqT K H a [.str p.1, .bl p.2]
def spLBook (K : PySem.W.Frag) : Sp := fun vs H Q _ => ∃ (a : Addr), vs = [.ref a, .int 1, .int 3] ∧ PoolAt H a ∧ ∀ (bk : Addr) (b : BookD) H', Fr K (fun c => c = a) H H' → BookAt K H' bk b → BookOk b → NamesOk b → Q (.ref bk) H'
theorem c_L_book (T : Tx K mg) : C8.Cal P w K mg base 3 "_law_book" (spLBook K) [] := by
  have c_L_draw : C8.Cal P w K mg base 1 "_law_draw" (spDraw K) [] := c_L_draw T
  have c_L_names : C8.Cal P w K mg base 2 "_law_names" (spLNames K) [] := c_L_names T
  have c_L_marks : C8.Cal P w K mg base 2 "_law_marks" (spLMarks K) [] := c_L_marks T
  have c_L_steps : C8.Cal P w K mg base 2 "_law_steps" (spLSteps K) [] := c_L_steps T
  refine T.cal T.D_L_book T.g_L_book b_L_book sc_L_book (fun vs H Q E h => ?_) (fun cdv A outer s H vs Q E hr h => ?_)
  · obtain ⟨a, rfl, _⟩ := h
    rfl
  · obtain ⟨a, rfl, hP, q⟩ := h
    have hu := hu_of hr
    refine ⟨_, (pss_cons (ps_set (i := 3) sc_L_book.nd rfl (Or.inr rfl) (C8.pe_c c_L_names hr (by decide) rfl (pa_cons (pv 0) (pa_cons (pe_op op_add pe_int (C8.pe_c c_L_draw hr (by decide) rfl (pa_cons (pv 0) (pa_cons (pv 1) pa_nil)))) pa_nil))))
      (pss_cons (ps_setLc (i := 4) (own := [("_law_name", 6)]) (by rfl) sc_L_book.nd rfl rfl (sw_true rfl rfl rfl (by decide +kernel)) (pi_list (pv 3)) (blkOk_by (own := [("_law_name", 6)]) (N := n_L_book) (sc := defScope s_L_book) (by decide +kernel)) (fun _ _ _ _ _ => (pg_name (i := 6) sc_L_book.nd rfl (Or.inl rfl))) (fun _ _ _ _ _ => pts_nil) (fun _ _ _ _ _ => (pe_tup (pa_cons (pv 6) (pa_cons (pe_cmpR op_gt (C8.pe_c c_L_draw hr (by decide) rfl (pa_cons (pv 0) (pa_cons pe_int pa_nil))) pe_int (nomark _)) pa_nil)))))
      (pss_cons (ps_set (i := 5) sc_L_book.nd rfl (Or.inl rfl) (pe_lst pa_nil))
      (pss_cons (ps_for PassesOwn.never rfl (pi_list (C8.pe_c c_L_names hr (by decide) rfl (pa_cons (pv 0) (pa_cons (pe_op op_add pe_int (C8.pe_c c_L_draw hr (by decide) rfl (pa_cons (pv 0) (pa_cons (pv 2) pa_nil)))) pa_nil)))) (pg_name (i := 6) sc_L_book.nd rfl (Or.inl rfl))
        (pss_cons (ps_set (i := 7) sc_L_book.nd rfl (Or.inl rfl) (C8.pe_c c_L_marks hr (by decide) rfl (pa_cons (pv 0) (pa_cons (pe_op op_add pe_int (C8.pe_c c_L_draw hr (by decide) rfl (pa_cons (pv 0) (pa_cons pe_int pa_nil)))) pa_nil))))
        (pss_cons (ps_setLc (i := 8) (own := [("_law_mark", 9)]) (by rfl) sc_L_book.nd rfl rfl (sw_true rfl rfl rfl (by decide +kernel)) (pi_list (pv 7)) (blkOk_by (own := [("_law_mark", 9)]) (N := n_L_book) (sc := defScope s_L_book) (by decide +kernel)) (fun _ _ _ _ _ => (pg_name (i := 9) sc_L_book.nd rfl (Or.inl rfl))) (fun _ _ _ _ _ => pts_nil) (fun _ _ _ _ _ => (pe_tup (pa_cons (pv 9) (pa_cons (pe_ix (ix_listK (K := K) rfl) (pv 3) (C8.pe_c c_L_draw hr (by decide) rfl (pa_cons (pv 0) (pa_cons (pe_callB (call_len_seqK (K := K) rfl) (by rfl) T.fr_len bt_len (pa_cons (pv 3) pa_nil)) pa_nil))) (fun _ _ => rfl)) pa_nil)))))
        (pss_one (ps_expr (pe_bm PySem.F.plainAttrs_list PySem.F.slot_list_append PySem.F.type_list_append mt_append (pv 5) (pa_cons (pe_tup (pa_cons (pv 6) (pa_cons (pe_frz (pv 8)) (pa_cons (pe_frz (C8.pe_c c_L_steps hr (by decide) rfl (pa_cons (pv 0) (pa_cons (pv 7) pa_nil)))) pa_nil)))) pa_nil)))))))
      (pss_one (ps_ret (pe_tup (pa_cons (pe_frz (pv 4)) (pa_cons (pe_frz (pv 5)) pa_nil))))))))), ?_⟩
    refine ⟨_, rfl, _, rfl, _, rfl, a, 1, rfl, hP, by decide, by decide, fun v H1 v0 v1 hP1 f1 => ?_⟩
    have v0' : v = 0 := by omega
    subst v0'
    refine ⟨_, _, rfl, rfl, a, 1, rfl, hP1, by decide, fun N1 nms H2 nN1 f2 hP2 hN2 hnl hnnd hnok => ?_⟩
    obtain ⟨kn, rfl⟩ : ∃ kn, nms = [kn] := by
      cases nms with
      | nil => cases hnl
      | cons x r => cases r with
        | nil => exact ⟨x, rfl⟩
        | cons _ _ => cases hnl
    have hN2 : H2 N1 = some (.lst [.str kn]) := hN2
    have nNa : N1 ≠ a := hP1.nw nN1
    refine ⟨_, rfl, N1, rfl, ⟨_, .of hN2⟩, fun D4 hD4 => ?_⟩
    have f12 := f1.trans f2
    have n4a : D4 ≠ a := hP2.ne hD4
    refine lc_it (walk_list (K := K) (a := N1) (xs := [.str kn])) (fun i H3 => Fr K (fun c => c = a) H2 H3 ∧ PoolAt H3 a ∧ ∃ (as : List Addr) (ks : List (Str × Bool)), H3 D4 = some (.lst (as.map V.ref)) ∧ ks.length = i ∧ Paired (KindAt K H3) as ks ∧ ∀ k ∈ ks, k.1 = kn) ?_ ?_ ?_ ?_
    · have g : Fr0 K H2 (upd H2 D4 (.lst [])) := .new hD4
      exact ⟨g.wide, hP2.fr0 g, [], [], upd_same, rfl, .nil, fun _ h => absurd h List.not_mem_nil⟩
    · rintro i H3 _ ⟨f3, _⟩
      exact .of (f3.lst hN2 nNa)
    · rintro i y _ H3 hi ⟨f3, hP3, as, ks, hq3, hl3, hp3, hk3⟩ ⟨rfl, hy⟩
      have hy : y = .str kn := by
        cases i with
        | zero => exact (Option.some.inj hy).symm
        | succ i => cases i <;> cases hy
      subst hy
      refine ⟨rfl, _, rfl, _, rfl, a, 3, rfl, hP3, by decide, by decide, fun v4 H4 w0 w1 hP4 f4 => ?_⟩
      refine ⟨_, _, rfl, rfl, (by show 2 ≤ sizeLine; decide), fun t ht => ?_⟩
      have g5 : Fr0 K H4 (upd H4 t (.tup [.str kn, .bl (decide (v4 > 0))])) := .new ht
      have ht5 : KindAt K (upd H4 t (.tup [.str kn, .bl (decide (v4 > 0))])) t (kn, decide (v4 > 0)) := .of upd_same
      have hq5 := g5.lst (f4.lst hq3 n4a) (fun z => z)
      have hP5 := hP4.fr0 g5
      generalize upd H4 t (.tup [.str kn, .bl (decide (v4 > 0))]) = H5 at g5 ht5 hq5 hP5 ⊢
      have f6 : Fr K (fun c => c = D4) H5 (upd H5 D4 (.lst (as.map V.ref ++ [V.ref t]))) := .at_ rfl hq5 trivial
      have f35 := f4.trans g5.wide
      have pl := pd_len hp3
      refine ⟨_, hq5, by rw [List.length_map, pl, hl3]; exact small1000 (by have : i < 1 := hi; omega), (f3.trans f35).own (.of hD4) hq5 trivial, hP5.fr f6 n4a.symm, as ++ [t], ks ++ [(kn, decide (v4 > 0))], by rw [List.map_append]; exact upd_same, by rw [List.length_append, List.length_singleton, hl3], pd_snoc (pd_map hp3 fun _ _ z => f6.tup (f35.tup z)) (f6.tup ht5), fun k hk => ?_⟩
      rcases List.mem_append.mp hk with y | y
      · exact hk3 k y
      · rw [List.mem_singleton.mp y]
    · rintro H3 ⟨f3, hP3, kas, ks, hq3, hl3, hp3, hk3⟩
      obtain ⟨k, rfl⟩ : ∃ k, ks = [k] := by
        cases ks with
        | nil => cases hl3
        | cons x r => cases r with
          | nil => exact ⟨x, rfl⟩
          | cons _ _ => cases hl3
      have hkn : k.1 = kn := hk3 k (.head _)
      have hN3 := f3.lst hN2 nNa
      have f13 := f12.trans f3
      have nD4 : Nw H D4 := f12.nw n4a (.of hD4)
      refine ⟨Nat.zero_le _, fun D5 hD5 => ?_⟩
      have g4 : Fr0 K H3 (upd H3 D5 (.lst [])) := .new hD5
      have hq4 : upd H3 D5 (.lst []) D5 = some (.lst []) := upd_same
      have hP4 := hP3.fr0 g4
      have n5a : D5 ≠ a := hP3.ne hD5
      have nD5 : Nw H D5 := f13.nw n5a (.of hD5)
      have n54 : D4 ≠ D5 := fun z => by rw [← z, hq3] at hD5; cases hD5
      have n5N : N1 ≠ D5 := fun z => by rw [← z, hN3] at hD5; cases hD5
      have f14 := f13.trans (g4.wide (S := fun c => c = a))
      have hk4 := g4.lst hq3 (fun z => z)
      have hN4 := g4.lst hN3 (fun z => z)
      have hkp4 : Paired (KindAt K (upd H3 D5 (.lst []))) kas [k] := pd_map hp3 fun _ _ z => g4.tup z
      generalize upd H3 D5 (.lst []) = H4 at g4 hq4 hP4 f14 hk4 hN4 hkp4 ⊢
      refine ⟨_, rfl, _, rfl, _, rfl, a, 3, rfl, hP4, by decide, by decide, fun v H5 w0 w1 hP5 f5 => ?_⟩
      obtain ⟨m, em⟩ : ∃ m : Nat, 1 + v = (m : Int) := ⟨(1 + v).toNat, by omega⟩
      refine ⟨_, _, rfl, rfl, a, m, (show [V.ref a, V.int (1 + v)] = [V.ref a, V.int (m : Nat)] from by rw [em]), hP5, by omega, fun N2 nms H6 nN2 f6 hP6 hN6 hnl2 hnd2 _ => ?_⟩
      have f46 := f5.trans f6
      have n2a : N2 ≠ a := hP5.nw nN2
      have hq6 := f46.lst hq4 n5a
      have n25 : N2 ≠ D5 := fun z => by
        obtain ⟨ps, e⟩ := nN2 _ (z ▸ f5.lst hq4 n5a)
        cases e
      refine ⟨N2, rfl, ⟨_, .of hN6⟩, ?_⟩
      refine for_it (walk_list (K := K) (a := N2) (xs := nms.map V.str)) (fun i σ' H' => (∃ x y z u, σ' = [some (.ref a), some (.int 1), some (.int 3), some (.ref N1), some (.ref D4), some (.ref D5), x, y, z, u]) ∧ Fr K (fun c => c = a ∨ c = D5) H6 H' ∧ PoolAt H' a ∧
        ∃ (das : List Addr) (ds : List DealD), H' D5 = some (.lst (das.map V.ref)) ∧ Paired (DealAt K H') das ds ∧ ds.map (·.name) = nms.take i ∧ ∀ d ∈ ds, DealOk kn d) ⟨⟨_, _, _, _, rfl⟩, .refl _, hP6, [], [], hq6, .nil, rfl, fun _ h => absurd h List.not_mem_nil⟩ ?_ ?_ ?_
      · rintro i σ' H' _ ⟨_, f, _⟩
        exact .of (f.lst hN6 (fun z => z.elim n2a n25))
      · rintro i y σ' _ H' hi ⟨⟨x', y', z', u', rfl⟩, f7, hP7, das, ds, hq7, hp7, hn7, hok7⟩ ⟨rfl, hy⟩
        obtain ⟨dn, hdn, rfl⟩ := map_get hy
        rw [List.length_map] at hi
        refine ⟨_, rfl, _, rfl, a, 4, rfl, hP7, by decide, by decide, fun v8 H8 w80 w81 hP8 f8 => ?_⟩
        obtain ⟨mm, emm⟩ : ∃ m : Nat, 1 + v8 = (m : Int) := ⟨(1 + v8).toNat, by omega⟩
        refine ⟨_, _, rfl, rfl, a, mm, (show [V.ref a, V.int (1 + v8)] = [V.ref a, V.int (mm : Nat)] from by rw [emm]), hP8, by omega, fun ML ms H9 nML f9 hP9 hML hml hmnd => ?_⟩
        have hq9 := f9.lst (f8.lst hq7 n5a) n5a
        have hN9 := f9.lst (f8.lst (f7.lst (f46.lst hN4 nNa) (fun z => z.elim nNa n5N)) nNa) nNa
        have nMa : ML ≠ a := hP8.nw nML
        refine by_name ?_
        refine ⟨_, rfl, ML, rfl, ⟨_, .of hML⟩, fun LL hLL => ?_⟩
        have nLa : LL ≠ a := hP9.ne hLL
        have nL5 : D5 ≠ LL := fun z => by rw [← z, hq9] at hLL; cases hLL
        have nLM : ML ≠ LL := fun z => by rw [← z, hML] at hLL; cases hLL
        refine lc_it (walk_list (K := K) (a := ML) (xs := ms.map V.str)) (fun i H3 => Fr K (fun c => c = a) H9 H3 ∧ PoolAt H3 a ∧ ∃ (as : List Addr) (ls : List (Str × Str)), H3 LL = some (.lst (as.map V.ref)) ∧ Paired (PairAt K H3) as ls ∧ ls.map (·.1) = ms.take i ∧ ∀ l ∈ ls, l.2 = kn) ?_ ?_ ?_ ?_
        · have g : Fr0 K H9 (upd H9 LL (.lst [])) := .new hLL
          exact ⟨g.wide, hP9.fr0 g, [], [], upd_same, .nil, rfl, fun _ h => absurd h List.not_mem_nil⟩
        · rintro i H3 _ ⟨f3, _⟩
          exact .of (f3.lst hML nMa)
        · rintro j y _ H10 hj ⟨f10, hP10, as, ls, hq10, hp10, hn10, hk10⟩ ⟨rfl, hy⟩
          obtain ⟨mk, hmk, rfl⟩ := map_get hy
          rw [List.length_map] at hj
          have hN10 := f10.lst hN9 nNa
          refine ⟨rfl, _, rfl, _, rfl, _, rfl, _, rfl, N1, _, rfl, .inl (.of hN10), a, _, rfl, hP10, (by show (0 : Int) < 1; decide), (by show (1 : Int) < 1000; decide), fun v9 H11 x0 x1 hP11 f11 => ?_⟩
          have v9' : v9 = 0 := by have x1 : v9 < 1 := x1; omega
          subst v9'
          refine ⟨N1, _, _, .str kn, rfl, rfl, .of (f11.lst hN10 nNa), at_of (show (0 : Int) = ((0 : Nat) : Int) from rfl) rfl, (by show 2 ≤ sizeLine; decide), fun t ht => ?_⟩
          have g12 : Fr0 K H11 (upd H11 t (.tup [.str mk, .str kn])) := .new ht
          have ht12 : PairAt K (upd H11 t (.tup [.str mk, .str kn])) t (mk, kn) := .of upd_same
          have hq12 := g12.lst (f11.lst hq10 nLa) (fun z => z)
          have hP12 := hP11.fr0 g12
          generalize upd H11 t (.tup [.str mk, .str kn]) = H12 at g12 ht12 hq12 hP12 ⊢
          have f13' : Fr K (fun c => c = LL) H12 (upd H12 LL (.lst (as.map V.ref ++ [V.ref t]))) := .at_ rfl hq12 trivial
          have f102 := f11.trans g12.wide
          have ll : ls.length = j := by
            have := congrArg List.length hn10
            rw [List.length_map, List.length_take] at this
            omega
          refine ⟨_, hq12, by rw [List.length_map, pd_len hp10]; exact small1000 (by omega), (f10.trans f102).own (.of hLL) hq12 trivial, hP12.fr f13' nLa.symm, as ++ [t], ls ++ [(mk, kn)], by rw [List.map_append]; exact upd_same, pd_snoc (pd_map hp10 fun _ _ z => f13'.tup (f102.tup z)) (f13'.tup ht12), by rw [take_snoc hmk, List.map_append, hn10] <;> rfl, fun l hl => ?_⟩
          rcases List.mem_append.mp hl with z | z
          · exact hk10 l z
          · rw [List.mem_singleton.mp z]
        · rintro H10 ⟨f10, hP10, las, ls, hq10, hp10, hn10, hk10⟩
          rw [List.length_map, List.take_length] at hn10
          have hq10' := f10.lst hq9 n5a
          have hML10 := f10.lst hML nMa
          refine ⟨_, rfl, .inl ⟨rfl, _, .of hq10'⟩, _, rfl, _, rfl, [LL], mut_lst hq10, fun H11 z11 => ?_⟩
          obtain ⟨f11, q11, o11⟩ := frz_own (K := K) f10 (.of hLL) hq10 z11
          have hP11 := hP10.fr o11 nLa.symm
          refine ⟨_, rfl, _, rfl, a, ML, ms, rfl, hP11, o11.lst hML10 nLM, by omega, by omega, fun SL sas sps H12 nSL f12' hP12 hSL hsp hslen hsok => ⟨[SL], mut_lst hSL, fun H13 z13 => ?_⟩⟩
          have nSa : SL ≠ a := hP11.nw nSL
          obtain ⟨f13', q13, o13⟩ := frz_own (K := K) f12' nSL hSL z13
          have hP13 := hP12.fr o13 nSa.symm
          refine ⟨(by show 3 ≤ sizeLine; decide), fun t ht => ?_⟩
          have g14 : Fr0 K H13 (upd H13 t (.tup [.str dn, .ref LL, .ref SL])) := .new ht
          have ht14 : SqT K (upd H13 t (.tup [.str dn, .ref LL, .ref SL])) t [.str dn, .ref LL, .ref SL] := .of upd_same
          have hq14 := g14.lst (f13'.lst (f11.lst hq9 n5a) n5a) (fun z => z)
          have hP14 := hP13.fr0 g14
          generalize upd H13 t (.tup [.str dn, .ref LL, .ref SL]) = H14 at g14 ht14 hq14 hP14 ⊢
          have f15 : Fr K (fun c => c = D5) H14 (upd H14 D5 (.lst (das.map V.ref ++ [V.ref t]))) := .at_ rfl hq14 trivial
          have f914 : Fr K (fun c => c = a) H9 H14 := (f11.trans f13').trans g14.wide
          have f714 : Fr K (fun c => c = a) H' H14 := (f8.trans f9).trans f914
          have fAll : Fr K (fun c => c = a ∨ c = D5) H' (upd H14 D5 (.lst (das.map V.ref ++ [V.ref t]))) := (f714.mono fun c z => .inl z).trans (f15.mono fun c z => .inr z)
          have oL : Fr K (fun c => c = LL ∨ c = a ∨ c = D5) H10 (upd H14 D5 (.lst (das.map V.ref ++ [V.ref t]))) := ((o11.mono fun c z => .inl z).trans (((f13'.trans g14.wide).mono fun c z => .inr (.inl z)))).trans (f15.mono fun c z => .inr (.inr z))
          have oS : Fr K (fun c => c = SL ∨ c = D5) H12 (upd H14 D5 (.lst (das.map V.ref ++ [V.ref t]))) := ((o13.mono fun c z => .inl z).trans g14.wide).trans (f15.mono fun c z => .inr z)
          have dl : ds.length = i := by
            have := congrArg List.length hn7
            rw [List.length_map, List.length_take] at this
            omega
          have lsl : ls.length = mm := by
            have := congrArg List.length hn10
            rw [List.length_map] at this
            omega
          refine ⟨D5, _, _, rfl, rfl, hq14, by rw [List.length_map, pd_len hp7]; exact small1000 (by omega), ⟨_, _, _, _, rfl⟩, f7.trans fAll, hP14.fr f15 n5a.symm, das ++ [t], ds ++ [⟨dn, ls, sps⟩], by rw [List.map_append]; exact upd_same, ?_, by rw [take_snoc hdn, List.map_append, hn7] <;> rfl, fun d hd => ?_⟩
          · refine pd_snoc (pd_map hp7 fun _ _ z => fAll.deal z) ⟨LL, SL, f15.tup ht14, ⟨las, ?_, pd_map hp10 fun _ _ z => oL.tup z⟩, ⟨sas, ?_, pd_map hsp fun _ _ z => oS.tup z⟩⟩
            · exact f15.fzl (g14.fzl (f13'.fzl q11))
            · exact f15.fzl (g14.fzl q13)
          · rcases List.mem_append.mp hd with z | z
            · exact hok7 d z
            · rw [List.mem_singleton.mp z]
              refine ⟨⟨by show 1 ≤ ls.length; omega, by show ls.length ≤ 4; omega⟩, by show (ls.map (·.1)).Nodup; rw [hn10]; exact hmnd, hk10, hslen, fun p hp => ?_⟩
              obtain ⟨h1, h2⟩ := hsok p hp
              exact ⟨h1, by show p.2 ∈ ls.map (·.1); rw [hn10]; exact h2⟩
      · rintro σ' H' ⟨⟨x', y', z', u', rfl⟩, f7, hP7, das, ds, hq7, hp7, hn7, hok7⟩
        rw [List.length_map, List.take_length] at hn7
        have hk7 := f7.lst (f46.lst hk4 n4a) (fun z => z.elim n4a n54)
        have f17 : Fr K (fun c => c = a) H H' := ((((f14.trans f46).mono fun c z => .inl z).trans f7).narrow fun c hc => hc.elim .inl fun e => .inr (by rw [e]; exact nD5))
        refine ⟨_, rfl, [D4], mut_lst hk7, fun H8 z8 => ?_⟩
        obtain ⟨f8, q8, o8⟩ := frz_own (K := K) f17 nD4 hk7 z8
        have hq8 := o8.lst hq7 (fun z => n54 z.symm)
        refine ⟨_, rfl, [D5], mut_lst hq8, fun H9 z9 => ?_⟩
        obtain ⟨f9, q9, o9⟩ := frz_own (K := K) f8 nD5 hq8 z9
        refine ⟨(by show 2 ≤ sizeLine; decide), fun bk hbk => ?_⟩
        have g10 : Fr0 K H9 (upd H9 bk (.tup [.ref D4, .ref D5])) := .new hbk
        have o79 : Fr K (fun c => c = D4 ∨ c = D5) H' H9 := (o8.mono fun c z => .inl z).trans (o9.mono fun c z => .inr z)
        have o4 : Fr K (fun c => c = a ∨ c = D4 ∨ c = D5) H4 H9 := ((f46.mono fun c z => .inl z).trans (f7.mono fun c z => z.elim .inl fun z => .inr (.inr z))).trans (o79.mono fun c z => .inr z)
        have dl : ds.length = m := by
          have := congrArg List.length hn7
          rw [List.length_map] at this
          omega
        refine q bk ⟨[k], ds⟩ _ (f9.trans g10.wide) ⟨D4, D5, .of upd_same, ⟨kas, g10.fzl (o9.fzl q8), pd_map hkp4 fun _ _ z => g10.tup (o4.tup z)⟩, ⟨das, g10.fzl q9, pd_map hp7 fun _ _ z => g10.deal (o79.deal z)⟩⟩ ⟨⟨kn, k.2, ?_, hok7⟩, ⟨by show 1 ≤ ds.length; omega, by show ds.length ≤ 3; omega⟩, ?_⟩ ?_
        · show [k] = [(kn, k.2)]
          rw [← hkn]
        · show (ds.map (·.name)).Nodup
          rw [hn7]; exact hnd2
        · intro p hp
          rw [List.mem_singleton.mp (show p ∈ [k] from hp), hkn]
          exact hnok kn (.head _)
end
end Sn
set_option Elab.async false
set_option linter.all false
set_option maxRecDepth 100000
set_option maxHeartbeats 4000000
namespace Sn
open PySem PySem.Spec PyProof.Rows L2
theorem shaped_flat (l : List Nat) : (natL l).all flatV = true := List.all_eq_true.mpr fun v hv => by
  obtain ⟨s, _, rfl⟩ := List.mem_map.mp hv
  rfl
theorem index_nat {l : List Nat} {x : Nat} (hx : x ∈ l) : ∃ j : Nat, l[j]? = some x ∧ (natL l).all flatV = true ∧ (natL l)[j]? = some (.int (x : Nat)) ∧ eqV (.int (x : Nat)) (.int (x : Nat)) = true ∧ ∀ (m : Nat) (z' : V), m < j → (natL l)[m]? = some z' → eqV z' (.int (x : Nat)) = false := by
  obtain ⟨j, h1, h2⟩ := first_at hx
  refine ⟨j, h1, ?_, get_map h1, by rw [eqV_int]; exact decide_eq_true rfl, fun m z' hm hz => ?_⟩
  · refine List.all_eq_true.mpr fun v hv => ?_
    obtain ⟨s, _, rfl⟩ := List.mem_map.mp hv
    rfl
  · obtain ⟨y, hy, rfl⟩ := map_get hz
    rw [eqV_int]
    exact decide_eq_false fun e => h2 m y hm hy (Int.ofNat.inj e)
theorem cut_natL (l : List Nat) (j : Nat) (h : j ≤ l.length) : cutV (natL l) (some (j : Nat)) none = natL (l.drop j) := by
  unfold cutV
  rw [HT.sIx_nat, HT.sIx_none, natL_len, Nat.min_eq_left h]
  show List.take (l.length - j) (List.drop j (l.map _)) = (l.drop j).map _
  rw [← List.map_drop, List.take_of_length_le (by rw [List.length_map, List.length_drop]; exact Nat.le_refl _)]
section
variable {P : Program} {w : World} {K : PySem.W.Frag} {mg : Str → Option Value} {base : Heap} {S : Addr → Prop} {H H1 : Hp}
def PNat (K : PySem.W.Frag) (H : Hp) (a : Addr) (p : Nat × Nat) : Prop := SqT K H a [.int (p.1 : Nat), .int (p.2 : Nat)]
def spLGone (K : PySem.W.Frag) : Sp := fun vs H Q _ => ∃ (a pl : Addr) (s n : Nat) (as : List Addr) (ps : List (Nat × Nat)) (ds : List DM), vs = [.ref a, .ref pl, .int (s : Nat)] ∧ PoolAt H a ∧ pl ≠ a ∧ H pl = some (.lst (as.map V.ref)) ∧ Paired (PNat K H) as ps ∧ ps.length < 1000 ∧
  WF n ds ∧ (∀ p ∈ ps, Edge ds p.1 p.2) ∧ ∀ (r : Addr) (p : List Nat) H', Nw H r → Fr K (fun c => c = a) H H' → PoolAt H' a → H' r = some (.lst (natL p)) → (p = [] ∨ Ring ds p) → Q (.ref r) H'
theorem ring_of_walk {ds : List DM} {n : Nat} (W : WF n ds) {row : List Nat} {y i : Nat} (nd : row.Nodup) (ch : ∀ (i : Nat) x z, row[i]? = some x → row[i + 1]? = some z → Edge ds x z) (hi : row[i]? = some y)
    (hl : ∀ x, row[row.length - 1]? = some x → Edge ds x y) : Ring ds (row.drop i) := by
  have il := (List.getElem?_eq_some_iff.mp hi).1
  obtain ⟨l, hl1⟩ : ∃ l, row[row.length - 1]? = some l := ⟨_, List.getElem?_eq_getElem (by omega)⟩
  have dl : (row.drop i).length = row.length - i := List.length_drop ..
  have hy : (row.drop i)[0]? = some y := by rw [List.getElem?_drop]; exact hi
  have hlast : (row.drop i)[(row.drop i).length - 1]? = some l := by
    rw [List.getElem?_drop, dl, ← hl1]
    congr 1
    omega
  have e0 := hl l hl1
  refine ⟨nd.sublist (List.drop_sublist _ _), ?_, fun k x hx => ?_⟩
  · rw [dl]
    by_cases c : i = row.length - 1
    · exfalso
      rw [← c, hi] at hl1
      exact e0.ne W (Option.some.inj hl1).symm
    · omega
  · cases k with
    | zero =>
      rw [hy] at hx
      rw [preR_zero hlast, ← Option.some.inj hx]
      exact e0
    | succ k =>
      obtain ⟨z, hz⟩ : ∃ z, (row.drop i)[k]? = some z := ⟨_, List.getElem?_eq_getElem (by have := (List.getElem?_eq_some_iff.mp hx).1; omega)⟩
      rw [preR_succ hz]
      rw [List.getElem?_drop] at hz hx
      exact ch _ _ _ hz hx
theorem c_L_gone (T : Tx K mg) : C8.Cal P w K mg base 2 "_law_gone" (spLGone K) [] := by
  have c_L_draw : C8.Cal P w K mg base 1 "_law_draw" (spDraw K) [] := c_L_draw T
  refine T.cal T.D_L_gone T.g_L_gone b_L_gone sc_L_gone (fun vs H Q E h => ?_) (fun cdv A outer s H vs Q E hr h => ?_)
  · obtain ⟨a, pl, st, n, as, ps, ds, rfl, _⟩ := h
    rfl
  · obtain ⟨a, pl, st, n, as, ps, ds, rfl, hP, npa, hpl, hpp, h1000, W, hE, q⟩ := h
    refine ⟨_, (pss_cons (ps_set (i := 3) sc_L_gone.nd rfl (Or.inr rfl) (pe_lst (pa_cons (pv 2) pa_nil)))
      (pss_cons (ps_for PassesOwn.never rfl (pi_range1 rfl T.fr_range (pa_cons pe_int pa_nil)) (pg_name (i := 4) sc_L_gone.nd rfl (Or.inl rfl))
        (pss_cons (ps_setLc (i := 5) (own := [("_law_one", 7), ("_law_other", 8)]) (by rfl) sc_L_gone.nd rfl rfl (sw_true rfl rfl rfl (by decide +kernel)) (pi_list (pv 1)) (blkOk_by (own := [("_law_one", 7), ("_law_other", 8)]) (N := n_L_gone) (sc := defScope s_L_gone) (by decide +kernel)) (fun _ _ _ _ _ => (pg_tupK (K := K) (n := 2) rfl rfl (pgs_cons (pg_name (i := 7) sc_L_gone.nd rfl (Or.inl rfl)) (pgs_cons (pg_name (i := 8) sc_L_gone.nd rfl (Or.inl rfl)) pgs_nil)))) (fun _ _ _ _ _ => (pts_one (pt_cmpR op_eq (pv 7) (pe_ix (ix_listK (K := K) rfl) (pv 3) (pe_un un_neg pe_int) (fun _ _ => rfl)) (nomark _)))) (fun _ _ _ _ _ => (pv 8)))
        (pss_cons (ps_if (pt_cmpR (op_eqD hr.units) (pv 5) (pe_lst pa_nil) (nomark _))
          (pss_one (ps_ret (pe_lst pa_nil)))
          pss_nil)
        (pss_cons (ps_set (i := 6) sc_L_gone.nd rfl (Or.inl rfl) (pe_ix ix_list (pv 5) (C8.pe_c c_L_draw hr (by decide) rfl (pa_cons (pv 0) (pa_cons (pe_callB call_len_seq (by rfl) T.fr_len bt_len (pa_cons (pv 5) pa_nil)) pa_nil))) (fun _ _ => rfl)))
        (pss_cons (ps_if (pt_cmpR op_in_seq (pv 6) (pv 3) (by rfl))
          (pss_one (ps_ret (pe_slice sl_list (pv 3) (po_some (pe_bm PySem.F.plainAttrs_list PySem.F.slot_list_index PySem.F.type_list_index mt_index (pv 3) (pa_cons (pv 6) pa_nil))) po_none)))
          pss_nil)
        (pss_one (ps_expr (pe_bm PySem.F.plainAttrs_list PySem.F.slot_list_append PySem.F.type_list_append mt_append (pv 3) (pa_cons (pv 6) pa_nil)))))))))
      (pss_one (ps_ret (pe_lst pa_nil))))), ?_⟩
    have asl : as.length = ps.length := pd_len hpp
    refine ⟨_, rfl, (by show 1 ≤ sizeLine; decide), fun R hR => ?_⟩
    have g1 : Fr0 K H (upd H R (.lst [.int (st : Nat)])) := .new hR
    have hR1 : upd H R (.lst [.int (st : Nat)]) R = some (.lst (natL [st])) := upd_same
    have nRa : R ≠ a := hP.ne hR
    have nRp : pl ≠ R := fun z => by rw [← z, hpl] at hR; cases hR
    have hP1 := hP.fr0 g1
    generalize upd H R (.lst [.int (st : Nat)]) = H1 at g1 hR1 hP1 ⊢
    refine ⟨_, rfl, by decide, by decide, ?_⟩
    refine for_it (walk_range (lo := 0)) (fun k σ' H' => (∃ x y z, σ' = [some (.ref a), some (.ref pl), some (.int (st : Nat)), some (.ref R), x, y, z, none, none]) ∧ Fr K (fun c => c = a) H H' ∧ PoolAt H' a ∧
      ∃ row : List Nat, H' R = some (.lst (natL row)) ∧ row.length = k + 1 ∧ row.Nodup ∧ ∀ (i : Nat) x z, row[i]? = some x → row[i + 1]? = some z → Edge ds x z)
      ⟨⟨none, none, none, rfl⟩, g1.wide, hP1, [st], hR1, rfl, by simp, fun i x z _ e => by simp at e⟩ (fun _ _ _ _ _ => trivial) ?_ ?_
    · rintro k _ σ' _ H' hk ⟨⟨x', y', z', rfl⟩, f, hP', row, hq, hl, hnd, hch⟩ ⟨rfl, rfl⟩
      have hk : k < 13 := hk
      have hpl' := f.lst hpl npa
      obtain ⟨l, hl1⟩ : ∃ l, row[row.length - 1]? = some l := ⟨_, List.getElem?_eq_getElem (by omega)⟩
      obtain ⟨r0, hr0⟩ : ∃ r, row[0]? = some r := ⟨_, List.getElem?_eq_getElem (by omega)⟩
      have hlast : atI (natL row) (-1) = some (.int (l : Nat)) := by
        have := at_pre hr0
        rw [preR_zero hl1] at this
        exact this
      refine ⟨_, rfl, pl, rfl, ⟨_, .of hpl'⟩, fun D hD => ?_⟩
      refine lc_it (walk_list (K := K) (a := pl) (xs := as.map V.ref)) (fun i H2 => Fr0 K H' H2 ∧ ∃ os : List Nat, H2 D = some (.lst (natL os)) ∧ os.length ≤ i ∧ ∀ o ∈ os, Edge ds l o) ⟨.new hD, [], upd_same, Nat.le_refl _, fun _ h => absurd h List.not_mem_nil⟩ ?_ ?_ ?_
      · rintro i H2 _ ⟨g, _⟩
        exact .of (g.lst hpl' (fun z => z))
      · rintro i y _ H2 hi ⟨g, os, hqD, hol, hos⟩ ⟨rfl, hy⟩
        obtain ⟨t, e1, rfl⟩ := map_get hy
        obtain ⟨pr, e2, ht⟩ := pd_getL hpp e1
        rw [List.length_map] at hi
        refine ⟨t, _, rfl, g.tup (f.tup ht), rfl, _, _, rfl, _, _, rfl, rfl, rfl, ?_⟩
        refine ⟨_, rfl, _, rfl, _, rfl, R, _, _, .int (l : Nat), rfl, rfl, .of (g.lst hq (fun z => z)), hlast, rfl, _, rfl, ite2 (fun c => ?_) (fun c => ?_)⟩
        · have c := V.int.inj (of_decide_eq_true c)
          refine ⟨_, rfl, _, hqD, by rw [natL_len]; exact small1000 (by omega), g.own (.of hD) hqD trivial, os ++ [pr.2], by rw [natL_snoc]; exact upd_same, by rw [List.length_append, List.length_singleton]; omega, fun o ho => ?_⟩
          rcases List.mem_append.mp ho with z | z
          · exact hos o z
          · rw [List.mem_singleton.mp z, ← Int.ofNat.inj c]
            exact hE pr (List.mem_of_getElem? e2)
        · exact ⟨g, os, hqD, by omega, hos⟩
      · rintro H2 ⟨g2, os, hqD, hol, hos⟩
        rw [List.length_map] at hol
        have f2 := f.trans (g2.wide (S := fun c => c = a))
        have hP2 := hP'.fr0 g2
        have hq2 := g2.lst hq (fun z => z)
        refine by_name ?_
        refine when_by (fun c H3 => Fr0 K H2 H3 ∧ c = os.isEmpty) (fun Q hQ => ?_) (fun H3 ⟨g3, _⟩ => ?_) (fun H3 ⟨g3, ho⟩ => ?_)
        · refine ⟨_, rfl, Nat.zero_le _, fun z hz => ?_⟩
          have g3 : Fr0 K H2 (upd H2 z (.lst [])) := .new hz
          exact eqD_nil (SqL.of (g3.lst hqD (fun z => z))) (.of upd_same) ⟨_, rfl, hQ _ _ ⟨g3, rfl⟩⟩
        · refine ⟨Nat.zero_le _, fun z hz => ?_⟩
          have g4 : Fr0 K H3 (upd H3 z (.lst [])) := .new hz
          have hP3 := hP2.fr0 g3
          have f3 := f2.trans (g3.wide (S := fun c => c = a))
          exact q z [] _ (f3.nw (hP3.ne hz) (.of hz)) (f3.trans g4.wide) (hP3.fr0 g4) upd_same (.inl rfl)
        · have hP3 := hP2.fr0 g3
          have f3 := f2.trans (g3.wide (S := fun c => c = a))
          have hqD3 := g3.lst hqD (fun z => z)
          have hq3 := g3.lst hq2 (fun z => z)
          have ol : 0 < os.length := by
            cases os with
            | nil => cases ho
            | cons _ _ => exact Nat.succ_pos _
          have nDa : D ≠ a := hP'.ne hD
          refine ⟨_, rfl, _, rfl, _, rfl, D, _, rfl, .inl (.of hqD3), a, _, rfl, hP3, by rw [natL_len]; omega, by rw [natL_len]; omega, fun v H4 v0 v1 hP4 f4 => ?_⟩
          obtain ⟨v, rfl⟩ : ∃ k : Nat, v = (k : Int) := ⟨v.toNat, by omega⟩
          rw [natL_len] at v1
          obtain ⟨o, ho⟩ : ∃ o, os[v]? = some o := ⟨_, List.getElem?_eq_getElem (show v < os.length by omega)⟩
          have hq4 := f4.lst hq3 nRa
          have f04 := f3.trans f4
          refine ⟨D, _, _, .int (o : Nat), rfl, rfl, .of (f4.lst hqD3 nDa), at_of rfl (get_map ho), ?_⟩
          refine by_name ?_
          have hlo := hos o (List.mem_of_getElem? ho)
          refine ⟨_, rfl, _, rfl, R, _, rfl, .inl (.of hq4), rfl, shaped_flat row, _, rfl, ?_⟩
          show if inV (V.int (o : Nat)) (natL row) = true then _ else _
          rw [inV_nat]
          by_cases c : o ∈ row
          · rw [decide_eq_true c]
            obtain ⟨j', hjx, i1, i2, i3, i4⟩ := index_nat c
            have jl := (List.getElem?_eq_some_iff.mp hjx).1
            refine ⟨_, rfl, _, rfl, .inl ⟨rfl, _, .of hq4⟩, _, rfl, R, _, _, j', _, rfl, rfl, .of hq4, rfl, i1, i2, i3, i4, _, rfl, R, _, rfl, .of hq4, fun z hz => ?_⟩
            rw [cut_natL row j' (by omega)]
            have g5 : Fr0 K H4 (upd H4 z (.lst (natL (row.drop j')))) := .new hz
            refine q z (row.drop j') _ (f04.nw (hP4.ne hz) (.of hz)) (f04.trans g5.wide) (hP4.fr0 g5) upd_same (.inr (ring_of_walk W hnd hch hjx fun x hx => ?_))
            rw [hl1] at hx
            rw [← Option.some.inj hx]
            exact hlo
          · rw [decide_eq_false c]
            have f5 : Fr K (fun c => c = R) H4 (upd H4 R (.lst (natL row ++ [V.int (o : Nat)]))) := .at_ rfl hq4 trivial
            refine ⟨_, rfl, .inl ⟨rfl, _, .of hq4⟩, _, rfl, R, _, _, rfl, rfl, hq4, by rw [natL_len]; exact small1000 (by omega), ⟨_, _, _, rfl⟩, f04.own (.of hR) hq4 trivial, hP4.fr f5 nRa.symm, row ++ [o], by rw [natL_snoc]; exact upd_same, by rw [List.length_append, List.length_singleton]; omega, ?_, fun i x z e1 e2 => ?_⟩
            · refine List.nodup_append.mpr ⟨hnd, by simp, fun u hu v hv e => ?_⟩
              rw [e, List.mem_singleton.mp hv] at hu
              exact c hu
            · by_cases ci : i + 1 < row.length
              · rw [List.getElem?_append_left (by omega)] at e1
                rw [List.getElem?_append_left ci] at e2
                exact hch i x z e1 e2
              · have il := (List.getElem?_eq_some_iff.mp e2).1
                rw [List.length_append, List.length_singleton] at il
                have ei : i = row.length - 1 := by omega
                rw [List.getElem?_append_left (by omega), ei, hl1] at e1
                rw [List.getElem?_append_right (by omega), show i + 1 - row.length = 0 by omega] at e2
                rw [← Option.some.inj e1, ← Option.some.inj e2]
                exact hlo
    · rintro σ' H' ⟨⟨x', y', z', rfl⟩, f, hP', row, hq, hl, hnd, hch⟩
      refine ⟨Nat.zero_le _, fun z hz => ?_⟩
      have g : Fr0 K H' (upd H' z (.lst [])) := .new hz
      exact q z [] _ (f.nw (hP'.ne hz) (.of hz)) (f.trans g.wide) (hP'.fr0 g) upd_same (.inl rfl)
end
end Sn
set_option Elab.async false
set_option linter.all false
set_option maxRecDepth 100000
set_option maxHeartbeats 4000000
/-! Pairs of numbers as data; is not, of truth values. -/
namespace Sn
open PySem PySem.Spec PyProof.Rows L2
def pnD (p : Nat × Nat) : PyData := .tuple [.int (p.1 : Nat), .int (p.2 : Nat)]
section
variable {K : PySem.W.Frag} {H : Hp}
theorem dp_pn {a : Addr} {p : Nat × Nat} (h : PNat K H a p) : Dp K H (.ref a) (pnD p) := .tup h (.cons (.int _) (.cons (.int _) .nil))
theorem dpAll_pns : ∀ {as : List Addr} {ps : List (Nat × Nat)}, Paired (PNat K H) as ps → DpAll K H (as.map V.ref) (ps.map pnD)
  | _, _, .nil => .nil
  | _, _, .cons h t => .cons (dp_pn h) (dpAll_pns t)
theorem dp_pns {l : Addr} {as : List Addr} {ps : List (Nat × Nat)} (hl : SqL K H l (as.map V.ref)) (h : Paired (PNat K H) as ps) : Dp K H (.ref l) (.list (ps.map pnD)) := .lst hl (dpAll_pns h)
theorem can_pns : ∀ ps : List (Nat × Nat), PyData.canLayAll0 (ps.map pnD) = true ∧ PyData.depthAll (ps.map pnD) ≤ 1
  | [] => ⟨rfl, Nat.zero_le _⟩
  | p :: ps => by
    obtain ⟨i1, i2⟩ := can_pns ps
    rw [List.map_cons]
    refine ⟨?_, ?_⟩
    · simp only [PyData.canLayAll0, pnD, PyData.canLay0, i1, Bool.and_true, Bool.true_and]
    · simp only [PyData.depthAll, pnD, PyData.depth]
      omega
theorem shaped_pn (p : Nat × Nat) : SeqAt.shaped (pnD p) = true := by
  unfold SeqAt.shaped pnD
  simp only [PyData.canLayAll0, PyData.canLay0, PyData.depth, PyData.depthAll]
  rfl
theorem shaped_pns (ps : List (Nat × Nat)) : SeqAt.shaped (.list (ps.map pnD)) = true := by
  obtain ⟨h1, h2⟩ := can_pns ps
  unfold SeqAt.shaped
  rw [show PyData.canLay0 (.list (ps.map pnD)) = true from h1, Bool.true_and]
  exact decide_eq_true (show PyData.depthAll (ps.map pnD) + 1 ≤ 64 by omega)
theorem eqv_pn (p q : Nat × Nat) : PyData.eqv (pnD p) (pnD q) = decide (p = q) := by
  obtain ⟨a, b⟩ := p
  obtain ⟨c, d⟩ := q
  simp only [pnD, PyData.eqv, PyData.eqvAll, Bool.and_true]
  by_cases h1 : a = c
  · subst h1
    by_cases h2 : b = d
    · subst h2; simp
    · have h3 : ¬ ((b : Int) = (d : Int)) := fun z => h2 (Int.ofNat.inj z)
      simp [h2, h3]
  · have h3 : ¬ ((a : Int) = (c : Int)) := fun z => h1 (Int.ofNat.inj z)
    simp [h1, h3]
theorem any_pn (p : Nat × Nat) : ∀ ps : List (Nat × Nat), ((ps.map pnD).any fun z => PyData.eqv z (pnD p)) = decide (p ∈ ps)
  | [] => by simp
  | x :: xs => by
    rw [List.map_cons, List.any_cons, any_pn p xs, eqv_pn]
    by_cases h : x = p
    · subst h; simp
    · have h2 : ¬ p = x := fun z => h z.symm
      simp [h, h2]
theorem inD_pn {a l : Addr} {as : List Addr} {p : Nat × Nat} {ps : List (Nat × Nat)} {Q : VK} (hp : PNat K H a p) (hl : SqL K H l (as.map V.ref)) (h : Paired (PNat K H) as ps) (q : Q (.bl (decide (p ∈ ps))) H) : rInD K (.ref a) (.ref l) H Q :=
  ⟨pnD p, ps.map pnD, dp_pn hp, dp_pns hl h, shaped_pn p, shaped_pns ps, by rw [any_pn]; exact q⟩
theorem neD_pns {l c : Addr} {as : List Addr} {ps : List (Nat × Nat)} {Q : VK} (hl : SqL K H l (as.map V.ref)) (h : Paired (PNat K H) as ps) (hc : SqL K H c []) (q : Q (.bl (!ps.isEmpty)) H) : rNeD K (.ref l) (.ref c) H Q :=
  ⟨_, _, dp_pns hl h, .lst hc .nil, shaped_pns ps, rfl, by
    rw [eqv_nil, show (ps.map pnD).isEmpty = ps.isEmpty from by cases ps <;> rfl]
    exact q⟩
theorem neD_nat {l c : Addr} {ns : List Nat} {Q : VK} (hl : SqL K H l (natL ns)) (hc : SqL K H c []) (q : Q (.bl (!ns.isEmpty)) H) : rNeD K (.ref l) (.ref c) H Q :=
  ⟨_, _, .lst hl (dpAll_nat ns), .lst hc .nil, shaped_nat ns, rfl, by
    rw [eqv_nil, show (ns.map fun (j : Nat) => PyData.int (j : Nat)).isEmpty = ns.isEmpty from by cases ns <;> rfl]
    exact q⟩
end
theorem op_isNotB {X : Cx} : OpR X (compareOp .IsNot) (fun x y H Q => ∃ a b, x = .bl a ∧ y = .bl b ∧ Q (.bl (a != b)) H) := by
  intro pins s σ H x y v u Q I rx ry h
  obtain ⟨a, b, rfl, rfl, q⟩ := h
  cases (show v = Value.bool a from rx)
  cases (show u = Value.bool b from ry)
  exact isnot_bool ⟨.bl (a != b), H, I, rfl, q⟩
end Sn
set_option Elab.async false
set_option linter.all false
set_option maxRecDepth 100000
set_option maxHeartbeats 4000000
namespace Sn
open PySem PySem.Spec PyProof.Rows L2
section
variable {P : Program} {w : World} {K : PySem.W.Frag} {mg : Str → Option Value} {base : Heap} {S : Addr → Prop} {H H1 : Hp} {b : BookD} {rs : List RowM}
def SpansL (K : PySem.W.Frag) (H : Hp) (l : Addr) (ds : List DM) : Prop := ∃ as : List Addr, H l = some (.lst (as.map V.ref)) ∧ Paired (fun a (d : DM) => ∃ e, d.ended = some e ∧ SpanAt K H a d.begun e) as ds
theorem SpansL.fr0 {l : Addr} {ds : List DM} (h : SpansL K H l ds) (f : Fr0 K H H1) : SpansL K H1 l ds := by
  obtain ⟨as, h1, h2⟩ := h
  exact ⟨as, f.lst h1 (fun z => z), pd_map h2 fun _ _ ⟨e, h3, h4⟩ => ⟨e, h3, f.span h4 (fun z => z)⟩⟩
def PairsL (K : PySem.W.Frag) (H : Hp) (l : Addr) (ps : List (Nat × Nat)) : Prop := ∃ as : List Addr, H l = some (.lst (as.map V.ref)) ∧ Paired (PNat K H) as ps
theorem PairsL.fr0 {l : Addr} {ps : List (Nat × Nat)} (h : PairsL K H l ps) (f : Fr0 K H H1) : PairsL K H1 l ps := by
  obtain ⟨as, h1, h2⟩ := h
  exact ⟨as, f.lst h1 (fun z => z), pd_map h2 fun _ _ z => f.tup z⟩
def PastL (ds : List DM) (ps : List (Nat × Nat)) : Prop := ∀ i j, (i, j) ∈ ps ↔ ∃ k, Must ds i j ("past" : Str) k
def spLRight (K : PySem.W.Frag) : Sp := fun vs H Q _ => ∃ (bk l r pl sl : Addr) (b : BookD) (rs : List RowM) (p : List Nat) (ps : List (Nat × Nat)), vs = [.ref bk, .ref l, .ref r, .ref pl, .ref sl] ∧ RunAt K H bk l b rs ∧ H r = some (.lst (natL p)) ∧ Ring (play rs) p ∧
  PairsL K H pl ps ∧ PastL (play rs) ps ∧ SpansL K H sl (play rs) ∧ ∀ H', Fr0 K H H' → Q (.bl true) H'
theorem at_nxt {p : List Nat} {i x : Nat} (h : p[nxt p i]? = some x) : atI (natL p) (((i : Nat) + 1 : Int) % (p.length : Nat)) = some (.int (x : Nat)) := by
  refine at_of (j := nxt p i) ?_ (get_map h)
  exact (Int.natCast_emod (i + 1) p.length).symm
theorem c_L_right (T : Tx K mg) (B : TbB K mg base) : C8.Cal P w K mg base 8 "_law_right" (spLRight K) [] := by
  have c_is_ring : C8.Cal P w K mg base 7 "is_ring" (spIsRing K) [] := c_is_ring T B
  have c_between : C8.Cal P w K mg base 7 "between" (spBetween K) [] := c_between T B
  have m_overlaps : C8.Met P w K mg base 1 (He.ga K "Span") "overlaps" (spOverlaps K) [] := m_overlaps T
  refine T.cal T.D_L_right T.g_L_right b_L_right sc_L_right (fun vs H Q E h => ?_) (fun cdv A outer s H vs Q E hr h => ?_)
  · obtain ⟨bk, l, r, pl, sl, b, rs, p, ps, rfl, _⟩ := h
    rfl
  · obtain ⟨bk, l, r, pl, sl, b, rs, p, ps, rfl, hrun, hr0, R, hpl, hpast, hsl, q⟩ := h
    refine ⟨_, (pss_cons (ps_if (pt_cmpR op_isNotB (C8.pe_c c_is_ring hr (by decide) rfl (pa_cons (pv 0) (pa_cons (pv 1) (pa_cons (pv 2) pa_nil)))) pe_bl (nomark _))
        (pss_one (ps_ret pe_bl))
        pss_nil)
      (pss_cons (ps_set (i := 5) sc_L_right.nd rfl (Or.inl rfl) (C8.pe_c c_between hr (by decide) rfl (pa_cons (pv 0) (pa_cons (pv 1) pa_nil))))
      (pss_cons (ps_for PassesOwn.never rfl (pi_enum (by rfl) T.fr_enumerate (pa_cons (pv 2) pa_nil)) (pg_tup rfl (pgs_cons (pg_name (i := 6) sc_L_right.nd rfl (Or.inl rfl)) (pgs_cons (pg_name (i := 7) sc_L_right.nd rfl (Or.inl rfl)) pgs_nil)))
        (pss_cons (ps_set (i := 8) sc_L_right.nd rfl (Or.inl rfl) (pe_ix ix_list (pv 2) (pe_op op_sub (pv 6) pe_int) (fun _ _ => rfl)))
        (pss_cons (ps_set (i := 9) sc_L_right.nd rfl (Or.inl rfl) (pe_ix ix_list (pv 2) (pe_op op_mod (pe_op op_add (pv 6) pe_int) (pe_callB call_len_seq (by rfl) T.fr_len bt_len (pa_cons (pv 2) pa_nil))) (fun _ _ => rfl)))
        (pss_one (ps_if (PW.pt (pw_and (pt_cmpR op_in_seq (pv 7) (pv 5) (by rfl)) (pw_and (pt_cmpR (op_inD (u65_of hr)) (pe_tup (pa_cons (pv 7) (pa_cons (pv 9) pa_nil))) (pv 3) (by rfl)) (pw_and1 (pt_cmpR (op_inD (u65_of hr)) (pe_tup (pa_cons (pv 8) (pa_cons (pv 7) pa_nil))) (pv 3) (by rfl))))))
          (pss_one (ps_if (PW.pt (pw_and (pt_val (C8.pe_mt m_overlaps hr (by decide) (pe_ix ix_list (pv 4) (pv 7) (fun _ _ => rfl)) (pa_cons (pe_ix ix_list (pv 4) (pv 9) (fun _ _ => rfl)) pa_nil))) (pw_and1 (pt_val (C8.pe_mt m_overlaps hr (by decide) (pe_ix ix_list (pv 4) (pv 7) (fun _ _ => rfl)) (pa_cons (pe_ix ix_list (pv 4) (pv 8) (fun _ _ => rfl)) pa_nil))))))
            (pss_one (ps_ret pe_bl))
            pss_nil))
          pss_nil)))))
      (pss_one (ps_ret pe_bl))))), ?_⟩
    have W := wf_play hrun.run.goes
    obtain ⟨i0, x0, y0, h0x, h0y, hs1, hs2⟩ := ring_pivot W R
    refine ⟨_, rfl, _, rfl, _, rfl, bk, l, r, b, rs, p, rfl, hrun, (fun H' g => .of (g.lst hr0 (fun z => z))), R, fun H1 g1 => ?_⟩
    refine ⟨_, _, rfl, rfl, _, rfl, ?_⟩
    show if (true != true) = true then _ else _
    rw [if_neg (by decide)]
    refine ⟨_, rfl, _, rfl, bk, l, b, rs, rfl, hrun.fr g1, fun bl bs H2 nbl g2 hbl hb40 hbet => ?_⟩
    have g12 := g1.trans g2
    have hr2 := g12.lst hr0 (fun z => z)
    refine by_name ?_
    refine ⟨_, rfl, r, _, rfl, .of hr2, ?_⟩
    have lp := R.len W
    refine for_it (walk_enum (K := K) (a := r) (xs := natL p)) (fun i σ' H' => (∃ x y z u, σ' = [some (.ref bk), some (.ref l), some (.ref r), some (.ref pl), some (.ref sl), some (.ref bl), x, y, z, u]) ∧ Fr0 K H2 H' ∧ i ≤ i0) ⟨⟨none, none, none, none, rfl⟩, .refl _, Nat.zero_le _⟩ ?_ ?_ ?_
    · rintro i σ' H' _ ⟨_, g, _⟩
      exact .of (g.lst hr2 (fun z => z))
    · rintro i y σ' H0 H' hi ⟨⟨x', y', z', u', rfl⟩, g, hi0⟩ ⟨t, u, v, rfl, ht, rfl, hu1, hu2⟩
      obtain rfl := Option.some.inj hu1
      obtain ⟨x, hx, rfl⟩ := natL_get hu2
      rw [natL_len] at hi
      have gt : Fr0 K H0 (upd H0 t (.tup [.int (i : Nat), .int (x : Nat)])) := .new ht
      have gg := g.trans gt
      refine ⟨t, _, rfl, .of upd_same, rfl, _, _, rfl, _, _, rfl, rfl, ?_⟩
      generalize upd H0 t (.tup [.int (i : Nat), .int (x : Nat)]) = H3 at gt gg ⊢
      have hr3 := gg.lst hr2 (fun z => z)
      obtain ⟨c, hc⟩ : ∃ c, p[nxt p i]? = some c := ⟨_, List.getElem?_eq_getElem (Nat.mod_lt _ (by omega))⟩
      have hA : preR p i ∈ standL (play rs) := (R.edge i x hx).left W
      have hB : x ∈ standL (play rs) := (R.edge i x hx).right W
      have hC : c ∈ standL (play rs) := R.sub W c (List.mem_of_getElem? hc)
      refine ⟨_, rfl, _, rfl, _, _, rfl, rfl, r, _, _, .int (preR p i : Nat), rfl, rfl, .of hr3, at_pre hx, ?_⟩
      refine by_name ?_
      refine ⟨_, rfl, _, rfl, _, _, rfl, rfl, _, rfl, r, _, rfl, .inl (.of hr3), _, _, rfl, rfl, (by rw [natL_len]; omega), r, _, _, .int (c : Nat), rfl, rfl, .of hr3, ?_, ?_⟩
      · rw [natL_len]; exact at_nxt hc
      refine by_name ?_
      have hbl3 := gg.lst hbl (fun z => z)
      obtain ⟨pas, hpa, hpp⟩ := hpl.fr0 (g12.trans gg)
      refine if_by (fun k H4 => Fr0 K H3 H4 ∧ (i = i0 → k = true)) (fun Q hQ => ?_) (fun H4 ⟨g4, _⟩ => ?_) (fun H4 ⟨g4, hk⟩ => ?_)
      · refine ⟨_, rfl, _, rfl, bl, _, rfl, .inl (.of hbl3), rfl, shaped_flat bs, _, rfl, ?_⟩
        show if inV (V.int (x : Nat)) (natL bs) = true then _ else _
        rw [inV_nat]
        by_cases c1 : x ∈ bs
        · rw [decide_eq_true c1]
          refine ⟨_, rfl, _, rfl, (by show 2 ≤ sizeLine; decide), fun t2 ht2 => ?_⟩
          have g4 : Fr0 K H3 (upd H3 t2 (.tup [.int (x : Nat), .int (c : Nat)])) := .new ht2
          refine ⟨_, rfl, inD_pn (p := (x, c)) (ps := ps) (.of upd_same) (.of (g4.lst hpa (fun z => z))) (pd_map hpp fun _ _ z => g4.tup z) ⟨_, rfl, ?_⟩⟩
          generalize upd H3 t2 (.tup [.int (x : Nat), .int (c : Nat)]) = H4 at g4 ⊢
          by_cases c2 : (x, c) ∈ ps
          · rw [decide_eq_true c2]
            refine ⟨_, rfl, _, rfl, (by show 2 ≤ sizeLine; decide), fun t3 ht3 => ?_⟩
            have g5 : Fr0 K H4 (upd H4 t3 (.tup [.int (preR p i : Nat), .int (x : Nat)])) := .new ht3
            have g45 := g4.trans g5
            refine ⟨_, rfl, inD_pn (p := (preR p i, x)) (ps := ps) (.of upd_same) (.of (g45.lst hpa (fun z => z))) (pd_map hpp fun _ _ z => g45.tup z) ⟨_, rfl, hQ _ _ ⟨g45, fun e => ?_⟩⟩⟩
            subst e
            rw [h0x] at hx
            refine decide_eq_true ((hpast _ _).mpr ?_)
            rw [← Option.some.inj hx]
            exact hs1.1
          · rw [decide_eq_false c2]
            refine hQ _ _ ⟨g4, fun e => ?_⟩
            subst e
            rw [h0x] at hx
            rw [h0y] at hc
            refine absurd ((hpast _ _).mpr ?_) c2
            rw [← Option.some.inj hx, ← Option.some.inj hc]
            exact hs2.1
        · rw [decide_eq_false c1]
          refine hQ _ _ ⟨.refl _, fun e => ?_⟩
          subst e
          rw [h0x] at hx
          refine absurd ((hbet x).mpr ?_) c1
          rw [← Option.some.inj hx]
          exact ⟨⟨_, hs2⟩, ⟨_, hs1⟩⟩
      · obtain ⟨dA, eA, SA⟩ := stands_of W hA
        obtain ⟨dB, eB, SB⟩ := stands_of W hB
        obtain ⟨dC, eC, SC⟩ := stands_of W hC
        have gall := (g12.trans gg).trans g4
        obtain ⟨sas, hs4, hsp4⟩ := hsl.fr0 gall
        obtain ⟨aA, hA1, eA', hA2, hA3⟩ := pd_get hsp4 SA.at_
        obtain ⟨aB, hB1, eB', hB2, hB3⟩ := pd_get hsp4 SB.at_
        obtain ⟨aC, hC1, eC', hC2, hC3⟩ := pd_get hsp4 SC.at_
        obtain ⟨xA, hxA⟩ := id hA3
        obtain ⟨xB, hxB⟩ := id hB3
        obtain ⟨xC, hxC⟩ := id hC3
        refine if_by (fun k H5 => Fr0 K H4 H5 ∧ (i = i0 → k = true)) (fun Q hQ => ?_) (fun H5 ⟨g5, _⟩ => ?_) (fun H5 ⟨g5, hk⟩ => ?_)
        · refine ⟨_, rfl, _, rfl, sl, _, _, .ref aB, rfl, rfl, .of hs4, at_of rfl (get_map hB1), aB, xB, _, rfl, hxB, rfl, ?_⟩
          refine ⟨_, rfl, _, rfl, sl, _, _, .ref aC, rfl, rfl, .of hs4, at_of rfl (get_map hC1), aB, aC, _, _, _, _, rfl, hB3, hC3, _, rfl, ?_⟩
          have soft : ∀ {u v : Nat} {du dv : DM} {eu ev eu' ev' : Nat}, Soft (play rs) u v → Stands (play rs) u du eu → Stands (play rs) v dv ev → du.ended = some eu' → dv.ended = some ev' → (decide (du.begun < ev') && decide (dv.begun < eu')) = true := by
            intro u v du dv eu ev eu' ev' hS hu hv h1 h2
            obtain ⟨_, d1, e1, d2, e2, t1, t2, l1, l2⟩ := hS
            obtain ⟨rfl, rfl⟩ := t1.inj hu
            obtain ⟨rfl, rfl⟩ := t2.inj hv
            rw [t1.ended] at h1
            rw [t2.ended] at h2
            rw [← Option.some.inj h1, ← Option.some.inj h2, decide_eq_true l1, decide_eq_true l2] <;> rfl
          have flip : ∀ {u v w z : Nat}, (decide (u < v) && decide (w < z)) = true → (decide (w < z) && decide (u < v)) = true := fun h => by
            rw [Bool.and_comm]; exact h
          cases hk1 : (decide (dB.begun < eC') && decide (dC.begun < eB')) with
          | true =>
            refine ⟨_, rfl, _, rfl, sl, _, _, .ref aB, rfl, rfl, .of hs4, at_of rfl (get_map hB1), aB, xB, _, rfl, hxB, rfl, ?_⟩
            refine ⟨_, rfl, _, rfl, sl, _, _, .ref aA, rfl, rfl, .of hs4, at_of rfl (get_map hA1), aB, aA, _, _, _, _, rfl, hB3, hA3, _, rfl, hQ _ _ ⟨.refl _, fun e => ?_⟩⟩
            subst e
            rw [h0x] at hx
            have hx := Option.some.inj hx
            subst hx
            exact flip (soft hs1 SA SB hA2 hB2)
          | false =>
            refine hQ _ _ ⟨.refl _, fun e => ?_⟩
            subst e
            rw [h0x] at hx
            rw [h0y] at hc
            have hx := Option.some.inj hx
            have hc := Option.some.inj hc
            subst hx hc
            rw [soft hs2 SB SC hB2 hC2] at hk1
            cases hk1
        · exact q _ (gall.trans g5)
        · refine ⟨⟨_, _, _, _, rfl⟩, (gg.trans g4).trans g5, ?_⟩
          have : ¬ i = i0 := fun e => absurd (hk e) Bool.false_ne_true
          omega
      · refine ⟨⟨_, _, _, _, rfl⟩, gg.trans g4, ?_⟩
        have : ¬ i = i0 := fun e => absurd (hk e) Bool.false_ne_true
        omega
    · rintro σ' H' ⟨⟨x', y', z', u', rfl⟩, g, hi0⟩
      rw [natL_len] at hi0
      have := (List.getElem?_eq_some_iff.mp h0x).1
      omega
end
end Sn
set_option Elab.async false
set_option linter.all false
set_option maxRecDepth 100000
set_option maxHeartbeats 4000000
/-! A set's table of up to 512 slots. -/
namespace Sn
open PySem PySem.Spec PyProof.Rows L2
def MG (m : Nat) : Prop := m = 7 ∨ m = 31 ∨ m = 127 ∨ m = 511
theorem MG.odd {m : Nat} (g : MG m) : m % 2 = 1 := by
  rcases g with rfl | rfl | rfl | rfl <;> decide
/-- the round from x on -/
def orb (m : Nat) : Nat → Nat → List Nat
  | 0, _ => []
  | n + 1, x => x :: orb m n ((x * 5 + 1) % (m + 1))
theorem mem_orb (m : Nat) {y : Nat} : ∀ (n a : Nat), y ∈ orb m n (lcgN m a) → ∃ c, c < n ∧ lcgN m (a + c) = y
  | 0, _, h => absurd h List.not_mem_nil
  | n + 1, a, h => by
    rcases List.mem_cons.mp h with rfl | h
    · exact ⟨0, Nat.succ_pos _, rfl⟩
    · obtain ⟨c, c1, c2⟩ := mem_orb m n (a + 1) h
      exact ⟨c + 1, Nat.succ_lt_succ c1, by rw [← c2]; congr 1; omega⟩
theorem orb_full : ((List.range 512).all fun j => (orb 511 512 0).contains j) = true := by decide +kernel
theorem orb_back : lcgN 511 512 = 0 := by decide +kernel
theorem orb_hit {j : Nat} (h : j ≤ 511) : ∃ c, c ≤ 511 ∧ lcgN 511 c = j := by
  have h1 := List.all_eq_true.mp orb_full j (List.mem_range.mpr (by omega))
  obtain ⟨c, c1, c2⟩ := mem_orb 511 512 0 (List.contains_iff_mem.mp h1)
  exact ⟨c, by omega, by rw [← c2, Nat.zero_add]⟩
theorem orb_per : ∀ k, lcgN 511 (512 + k) = lcgN 511 k
  | 0 => orb_back
  | k + 1 => congrArg (fun x => (x * 5 + 1) % 512) (orb_per k)
/-- each slot comes within a round, from anywhere -/
theorem round_hits {m i j : Nat} (g : MG m) (hi : i ≤ m) (hj : j ≤ m) : ∃ k, k ≤ m ∧ lcgI m i k = j := by
  rcases g with e | e | e | e
  · exact lcgI_all (.inl e) hi hj
  · exact lcgI_all (.inr (.inl e)) hi hj
  · exact lcgI_all (.inr (.inr e)) hi hj
  · subst e
    obtain ⟨a, a1, a2⟩ := orb_hit hi
    obtain ⟨c, c1, c2⟩ := orb_hit hj
    by_cases q : c < a
    · exact ⟨c + 512 - a, by omega, by rw [← a2, lcgN_add, show a + (c + 512 - a) = 512 + c by omega, orb_per, c2]⟩
    · exact ⟨c - a, by omega, by rw [← a2, lcgN_add, show a + (c - a) = c by omega, c2]⟩
theorem run_hits {m j : Nat} (g : MG m) (h : Int) (hj : j ≤ m) : ∃ n, n ≤ m + 12 ∧ runI m (SetTable.bits h) n = j := by
  obtain ⟨k, k1, k2⟩ := round_hits g (runI_le m (SetTable.bits h) 12) hj
  exact ⟨12 + k, by omega, (runI_tail (bits_lt h) k).trans k2⟩
theorem way_hits {m j : Nat} (g : MG m) (h : Int) (hj : j ≤ m) : ∃ k, k < 10 * SetTable.turns m ∧ way m h k = j := by
  obtain ⟨n, n1, n2⟩ := run_hits g h hj
  obtain ⟨k, k1, k2⟩ := run_nth m (SetTable.bits h) n
  refine ⟨k, by unfold SetTable.turns; omega, ?_⟩
  show (nth m (runAt m (SetTable.bits h % (m + 1)) (SetTable.bits h)) k).j = j
  rw [k2, ← n2] <;> rfl
theorem way_in (m : Nat) (h : Int) (k : Nat) : way m h k ≤ m := by
  have b : SetTable.bits h % (m + 1) ≤ m := Nat.le_of_lt_succ (Nat.mod_lt _ (Nat.succ_pos _))
  have r := runEnd_bd b
  have := nth_in k (runAt m (SetTable.bits h % (m + 1)) (SetTable.bits h)) (show _ + (SetTable.runEnd m (SetTable.bits h % (m + 1)) - SetTable.bits h % (m + 1)) ≤ m from by
    show SetTable.bits h % (m + 1) + _ ≤ m
    omega)
  exact Nat.le_trans (Nat.le_add_right _ _) this
/-- j is met on h's way behind taken slots alone -/
def Met (m : Nat) (taken : List Nat) (h : Int) (j : Nat) : Prop := ∃ k, way m h k = j ∧ ∀ c, c < k → way m h c ∈ taken
theorem Met.up {m : Nat} {l l' : List Nat} {h : Int} {j : Nat} (z : Met m l h j) (s : ∀ x ∈ l, x ∈ l') : Met m l' h j := z.imp fun _ z => ⟨z.1, fun c hc => s _ (z.2 c hc)⟩
structure Tb (t : SetTable) (hs : List Int) : Prop where
  ris : Ris t.place.toList
  dm : t.dummies = #[]
  sz : t.place.size = hs.length
  mg : MG t.mask
  bd : ∀ x ∈ t.place.toList, x ≤ t.mask
  met : ∀ (i : Nat) (h : Int) (j : Nat), hs[i]? = some h → t.place.toList[i]? = some j → Met t.mask t.place.toList h j
section
variable {t : SetTable} {hs : List Int}
theorem Tb.len (T : Tb t hs) : t.place.toList.length = hs.length := T.sz
/-- the first empty slot of a way -/
theorem Tb.first (T : Tb t hs) (room : hs.length ≤ t.mask) (h : Int) : ∃ k, k < 10 * SetTable.turns t.mask ∧ way t.mask h k ∉ t.place.toList ∧ ∀ c, c < k → way t.mask h c ∈ t.place.toList := by
  obtain ⟨j, j1, j2⟩ := st_missing t.place.toList (t.mask + 1) (by rw [T.len]; omega)
  obtain ⟨k, k1, k2⟩ := way_hits T.mg h (Nat.le_of_lt_succ j1)
  obtain ⟨c, c1, c2, c3⟩ := st_least (p := fun k => way t.mask h k ∉ t.place.toList) k (by show way t.mask h k ∉ _; rw [k2]; exact j2)
  exact ⟨c, Nat.lt_of_le_of_lt c1 k1, c2, fun d hd => Classical.not_not.mp (c3 d hd)⟩
/-- an entry of that hash stands ahead of it -/
theorem Tb.ahead (T : Tb t hs) {h : Int} {k i j : Nat} (hk : way t.mask h k ∉ t.place.toList) (hi : hs[i]? = some h) (hj : t.place.toList[i]? = some j) : ∃ c, c < k ∧ way t.mask h c = j := by
  obtain ⟨c, c1, c2⟩ := T.met i h j hi hj
  by_cases q : c < k
  · exact ⟨c, q, c1⟩
  · exfalso
    by_cases e : c = k
    · subst e
      rw [c1] at hk
      exact hk (List.mem_of_getElem? hj)
    · exact hk (c2 k (by omega))
/-- one more -/
theorem Tb.put (T : Tb t hs) {h : Int} {k : Nat} (hk : way t.mask h k ∉ t.place.toList) (hb : ∀ c, c < k → way t.mask h c ∈ t.place.toList) :
    SetTable.below t.place (way t.mask h k) ≤ hs.length ∧ Tb (t.put (way t.mask h k)).1 (hs.take (SetTable.below t.place (way t.mask h k)) ++ h :: hs.drop (SetTable.below t.place (way t.mask h k))) ∧ (t.put (way t.mask h k)).1.fill = hs.length + 1 := by
  have top : way t.mask h k ≤ t.mask := way_in _ _ _
  have here : Met t.mask t.place.toList h (way t.mask h k) := ⟨k, rfl, hb⟩
  generalize way t.mask h k = j at hk top here ⊢
  have p1 : SetTable.below t.place j ≤ t.place.toList.length := (below_cut T.ris j).1
  have p2 : SetTable.below t.place j ≤ hs.length := by rw [← T.len]; exact p1
  have nw : t.place[SetTable.below t.place j]? ≠ some j := fun e => hk (List.mem_of_getElem? ((Array.getElem?_toList).trans e))
  have pp := put_place t j
  have sz : (t.put j).1.place.size = hs.length + 1 := by
    have := congrArg List.length pp
    rw [len_ins _ p1, T.len] at this
    exact this
  have grow : ∀ x ∈ t.place.toList, x ∈ (t.put j).1.place.toList := fun x hx => by rw [pp]; exact mem_ins.mpr (.inr hx)
  refine ⟨p2, ⟨ris_insert T.ris nw, put_dm T.dm j, by rw [len_ins _ p2]; exact sz, T.mg, fun x hx => ?_, fun i g c e1 e2 => ?_⟩, ?_⟩
  · rw [pp] at hx
    exact (mem_ins.mp hx).elim (fun z => z ▸ top) (T.bd x)
  · rw [tins_get hs p2] at e1
    rw [pp, tins_get _ p1] at e2
    show Met t.mask _ g c
    by_cases q : i < SetTable.below t.place j
    · rw [if_pos q] at e1 e2
      exact (T.met i g c e1 e2).up grow
    · by_cases q2 : i = SetTable.below t.place j
      · rw [if_neg q, if_pos q2] at e1 e2
        cases e1
        cases e2
        exact here.up grow
      · rw [if_neg q, if_neg q2] at e1 e2
        exact (T.met _ g c e1 e2).up grow
  · show (t.put j).1.place.size + (t.put j).1.dummies.size = _
    rw [sz, put_dm T.dm j] <;> rfl
end
end Sn
set_option Elab.async false
set_option linter.all false
set_option maxRecDepth 100000
set_option maxHeartbeats 4000000
/-! A table laid anew. -/
namespace Sn
open PySem PySem.Spec PyProof.Rows L2
section
variable {m : Nat} {owner : Array (Option Nat)} {done : List Int}
abbrev freeAt (m : Nat) (owner : Array (Option Nat)) (h : Int) : Option Nat := SetTable.layClean.free m owner (SetTable.turns m) (SetTable.bits h % (m + 1)) (SetTable.bits h)
theorem free_hit (g : MG m) (owner : Array (Option Nat)) (h : Int) {j : Nat} (hj : j ≤ m) (e : oAt owner j = none) :
    ∃ k, freeAt m owner h = some (way m h k) ∧ oAt owner (way m h k) = none ∧ ∀ c, c < k → oAt owner (way m h c) ≠ none := by
  obtain ⟨n, n1, n2⟩ := run_hits g h hj
  have at_ : way m h (off m (SetTable.bits h % (m + 1)) (SetTable.bits h) n) = j := by
    show (nth m (runAt m _ _) _).j = j
    rw [nth_off, itL_run]
    exact n2
  obtain ⟨k, k1, k2, k3⟩ := st_least (p := fun k => oAt owner (way m h k) = none) _ (by
    show oAt owner (way m h (off m (SetTable.bits h % (m + 1)) (SetTable.bits h) n)) = none
    rw [at_]; exact e)
  refine ⟨k, free_spec m owner (SetTable.turns m) n _ _ k (by unfold SetTable.turns; omega) k1 (fun c hc => ?_) (Option.isNone_iff_eq_none.mpr k2), k2, k3⟩
  exact Bool.eq_false_iff.mpr fun z => k3 c hc (Option.isNone_iff_eq_none.mp z)
theorem own_step (g : MG m) (W : L2.Own m done owner) (room : done.length ≤ m) (h : Int) : ∃ j, freeAt m owner h = some j ∧ L2.Own m (done ++ [h]) (owner.setIfInBounds j (some done.length)) := by
  obtain ⟨ps, ps1, ps2⟩ := W.ps
  obtain ⟨f, f1, f2⟩ := st_missing ps (m + 1) (by omega)
  have fn : oAt owner f = none := Classical.byContradiction fun z => f2 (ps2 f (Nat.le_of_lt_succ f1) z)
  obtain ⟨k, k1, k2, k3⟩ := free_hit g owner h (Nat.le_of_lt_succ f1) fn
  have wm := way_in m h k
  have me := oAt_set_self (owner := owner) (some done.length) (show way m h k < owner.size by rw [W.sz]; omega)
  have stay : ∀ {i : Nat}, oAt owner i ≠ none → oAt (owner.setIfInBounds (way m h k) (some done.length)) i ≠ none := fun {i} z => by
    by_cases q : i = way m h k
    · rw [q, me]; exact Option.some_ne_none _
    · rw [oAt_set_ne _ q]; exact z
  refine ⟨way m h k, k1, (Array.size_setIfInBounds ..).trans W.sz, fun j i j1 e => ?_, fun i hi => ?_, way m h k :: ps, by rw [List.length_append, ← ps1] <;> rfl, fun j j1 z => ?_⟩
  · by_cases q : j = way m h k
    · subst q
      rw [me] at e
      cases e
      exact ⟨h, k, List.getElem?_concat_length, rfl, fun c hc => stay (k3 c hc)⟩
    · rw [oAt_set_ne _ q] at e
      obtain ⟨h', k', a1, a2, a3⟩ := W.at_ j i j1 e
      exact ⟨h', k', (List.getElem?_append_left (List.getElem?_eq_some_iff.mp a1).1).trans a1, a2, fun c hc => stay (a3 c hc)⟩
  · rw [List.length_append, List.length_singleton] at hi
    by_cases q : i = done.length
    · exact ⟨_, wm, q ▸ me⟩
    · obtain ⟨j, j1, j2⟩ := W.all i (by omega)
      refine ⟨j, j1, (oAt_set_ne _ fun z => ?_).trans j2⟩
      rw [z, k2] at j2
      cases j2
  · by_cases q : j = way m h k
    · exact q ▸ .head _
    · rw [oAt_set_ne _ q] at z
      exact .tail _ (ps2 j j1 z)
theorem own_fold (g : MG m) : ∀ (rest done : List Int) (owner : Array (Option Nat)), L2.Own m done owner → done.length + rest.length ≤ m →
    ∃ o2, rest.foldl (stepF m) (some (owner, done.length)) = some (o2, (done ++ rest).length) ∧ L2.Own m (done ++ rest) o2
  | [], done, owner, W, _ => by
    rw [List.append_nil]
    exact ⟨owner, rfl, W⟩
  | h :: rest, done, owner, W, hl => by
    rw [List.length_cons] at hl
    obtain ⟨j, e, W2⟩ := own_step g W (by omega) h
    obtain ⟨o2, f, W3⟩ := own_fold g rest (done ++ [h]) _ W2 (by rw [List.length_append, List.length_singleton]; omega)
    have as_ : done ++ [h] ++ rest = done ++ h :: rest := List.append_assoc ..
    rw [as_] at f W3
    refine ⟨o2, ?_, W3⟩
    show rest.foldl (stepF m) (stepF m (some (owner, done.length)) h) = _
    rw [stepF_some e, ← f, List.length_append] <;> rfl
theorem lay_own (g : MG m) {hs : Array Int} (room : hs.size ≤ m) : ∃ o2, SetTable.layClean m hs = some o2 ∧ L2.Own m hs.toList o2 := by
  obtain ⟨o2, f, W⟩ := own_fold g hs.toList [] _ (L2.Own.init m) (by rw [Array.length_toList]; exact (Nat.zero_add _).symm ▸ room)
  rw [List.nil_append] at f W
  refine ⟨o2, ?_, W⟩
  rw [layClean_eq]
  exact congrArg (Option.map (·.1)) f
/-- the new table and the order of what it holds -/
theorem relaid_tb (t : SetTable) {hs : Array Int} {want : Nat} (em : SetTable.sizeAbove want - 1 = m) (g : MG m) (room : hs.size ≤ m) :
    ∃ t2 order, t.relaid hs want = some (t2, order) ∧ order.toList.Perm (List.range hs.size) ∧ Tb t2 (order.toList.map fun i => hs.getD i 0) ∧ t2.mask = m ∧ t2.led = t.led ∧ t2.plain = t.plain := by
  obtain ⟨o2, e, W⟩ := lay_own g room
  have rl := ris_live (fun j => o2.getD j none) (List.range (m + 1)) (show List.Pairwise _ _ from List.pairwise_lt_range)
  have r1 : Ris ((liveOf m o2).map fun q : Nat × Nat => q.1) := rl.1
  have r2 : ∀ x ∈ (liveOf m o2).map fun q : Nat × Nat => q.1, x ∈ List.range (m + 1) := rl.2
  have live : ∀ {j i : Nat}, (j, i) ∈ liveOf m o2 ↔ j ≤ m ∧ oAt o2 j = some i := mem_live W.sz
  obtain ⟨ps, ps1, ps2⟩ := W.ps
  have up := nat_nodup_len ((liveOf m o2).map fun q : Nat × Nat => q.1) ps ((show List.Pairwise (fun (a b : Nat) => a < b) _ from r1).imp fun z => Nat.ne_of_lt z) fun x hx => by
    obtain ⟨⟨y, i⟩, hq, rfl⟩ := List.mem_map.mp hx
    obtain ⟨b1, b2⟩ := live.mp hq
    exact ps2 y b1 (by rw [b2]; exact Option.some_ne_none _)
  have dn := nat_nodup_len (List.range hs.size) ((liveOf m o2).map fun q : Nat × Nat => q.2) List.nodup_range fun i hi => by
    obtain ⟨j, b⟩ := W.all i (List.mem_range.mp hi)
    exact List.mem_map.mpr ⟨(j, i), live.mpr b, rfl⟩
  rw [List.length_map] at up dn
  rw [List.length_range] at dn
  have hsl : hs.toList.length = hs.size := rfl
  have len : (liveOf m o2).length = hs.size := by omega
  refine ⟨tabOf t m o2, ((liveOf m o2).map fun q : Nat × Nat => q.2).toArray, by rw [relaid_eq, em, e] <;> rfl, ?_, ⟨r1, rfl, ?_, g, fun x hx => ?_, fun i h j e1 e2 => ?_⟩, rfl, rfl, rfl⟩
  · refine perm_range hs.size _ ((List.length_map ..).trans len) fun i hi => ?_
    obtain ⟨j, b⟩ := W.all i hi
    exact List.mem_map.mpr ⟨(j, i), live.mpr b, rfl⟩
  · show ((liveOf m o2).map fun q : Nat × Nat => q.1).toArray.size = (((liveOf m o2).map fun q : Nat × Nat => q.2).map _).length
    rw [List.size_toArray, List.length_map, List.length_map, List.length_map]
  · exact Nat.le_of_lt_succ (List.mem_range.mp (r2 x hx))
  · have e1 : (((liveOf m o2).map fun q : Nat × Nat => q.2).map fun i => hs.getD i 0)[i]? = some h := e1
    have e2 : ((liveOf m o2).map fun q : Nat × Nat => q.1)[i]? = some j := e2
    rw [List.map_map] at e1
    obtain ⟨⟨y, q⟩, l1, l2⟩ := map_get e1
    obtain ⟨y2, l3, l4⟩ := map_get e2
    rw [l1] at l3
    cases l3
    obtain ⟨b1, b2⟩ := live.mp (List.mem_of_getElem? l1)
    obtain ⟨h0, k, a1, a2, a3⟩ := W.at_ y q b1 b2
    have eh : h = h0 := by
      rw [l2]
      show hs.getD q 0 = h0
      rw [Array.getD_eq_getD_getElem?, ← Array.getElem?_toList, a1] <;> rfl
    rw [eh, l4]
    refine ⟨k, a2, fun c hc => ?_⟩
    obtain ⟨i2, hi2⟩ := Option.ne_none_iff_exists'.mp (a3 c hc)
    exact List.mem_map.mpr ⟨(_, i2), live.mpr ⟨way_in _ _ _, hi2⟩, rfl⟩
end
end Sn
set_option Elab.async false
set_option linter.all false
set_option maxRecDepth 100000
set_option maxHeartbeats 4000000
/-! A set of pairs of numbers: looking for one. -/
namespace Sn
open PySem PySem.Spec PyProof.Rows L2
abbrev KL := List (Addr × List Int)
abbrev hsL (P : Program) (w : World) (L : KL) : List Int := L.map fun p => thash P w p.2
structure SR (P : Program) (w : World) (G : List (List Int)) (g : Heap) (a : Addr) (L : KL) (es : Array (Int × Value)) (ep : Nat) (t : SetTable) : Prop where
  ob : ∃ o, g.get? a = some o ∧ o.ExactSet ∧ o.data = .set es ep t
  rows : es.toList = rowsOf P w L
  tb : Tb t (hsL P w L)
  nd : (L.map (·.2)).Nodup
  tup : ∀ p ∈ L, IsT P w g p.2 p.1
  plain : t.plain = true
  led : w.params.followText "set-order" = true ∨ t.led = true
  room : L.length * 5 < t.mask * 3
  grid : ∀ p ∈ L, p.2 ∈ G
section
variable {P : Program} {w : World} {G : List (List Int)} {A : Around} {E : Value → Shared → Prop} {s : Shared} {a : Addr} {L : KL} {es : Array (Int × Value)} {ep : Nat} {t : SetTable}
theorem rows_len {es : Array (Int × Value)} {L : KL} (r : es.toList = rowsOf P w L) : es.size = L.length := by
  have z := congrArg List.length r
  rw [rowsOf, List.length_map] at z
  exact z
theorem SR.len (R : SR P w G s.heap a L es ep t) : es.size = L.length := rows_len R.rows
theorem fits_of {es : Array (Int × Value)} {t : SetTable} (h1 : t.place.size = es.size) (h2 : t.dummies = #[]) (h3 : es.size ≤ t.mask) : t.fits es.size = true := by
  have e : t.fill = t.place.size := by unfold SetTable.fill; rw [h2] <;> rfl
  unfold SetTable.fits
  rw [e, h1, beq_self_eq_true, Bool.true_and]
  exact decide_eq_true h3
theorem SR.fits (R : SR P w G s.heap a L es ep t) : t.fits es.size = true := by
  have z := R.tb.sz
  rw [List.length_map] at z
  have l := R.len
  have r := R.room
  exact fits_of (by omega) R.tb.dm (by omega)
theorem SR.at_ (R : SR P w G s.heap a L es ep t) {i : Nat} {p : Addr × List Int} (e : L[i]? = some p) : es[i]? = some (thash P w p.2, .ref p.1) := by
  rw [← Array.getElem?_toList, R.rows, rowsOf, List.getElem?_map, e] <;> rfl
theorem SR.kept (R : SR P w G s.heap a L es ep t) : ¬ t.gaveWay = true := fun z => by
  unfold SetTable.gaveWay at z
  rw [R.tb.mg.odd] at z
  cases z
abbrev hashAt (es : Array (Int × Value)) : Nat → Int := fun i => (es[i]?.map (·.1)).getD 0
abbrev pos0 (P : Program) (w : World) (t : SetTable) (k : List Int) : SetTable.Probe := runAt t.mask (SetTable.bits (thash P w k) % (t.mask + 1)) (SetTable.bits (thash P w k))
theorem nth_dummy (m : Nat) : ∀ (n : Nat) (p : SetTable.Probe), p.dummy = none → (nth m p n).dummy = none
  | 0, _, h => h
  | n + 1, p, h => nth_dummy m n (adv m p) (by unfold adv; split <;> exact h)
theorem seek (R : SR P w G s.heap a L es ep t) {x : Addr} {k : List Int} (hx : IsT P w s.heap k x) (hu : A.units < cLine) {z : Nat} (z1 : z < 10 * SetTable.turns t.mask) (z2 : way t.mask (thash P w k) z ∉ t.place.toList)
    (z3 : ∀ c, c < z → way t.mask (thash P w k) c ∈ t.place.toList) {Q : SetFound → Shared → Prop} (yes : k ∈ L.map (·.2) → Q (.there none) s) (no : k ∉ L.map (·.2) → Q (.free (way t.mask (thash P w k) z) false) s) :
    ∀ (f c : Nat) (stand : Option SetTable.Probe), stand.getD (t.probeStart (thash P w k)) = nth t.mask (pos0 P w t k) c → c ≤ z → z - c < f →
      (∀ (i : Nat) p, L[i]? = some p → p.2 = k → ∃ d, c ≤ d ∧ d < z ∧ t.place.toList[i]? = some (way t.mask (thash P w k) d)) → wpAny (model P w) A (setSearchFrom a (.ref x) (thash P w k) true f stand) Q E s
  | 0, _, _, _, _, hf, _ => absurd hf (Nat.not_lt_zero _)
  | f + 1, c, stand, hs, hc, hf, hrest => by
    obtain ⟨o, o1, o2, o3⟩ := R.ob
    have jw : ∀ q, (nth t.mask (nth t.mask (pos0 P w t k) c) q).j = way t.mask (thash P w k) (c + q) := fun q => congrArg SetTable.Probe.j (nth_add t.mask c _ q).symm
    have nw : ∀ q, nth t.mask (nth t.mask (pos0 P w t k) c) q = nth t.mask (pos0 P w t k) (c + q) := fun q => (nth_add t.mask c _ q).symm
    have ha : ∀ {i : Nat} {p : Addr × List Int}, L[i]? = some p → hashAt es i = thash P w p.2 := fun {i p} e => by
      show (es[i]?.map (·.1)).getD 0 = _
      rw [R.at_ e] <;> rfl
    rw [setSearchFrom_succ]
    refine wpAny_bind (wpAny_setState_of o1 o3 R.fits (wp_if_neg R.kept ?_))
    have g := go_spec t R.tb.ris R.tb.dm (hashAt es) (thash P w k) (10 * SetTable.turns t.mask) (z - c) _ (nth_dummy t.mask c (pos0 P w t k) rfl) (by omega) (fun q hq => by rw [jw]; exact z3 _ (by omega)) (by rw [jw, Nat.add_sub_cancel' hc]; exact z2)
    rcases g with ⟨q, i, q1, q2, q3, q4, q5⟩ | ⟨q1, q2⟩
    · rw [jw] at q2
      have il : i < L.length := by
        have e1 := (List.getElem?_eq_some_iff.mp q2).1
        rw [R.tb.len, List.length_map] at e1
        exact e1
      obtain ⟨p, hp⟩ : ∃ p, L[i]? = some p := ⟨_, List.getElem?_eq_getElem il⟩
      have pm := List.mem_of_getElem? hp
      have ept : t.probe (hashAt es) (thash P w k) (stand.getD (t.probeStart (thash P w k))) = some (.candidate (way t.mask (thash P w k) (c + q)) i (nth t.mask (pos0 P w t k) (c + (q + 1)))) := by
        rw [hs, ← jw, ← nw]
        exact q5
      have rest : wpAny (model P w) A (searchRest a (.ref x) (thash P w k) true f es t (way t.mask (thash P w k) (c + q)) i (nth t.mask (pos0 P w t k) (c + (q + 1)))) Q E s := by
        have sl : t.slot (way t.mask (thash P w k) (c + q)) = .live i := slot_live R.tb.ris q2
        unfold searchRest
        rw [R.at_ hp]
        refine wpAny_bind (wpAny_holding (wpAny_eqBool_tuple hu (R.tup p pm) hx (wpAny_bind (wpAny_setState_of o1 o3 R.fits ?_))))
        by_cases same : p.2 = k
        · exact wp_if_pos (by simp [same]) (wpAny_pure (yes (List.mem_map.mpr ⟨p, pm, same⟩)))
        · refine wp_if_neg (by simp [same]) ?_
          rw [sameMem]
          simp only [if_true, sl, R.at_ hp]
          refine wpAny_bind (wpAny_isSame_ref_self (wpAny_bind (wpAny_pure ?_)))
          simp only [if_true]
          refine wp_if_neg (by simp [same]) (seek R hx hu z1 z2 z3 yes no f (c + (q + 1)) _ rfl (by omega) (by omega) fun i0 p0 e0 k0 => ?_)
          obtain ⟨d, d1, d2, d3⟩ := hrest i0 p0 e0 k0
          refine ⟨d, Nat.not_lt.mp fun lt => ?_, d2, d3⟩
          by_cases e : d = c + q
          · subst e
            have s0 := slot_live R.tb.ris d3
            rw [sl] at s0
            injection s0 with s0
            rw [← s0, hp] at e0
            exact same ((congrArg Prod.snd (Option.some.inj e0)).trans k0)
          · refine q4 (d - c) i0 (by omega) ?_ ((ha e0).trans (congrArg (thash P w) k0))
            rw [jw, Nat.add_sub_cancel' d1]
            exact d3
      rw [ept]
      by_cases ld : t.led = true
      · exact wp_if_neg (by simp [ld]) rest
      · refine wp_if_pos (by simp [ld]) (wpAny_bind (seen_tup hx (fun y hy => ?_) (wp_if_neg Bool.false_ne_true rest)))
        obtain ⟨e, e1, e2⟩ := List.mem_map.mp hy
        have e3 : e ∈ es.toList := by
          have := (Array.mem_filter.mp (Array.mem_toList_iff.mp e1)).1
          exact Array.mem_toList_iff.mpr this
        rw [R.rows] at e3
        obtain ⟨p2, p3, p4⟩ := List.mem_map.mp e3
        exact ⟨p2.2, p2.1, by rw [← e2, ← p4], R.tup p2 p3⟩
    · have ept : t.probe (hashAt es) (thash P w k) (stand.getD (t.probeStart (thash P w k))) = some (.empty (way t.mask (thash P w k) z) none) := by
        have := jw (z - c)
        rw [Nat.add_sub_cancel' hc] at this
        rw [hs, ← this]
        exact q2
      rw [ept]
      refine wpAny_pure (no fun hm => ?_)
      obtain ⟨p0, m0, k0⟩ := List.mem_map.mp hm
      obtain ⟨i0, e0⟩ := List.mem_iff_getElem?.mp m0
      obtain ⟨d, d1, d2, d3⟩ := hrest i0 p0 e0 k0
      refine q1 (d - c) i0 (by omega) ?_ ((ha e0).trans (congrArg (thash P w) k0))
      rw [jw, Nat.add_sub_cancel' d1]
      exact d3
end
end Sn
set_option Elab.async false
set_option linter.all false
set_option maxRecDepth 100000
set_option maxHeartbeats 4000000
/-! A set of pairs of numbers: one is added. -/
namespace Sn
open PySem PySem.Spec PyProof.Rows L2
theorem step5 : SetTable.sizeAbove (SetTable.grown 5) = 32 := by decide +kernel
theorem step19 : SetTable.sizeAbove (SetTable.grown 19) = 128 := by decide +kernel
theorem step77 : SetTable.sizeAbove (SetTable.grown 77) = 512 := by decide +kernel
theorem sub_len {α : Type} [DecidableEq α] : ∀ {l m : List α}, l.Nodup → (∀ x ∈ l, x ∈ m) → l.length ≤ m.length
  | [], _, _, _ => Nat.zero_le _
  | x :: l, m, nd, h => by
    obtain ⟨n1, n2⟩ := List.nodup_cons.mp nd
    have xm := h x (.head _)
    have := sub_len (l := l) (m := m.erase x) n2 fun y hy => (List.mem_erase_of_ne (show y ≠ x from fun e => n1 (by rw [← e]; exact hy))).mpr (h y (.tail _ hy))
    rw [List.length_erase_of_mem xm] at this
    have p := List.length_pos_of_mem xm
    rw [List.length_cons]
    omega
section
variable {P : Program} {w : World} {G : List (List Int)} {A : Around} {E : Value → Shared → Prop} {s : Shared} {a : Addr} {L : KL} {es : Array (Int × Value)} {ep : Nat} {t : SetTable}
theorem SR.few (R : SR P w G s.heap a L es ep t) : L.length ≤ G.length := by
  have := sub_len R.nd fun k hk => by
    obtain ⟨p, hp, rfl⟩ := List.mem_map.mp hk
    exact R.grid p hp
  rw [List.length_map] at this
  exact this
theorem seek_at (R : SR P w G s.heap a L es ep t) {x : Addr} {k : List Int} (hx : IsT P w s.heap k x) (hu : A.units < cLine) {Q : SetFound → Shared → Prop} (yes : k ∈ L.map (·.2) → Q (.there none) s)
    (no : ∀ z, k ∉ L.map (·.2) → way t.mask (thash P w k) z ∉ t.place.toList → (∀ c, c < z → way t.mask (thash P w k) c ∈ t.place.toList) → Q (.free (way t.mask (thash P w k) z) false) s) :
    wpAny (model P w) A (setSearch a (.ref x) (thash P w k) true) Q E s := by
  have room := R.room
  have ll : (hsL P w L).length = L.length := List.length_map ..
  obtain ⟨z, z1, z2, z3⟩ := R.tb.first (by omega) (thash P w k)
  have far : 10 * SetTable.turns t.mask < 100000 := by
    unfold SetTable.turns
    rcases R.tb.mg with e | e | e | e <;> omega
  refine seek R hx hu z1 z2 z3 yes (fun n => no z n z2 z3) 100000 0 none rfl (Nat.zero_le _) (by omega) fun i p e k0 => ?_
  have il : i < t.place.toList.length := by
    rw [R.tb.len, ll]
    exact (List.getElem?_eq_some_iff.mp e).1
  obtain ⟨j, hj⟩ : ∃ j, t.place.toList[i]? = some j := ⟨_, List.getElem?_eq_getElem il⟩
  obtain ⟨c, c1, c2⟩ := R.tb.ahead z2 (show (hsL P w L)[i]? = some (thash P w k) by rw [List.getElem?_map, e, ← k0] <;> rfl) hj
  exact ⟨c, Nat.zero_le _, c1, hj.trans (congrArg some c2.symm)⟩
theorem relay_sr {o : Obj} (o1 : s.heap.get? a = some o) (o2 : o.ExactSet) (o3 : o.data = .set es ep t) (rows : es.toList = rowsOf P w L) (tb : Tb t (hsL P w L)) (nd : (L.map (·.2)).Nodup) (tup : ∀ p ∈ L, IsT P w s.heap p.2 p.1)
    (plain : t.plain = true) (led : w.params.followText "set-order" = true ∨ t.led = true) (grid : ∀ p ∈ L, p.2 ∈ G) (low : L.length ≤ t.mask) {want m : Nat} (em : SetTable.sizeAbove want - 1 = m) (g : MG m) (top : SetTable.sizeAbove want ≤ 512) (room : L.length * 5 < m * 3) {Q : Unit → Shared → Prop}
    (go : ∀ h' L' es' ep' t', Heap.SameBut a s.heap h' → SR P w G h' a L' es' ep' t' → L'.Perm L → Q () { s with heap := h' }) : wpAny (model P w) A (setRelay a want) Q E s := by
  have sz := rows_len rows
  have z := tb.sz
  rw [List.length_map] at z
  have mle : m ≤ 511 := by rcases g with e | e | e | e <;> omega
  obtain ⟨t2, order, e, op, tb2, m2, l2, p2⟩ := relaid_tb (m := m) t (hs := es.map (·.1)) em g (by rw [Array.size_map, sz]; omega)
  rw [Array.size_map, sz] at op
  obtain ⟨L2, r1, r2, r3⟩ := order_rows L es order rows op
  rw [← r3] at tb2
  have sz2 : (order.filterMap (es[·]?)).size = es.size := by rw [rows_len r1, r2.length_eq, sz]
  rw [setRelay_eq]
  refine wpAny_bind (wpAny_setState_of o1 o3 (fits_of (by omega) tb.dm (by omega)) ?_)
  dsimp only
  refine wp_if_neg (by rw [sizeLine_eq]; omega) ?_
  rw [e]
  refine wpAny_bind ?_
  refine wp_if_neg (by rw [sz2]; simp) (wpAny_pure ?_)
  refine wpAny_storeSet_of o1 o3 ?_ (by rw [sz2, sz, sizeLine_eq]; omega)
  have same : Heap.SameBut a s.heap (s.heap.update a (Obj.putSet (order.filterMap (es[·]?)) t2)) := Heap.SameBut.update ..
  exact go _ L2 _ (ep + 1) t2 same ⟨⟨_, store_at o1 o3, ⟨o2.1, o2.2.1, o2.2.2⟩, rfl⟩, r1, tb2, (r2.map (·.2)).nodup_iff.mpr nd, fun p hp => isT_same (tup p (r2.mem_iff.mp hp)) o1 o3 same, p2.trans plain, by rw [l2]; exact led,
    by rw [r2.length_eq, m2]; exact room, fun p hp => grid p (r2.mem_iff.mp hp)⟩ r2
theorem add_sr (R : SR P w G s.heap a L es ep t) (g144 : G.length ≤ 144) {x : Addr} {k : List Int} (hx : IsT P w s.heap k x) (hk : k ∈ G) (hu : A.units < cLine) {Q : Bool → Shared → Prop}
    (go : ∀ b h' L' es' ep' t', Heap.SameBut a s.heap h' → SR P w G h' a L' es' ep' t' → (k ∈ L.map (·.2) → L' = L) → (k ∉ L.map (·.2) → L'.Perm ((x, k) :: L)) → Q b { s with heap := h' }) :
    wpAny (model P w) A (setAddHashed a (.ref x) (thash P w k)) Q E s := by
  obtain ⟨o, o1, o2, o3⟩ := R.ob
  have sz := R.len
  have room := R.room
  unfold setAddHashed
  refine wpAny_holding ?_
  rw [show (100000 : Nat) = 99999 + 1 from rfl, setAddHashedIn_succ]
  refine wpAny_bind (wpAny_setState_of o1 o3 R.fits ?_)
  dsimp only
  refine wp_if_neg (by simp [byScan, Value.scannable]) (wpAny_bind (seek_at R hx hu (fun hm => ?_) fun z hm z2 z3 => ?_))
  · exact wpAny_pure (go false s.heap L es ep t (Heap.SameBut.refl a s.heap) R (fun _ => rfl) fun n => absurd hm n)
  · dsimp only
    refine wpAny_bind (wpAny_setState_of o1 o3 R.fits ?_)
    dsimp only
    obtain ⟨q2, q3, q9⟩ := R.tb.put z2 z3
    have q4 : (t.put (way t.mask (thash P w k) z)).1.mask = t.mask := rfl
    have q5 : (t.put (way t.mask (thash P w k) z)).1.led = t.led := rfl
    have q6 : (t.put (way t.mask (thash P w k) z)).1.plain = true := R.plain
    have q1 : (t.put (way t.mask (thash P w k) z)).2 = SetTable.below t.place (way t.mask (thash P w k) z) := rfl
    generalize t.put (way t.mask (thash P w k) z) = pt at q1 q3 q4 q5 q6 q9 ⊢
    obtain ⟨t1, p⟩ := pt
    dsimp only at q1 q3 q4 q5 q6 q9 ⊢
    subst q1
    first
      | (refine wpAny_bind ?_; refine wp_if_pos q6 ?_; refine hashBy_tup hx ?_)
      | refine wp_if_pos q6 (wpAny_bind (hashBy_tup hx ?_))
    simp only [if_true]
    have rows1 : (SetTable.insertAt es (SetTable.below t.place (way t.mask (thash P w k) z)) (thash P w k, Value.ref x)).toList = rowsOf P w (L.take (SetTable.below t.place (way t.mask (thash P w k) z)) ++ (x, k) :: L.drop (SetTable.below t.place (way t.mask (thash P w k) z))) := by
      rw [SetTable.toList_insertAt, rows_put, R.rows]
    generalize SetTable.below t.place (way t.mask (thash P w k) z) = p at q2 q3 rows1 ⊢
    have pm := put_perm L p (x, k)
    have hh : hsL P w (L.take p ++ (x, k) :: L.drop p) = (hsL P w L).take p ++ thash P w k :: (hsL P w L).drop p := by
      rw [hsL, List.map_append, List.map_cons, List.map_take, List.map_drop]
    rw [← hh] at q3
    generalize L.take p ++ (x, k) :: L.drop p = L1 at pm q3 rows1
    have l1 : L1.length = L.length + 1 := pm.length_eq
    have nd1 : (L1.map (·.2)).Nodup := (pm.map (·.2)).nodup_iff.mpr (by rw [List.map_cons]; exact List.nodup_cons.mpr ⟨hm, R.nd⟩)
    have grid1 : ∀ q ∈ L1, q.2 ∈ G := fun q hq => by
      rcases List.mem_cons.mp (pm.mem_iff.mp hq) with rfl | hq
      · exact hk
      · exact R.grid q hq
    have few1 : L1.length ≤ 144 := by
      have := sub_len nd1 fun k' hk' => by
        obtain ⟨q, hq, rfl⟩ := List.mem_map.mp hk'
        exact grid1 q hq
      rw [List.length_map] at this
      omega
    have sz1 := rows_len rows1
    generalize SetTable.insertAt es p (thash P w k, Value.ref x) = es1 at rows1 sz1 ⊢
    refine wpAny_bind (wpAny_storeSet_of o1 o3 ?_ (by rw [sz1, l1, sizeLine_eq]; omega))
    have same : Heap.SameBut a s.heap (s.heap.update a (Obj.putSet es1 t1)) := Heap.SameBut.update ..
    have ob1 := store_at (es' := es1) (t' := t1) o1 o3
    generalize s.heap.update a (Obj.putSet es1 t1) = h1 at same ob1 ⊢
    have tup1 : ∀ q ∈ L1, IsT P w h1 q.2 q.1 := fun q hq => by
      rcases List.mem_cons.mp (pm.mem_iff.mp hq) with rfl | hq
      · exact isT_same hx o1 o3 same
      · exact isT_same (R.tup q hq) o1 o3 same
    have led1 : w.params.followText "set-order" = true ∨ t1.led = true := by rw [q5]; exact R.led
    have fl : t1.fill = L1.length := by rw [q9, List.length_map, l1]
    by_cases hf : t1.tooFull = true
    · first
        | (refine wpAny_bind ?_; refine wp_if_pos (by simp [hf]) ?_)
        | (refine wp_if_pos (by simp [hf]) ?_; refine wpAny_bind ?_)
      have full : L1.length * 5 ≥ t1.mask * 3 := by
        unfold SetTable.tooFull at hf
        rw [fl] at hf
        exact of_decide_eq_true hf
      rw [sz, ← l1]
      have lay : ∀ m, SetTable.sizeAbove (SetTable.grown L1.length) - 1 = m → MG m → SetTable.sizeAbove (SetTable.grown L1.length) ≤ 512 → L1.length * 5 < m * 3 →
          wpAny (model P w) A (setRelay a (SetTable.grown L1.length)) (fun _ s' => wpAny (model P w) A (pure true) Q E s') E { s with heap := h1 } := fun m m1 m2 m3 m4 => by
        refine relay_sr (s := { s with heap := h1 }) ob1 ⟨o2.1, o2.2.1, o2.2.2⟩ rfl rows1 q3 nd1 tup1 q6 led1 grid1 (by rw [l1, q4]; omega) m1 m2 m3 m4 fun h2 L2 es2 ep2 t2 same2 R2 pm2 => ?_
        exact wpAny_pure (go true h2 L2 es2 ep2 t2 (same.trans same2) R2 (fun y => absurd y hm) fun _ => pm2.trans pm)
      have cs : L1.length = 5 ∨ L1.length = 19 ∨ L1.length = 77 := by
        rw [q4] at full
        rcases R.tb.mg with e | e | e | e <;> rw [e] at full room <;> omega
      rcases cs with e | e | e
      · exact lay 31 (by rw [e, step5]) (.inr (.inl rfl)) (by rw [e, step5]; decide) (by omega)
      · exact lay 127 (by rw [e, step19]) (.inr (.inr (.inl rfl))) (by rw [e, step19]; decide) (by omega)
      · exact lay 511 (by rw [e, step77]) (.inr (.inr (.inr rfl))) (by rw [e, step77]; decide) (by omega)
    · first
        | refine wp_if_neg (by simp [hf]) ?_
        | (refine wpAny_bind ?_; refine wp_if_neg (by simp [hf]) ?_; refine wpAny_pure ?_)
      refine wpAny_pure (go true h1 L1 es1 (ep + 1) t1 same ⟨⟨_, ob1, ⟨o2.1, o2.2.1, o2.2.2⟩, rfl⟩, rows1, q3, nd1, tup1, q6, led1, ?_, grid1⟩ (fun y => absurd y hm) fun _ => pm)
      unfold SetTable.tooFull at hf
      rw [fl, decide_eq_true_eq] at hf
      omega
end
end Sn
set_option Elab.async false
set_option linter.all false
set_option maxRecDepth 100000
set_option maxHeartbeats 4000000
/-! sorted(set(xs)) of pairs of numbers. -/
namespace Sn
open PySem PySem.Spec PyProof.Rows L2
section
variable {P : Program} {w : World} {G : List (List Int)} {A : Around} {E : Value → Shared → Prop} {s : Shared} {a : Addr} {L : KL} {es : Array (Int × Value)} {ep : Nat} {t : SetTable}
theorem SR.keep {h h' : Heap} (R : SR P w G h a L es ep t) (ka : ∀ o, h.get? a = some o → h'.get? a = some o) (kt : ∀ p ∈ L, IsT P w h' p.2 p.1) : SR P w G h' a L es ep t :=
  ⟨R.ob.imp fun o z => ⟨ka o z.1, z.2⟩, R.rows, R.tb, R.nd, kt, R.plain, R.led, R.room, R.grid⟩
theorem sr_new {h : Heap} (o : h.get? a = some { cls := .type "set", dict := none, data := .set #[] 0 (.fresh 0 0 (!w.params.followText "set-order")) }) : SR P w G h a [] #[] 0 (.fresh 0 0 (!w.params.followText "set-order")) := by
  refine ⟨⟨_, o, ⟨rfl, rfl, rfl⟩, rfl⟩, rfl, ⟨List.Pairwise.nil, rfl, rfl, .inl rfl, fun _ z => absurd z List.not_mem_nil, fun i h j z => nomatch z⟩, List.nodup_nil, fun _ z => absurd z List.not_mem_nil, rfl, ?_, (by decide : 0 * 5 < 7 * 3), fun _ z => absurd z List.not_mem_nil⟩
  show _ ∨ (!w.params.followText "set-order") = true
  cases w.params.followText "set-order"
  · exact .inr rfl
  · exact .inl rfl
/-- set.update's loop over a list of pairs -/
theorem fill_sr {I : Addr} {fp wr : List Addr} {Gs : Array GenState → Array GenState → Prop} {n : Nat} {Pv : Nat → Value → Prop} {St : Nat → Shared → Prop} {R : Result → Shared → Prop} (W : WalksS P w A.in1 I fp wr Gs n Pv St) (S : Addr) (out : S ∉ fp)
    (ks : KL) (g144 : G.length ≤ 144) (grid : ∀ p ∈ ks, p.2 ∈ G) (val : ∀ i v, i < n → Pv i v → ∃ p ∈ ks, v = .ref p.1) (h0 : Heap) (tup : ∀ p ∈ ks, IsT P w h0 p.2 p.1) (newS : h0.get? S = none) (newW : ∀ b ∈ wr, h0.get? b = none) (hu : A.in1.units < cLine) :
    ∀ (k i : Nat) (s : Shared), n - i = k → i ≤ n → St i s → (∀ b o, h0.get? b = some o → s.heap.get? b = some o) → (∃ L es ep t, SR P w G s.heap S L es ep t ∧ ∀ p ∈ L, p ∈ ks) →
      (∀ s' L es ep t, Moved (S :: wr) Gs s s' → SR P w G s'.heap S L es ep t → (∀ p ∈ L, p ∈ ks) → (∀ b o, h0.get? b = some o → s'.heap.get? b = some o) → R (.ok (.ret .none)) s') →
      codeAny (model P w) A (.builtin "set.update.loop" ⟨[.ref S, .ref I], []⟩) R s := by
  have wS : S ∉ wr := fun z => out (W.sub _ z)
  have old : ∀ {s s' : Shared}, Moved wr Gs s s' → (∀ b o, h0.get? b = some o → s.heap.get? b = some o) → ∀ b o, h0.get? b = some o → s'.heap.get? b = some o := fun mv kp b o e =>
    mv.heap b o (fun z => by rw [newW b z] at e; cases e) (kp b o e)
  intro k
  induction k with
  | zero =>
    intro i s hk hi st kp ⟨L, es, ep, t, sr, sub⟩ fin
    obtain rfl : i = n := by omega
    refine codeAny_builtin F.entry_set_update_loop ?_
    rw [Around.under_plainId F.plain_set_update_loop _]
    show wpAny _ A.in1 (pyNext (.ref I) >>= _) _ _ s
    refine wpAny_bind (W.done s _ _ st fun s' mv => ?_)
    have kp2 := old mv kp
    exact wpAny_pure (fin s' L es ep t (mv.mono fun b hb => List.mem_cons_of_mem _ hb) (sr.keep (fun o e => mv.heap S o wS e) fun p hp => isT_keep (tup p (sub p hp)) kp2) sub kp2)
  | succ k ih =>
    intro i s hk hi st kp ⟨L, es, ep, t, sr, sub⟩ fin
    have lt : i < n := by omega
    refine codeAny_builtin F.entry_set_update_loop ?_
    rw [Around.under_plainId F.plain_set_update_loop _]
    show wpAny _ A.in1 (pyNext (.ref I) >>= _) _ _ s
    refine wpAny_bind (W.item i s _ _ lt st fun v s' hv st2 mv => ?_)
    obtain ⟨p, pk, rfl⟩ := val i v lt hv
    have kp2 := old mv kp
    have sr2 : SR P w G s'.heap S L es ep t := sr.keep (fun o e => mv.heap S o wS e) fun q hq => isT_keep (tup q (sub q hq)) kp2
    have hx : IsT P w s'.heap p.2 p.1 := isT_keep (tup p pk) kp2
    show wpAny _ A.in1 (holding [Value.ref p.1] (setAdd S (.ref p.1)) >>= _) _ _ s'
    refine wpAny_bind (wpAny_holding ?_)
    unfold setAdd
    refine wpAny_holding (wpAny_bind (wpAny_pyHash_tuple hu hx ?_))
    refine add_sr (s := { s' with toks := s'.toks + (p.2.length + 1) }) sr2 g144 hx (grid p pk) hu fun b h' L' es' ep' t' same sr3 c1 c2 => ?_
    have sub2 : ∀ q ∈ L', q ∈ ks := fun q hq => by
      by_cases c : p.2 ∈ L.map (·.2)
      · rw [c1 c] at hq; exact sub q hq
      · rcases List.mem_cons.mp ((c2 c).mem_iff.mp hq) with rfl | hq
        · exact pk
        · exact sub q hq
    have kp3 : ∀ b o, h0.get? b = some o → h'.get? b = some o := fun b o e => (same.2 b fun z => by rw [z, newS] at e; cases e).trans (kp2 b o e)
    refine wpAny_pure ⟨plainId_quiet F.plain_set_update_loop _, ih (i + 1) _ (by omega) lt (W.frame _ s' _ _ st2 (Nat.le_add_right _ _) fun b hb o e => (same.2 b fun z => out (z ▸ hb)).trans e) kp3 ⟨L', es', ep', t', sr3, sub2⟩ fun s3 L3 es3 ep3 t3 mv3 sr4 sub3 kp4 => ?_⟩
    refine fin s3 L3 es3 ep3 t3 (Moved.trans W.gtrans ((mv.mono fun b hb => List.mem_cons_of_mem _ hb).then_heap (Nat.le_add_right _ _) fun b o nb e => ?_) mv3) sr4 sub3 kp4
    exact (same.2 b fun z => nb (z ▸ .head _)).trans e
end
end Sn
set_option Elab.async false
set_option linter.all false
set_option maxRecDepth 100000
set_option maxHeartbeats 4000000
/-! set(xs), sorted(set(xs)) of pairs of numbers. -/
namespace Sn
open PySem PySem.Spec PyProof.Rows L2
section
variable {P : Program} {w : World} {G : List (List Int)} {A : Around} {E : Value → Shared → Prop} {s : Shared} {a : Addr} {L : KL} {es : Array (Int × Value)} {ep : Nat} {t : SetTable}
abbrev set0 (w : World) : Obj := { cls := .type "set", dict := none, data := .set #[] 0 (.fresh 0 0 (!w.params.followText "set-order")) }
theorem call_set_sr {l : Addr} {items : Array Value} (ks : KL) {Q : Value → Shared → Prop} (calm : A.handled = none) (hl : s.heap.IsList l items) (hit : items.toList = ks.map fun p => Value.ref p.1) (tup : ∀ p ∈ ks, IsT P w s.heap p.2 p.1)
    (g144 : G.length ≤ 144) (grid : ∀ p ∈ ks, p.2 ∈ G) (hu : A.units + 3 < cLine)
    (go : ∀ (h' : Heap) (tk : Nat) L es ep t, SR P w G h' s.heap.objs.size L es ep t → (∀ p ∈ L, p ∈ ks) → (∀ b o, s.heap.get? b = some o → h'.get? b = some o) → Q (.ref s.heap.objs.size) { s with heap := h', toks := tk }) :
    wpAny (model P w) A (call (.type "set") [.ref l]) Q E s := by
  obtain ⟨c, tl, hmro⟩ := F.called_set.mro
  have m1 := F.called_set.made
  have m2 := F.called_set.sub
  refine wpAny_call (codeAny_of_tree ?_)
  show wpAny _ _ (callAny (.type "set") _) _ _ _
  refine wpAny_pure ⟨Code.quiet_builtin _ (by decide +kernel), codeAny_builtin F.entry_type_call ?_⟩
  rw [Around.under_plain (weight_type_call_type "set" [.ref l] []) rfl]
  have m3 := F.called_set.notType
  have m4 := F.called_set.canCreate
  have m5 := F.typeCall_set_1 (.ref l)
  repeat any_goals first | assumption | wp_step
  refine codeAny_mono (code_set_led1 (.ref l) (E := E) (Q₁ := fun obj s₁ => obj = .ref s.heap.objs.size ∧ s₁ = { s with heap := s.heap.push (set0 w) }) ⟨rfl, rfl⟩) fun r s₁ hr => ?_
  cases r with
  | error e => exact hr
  | ok fl =>
    cases fl with
    | ret obj =>
      obtain ⟨rfl, rfl⟩ := hr
      have hS : (s.heap.push (set0 w)).get? s.heap.objs.size = some (set0 w) := Heap.get?_push_size _ rfl
      have hT : Shared.TypeIs { s with heap := s.heap.push (set0 w) } (.ref s.heap.objs.size) "set" := ⟨_, hS, rfl⟩
      have m6 := F.called_set.init.lookup
      have m7 := F.called_set.init.bind (.ref s.heap.objs.size)
      repeat any_goals first | assumption | wp_step
      refine codeAny_mono (codeAny_call_builtin (R := wants (fun r s₂ => r = .none ∧ ∃ h' tk L es ep t, s₂ = { s with heap := h', toks := tk } ∧ SR P w G h' s.heap.objs.size L es ep t ∧ (∀ p ∈ L, p ∈ ks) ∧
          (∀ b o, s.heap.get? b = some o → h'.get? b = some o)) E) F.called_set.init.plain F.entry_set_init (check_set_init_1 hT ?_)) fun r₂ s₂ hr₂ => ?_
      · obtain ⟨⟨ocls, odict, odata, oslots⟩, ho, hc, nl, hd⟩ := hl
        dsimp only at hc hd
        subst hc hd
        have ho2 : (s.heap.push (set0 w)).get? l = some { cls := .type "list", dict := odict, data := .seq items nl, slots := oslots } := Heap.get?_push_of_some _ ho
        have n1 := F.sub_list_set
        have n2 := F.sub_list_frozenset
        have n3 : (Value.type "list" == Value.type "dict") = false := by decide
        have hl2 : (s.heap.push (set0 w)).IsList l items := ⟨_, ho2, rfl, nl, rfl⟩
        unfold Builtin.«set.__init__» noKeywords Builtin.Frozenset.updateFrom
        generalize hPI : pyIter = PI
        wp_walk
        subst hPI
        refine wpAny_pyIter_list hl2 (wpAny_bind (wpAny_runValue ?_))
        have lS : l < s.heap.objs.size := Heap.lt_size ho
        have sz : (s.heap.push (set0 w)).objs.size = s.heap.objs.size + 1 := Heap.size_push ..
        have nI : l ≠ (s.heap.push (set0 w)).objs.size := by rw [sz]; exact Nat.ne_of_lt (Nat.lt_succ_of_lt lS)
        have free : ∀ b, s.heap.objs.size ≤ b → s.heap.get? b = none := fun b hb => by
          cases q : s.heap.get? b with
          | none => rfl
          | some o => exact absurd (Heap.lt_size q) (Nat.not_lt.mpr hb)
        have calm3 : A.in1.in1.in1.handled = none := calm
        refine fill_sr ((Walks.list calm3 _ l nI items).toS) s.heap.objs.size (fun z => ?_) ks g144 grid (fun i v lt hv => ?_) s.heap tup (free _ (Nat.le_refl _)) (fun b hb => free b (by rw [List.mem_singleton.mp hb, sz]; exact Nat.le_succ _)) hu items.size 0 _ rfl (Nat.zero_le _)
          ⟨⟨_, Heap.get?_push_size _ rfl, rfl, rfl⟩, hl2.push _⟩ (fun b o e => Heap.get?_push_of_some _ (Heap.get?_push_of_some _ e)) ⟨[], #[], 0, _, sr_new (Heap.get?_push_of_some _ hS), fun _ z => absurd z List.not_mem_nil⟩ ?_
        · rw [List.mem_cons, List.mem_singleton, sz] at z
          exact z.elim (fun z => absurd z (Nat.ne_of_lt (Nat.lt_succ_self _))) fun z => absurd z.symm (Nat.ne_of_lt lS)
        · have q : items.toList[i]? = some v := (Array.getElem?_toList).trans hv
          rw [hit] at q
          obtain ⟨p, hp, e⟩ := map_get q
          exact ⟨p, List.mem_of_getElem? hp, e⟩
        · intro s' L es ep t mv sr sub kp
          obtain ⟨h', g2, d', tk', os'⟩ := s'
          obtain rfl : g2 = s.gens := mv.gens
          obtain rfl : d' = s.drawn := mv.drawn
          obtain rfl : os' = s.os := mv.os
          exact wpAny_pure (wpAny_pure ⟨rfl, h', tk', L, es, ep, t, rfl, sr, sub, kp⟩)
      · cases r₂ with
        | error e => exact hr₂
        | ok fl₂ =>
          cases fl₂ with
          | ret r =>
            obtain ⟨rfl, h', tk, L, es, ep, t, rfl, sr, sub, kp⟩ := hr₂
            repeat any_goals first | assumption | wp_step
            exact go _ _ _ _ _ _ sr sub kp
          | _ => exact hr₂.elim
    | _ => exact hr.elim
end
end Sn
set_option Elab.async false
set_option linter.all false
set_option maxRecDepth 100000
set_option maxHeartbeats 4000000
/-! sorted(set(xs)) of pairs of numbers. -/
namespace Sn
open PySem PySem.Spec PyProof.Rows L2 PySem.W
section
variable {P : Program} {w : World} {G : List (List Int)} {A : Around} {E : Value → Shared → Prop} {s : Shared} {a : Addr} {L : KL} {es : Array (Int × Value)} {ep : Nat} {t : SetTable}
abbrev encK (p : Addr × List Int) : PyData := .tuple (p.2.map .int)
theorem reads_ints {h : Heap} : ∀ {k : List Int} {vs : List Value}, ItemsAre (intKind P w) k vs → ReadsAll h vs (k.map .int) []
  | [], _, .nil => .nil
  | n :: k, _, .cons r t => by
    obtain ⟨u, rfl⟩ := Value.isInt_shape r
    exact .cons (.int _ _) (reads_ints t)
theorem isT_reads {h : Heap} {k : List Int} {b : Addr} (x : IsT P w h k b) : Reads h (.ref b) (.tuple (k.map .int)) [] := by
  obtain ⟨o, items, n, h1, h2, h3, h4⟩ := x
  exact .tuple h1 h2 h3 (reads_ints h4)
theorem alike_ks (p q : Addr × List Int) : alike (encK p) (encK q) = true := by
  show alikeAll (p.2.map .int) (q.2.map .int) = true
  exact alike_ints _ _
theorem refs_each : ∀ L : KL, EachIs (fun v (p : Addr × List Int) => v = Value.ref p.1) (L.map fun p => Value.ref p.1) L
  | [] => .nil
  | _ :: L => .cons rfl (refs_each L)
theorem each_refs : ∀ {L : KL} {vs : List Value}, EachIs (fun v (p : Addr × List Int) => v = Value.ref p.1) vs L → vs = L.map fun p => Value.ref p.1
  | [], _, .nil => rfl
  | _ :: _, _, .cons h t => by rw [h, each_refs t] <;> rfl
theorem reads_each {h : Heap} : ∀ L : KL, (∀ p ∈ L, IsT P w h p.2 p.1) → EachIs (fun v (p : Addr × List Int) => ∃ as, Reads h v (encK p) as ∧ a ∉ as) (L.map fun p => Value.ref p.1) L
  | [], _ => .nil
  | p :: L, z => .cons ⟨[], isT_reads (z p (.head _)), List.not_mem_nil⟩ (reads_each L fun q hq => z q (.tail _ hq))
theorem sorted_sr (R : SR P w G s.heap a L es ep t) (g144 : G.length ≤ 144) (two : ∀ k ∈ G, k ≠ []) (calm : A.handled = none) (hu : A.units + 8 < cLine) {Q : Value → Shared → Prop}
    (go : ∀ s' p (out : Array Value) (c : Nat) (L' : KL), (∀ b o, s.heap.get? b = some o → s'.heap.get? b = some o) → s'.gens = s.gens → s'.os = s.os → s.heap.objs.size ≤ p → s'.heap.get? p = some (seqObj "list" out c) →
      out.toList = L'.map (fun q => Value.ref q.1) → L'.Perm L → Q (.ref p) s') : wpAny (model P w) A (call (.builtin "sorted") [.ref a]) Q E s := by
  obtain ⟨o, o1, o2, o3⟩ := R.ob
  have few := R.few
  have sz := R.len
  refine Calls.call_function_entry kind_sorted plain_sorted entry_sorted (args_sorted1 _) ?_
  unfold Builtin.«sorted»
  refine wpAny_bind (m := checkCount "sorted" 1 1 _) (wpAny_pure ?_)
  refine wpAny_bind (collect_set (A := A.in1) calm ⟨o, o1, o2.1, o3⟩ R.fits (by unfold scanBound; omega) R.tb.ris R.led fun s1 vs k1 hz g1 os1 pm => ?_)
  have er : es.toList.map (·.2) = L.map fun q => Value.ref q.1 := by
    rw [R.rows, L2.rowsOf, List.map_map] <;> rfl
  rw [er] at pm
  obtain ⟨L1, p1, rfl⟩ := perm_map pm L rfl
  have l1 : L1.length ≤ 144 := by rw [p1.length_eq]; omega
  refine wpAny_bind (wpAny_newList ?_ (by rw [List.length_map, sizeLine_eq]; omega))
  have hL : (s1.heap.push (seqObj "list" (L1.map fun p => Value.ref p.1).toArray 0)).get? s1.heap.objs.size = some (seqObj "list" (L1.map fun p => Value.ref p.1).toArray 0) := Heap.get?_push_size _ rfl
  have tup1 : ∀ p ∈ L1, IsT P w (s1.heap.push (seqObj "list" (L1.map fun p => Value.ref p.1).toArray 0)) p.2 p.1 := fun p hp => isT_keep (R.tup p (p1.mem_iff.mp hp)) fun b u e => Heap.get?_push_of_some _ (k1 b u e)
  have deep : ∀ p : Addr × List Int, (encK p).depth ≤ 1 := fun p => by
    show (PyData.tuple (p.2.map .int)).depth ≤ 1
    have := depth_ints p.2
    simp only [PyData.depth]
    omega
  have srt : Sortable (L1.map encK) := .inl fun d hd => by
    obtain ⟨p, hp, rfl⟩ := List.mem_map.mp hd
    have ne := two p.2 (R.grid p (p1.mem_iff.mp hp))
    show ∃ x r, PyData.tuple (p.2.map .int) = .tuple (x :: r)
    cases e : p.2 with
    | nil => exact absurd e ne
    | cons x r => exact ⟨_, _, rfl⟩
  refine wpAny_bind (wpAny_holding (list_sort_data (s := { s1 with heap := s1.heap.push (seqObj "list" (L1.map fun p => Value.ref p.1).toArray 0) }) (enc := encK) hL (refs_each L1) (reads_each (P := P) (w := w) L1 tup1) (AllAlike.of alike_ks) srt
    (by rw [sizeLine_eq]; omega) (fun p _ => by have := deep p; show A.units + 1 + 1 + (encK p).depth < cLine; omega) fun out ho eo => ?_))
  obtain ⟨c, hc⟩ := sortedHeap_at (vs := L1.map fun p => Value.ref p.1) (out := out.toArray) hL
  refine wpAny_pure ⟨_, rfl, go _ s1.heap.objs.size out.toArray c _ (fun b u e => ?_) g1 os1 hz hc (each_refs eo) ((List.mergeSort_perm _ _).trans p1)⟩
  have q := k1 b u e
  have lt := Heap.lt_size q
  show (sortedHeap _ s1.heap.objs.size _ out.toArray).get? b = some u
  rw [sortedHeap_old (Nat.ne_of_lt lt) (by rw [size_push']; exact Nat.lt_succ_of_lt lt)]
  exact Heap.get?_push_of_some _ q
end
end Sn
set_option Elab.async false
set_option linter.all false
set_option maxRecDepth 100000
set_option maxHeartbeats 4000000
/-! The expression sorted(set(xs)). -/
namespace Sn
open PySem PySem.Spec PyProof.Rows L2
section
variable {P : Program} {w : World} {G : List (List Int)} {K : PySem.W.Frag} {H : Hp} {a : Addr} {L : KL}
def S0 (P : Program) (w : World) (G : List (List Int)) (h : Heap) (a : Addr) (L : KL) : Prop := ∃ es ep t, (∃ o, h.get? a = some o ∧ o.ExactSet ∧ o.data = .set es ep t) ∧ es.toList = rowsOf P w L ∧ Tb t (hsL P w L) ∧ (L.map (·.2)).Nodup ∧ t.plain = true ∧
  (w.params.followText "set-order" = true ∨ t.led = true) ∧ L.length * 5 < t.mask * 3 ∧ ∀ p ∈ L, p.2 ∈ G
def SetO (P : Program) (w : World) (G : List (List Int)) (a : Addr) (L : KL) : HO := .ext fun h => S0 P w G h a L
theorem S0.of {h : Heap} {es : Array (Int × Value)} {ep : Nat} {t : SetTable} (R : SR P w G h a L es ep t) : S0 P w G h a L := ⟨es, ep, t, R.ob, R.rows, R.tb, R.nd, R.plain, R.led, R.room, R.grid⟩
theorem S0.sr {h : Heap} (z : S0 P w G h a L) (tup : ∀ p ∈ L, IsT P w h p.2 p.1) : ∃ es ep t, SR P w G h a L es ep t := by
  obtain ⟨es, ep, t, h1, h2, h3, h4, h5, h6, h7, h8⟩ := z
  exact ⟨es, ep, t, h1, h2, h3, h4, tup, h5, h6, h7, h8⟩
theorem setO_ok {h : Heap} (z : S0 P w G h a L) : ObjOk P w H h a (SetO P w G a L) := by
  have there : ∃ o, h.get? a = some o := let ⟨_, _, _, ⟨o, e, _⟩, _⟩ := z; ⟨o, e⟩
  refine ⟨z, there, fun h1 h2 q k => ?_⟩
  obtain ⟨es, ep, t, ⟨o, e, r⟩, q⟩ := q
  exact ⟨es, ep, t, ⟨o, k o e, r⟩, q⟩
/-- the numbers below twelve, by pairs -/
def grid12 : List (List Int) := (List.range 12).flatMap fun x => (List.range 12).map fun y => [((x : Nat) : Int), ((y : Nat) : Int)]
theorem grid12_len : grid12.length = 144 := by decide +kernel
theorem grid12_mem {x y : Nat} (hx : x < 12) (hy : y < 12) : [((x : Nat) : Int), ((y : Nat) : Int)] ∈ grid12 :=
  List.mem_flatMap.mpr ⟨x, List.mem_range.mpr hx, List.mem_map.mpr ⟨y, List.mem_range.mpr hy, rfl⟩⟩
theorem grid12_two : ∀ k ∈ grid12, k ≠ [] := fun k hk => by
  obtain ⟨x, _, hk⟩ := List.mem_flatMap.mp hk
  obtain ⟨y, _, rfl⟩ := List.mem_map.mp hk
  exact List.cons_ne_nil _ _
def RowK (K : PySem.W.Frag) (H : Hp) (ps : List (Nat × Nat)) (p : Addr × List Int) : Prop := ∃ q ∈ ps, p.2 = [((q.1 : Nat) : Int), ((q.2 : Nat) : Int)] ∧ SqT K H p.1 (p.2.map V.int)
theorem rows_of : ∀ {as : List Addr} {ps : List (Nat × Nat)}, Paired (PNat K H) as ps → ∃ ks : KL, (ks.map fun p => V.ref p.1) = as.map V.ref ∧ ∀ p ∈ ks, RowK K H ps p
  | _, _, .nil => ⟨[], rfl, fun _ z => absurd z List.not_mem_nil⟩
  | _, _, .cons (a := a) (b := q) h t => by
    obtain ⟨ks, e, z⟩ := rows_of t
    refine ⟨(a, [((q.1 : Nat) : Int), ((q.2 : Nat) : Int)]) :: ks, by rw [List.map_cons, List.map_cons, e], fun p hp => ?_⟩
    rcases List.mem_cons.mp hp with rfl | hp
    · exact ⟨q, .head _, rfl, h⟩
    · obtain ⟨q', m, r⟩ := z p hp
      exact ⟨q', .tail _ m, r⟩
theorem of_rows {ps : List (Nat × Nat)} : ∀ L : KL, (∀ p ∈ L, RowK K H ps p) → ∃ qs : List (Nat × Nat), Paired (PNat K H) (L.map (·.1)) qs ∧ (∀ q ∈ qs, q ∈ ps) ∧ qs.length = L.length
  | [], _ => ⟨[], .nil, fun _ z => absurd z List.not_mem_nil, rfl⟩
  | p :: L, z => by
    obtain ⟨qs, h1, h2, h3⟩ := of_rows L fun q hq => z q (.tail _ hq)
    obtain ⟨q, m, e, r⟩ := z p (.head _)
    rw [e] at r
    refine ⟨q :: qs, .cons r h1, fun q' hq' => ?_, by rw [List.length_cons, List.length_cons, h3]⟩
    rcases List.mem_cons.mp hq' with rfl | hq'
    · exact m
    · exact h2 q' hq'
def rSetP (K : PySem.W.Frag) (P : Program) (w : World) : List V → Hp → VK → Prop := fun xs H Q => ∃ (l : Addr) (ks : KL), xs = [V.ref l] ∧ SqL K H l (ks.map fun p => V.ref p.1) ∧ (∀ p ∈ ks, SqT K H p.1 (p.2.map V.int)) ∧ (∀ p ∈ ks, p.2 ∈ grid12) ∧
  ∀ (a : Addr) (L : KL), H a = none → (∀ p ∈ L, p ∈ ks) → Q (.ref a) (upd H a (SetO P w grid12 a L))
end
section
variable {X : Cx}
theorem cr_setP (hc : X.calm = true) (hu : X.A.units + 64 < cLine) : CallR X (.type "set") (rSetP X.K X.prog X.w) := by
  intro pins s σ H xs us Q I r h
  obtain ⟨l, ks, rfl, hl, tup, grid, q⟩ := h
  rw [Vals.ref1 r]
  obtain ⟨its, rv, pl, hz⟩ := I.list hl
  refine call_set_sr (P := X.prog) (w := X.w) (G := grid12) ks (I.ok.hd hc) pl.isList (by simpa using refs_of_vals rv) (fun p hp => I.isT (tup p hp)) (Nat.le_of_eq grid12_len) grid (by omega) fun h' tk L es ep t R sub kp => ?_
  exact ⟨.ref s.heap.objs.size, _, I.laid (t' := tk) kp (Nat.le_refl _) (setO_ok (S0.of R)), rfl, q _ L (I.hok.fresh (Nat.le_refl _)) sub⟩
def rSortP (K : PySem.W.Frag) (P : Program) (w : World) : List V → Hp → VK → Prop := fun vs H Q => ∃ (a : Addr) (L : KL), vs = [V.ref a] ∧ H a = some (SetO P w grid12 a L) ∧ (∀ p ∈ L, SqT K H p.1 (p.2.map V.int)) ∧
  ∀ (D : Addr) (L' : KL), L'.Perm L → L'.length ≤ 144 → H D = none → Q (.ref D) (upd H D (.lst (L'.map fun p => V.ref p.1)))
theorem cr_sortP (hc : X.calm = true) (hu : X.A.units + 64 < cLine) : CallR X (.builtin "sorted") (rSortP X.K X.prog X.w) := by
  intro pins s σ H vs us Q I r h
  obtain ⟨a, L, rfl, ha, tup, q⟩ := h
  have z : S0 X.prog X.w grid12 s.heap a L := (I.hok a _ ha).1
  obtain ⟨es, ep, t, R⟩ := z.sr fun p hp => I.isT (tup p hp)
  rw [Vals.ref1 r]
  refine sorted_sr R (Nat.le_of_eq grid12_len) grid12_two (I.ok.hd hc) (by omega) fun s' D out c L' kp eg eo hD hg ho pm => ?_
  have few : L'.length ≤ 144 := by
    have := R.few
    rw [grid12_len] at this
    rw [pm.length_eq]
    exact this
  have fresh : H D = none := I.hok.fresh hD
  have vals : Vals (L'.map fun p => V.ref p.1) out.toList := by rw [ho]; exact vals_of_refs L'
  have short : (L'.map fun p => V.ref p.1).length ≤ sizeLine := by rw [List.length_map, sizeLine_eq]; omega
  have J := I.call (g' := s'.gens) (t' := s'.toks) (d' := s'.drawn) (ch := []) (Un.laid (o := .lst (L'.map fun p => V.ref p.1)) kp hD fresh) (I.hok.laid kp hD ⟨short, out.toList, c, vals, hg⟩) (by rw [eg]; exact I.bare) (fun _ z => nomatch z)
  have same : s' = { s with heap := s'.heap, gens := s'.gens, drawn := s'.drawn, toks := s'.toks } := by
    obtain ⟨_, _, _, _, _⟩ := s'
    cases eo
    rfl
  rw [same]
  exact ⟨.ref D, _, J, rfl, q D L' pm few fresh⟩
def tSortSet (K : PySem.W.Frag) (te : TE) : TE := fun σ H Q => te σ H fun x H1 => ∃ (l : Addr) (as : List Addr) (ps : List (Nat × Nat)), x = .ref l ∧ SqL K H1 l (as.map V.ref) ∧ Paired (PNat K H1) as ps ∧ (∀ p ∈ ps, p.1 < 12 ∧ p.2 < 12) ∧
  ∀ (S D : Addr) (o : HO) (as' : List Addr) (ps' : List (Nat × Nat)), H1 S = none → upd H1 S o D = none → Paired (PNat K H1) as' ps' → (∀ p ∈ ps', p ∈ ps) → ps'.length ≤ 144 → Q (.ref D) (upd (upd H1 S o) D (.lst (as'.map V.ref)))
theorem pe_sortset {e : Expr} {te : TE} {p1 p2 p3 p4 : Pos} (hc : X.calm = true) (hu : X.A.units + 65 < cLine) (hg : Gl X "sorted") (hm : X.mg "sorted" = none) (hg2 : Gl X "set") (hm2 : X.mg "set" = none) (he : PE X e te)
    (h1 : starEach [e] X.env = [(false, eval e X.env)] := by rfl) (h2 : starEach [.Call (.Name "set" p2) [e] [] p3] X.env = [(false, eval (.Call (.Name "set" p2) [e] [] p3) X.env)] := by rfl) :
    PE X (.Call (.Name "sorted" p1) [.Call (.Name "set" p2) [e] [] p3] [] p4) (tSortSet X.K te) := by
  refine ⟨fun pins s σ H Q I q => ?_⟩
  let R : VK := fun x H1 => ∃ (l : Addr) (as : List Addr) (ps : List (Nat × Nat)), x = .ref l ∧ SqL X.K H1 l (as.map V.ref) ∧ Paired (PNat X.K H1) as ps ∧ (∀ p ∈ ps, p.1 < 12 ∧ p.2 < 12) ∧
    ∀ (S D : Addr) (o : HO) (as' : List Addr) (ps' : List (Nat × Nat)), H1 S = none → upd H1 S o D = none → Paired (PNat X.K H1) as' ps' → (∀ p ∈ ps', p ∈ ps) → ps'.length ≤ 144 → Q (.ref D) (upd (upd H1 S o) D (.lst (as'.map V.ref)))
  have he2 : PE X e (fun σ' H' Q' => te σ' H' R ∧ ∀ x H1, R x H1 → Q' x H1) := ⟨fun pins s σ H Q I z => thn (he.run pins s σ H R I z.1) fun u s1 ⟨x, H1, I1, r1, q1⟩ => ⟨x, H1, I1, r1, z.2 x H1 q1⟩⟩
  have inner := pe_callTy (p := p2) (pos := p3) (cr_setP (X := X) hc (by omega)) hg2 hm2 bt_set (pa_cons he2 pa_nil h1) (he := h1)
  have outer := pe_callB (p := p1) (pos := p4) (cr_sortP (X := X) hc (by omega)) hg hm bt_sorted (pa_cons inner pa_nil h2) (he := h2)
  refine outer.run pins s σ H Q I ⟨q, fun x H1 r => ?_⟩
  obtain ⟨l, as, ps, rfl, hl, hp, small, go⟩ := r
  obtain ⟨ks, k1, k2⟩ := rows_of hp
  refine ⟨l, ks, rfl, by rw [k1]; exact hl, fun p hp => let ⟨_, _, _, z⟩ := k2 p hp; z, fun p hp => ?_, fun S L hS sub => ?_⟩
  · obtain ⟨r, m, e, _⟩ := k2 p hp
    rw [e]
    exact grid12_mem (small r m).1 (small r m).2
  · have gS : Fr0 X.K H1 (upd H1 S (SetO X.prog X.w grid12 S L)) := .new hS
    refine ⟨S, L, rfl, upd_same, fun p hp => gS.tup (let ⟨_, _, _, z⟩ := k2 p (sub p hp); z), fun D L' pm few hD => ?_⟩
    obtain ⟨qs, q1, q2, q3⟩ := of_rows (K := X.K) (H := H1) L' fun p hp => k2 p (sub p (pm.mem_iff.mp hp))
    have := go S D _ (L'.map (·.1)) qs hS hD q1 q2 (by omega)
    rw [List.map_map] at this
    exact this
end
end Sn
set_option Elab.async false
set_option linter.all false
set_option maxRecDepth 100000
set_option maxHeartbeats 4000000
namespace Sn
open PySem PySem.Spec PyProof.Rows L2
theorem st_eq {t : TS} {D : Ends} {σ : L2.St} {H : Hp} (σ0 : L2.St) (e : σ = σ0) (h : t D σ0 H) : t D σ H := by rw [e]; exact h
section
variable {P : Program} {w : World} {K : PySem.W.Frag} {mg : Str → Option Value} {base : Heap} {S : Addr → Prop} {H H1 : Hp} {b : BookD} {rs : List RowM}
def spLaw (K : PySem.W.Frag) : Sp := fun vs H Q _ => ∃ (sl : Addr) (ns : List Int), vs = [.ref sl] ∧ SqL K H sl (ns.map V.int) ∧ LamX.Tabs (TB K) H ∧ ∀ H', Q (.bl true) H'
theorem fn_body {x : Str} {st : Stmt} {N ps : List Str} {k : Nat} {sp : Sp} {fd : FuncData} (F : FunD K x x (defArgs st) (defBody st) (defScope st) [] [] (He.ga K x) fd)
    (S : FnScope N ps (defScope st)) (len : ∀ vs H Q E, sp vs H Q E → vs.length = ps.length)
    (body : ∀ (cdv : Value) (A : Around) (outer : List Env) (s : Shared) (H : Hp) (vs : List V) (Q : VK) (E : XK), Room k (A.deeper (envOfC x (defScope st) s.heap.objs.size (He.ga K x) cdv)) → sp vs H Q E →
      ∃ t, PSs (cxOf L2.CX0 P w K mg base N x (defScope st) (He.ga K x) cdv A outer s H E).nox (defBody st) t ∧ t { nx := fun _ H' => Q .non H', rt := Q } (start N vs) H) : FnOk P w K mg base L2.CX0 (k + 1) (He.ga K x) fd ps sp :=
  F.ok S len fun cdv A outer s H vs Q E hr h => let ⟨t, h1, h2⟩ := body cdv A outer s H vs Q E hr h; ⟨t, h1.nox, h2⟩
theorem ok_law (T : Tx K mg) (B : TbB K mg base) {fd : FuncData} (FD : FunD K "law" "law" (defArgs s_law) (defBody s_law) (defScope s_law) [] [] (He.ga K "law") fd) : FnOk P w K mg base L2.CX0 9 (He.ga K "law") fd ["_law_script"] (spLaw K) := by
  have c_L_draw : C8.Cal P w K mg base 1 "_law_draw" (spDraw K) [] := c_L_draw T
  have c_L_pool : C8.Cal P w K mg base 1 "_law_pool" (spPool K) [] := c_L_pool T
  have c_L_book : C8.Cal P w K mg base 3 "_law_book" (spLBook K) [] := c_L_book T
  have c_L_run : C8.Cal P w K mg base 6 "_law_run" (spLRun K) [] := c_L_run T
  have c_L_gone : C8.Cal P w K mg base 2 "_law_gone" (spLGone K) [] := c_L_gone T
  have c_L_right : C8.Cal P w K mg base 8 "_law_right" (spLRight K) [] := c_L_right T B
  have c_spans_of : C8.Cal P w K mg base 7 "spans_of" (spSpansOf K) [] := c_spans_of T B
  have c_must : C8.Cal P w K mg base 7 "must" (spMust K) [] := c_must T B
  have c_ring_of : C8.Cal P w K mg base 7 "ring_of" (spRingOf K) [] := c_ring_of T B
  have c_order_of : C8.Cal P w K mg base 7 "order_of" (spOrderOf K) [] := c_order_of T B
  have c_between : C8.Cal P w K mg base 7 "between" (spBetween K) [] := c_between T B
  refine fn_body FD sc_law (fun vs H Q E h => ?_) (fun cdv A outer s H vs Q E hr h => ?_)
  · obtain ⟨sl, ns, rfl, _⟩ := h
    rfl
  · obtain ⟨sl, ns, rfl, hsl, htabs, q⟩ := h
    have hu := hu_of hr
    refine ⟨_, (pss_cons (ps_set (i := 1) sc_law.nd rfl (Or.inl rfl) (C8.pe_c c_L_book hr (by decide) rfl (pa_cons (C8.pe_c c_L_pool hr (by decide) rfl (pa_cons (pv 0) (pa_cons pe_int pa_nil))) (pa_cons pe_int (pa_cons pe_int pa_nil)))))
      (pss_cons (ps_asg (C8.pe_c c_L_run hr (by decide) rfl (pa_cons (pv 0) (pa_cons pe_int (pa_cons (pv 1) (pa_cons pe_int (pa_cons pe_int pa_nil)))))) (pg_tup rfl (pgs_cons (pg_name (i := 2) sc_law.nd rfl (Or.inl rfl)) (pgs_cons (pg_name (i := 3) sc_law.nd rfl (Or.inl rfl)) pgs_nil))))
      (pss_cons (ps_set (i := 4) sc_law.nd rfl (Or.inl rfl) (C8.pe_c c_spans_of hr (by decide) rfl (pa_cons (pv 1) (pa_cons (pv 2) pa_nil))))
      (pss_cons (ps_set (i := 5) sc_law.nd rfl (Or.inl rfl) (C8.pe_c c_must hr (by decide) rfl (pa_cons (pv 1) (pa_cons (pv 2) pa_nil))))
      (C8.pss_cut (ps_setLc (i := 6) (own := [("_law_one", 12), ("_law_other", 13), ("_law_word", 14), ("_law_key", 15)]) (by rfl) sc_law.nd rfl rfl (sw_true rfl rfl rfl (by decide +kernel)) (pi_list (pv 5)) (blkOk_by (own := [("_law_one", 12), ("_law_other", 13), ("_law_word", 14), ("_law_key", 15)]) (N := n_law) (sc := defScope s_law) (by decide +kernel)) (fun _ _ _ _ _ => (pg_tupK (K := K) (n := 4) rfl rfl (pgs_cons (pg_name (i := 12) sc_law.nd rfl (Or.inl rfl)) (pgs_cons (pg_name (i := 13) sc_law.nd rfl (Or.inl rfl)) (pgs_cons (pg_name (i := 14) sc_law.nd rfl (Or.inl rfl)) (pgs_cons (pg_name (i := 15) sc_law.nd rfl (Or.inl rfl)) pgs_nil)))))) (fun _ _ _ _ _ => (pts_one (pt_cmpR op_eq (pv 14) pe_str (nomark _)))) (fun _ _ _ _ _ => (pe_tup (pa_cons (pv 12) (pa_cons (pv 13) pa_nil)))))
      (C8.pss_cut (ps_set (i := 7) sc_law.nd rfl (Or.inl rfl) (pe_sortset rfl (u65_of hr) (by rfl) T.fr_sorted (by rfl) T.fr_set (pe_lc (own := [("_law_one", 12), ("_law_other", 13), ("_law_word", 14), ("_law_key", 15)]) (by rfl) sc_law.nd (pi_list (pv 5)) (blkOk_by (own := [("_law_one", 12), ("_law_other", 13), ("_law_word", 14), ("_law_key", 15)]) (N := n_law) (sc := defScope s_law) (by decide +kernel)) (fun _ _ _ _ _ => (pg_tupK (K := K) (n := 4) rfl rfl (pgs_cons (pg_name (i := 12) sc_law.nd rfl (Or.inl rfl)) (pgs_cons (pg_name (i := 13) sc_law.nd rfl (Or.inl rfl)) (pgs_cons (pg_name (i := 14) sc_law.nd rfl (Or.inl rfl)) (pgs_cons (pg_name (i := 15) sc_law.nd rfl (Or.inl rfl)) pgs_nil)))))) (fun _ _ _ _ _ => pts_nil) (fun _ _ _ _ _ => (pe_tup (pa_cons (pv 12) (pa_cons (pv 13) pa_nil)))))))
      (C8.pss_cut (ps_set (i := 8) sc_law.nd rfl (Or.inl rfl) (C8.pe_c c_ring_of hr (by decide) rfl (pa_cons (pv 1) (pa_cons (pv 2) pa_nil))))
      (pss_cons (ps_if (PW.pt (pw_or (pt_cmpR op_ne (pe_cmpR op_isN (pv 8) pe_non (nomark _)) (pe_cmpR op_notN (C8.pe_c c_order_of hr (by decide) rfl (pa_cons (pv 1) (pa_cons (pv 2) pa_nil))) pe_non (nomark _)) (nomark _)) (pw_or1 (PW.pt (pw_and (pt_cmpR (op_eqD hr.units) (C8.pe_c c_between hr (by decide) rfl (pa_cons (pv 1) (pa_cons (pv 2) pa_nil))) (pe_lst pa_nil) (nomark _)) (pw_and1 (pt_cmpR op_notN (pv 8) pe_non (nomark _))))))))
        (pss_one (ps_ret pe_bl))
        pss_nil)
      (C8.pss_cut (ps_set (i := 9) sc_law.nd rfl (Or.inl rfl) (pe_op op_rep (pe_lst (pa_cons (pv 8) pa_nil)) (pe_callTy call_int1 (by rfl) T.fr_int bt_int (pa_cons (pe_cmpR op_notN (pv 8) pe_non (nomark _)) pa_nil))))
      (pss_cons (ps_for PassesOwn.never rfl (pi_range1 rfl T.fr_range (pa_cons (pe_callB (call_max2 rfl) (by rfl) T.fr_max bt_max (pa_cons pe_int (pa_cons (pe_callB (call_min2 rfl) (by rfl) T.fr_min bt_min (pa_cons (pe_callB call_len_seq (by rfl) T.fr_len bt_len (pa_cons (pv 0) pa_nil)) (pa_cons pe_int pa_nil))) pa_nil))) pa_nil)) (pg_name (i := 10) sc_law.nd rfl (Or.inl rfl))
        (pss_cons (ps_set (i := 11) sc_law.nd rfl (Or.inl rfl) (C8.pe_c c_L_pool hr (by decide) rfl (pa_cons (pv 0) (pa_cons (pv 10) pa_nil))))
        (pss_one (ps_if (pt_cmpR (op_neD hr.units) (pv 7) (pe_lst pa_nil) (nomark _))
          (pss_one (ps_expr (pe_bm PySem.F.plainAttrs_list PySem.F.slot_list_append PySem.F.type_list_append mt_append (pv 9) (pa_cons (C8.pe_c c_L_gone hr (by decide) rfl (pa_cons (pv 11) (pa_cons (pv 7) (pa_cons (pe_ix ix_tup (pe_ix ix_list (pv 7) (C8.pe_c c_L_draw hr (by decide) rfl (pa_cons (pv 11) (pa_cons (pe_callB call_len_seq (by rfl) T.fr_len bt_len (pa_cons (pv 7) pa_nil)) pa_nil))) (fun _ _ => rfl)) pe_int (fun _ _ => rfl)) pa_nil)))) pa_nil))))
          pss_nil))))
      (pss_cons (ps_for PassesOwn.never rfl (pi_list (pv 9)) (pg_name (i := 12) sc_law.nd rfl (Or.inl rfl))
        (pss_one (ps_if (PW.pt (pw_and (pt_cmpR (op_neD hr.units) (pv 12) (pe_lst pa_nil) (nomark _)) (pw_and1 (PW.pt (pw_or (pt_cmpR op_isN (pv 8) pe_non (nomark _)) (pw_or1 (pt_not (pt_val (C8.pe_c c_L_right hr (by decide) rfl (pa_cons (pv 1) (pa_cons (pv 2) (pa_cons (pv 12) (pa_cons (pv 6) (pa_cons (pv 4) pa_nil))))))))))))))
          (pss_one (ps_ret pe_bl))
          pss_nil)))
      (pss_one (ps_ret pe_bl))))))))))))), ?_⟩
    refine ⟨_, rfl, sl, ns, _, rfl, hsl, by decide, by decide, fun a px py ha => ?_⟩
    have g1 : Fr0 K H (upd H a (.lst [.int px, .int py])) := .new ha
    have hP1 : PoolAt (upd H a (.lst [.int px, .int py])) a := ⟨px, py, upd_same⟩
    generalize upd H a (.lst [.int px, .int py]) = H1 at g1 hP1 ⊢
    refine ⟨a, rfl, hP1, fun bk b H2 f2 hbk2 hB hN => ?_⟩
    have g2 : Fr0 K H H2 := (g1.wide.trans f2).narrow fun c hc => .inr (by rw [hc]; exact .of ha)
    refine by_name ?_
    refine ⟨_, rfl, _, rfl, sl, bk, ns, b, rfl, g2.sql hsl (fun z => z), hbk2, hB, hN, fun t rl wl rs H3 g23 ht3 hrows3 hrun h12 => ?_⟩
    have g3 := g2.trans g23
    refine ⟨t, _, rfl, ht3, rfl, _, _, rfl, _, _, rfl, rfl, ?_⟩
    have run3 : RunAt K H3 bk rl b rs := ⟨g23.book hbk2, hB, hrows3, hrun, g3.tabs htabs⟩
    have W := wf_play hrun.goes
    refine ⟨_, rfl, _, rfl, bk, rl, b, rs, rfl, run3.book, hB, hrows3, hrun, run3.tabs, fun spl sas H4 nsp g34 hspl hsps => ?_⟩
    have hsp4 : SpansL K H4 spl (play rs) := ⟨sas, hspl, hsps⟩
    have run4 := run3.fr g34
    have g4 := g3.trans g34
    refine by_name ?_
    refine ⟨_, rfl, _, rfl, bk, rl, b, rs, rfl, run4, fun tl ts H5 ntl g45 hM5 => ?_⟩
    have run5 := run4.fr g45
    have hsp5 := hsp4.fr0 g45
    have g5 := g4.trans g45
    have tsl : (refsQ ts).length ≤ 80000 := by
      rw [show (refsQ ts).length = ts.length from List.length_map ..]
      exact hM5.len
    refine by_name ?_
    refine st_eq [some (.ref sl), some (.ref bk), some (.ref rl), some (.ref wl), some (.ref spl), some (.ref tl), none, none, none, none, none, none, none, none, none, none] rfl ?_
    refine ⟨fun σ' H' => ∃ (D6 : Addr) (ps : List (Nat × Nat)), σ' = [some (.ref sl), some (.ref bk), some (.ref rl), some (.ref wl), some (.ref spl), some (.ref tl), some (.ref D6), none, none, none, none, none, none, none, none, none] ∧ Fr0 K H5 H' ∧ PairsL K H' D6 ps ∧ PastL (play rs) ps, ?_, ?_⟩
    · refine ⟨_, rfl, tl, rfl, ⟨_, .of hM5.at_⟩, fun D6 hD6 => ?_⟩
      refine lc_it (walk_list (K := K) (a := tl) (xs := refsQ ts)) (fun i H6 => Fr0 K H5 H6 ∧ ∃ (as : List Addr) (ps : List (Nat × Nat)), H6 D6 = some (.lst (as.map V.ref)) ∧ ps.length ≤ i ∧ Paired (PNat K H6) as ps ∧ ∀ x y, (x, y) ∈ ps ↔ ∃ k, (x, y, ("past" : Str), k) ∈ (ts.take i).map (·.1)) ⟨.new hD6, [], [], upd_same, Nat.le_refl _, .nil, fun x y => ⟨fun z => absurd z List.not_mem_nil, fun ⟨k, z⟩ => absurd z List.not_mem_nil⟩⟩ ?_ ?_ ?_
      · rintro i H6 _ ⟨g, _⟩
        exact .of (g.lst hM5.at_ (fun z => z))
      · rintro i y _ H6 hi ⟨g6, as, ps, hq6, hl6, hp6, hm6⟩ ⟨rfl, hy⟩
        obtain ⟨tq, e1, rfl⟩ := map_get hy
        obtain ⟨⟨x, z, wd, k⟩, t⟩ := tq
        obtain ⟨ka, hqt, hka⟩ := g6.qd (hM5.all _ (List.mem_of_getElem? e1))
        have hqt : SqT K H6 t [.int (x : Nat), .int (z : Nat), .str wd, .ref ka] := hqt
        refine ⟨t, _, rfl, hqt, rfl, _, _, rfl, _, _, rfl, _, _, rfl, _, _, rfl, rfl, rfl, ?_⟩
        have keep : ∀ {c : Bool}, c = decide (V.str wd = V.str "past") → c = true → wd = ("past" : Str) := fun e h => V.str.inj (of_decide_eq_true (e ▸ h))
        refine ⟨_, rfl, rfl, _, rfl, ite2 (fun c => ?_) (fun c => ?_)⟩
        · have c := V.str.inj (of_decide_eq_true c)
          refine ⟨_, rfl, _, rfl, (by show 2 ≤ sizeLine; decide), fun u hu => ?_⟩
          have g7 : Fr0 K H6 (upd H6 u (.tup [.int (x : Nat), .int (z : Nat)])) := .new hu
          have hu7 : PNat K (upd H6 u (.tup [.int (x : Nat), .int (z : Nat)])) u (x, z) := .of upd_same
          have hq7 := g7.lst hq6 (fun z => z)
          generalize upd H6 u (.tup [.int (x : Nat), .int (z : Nat)]) = H7 at g7 hu7 hq7 ⊢
          have f8 : Fr K (fun c => c = D6) H7 (upd H7 D6 (.lst (as.map V.ref ++ [V.ref u]))) := .at_ rfl hq7 trivial
          have asl := pd_len hp6
          refine ⟨_, hq7, by rw [List.length_map]; exact small80k (by omega), (g6.trans g7).own (.of hD6) hq7 trivial, as ++ [u], ps ++ [(x, z)], by rw [List.map_append]; exact upd_same, by rw [List.length_append, List.length_singleton]; omega, pd_snoc (pd_map hp6 fun _ _ z => f8.tup (g7.tup z)) (f8.tup hu7), fun x' z' => ?_⟩
          rw [take_snoc e1, List.map_append, List.mem_append, hm6]
          constructor
          · rintro (⟨k', h⟩ | h)
            · exact ⟨k', List.mem_append_left _ h⟩
            · have h := List.mem_singleton.mp h
              rw [Prod.mk.injEq] at h
              exact ⟨k, List.mem_append_right _ (List.mem_singleton.mpr (by rw [h.1, h.2, c]))⟩
          · rintro ⟨k', h⟩
            rcases List.mem_append.mp h with h | h
            · exact .inl ⟨k', h⟩
            · have h : (x', z', ("past" : Str), k') = (x, z, wd, k) := List.mem_singleton.mp h
              rw [Prod.mk.injEq, Prod.mk.injEq] at h
              exact .inr (List.mem_singleton.mpr (by rw [h.1, h.2.1]))
        · refine ⟨g6, as, ps, hq6, by omega, hp6, fun x' z' => ?_⟩
          rw [take_snoc e1, List.map_append, hm6]
          constructor
          · rintro ⟨k', h⟩
            exact ⟨k', List.mem_append_left _ h⟩
          · rintro ⟨k', h⟩
            rcases List.mem_append.mp h with h | h
            · exact ⟨k', h⟩
            · have h : (x', z', ("past" : Str), k') = (x, z, wd, k) := List.mem_singleton.mp h
              rw [Prod.mk.injEq, Prod.mk.injEq, Prod.mk.injEq] at h
              exact absurd (decide_eq_true (congrArg V.str h.2.2.1.symm)) c
      · rintro H6 ⟨g6, pas, ps, hq6, hl6, hp6, hm6⟩
        rw [show (refsQ ts).length = ts.length from List.length_map .., List.take_length] at hm6
        have hpast : PastL (play rs) ps := fun i j => by
          rw [hm6]
          exact ⟨fun ⟨k, z⟩ => ⟨k, (hM5.mem _).mp z⟩, fun ⟨k, z⟩ => ⟨k, (hM5.mem _).mpr z⟩⟩
        exact ⟨D6, ps, rfl, g6, ⟨pas, hq6, hp6⟩, hpast⟩
    · rintro σ' H6 ⟨D6, ps, rfl, g6, hPL6, hpast⟩
      have hM6 := hM5.fr g6 (fun z => z)
      have run6 := run5.fr g6
      have hsp6 := hsp5.fr0 g6
      have g06 := g5.trans g6
      refine ⟨fun σ' H' => ∃ (D8 : Addr) (dps : List (Nat × Nat)), σ' = [some (.ref sl), some (.ref bk), some (.ref rl), some (.ref wl), some (.ref spl), some (.ref tl), some (.ref D6), some (.ref D8), none, none, none, none, none, none, none, none] ∧ Fr0 K H6 H' ∧ PairsL K H' D8 dps ∧ (∀ p ∈ dps, Edge (play rs) p.1 p.2) ∧ dps.length ≤ 144, ?_, ?_⟩
      · refine ⟨_, rfl, tl, rfl, ⟨_, .of hM6.at_⟩, fun D7 hD7 => ?_⟩
        refine lc_it (walk_list (K := K) (a := tl) (xs := refsQ ts)) (fun i H7 => Fr0 K H6 H7 ∧ ∃ (as : List Addr) (ps : List (Nat × Nat)), H7 D7 = some (.lst (as.map V.ref)) ∧ ps.length ≤ i ∧ Paired (PNat K H7) as ps ∧ ∀ p ∈ ps, Edge (play rs) p.1 p.2) ⟨.new hD7, [], [], upd_same, Nat.le_refl _, .nil, fun _ h => absurd h List.not_mem_nil⟩ ?_ ?_ ?_
        · rintro i H7 _ ⟨g, _⟩
          exact .of (g.lst hM6.at_ (fun z => z))
        · rintro i y _ H7 hi ⟨g7, as, ps, hq7, hl7, hp7, hm7⟩ ⟨rfl, hy⟩
          obtain ⟨tq, e1, rfl⟩ := map_get hy
          obtain ⟨⟨x, z, wd, k⟩, t⟩ := tq
          obtain ⟨ka, hqt, hka⟩ := g7.qd (hM6.all _ (List.mem_of_getElem? e1))
          have hqt : SqT K H7 t [.int (x : Nat), .int (z : Nat), .str wd, .ref ka] := hqt
          have hmust : Must (play rs) x z wd k := (hM6.mem (x, z, wd, k)).mp (List.mem_map.mpr ⟨_, List.mem_of_getElem? e1, rfl⟩)
          refine ⟨t, _, rfl, hqt, rfl, _, _, rfl, _, _, rfl, _, _, rfl, _, _, rfl, rfl, rfl, ?_⟩
          refine ⟨_, rfl, _, rfl, (by show 2 ≤ sizeLine; decide), fun u hu => ?_⟩
          have g8 : Fr0 K H7 (upd H7 u (.tup [.int (x : Nat), .int (z : Nat)])) := .new hu
          have hu8 : PNat K (upd H7 u (.tup [.int (x : Nat), .int (z : Nat)])) u (x, z) := .of upd_same
          have hq8 := g8.lst hq7 (fun z => z)
          generalize upd H7 u (.tup [.int (x : Nat), .int (z : Nat)]) = H8 at g8 hu8 hq8 ⊢
          have f9 : Fr K (fun c => c = D7) H8 (upd H8 D7 (.lst (as.map V.ref ++ [V.ref u]))) := .at_ rfl hq8 trivial
          have asl := pd_len hp7
          refine ⟨_, hq8, by rw [List.length_map]; exact small80k (by omega), (g7.trans g8).own (.of hD7) hq8 trivial, as ++ [u], ps ++ [(x, z)], by rw [List.map_append]; exact upd_same, by rw [List.length_append, List.length_singleton]; omega, pd_snoc (pd_map hp7 fun _ _ z => f9.tup (g8.tup z)) (f9.tup hu8), fun p hp => ?_⟩
          rcases List.mem_append.mp hp with h | h
          · exact hm7 p h
          · rw [List.mem_singleton.mp h]
            exact ⟨wd, k, hmust⟩
        · rintro H7 ⟨g7, qas, qs, hq7, hl7, hp7, hm7⟩
          have small : ∀ {i : Nat}, i ∈ standL (play rs) → i < 12 := fun h => by
            obtain ⟨d, hd, _⟩ := mem_standL.mp h
            have := (List.getElem?_eq_some_iff.mp hd).1
            omega
          refine ⟨D7, qas, qs, rfl, .of hq7, hp7, fun p hp => ⟨small ((hm7 p hp).left W), small ((hm7 p hp).right W)⟩, fun S8 D8 o8 das dps hS8 hD8 hpd8 hsub8 hlen8 => ?_⟩
          have g8 : Fr0 K H7 (upd (upd H7 S8 o8) D8 (.lst (das.map V.ref))) := (Fr.new hS8).trans (.new hD8)
          have hPL8 : PairsL K (upd (upd H7 S8 o8) D8 (.lst (das.map V.ref))) D8 dps := ⟨das, upd_same, pd_map hpd8 fun _ _ z => g8.tup z⟩
          have hE8 : ∀ p ∈ dps, Edge (play rs) p.1 p.2 := fun p hp => hm7 p (hsub8 p hp)
          exact ⟨D8, dps, rfl, g7.trans g8, hPL8, hE8, hlen8⟩
      · rintro σ' H8 ⟨D8, dps, rfl, g68, hPL8, hE8, hlen8⟩
        have g08 := g06.trans g68
        have run8 := run6.fr g68
        have hsp8 := hsp6.fr0 g68
        have hPL68 := hPL6.fr0 g68
        let RV : Hp → V → Prop := fun H' rv => (rv = .non ∧ ¬ Cyc (play rs)) ∨ ∃ l p, rv = .ref l ∧ H' l = some (.lst (natL p)) ∧ Ring (play rs) p
        refine ⟨fun σ' H' => ∃ rv, σ' = [some (.ref sl), some (.ref bk), some (.ref rl), some (.ref wl), some (.ref spl), some (.ref tl), some (.ref D6), some (.ref D8), some rv, none, none, none, none, none, none, none] ∧ Fr0 K H8 H' ∧ RV H' rv, ?_, ?_⟩
        · refine ⟨_, rfl, _, rfl, bk, rl, b, rs, rfl, run8, (fun H' g hn => ⟨.non, rfl, g, .inl ⟨rfl, hn⟩⟩), fun l p H' nl g hl hlen R => ⟨.ref l, rfl, g, .inr ⟨l, p, rfl, hl, R⟩⟩⟩
        · rintro σ' H9 ⟨rv, rfl, g9, hrv⟩
          have g09 := g08.trans g9
          have run9 := run8.fr g9
          have hsp9 := hsp8.fr0 g9
          have hPL69 := hPL68.fr0 g9
          have hPL9 := hPL8.fr0 g9
          refine when_by (fun c H' => Fr0 K H9 H' ∧ c = false) (fun Q hQ => ?_) (fun H' ⟨_, e⟩ => nomatch e) (fun H10 ⟨g10, _⟩ => ?_)
          · rcases hrv with ⟨rfl, hn⟩ | ⟨rg, p, rfl, hrg, R⟩
            · refine ⟨_, rfl, rfl, _, rfl, _, rfl, bk, rl, b, rs, rfl, run9, (fun H' g hc => absurd hc hn), fun l H' g _ => ?_⟩
              refine ⟨rfl, rfl, _, rfl, ?_⟩
              show if false = true then _ else _
              rw [if_neg Bool.false_ne_true]
              refine ⟨_, rfl, _, rfl, bk, rl, b, rs, rfl, run9.fr g, fun bl bs H'' nbl g2 hbl _ _ => ?_⟩
              refine ⟨Nat.zero_le _, fun z hz => ?_⟩
              have g3 : Fr0 K H'' (upd H'' z (.lst [])) := .new hz
              refine eqD_nil (SqL.of (g3.lst hbl (fun z => z))) (.of upd_same) ⟨_, rfl, ?_⟩
              have g123 := (g.trans g2).trans g3
              cases bs with
              | nil => exact ⟨_, rfl, rfl, _, rfl, hQ _ _ ⟨g123, rfl⟩⟩
              | cons _ _ => exact hQ _ _ ⟨g123, rfl⟩
            · refine ⟨_, rfl, rfl, _, rfl, _, rfl, bk, rl, b, rs, rfl, run9, (fun H' g _ => ?_), fun l H' g hn => absurd R.way hn⟩
              refine ⟨rfl, rfl, _, rfl, ?_⟩
              show if false = true then _ else _
              rw [if_neg Bool.false_ne_true]
              refine ⟨_, rfl, _, rfl, bk, rl, b, rs, rfl, run9.fr g, fun bl bs H'' nbl g2 hbl _ hbet => ?_⟩
              refine ⟨Nat.zero_le _, fun z hz => ?_⟩
              have g3 : Fr0 K H'' (upd H'' z (.lst [])) := .new hz
              refine eqD_nil (SqL.of (g3.lst hbl (fun z => z))) (.of upd_same) ⟨_, rfl, ?_⟩
              have g123 := (g.trans g2).trans g3
              obtain ⟨i0, x0, y0, _, _, hs1, hs2⟩ := ring_pivot W R
              have hx0 : x0 ∈ bs := (hbet x0).mpr ⟨⟨_, hs2⟩, ⟨_, hs1⟩⟩
              cases bs with
              | nil => exact absurd hx0 List.not_mem_nil
              | cons _ _ => exact hQ _ _ ⟨g123, rfl⟩
          · have g010 := g09.trans g10
            have run10 := run9.fr g10
            have hsp10 := hsp9.fr0 g10
            have hPL610 := hPL69.fr0 g10
            have hPL10 := hPL9.fr0 g10
            -- rings
            let GL : Hp → Addr → List Addr → Prop := fun H' Rl as => H' Rl = some (.lst (as.map V.ref)) ∧ ∀ r ∈ as, ∃ p : List Nat, H' r = some (.lst (natL p)) ∧ (p = [] ∨ Ring (play rs) p)
            refine ⟨fun σ' H' => ∃ (Rl : Addr) (as : List Addr), σ' = [some (.ref sl), some (.ref bk), some (.ref rl), some (.ref wl), some (.ref spl), some (.ref tl), some (.ref D6), some (.ref D8), some rv, some (.ref Rl), none, none, none, none, none, none] ∧ Fr0 K H10 H' ∧ GL H' Rl as ∧ as.length ≤ 1 ∧ Nw H10 Rl, ?_, ?_⟩
            · rcases hrv with ⟨rfl, hn⟩ | ⟨rg, p, rfl, hrg, R⟩
              · refine ⟨_, rfl, (by show 1 ≤ sizeLine; decide), fun z hz => ?_⟩
                have g11 : Fr0 K H10 (upd H10 z (.lst [.non])) := .new hz
                have hz11 : upd H10 z (.lst [.non]) z = some (.lst [.non]) := upd_same
                generalize upd H10 z (.lst [.non]) = H11 at g11 hz11 ⊢
                refine ⟨_, rfl, rfl, .inr ⟨false, rfl, ?_⟩⟩
                refine ⟨z, 0, [.non], rfl, rfl, hz11, by decide, by decide, Nat.zero_le _, fun y hy => ?_⟩
                have g12 : Fr0 K H11 (upd H11 y (.lst [])) := .new hy
                exact ⟨y, [], rfl, g11.trans g12, ⟨upd_same, fun _ h => absurd h List.not_mem_nil⟩, Nat.zero_le _, g11.nw (fun z => z) (.of hy)⟩
              · have hrg10 := g10.lst hrg (fun z => z)
                refine ⟨_, rfl, (by show 1 ≤ sizeLine; decide), fun z hz => ?_⟩
                have g11 : Fr0 K H10 (upd H10 z (.lst [.ref rg])) := .new hz
                have hz11 : upd H10 z (.lst [.ref rg]) z = some (.lst [.ref rg]) := upd_same
                generalize upd H10 z (.lst [.ref rg]) = H11 at g11 hz11 ⊢
                refine ⟨_, rfl, rfl, .inr ⟨true, rfl, ?_⟩⟩
                refine ⟨z, 1, [.ref rg], rfl, rfl, hz11, by decide, by decide, (by show 1 * 1 ≤ sizeLine; decide), fun y hy => ?_⟩
                have g12 : Fr0 K H11 (upd H11 y (.lst [.ref rg])) := .new hy
                refine ⟨y, [rg], rfl, g11.trans g12, ⟨upd_same, fun r h => ⟨p, ?_, .inr R⟩⟩, Nat.le_refl _, g11.nw (fun z => z) (.of hy)⟩
                rw [List.mem_singleton.mp h]
                exact g12.lst (g11.lst hrg10 (fun z => z)) (fun z => z)
            · rintro σ' H11 ⟨Rl, as, rfl, g11, hGL, has, nRl⟩
              refine ⟨_, rfl, _, _, rfl, .inl ((g010.trans g11).sql hsl (fun z => z)), _, _, rfl, _, _, rfl, ?_⟩
              have hj : ∃ j : Int, (if (if (16 : Int) < ((ns.map V.int).length : Nat) then (16 : Int) else ((ns.map V.int).length : Nat)) > 8 then (if (16 : Int) < ((ns.map V.int).length : Nat) then (16 : Int) else ((ns.map V.int).length : Nat)) else 8) = j ∧ 8 ≤ j ∧ j ≤ 16 := by
                refine ⟨_, rfl, ?_, ?_⟩ <;> split <;> first | omega | (split <;> omega)
              obtain ⟨j, ej, j1, j2⟩ := hj
              rw [ej]
              refine ⟨_, rfl, by omega, by omega, ?_⟩
              refine for_it (walk_range (lo := 0)) (fun k σ' H' => (∃ x y, σ' = [some (.ref sl), some (.ref bk), some (.ref rl), some (.ref wl), some (.ref spl), some (.ref tl), some (.ref D6), some (.ref D8), some rv, some (.ref Rl), x, y, none, none, none, none]) ∧ Fr0 K H10 H' ∧
                ∃ as, GL H' Rl as ∧ as.length ≤ k + 1) ⟨⟨none, none, rfl⟩, g11, as, hGL, has⟩ (fun _ _ _ _ _ => trivial) ?_ ?_
              · rintro k _ σ' _ H' hk ⟨⟨x', y', rfl⟩, g, as, ⟨hRl, hea⟩, hl⟩ ⟨rfl, rfl⟩
                refine ⟨_, rfl, _, rfl, sl, ns, _, rfl, (g010.trans g).sql hsl (fun z => z), by omega, by omega, fun a px py ha => ?_⟩
                have g12 : Fr0 K H' (upd H' a (.lst [.int px, .int py])) := .new ha
                have hP12 : PoolAt (upd H' a (.lst [.int px, .int py])) a := ⟨px, py, upd_same⟩
                generalize upd H' a (.lst [.int px, .int py]) = H12 at g12 hP12 ⊢
                refine by_name ?_
                obtain ⟨das, hda, hdp⟩ := hPL10.fr0 (g.trans g12)
                have hda' := (hPL10.fr0 g)
                have nD8a : D8 ≠ a := fun z => by
                  obtain ⟨_, h, _⟩ := hPL10.fr0 g
                  rw [z, ha] at h
                  cases h
                have nRla : Rl ≠ a := fun z => by rw [z, ha] at hRl; cases hRl
                refine if_by (fun c H' => Fr0 K H12 H' ∧ c = !dps.isEmpty) (fun Q hQ => ?_) (fun H13 ⟨g13, hc⟩ => ?_) (fun H13 ⟨g13, _⟩ => ?_)
                · refine ⟨_, rfl, Nat.zero_le _, fun z hz => ?_⟩
                  have g13 : Fr0 K H12 (upd H12 z (.lst [])) := .new hz
                  exact neD_pns (SqL.of (g13.lst hda (fun z => z))) (pd_map hdp fun _ _ z => g13.tup z) (.of upd_same) ⟨_, rfl, hQ _ _ ⟨g13, rfl⟩⟩
                · have g02 := g12.trans g13
                  have hRl13 := g02.lst hRl (fun z => z)
                  have hda13 := g13.lst hda (fun z => z)
                  have hP13 := hP12.fr0 g13
                  have dl : 0 < dps.length := by
                    cases dps with
                    | nil => cases hc
                    | cons _ _ => exact Nat.succ_pos _
                  have dal := pd_len hdp
                  refine ⟨_, rfl, .inl ⟨rfl, _, .of hRl13⟩, _, rfl, _, rfl, _, rfl, _, rfl, _, rfl, D8, _, rfl, .inl (.of hda13), a, _, rfl, hP13, by rw [List.length_map]; omega, by rw [List.length_map]; omega, fun v H14 v0 v1 hP14 f14 => ?_⟩
                  obtain ⟨v, rfl⟩ : ∃ k : Nat, v = (k : Int) := ⟨v.toNat, by omega⟩
                  rw [List.length_map] at v1
                  obtain ⟨t, ht⟩ : ∃ t, das[v]? = some t := ⟨_, List.getElem?_eq_getElem (show v < das.length by omega)⟩
                  obtain ⟨pr, hpr, hpt⟩ := pd_getL hdp ht
                  have hda14 := f14.lst hda13 nD8a
                  have f1214 : Fr K (fun c => c = a) H12 H14 := g13.wide.trans f14
                  refine ⟨D8, _, _, .ref t, rfl, rfl, .of hda14, at_of rfl (get_map ht), t, _, _, .int (pr.1 : Nat), rfl, rfl, f1214.tup hpt, rfl, ?_⟩
                  refine ⟨a, D8, pr.1, _, das, dps, play rs, rfl, hP14, nD8a, hda14, pd_map hdp fun _ _ z => f1214.tup z, by omega, W, hE8, fun r p H15 nr f15 hP15 hr15 hor => ?_⟩
                  have g015 : Fr0 K H' H15 := ((g02.wide.trans f14).trans f15).narrow fun c hc => .inr (by rw [hc]; exact .of ha)
                  have hRl15 := g015.lst hRl (fun z => z)
                  have nrR : r ≠ Rl := fun z => by
                    obtain ⟨ps, e⟩ := nr _ (z ▸ f14.lst hRl13 nRla)
                    cases e
                  have f16 : Fr K (fun c => c = Rl) H15 (upd H15 Rl (.lst (as.map V.ref ++ [V.ref r]))) := .at_ rfl hRl15 trivial
                  refine ⟨Rl, _, _, rfl, rfl, hRl15, by rw [List.length_map]; exact small1000 (by have : k < j.toNat := hk; omega), ⟨_, _, rfl⟩, (g.trans g015).own nRl hRl15 trivial, as ++ [r], ⟨by rw [List.map_append]; exact upd_same, fun r' hr' => ?_⟩, by rw [List.length_append, List.length_singleton]; omega⟩
                  rcases List.mem_append.mp hr' with z | z
                  · obtain ⟨p', hp1, hp2⟩ := hea r' z
                    refine ⟨p', f16.lst (g015.lst hp1 (fun z => z)) fun e => ?_, hp2⟩
                    rw [e, hRl] at hp1
                    have hp1 := HO.lst.inj (Option.some.inj hp1)
                    cases as with
                    | nil => exact List.not_mem_nil z
                    | cons x xs =>
                      cases p' with
                      | nil => cases hp1
                      | cons y ys => cases (List.cons.inj hp1).1
                  · rw [List.mem_singleton.mp z]
                    exact ⟨p, f16.lst hr15 nrR, hor⟩
                · have g013 := g12.trans g13
                  exact ⟨⟨_, _, rfl⟩, g.trans g013, as, ⟨g013.lst hRl (fun z => z), fun r hr => let ⟨p, h1, h2⟩ := hea r hr; ⟨p, g013.lst h1 (fun z => z), h2⟩⟩, by omega⟩
              · rintro σ' H12 ⟨⟨x', y', rfl⟩, g, as, ⟨hRl, hea⟩, hl⟩
                refine ⟨_, rfl, Rl, rfl, ⟨_, .of hRl⟩, ?_⟩
                refine for_it (walk_list (K := K) (a := Rl) (xs := as.map V.ref)) (fun i σ' H' => (∃ z, σ' = [some (.ref sl), some (.ref bk), some (.ref rl), some (.ref wl), some (.ref spl), some (.ref tl), some (.ref D6), some (.ref D8), some rv, some (.ref Rl), x', y', z, none, none, none]) ∧ Fr0 K H12 H') ⟨⟨none, rfl⟩, .refl _⟩ ?_ ?_ ?_
                · rintro i σ' H' _ ⟨_, g2⟩
                  exact .of (g2.lst hRl (fun z => z))
                · rintro i y σ' _ H' hi ⟨⟨z', rfl⟩, g2⟩ ⟨rfl, hy⟩
                  obtain ⟨r, hr0, rfl⟩ := map_get hy
                  obtain ⟨p, hp1, hp2⟩ := hea r (List.mem_of_getElem? hr0)
                  have hp3 := g2.lst hp1 (fun z => z)
                  have gA := g.trans g2
                  refine if_by (fun c H'' => Fr0 K H' H'' ∧ c = false) (fun Q hQ => ?_) (fun H'' ⟨_, e⟩ => nomatch e) (fun H'' ⟨g3, _⟩ => ⟨⟨_, rfl⟩, g2.trans g3⟩)
                  refine ⟨_, rfl, Nat.zero_le _, fun z hz => ?_⟩
                  have g3 : Fr0 K H' (upd H' z (.lst [])) := .new hz
                  refine neD_nat (SqL.of (g3.lst hp3 (fun z => z))) (.of upd_same) ⟨_, rfl, ?_⟩
                  rcases hp2 with rfl | R
                  · exact hQ _ _ ⟨g3, rfl⟩
                  · have hpe : (!p.isEmpty) = true := by
                      have := R.two
                      cases p with
                      | nil => cases this
                      | cons _ _ => rfl
                    rw [hpe]
                    rcases hrv with ⟨_, hn⟩ | ⟨rg, p0, rfl, _, _⟩
                    · exact absurd R.way hn
                    · have gB := gA.trans g3
                      obtain g0B := g010.trans gB
                      refine ⟨_, rfl, rfl, _, rfl, ?_⟩
                      show if false = true then _ else _
                      rw [if_neg Bool.false_ne_true]
                      refine ⟨_, rfl, _, rfl, _, rfl, _, rfl, _, rfl, bk, rl, r, D6, spl, b, rs, p, _, rfl, run10.fr gB, g3.lst hp3 (fun z => z), R, hPL610.fr0 gB, hpast, hsp10.fr0 gB, fun H'' g4 => ⟨true, rfl, ?_⟩⟩
                      exact hQ _ _ ⟨g3.trans g4, rfl⟩
                · rintro σ' H' ⟨⟨z', rfl⟩, g2⟩
                  exact q _
end
end Sn
set_option Elab.async false
set_option linter.all false
set_option maxRecDepth 100000
set_option maxHeartbeats 0
namespace Sn
open PySem PySem.Spec PyProof.Rows L2
abbrev csK (K : PySem.W.Frag) : List (Addr × Addr) := tf.map (He.cT K)
theorem law_at {l : PySem.W.OpenLaw} {w : World} {K : PySem.W.Frag} {mg : Str → Option Value} {fa : Addr} {h : Heap} (X : K.In h) (G : h.Ns mainGlobals mg) (hfa : mg ("law" : Str) = some (.ref fa)) (c : SaysS h K) :
    LamX.LawAtS l w K L2.CX0 9 63 "_law_script" mg fa h := by
  have T : Tx K mg := ⟨c.d, ⟨h, X, G⟩, c.more⟩
  obtain ⟨fd, F⟩ := T.D_law
  have e := hfa.symm.trans T.g_law
  cases e
  have b := FunD.bindsA (ps := ["_law_script"]) F fun _ _ _ _ _ _ us hl => match us, hl with | [_], _ => by kernel_rfl
  have mem : ∀ p ∈ csK K, ∃ q ∈ tf, He.cT K q = p := fun p hp => List.mem_map.mp hp
  refine ⟨fd, csK K, spLaw K, fun p hp => ?_, fun p hp => ?_, fun p hp => ?_, fun s v => b s [v] rfl, fun H a ns _ _ hT hS => ⟨a, ns, rfl, hS, fun p hp => ?_, fun _ => rfl⟩, fun base KB GB tb => ?_⟩
  · obtain ⟨q, hq, rfl⟩ := mem p hp
    exact c.empty q hq
  · obtain ⟨q, hq, rfl⟩ := mem p hp
    exact c.out q hq
  · obtain ⟨q, hq, rfl⟩ := mem p hp
    exact PySem.W.codeHd_of_K X (c.hd q hq)
  · rcases List.mem_cons.mp hp with rfl | hp
    · exact .nil (hT _ (List.mem_map.mpr ⟨("Stepper", some "last_writer"), .head _, rfl⟩))
    · rw [List.mem_singleton.mp hp]
      exact .nil (hT _ (List.mem_map.mpr ⟨("order_by", none), .tail _ (.head _), rfl⟩))
  · exact ok_law T (fun p hp => tb _ (List.mem_map.mpr ⟨p, hp, rfl⟩)) F
end Sn
open PySem PySem.W PySem.Calls PyProof.Rows
theorem PySem.Challenge.cw_snapsure_k42_whole_rings_have_one_betwee_holds : PySem.Challenge.rw_snapsure_k42_whole_rings_have_one_betwee.Holds := by
  w_on; o_law
  refine HandSHeadRun.head_any (r := OpenLaw.row PySem.Challenge.rw_snapsure_k42_whole_rings_have_one_betwee) (q := view (OpenLaw.row PySem.Challenge.rw_snapsure_k42_whole_rings_have_one_betwee).prog [79]) (H := Sn.hkS) (ob := Sn.obTop) (M := 20000) (loose := Sn.names) (d := HandSHeadRun.topDef (OpenLaw.row PySem.Challenge.rw_snapsure_k42_whole_rings_have_one_betwee).prog 79) (kwd := []) Sn.obS_eq
    (by kernel_rfl) (fun s => by kernel_rfl) Sn.runTop (by kernel_rfl) (by kernel_rfl) (by kernel_rfl) (by rfl) (by first | assumption | decide +kernel) (by decide +kernel) ⟨rfl, rfl, rfl, rfl, rfl, by decide +kernel⟩ ?hw ?hc
  case hw => w_witness2
  case hc =>
    refine LamX.walk_ofTsE (l := PySem.Challenge.rw_snapsure_k42_whole_rings_have_one_betwee) (n := 63) (k := 9) (x := "_law_script") (CX := fun _ => L2.CX0) rfl (by decide) (by kernel_rfl) ⟨rfl, by decide, by decide⟩ ?F (fun _ _ _ _ _ z => z)
    intro w mg fa h Y G hmg0
    obtain ⟨K, KX, c⟩ := Y
    have hmg : mg ("law" : PySem.Str) = some (.ref fa) := by
      have e : (HandSHeadRun.topDef (OpenLaw.row PySem.Challenge.rw_snapsure_k42_whole_rings_have_one_betwee).prog 79).name = ("law" : PySem.Str) := by kernel_rfl
      rw [← e]
      exact hmg0
    exact ⟨K, KX, Sn.law_at KX G hmg c⟩
