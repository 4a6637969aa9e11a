import PyProof.Rows.All
import Wide.All
import OpenK.AllK
import Wide.FinOn
import HandS.ForMost
import HandS.Exc
import HandS.TryOnly
import HandS.TryMany
import HandS.ExcOwn
import HandS.WordsExc
import HandS.Small
import HandS.Flow
import HandS.Style
import HandS.Property
import HandS.Star
import HandS.Codes
import HandS.Defaults
import HandS.Deep
import HandS.TupAny
import HandS.IsInst
import HandS.ExcIs
import HandS.FStr
import HandS.HotCalls
import HandS.Conv
import HandS.Zip
import HandS.NoneIn
import HandS.StrMore
import HandS.Nested
import HandS.NestedK
import HandS.HeadHook2
import KE.KSuper
import KE.KCallOwn
import PySem.Challenge.RW_lateposts_k80_whole_desks
import HandS.Head0
import HandS.Head1
import HandS.Head2
import HandS.HeadHook4
import HandS.ExcCtx
import KE.GoesEnum
import HandS.Walk
import HandS.WideBits
import HandS.ClsMeth
import KE.KUnpackStar
import HandS.Finally
import HandS.HeadWalk
import HandS.Head3
set_option Elab.async false
set_option linter.all false
set_option maxRecDepth 100000
set_option maxHeartbeats 4000000
namespace K8
open PySem PySem.Spec PyProof.Rows L2
/-! the text by places -/
def top (i : Nat) : Stmt := PySem.Challenge.pw_lateposts_k80_whole_desks.main.body.getD i (.Pass ⟨0, 0, 0, 0⟩)
abbrev s_place_of : Stmt := top 24
theorem sc_place_of : FnScope ["rows", "thing", "index", "row"] ["rows", "thing"] (defScope s_place_of) := ⟨rfl, rfl, rfl, by decide +kernel, rfl, by decide +kernel, by decide +kernel⟩
abbrev s_merged : Stmt := top 25
theorem sc_merged : FnScope ["one", "other", "found", "left", "right"] ["one", "other"] (defScope s_merged) := ⟨rfl, rfl, rfl, by decide +kernel, rfl, by decide +kernel, by decide +kernel⟩
abbrev s_in_order : Stmt := top 26
theorem sc_in_order : FnScope ["rows", "parts", "row", "half", "rest", "one", "other"] ["rows"] (defScope s_in_order) := ⟨rfl, rfl, rfl, by decide +kernel, rfl, by decide +kernel, by decide +kernel⟩
abbrev s_rest_of : Stmt := top 29
theorem sc_rest_of : FnScope ["stand", "state", "last", "kept"] ["stand"] (defScope s_rest_of) := ⟨rfl, rfl, rfl, by decide +kernel, rfl, by decide +kernel, by decide +kernel⟩
abbrev s_lies_in : Stmt := top 30
theorem sc_lies_in : FnScope ["number", "own", "low", "high"] ["number", "own"] (defScope s_lies_in) := ⟨rfl, rfl, rfl, by decide +kernel, rfl, by decide +kernel, by decide +kernel⟩
abbrev s_counting_row : Stmt := top 31
theorem sc_counting_row : FnScope ["receiver", "rest", "step", "index", "row", "ahead", "after", "deed", "behind"] ["receiver", "rest", "step"] (defScope s_counting_row) := ⟨rfl, rfl, rfl, by decide +kernel, rfl, by decide +kernel, by decide +kernel⟩
abbrev s_step_from : Stmt := top 32
theorem sc_step_from : FnScope ["receiver", "rest", "step", "index", "deed", "behind"] ["receiver", "rest", "step"] (defScope s_step_from) := ⟨rfl, rfl, rfl, by decide +kernel, rfl, by decide +kernel, by decide +kernel⟩
abbrev s_all_steps : Stmt := top 33
theorem sc_all_steps : FnScope [] [] (defScope s_all_steps) := ⟨rfl, rfl, rfl, by decide +kernel, rfl, by decide +kernel, by decide +kernel⟩
abbrev s_rests_met : Stmt := top 34
theorem sc_rests_met : FnScope ["receiver", "found", "at", "step", "behind"] ["receiver"] (defScope s_rests_met) := ⟨rfl, rfl, rfl, by decide +kernel, rfl, by decide +kernel, by decide +kernel⟩
abbrev s_hear : Stmt := top 36
theorem sc_hear : FnScope ["receiver", "stand", "number", "last", "taken", "rest"] ["receiver", "stand", "number"] (defScope s_hear) := ⟨rfl, rfl, rfl, by decide +kernel, rfl, by decide +kernel, by decide +kernel⟩
abbrev s_beginning : Stmt := top 37
theorem sc_beginning : FnScope ["last"] ["last"] (defScope s_beginning) := ⟨rfl, rfl, rfl, by decide +kernel, rfl, by decide +kernel, by decide +kernel⟩
abbrev s_walked : Stmt := top 38
theorem sc_walked : FnScope ["receiver", "numbers", "last", "stand", "found", "number", "taken"] ["receiver", "numbers", "last"] (defScope s_walked) := ⟨rfl, rfl, rfl, by decide +kernel, rfl, by decide +kernel, by decide +kernel⟩
abbrev s_answers : Stmt := top 39
theorem sc_answers : FnScope ["receiver", "numbers", "last"] ["receiver", "numbers", "last"] (defScope s_answers) := ⟨rfl, rfl, rfl, by decide +kernel, rfl, by decide +kernel, by decide +kernel⟩
abbrev s_is_integer : Stmt := top 42
theorem sc_is_integer : FnScope ["value"] ["value"] (defScope s_is_integer) := ⟨rfl, rfl, rfl, by decide +kernel, rfl, by decide +kernel, by decide +kernel⟩
abbrev s_is_bound : Stmt := top 43
theorem sc_is_bound : FnScope ["value"] ["value"] (defScope s_is_bound) := ⟨rfl, rfl, rfl, by decide +kernel, rfl, by decide +kernel, by decide +kernel⟩
abbrev s_is_range : Stmt := top 44
theorem sc_is_range : FnScope ["value"] ["value"] (defScope s_is_range) := ⟨rfl, rfl, rfl, by decide +kernel, rfl, by decide +kernel, by decide +kernel⟩
abbrev s_is_deed : Stmt := top 45
theorem sc_is_deed : FnScope ["value"] ["value"] (defScope s_is_deed) := ⟨rfl, rfl, rfl, by decide +kernel, rfl, by decide +kernel, by decide +kernel⟩
abbrev s_row_word : Stmt := top 46
theorem sc_row_word : FnScope ["value", "many", "ahead", "after", "deed", "behind"] ["value", "many"] (defScope s_row_word) := ⟨rfl, rfl, rfl, by decide +kernel, rfl, by decide +kernel, by decide +kernel⟩
abbrev s_state_error : Stmt := top 47
theorem sc_state_error : FnScope ["value", "state", "many", "index", "row", "word"] ["value", "state", "many"] (defScope s_state_error) := ⟨rfl, rfl, rfl, by decide +kernel, rfl, by decide +kernel, by decide +kernel⟩
abbrev s_receiver_error : Stmt := top 48
theorem sc_receiver_error : FnScope ["value", "index", "state", "error"] ["value"] (defScope s_receiver_error) := ⟨rfl, rfl, rfl, by decide +kernel, rfl, by decide +kernel, by decide +kernel⟩
abbrev s_stretches : Stmt := top 50
theorem sc_stretches : FnScope ["log", "marks", "number", "taken", "far", "found", "low", "mark"] ["log"] (defScope s_stretches) := ⟨rfl, rfl, rfl, by decide +kernel, rfl, by decide +kernel, by decide +kernel⟩
abbrev s_one_of : Stmt := top 51
theorem sc_one_of : FnScope ["stretch", "low", "high"] ["stretch"] (defScope s_one_of) := ⟨rfl, rfl, rfl, by decide +kernel, rfl, by decide +kernel, by decide +kernel⟩
abbrev s_joined : Stmt := top 52
theorem sc_joined : FnScope ["found", "rows", "low", "high"] ["found"] (defScope s_joined) := ⟨rfl, rfl, rfl, by decide +kernel, rfl, by decide +kernel, by decide +kernel⟩
abbrev s_fits : Stmt := top 53
theorem sc_fits : FnScope ["receiver", "log", "numbers", "pair", "told", "own"] ["receiver", "log"] (defScope s_fits) := ⟨rfl, rfl, rfl, by decide +kernel, rfl, by decide +kernel, by decide +kernel⟩
abbrev s_table_of : Stmt := top 55
theorem sc_table_of : FnScope ["receiver", "rests", "found", "rest", "row", "step", "taken", "behind"] ["receiver"] (defScope s_table_of) := ⟨rfl, rfl, rfl, by decide +kernel, rfl, by decide +kernel, by decide +kernel⟩
abbrev s_classes_of : Stmt := top 56
theorem sc_classes_of : FnScope ["table", "classes", "row", "many", "known", "signs", "taken", "behind", "sign"] ["table"] (defScope s_classes_of) := ⟨rfl, rfl, rfl, by decide +kernel, rfl, by decide +kernel, by decide +kernel⟩
abbrev s_runs_of : Stmt := top 57
theorem sc_runs_of : FnScope ["row", "found", "step", "taken", "behind"] ["row"] (defScope s_runs_of) := ⟨rfl, rfl, rfl, by decide +kernel, rfl, by decide +kernel, by decide +kernel⟩
abbrev s_least_of : Stmt := top 58
theorem sc_least_of : FnScope ["table", "classes", "order", "rows", "row", "taken", "behind", "name"] ["table"] (defScope s_least_of) := ⟨rfl, rfl, rfl, by decide +kernel, rfl, by decide +kernel, by decide +kernel⟩
abbrev s_form_of : Stmt := top 59
theorem sc_form_of : FnScope ["receiver"] ["receiver"] (defScope s_form_of) := ⟨rfl, rfl, rfl, by decide +kernel, rfl, by decide +kernel, by decide +kernel⟩
abbrev s_number_text : Stmt := top 85
theorem sc_number_text : FnScope ["number", "parts", "left"] ["number"] (defScope s_number_text) := ⟨rfl, rfl, rfl, by decide +kernel, rfl, by decide +kernel, by decide +kernel⟩
abbrev s_bound_text : Stmt := top 86
theorem sc_bound_text : FnScope ["bound"] ["bound"] (defScope s_bound_text) := ⟨rfl, rfl, rfl, by decide +kernel, rfl, by decide +kernel, by decide +kernel⟩
abbrev s_range_text : Stmt := top 87
theorem sc_range_text : FnScope ["own"] ["own"] (defScope s_range_text) := ⟨rfl, rfl, rfl, by decide +kernel, rfl, by decide +kernel, by decide +kernel⟩
abbrev s_ranges_text : Stmt := top 88
theorem sc_ranges_text : FnScope ["found", "own"] ["found"] (defScope s_ranges_text) := ⟨rfl, rfl, rfl, by decide +kernel, rfl, by decide +kernel, by decide +kernel⟩
abbrev s_log_text : Stmt := top 89
theorem sc_log_text : FnScope ["log", "number", "taken"] ["log"] (defScope s_log_text) := ⟨rfl, rfl, rfl, by decide +kernel, rfl, by decide +kernel, by decide +kernel⟩
abbrev s_parse_number : Stmt := top 90
theorem sc_parse_number : FnScope ["text", "most", "digits", "sign"] ["text", "most"] (defScope s_parse_number) := ⟨rfl, rfl, rfl, by decide +kernel, rfl, by decide +kernel, by decide +kernel⟩
abbrev s_parse_log : Stmt := top 91
theorem sc_parse_log : FnScope ["value", "found", "index", "piece", "number"] ["value"] (defScope s_parse_log) := ⟨rfl, rfl, rfl, by decide +kernel, rfl, by decide +kernel, by decide +kernel⟩
abbrev s_yes_or_no : Stmt := top 97
theorem sc_yes_or_no : FnScope ["flag"] ["flag"] (defScope s_yes_or_no) := ⟨rfl, rfl, rfl, by decide +kernel, rfl, by decide +kernel, by decide +kernel⟩
abbrev s_error_name : Stmt := top 100
theorem sc_error_name : FnScope ["error", "kinds", "name", "is_kind"] ["error"] (defScope s_error_name) := ⟨rfl, rfl, rfl, by decide +kernel, rfl, by decide +kernel, by decide +kernel⟩
abbrev s_Desk_init : Stmt := inClass (top 101) 0
theorem sc_Desk_init : FnScope ["self", "inbox"] ["self", "inbox"] (defScope s_Desk_init) := ⟨rfl, rfl, rfl, by decide +kernel, rfl, by decide +kernel, by decide +kernel⟩
abbrev s_Desk_history : Stmt := inClass (top 101) 1
theorem sc_Desk_history : FnScope ["self"] ["self"] (defScope s_Desk_history) := ⟨rfl, rfl, rfl, by decide +kernel, rfl, by decide +kernel, by decide +kernel⟩
abbrev s_Desk_do_deed : Stmt := inClass (top 101) 2
theorem sc_Desk_do_deed : FnScope ["self", "word", "number"] ["self", "word", "number"] (defScope s_Desk_do_deed) := ⟨rfl, rfl, rfl, by decide +kernel, rfl, by decide +kernel, by decide +kernel⟩
abbrev s_Desk_told_by : Stmt := inClass (top 101) 3
theorem sc_Desk_told_by : FnScope ["self", "word", "number", "receiver"] ["self", "word", "number"] (defScope s_Desk_told_by) := ⟨rfl, rfl, rfl, by decide +kernel, rfl, by decide +kernel, by decide +kernel⟩
abbrev s_Desk_told_alone : Stmt := inClass (top 101) 4
theorem sc_Desk_told_alone : FnScope ["self", "word", "number"] ["self", "word"] (defScope s_Desk_told_alone) := ⟨rfl, rfl, rfl, by decide +kernel, rfl, by decide +kernel, by decide +kernel⟩
abbrev s_Desk_answer : Stmt := inClass (top 101) 5
theorem sc_Desk_answer : FnScope ["self", "line", "word", "pieces", "number"] ["self", "line"] (defScope s_Desk_answer) := ⟨rfl, rfl, rfl, by decide +kernel, rfl, by decide +kernel, by decide +kernel⟩
abbrev s_Desk_answer_safely : Stmt := inClass (top 101) 6
theorem sc_Desk_answer_safely : FnScope ["self", "line", "found", "error"] ["self", "line"] (defScope s_Desk_answer_safely) := ⟨rfl, rfl, rfl, by decide +kernel, rfl, by decide +kernel, by decide +kernel⟩
abbrev s_Desk_say : Stmt := inClass (top 101) 7
theorem sc_Desk_say : FnScope ["self", "value", "is_line", "found"] ["self", "value"] (defScope s_Desk_say) := ⟨rfl, rfl, rfl, by decide +kernel, rfl, by decide +kernel, by decide +kernel⟩
abbrev s_require_number : Stmt := top 104
theorem sc_require_number : FnScope ["value"] ["value"] (defScope s_require_number) := ⟨rfl, rfl, rfl, by decide +kernel, rfl, by decide +kernel, by decide +kernel⟩
abbrev s_Leaf_init : Stmt := inClass (top 105) 0
theorem sc_Leaf_init : FnScope ["self", "stand", "numbers", "refused"] ["self", "stand", "numbers", "refused"] (defScope s_Leaf_init) := ⟨rfl, rfl, rfl, by decide +kernel, rfl, by decide +kernel, by decide +kernel⟩
abbrev s_Inbox_init : Stmt := inClass (top 106) 0
theorem sc_Inbox_init : FnScope ["self", "rules", "last"] ["self", "rules", "last"] (defScope s_Inbox_init) := ⟨rfl, rfl, rfl, by decide +kernel, rfl, by decide +kernel, by decide +kernel⟩
abbrev s_Inbox_rules : Stmt := inClass (top 106) 1
theorem sc_Inbox_rules : FnScope ["self"] ["self"] (defScope s_Inbox_rules) := ⟨rfl, rfl, rfl, by decide +kernel, rfl, by decide +kernel, by decide +kernel⟩
abbrev s_Inbox_stand : Stmt := inClass (top 106) 2
theorem sc_Inbox_stand : FnScope ["self"] ["self"] (defScope s_Inbox_stand) := ⟨rfl, rfl, rfl, by decide +kernel, rfl, by decide +kernel, by decide +kernel⟩
abbrev s_Inbox_taken : Stmt := inClass (top 106) 3
theorem sc_Inbox_taken : FnScope ["self"] ["self"] (defScope s_Inbox_taken) := ⟨rfl, rfl, rfl, by decide +kernel, rfl, by decide +kernel, by decide +kernel⟩
abbrev s_Inbox_version : Stmt := inClass (top 106) 4
theorem sc_Inbox_version : FnScope ["self"] ["self"] (defScope s_Inbox_version) := ⟨rfl, rfl, rfl, by decide +kernel, rfl, by decide +kernel, by decide +kernel⟩
abbrev s_Inbox_last : Stmt := inClass (top 106) 5
theorem sc_Inbox_last : FnScope ["self"] ["self"] (defScope s_Inbox_last) := ⟨rfl, rfl, rfl, by decide +kernel, rfl, by decide +kernel, by decide +kernel⟩
abbrev s_Inbox_restart : Stmt := inClass (top 106) 6
theorem sc_Inbox_restart : FnScope ["self", "value"] ["self", "value"] (defScope s_Inbox_restart) := ⟨rfl, rfl, rfl, by decide +kernel, rfl, by decide +kernel, by decide +kernel⟩
abbrev s_Inbox_note : Stmt := inClass (top 106) 7
theorem sc_Inbox_note : FnScope ["self", "row"] ["self", "row"] (defScope s_Inbox_note) := ⟨rfl, rfl, rfl, by decide +kernel, rfl, by decide +kernel, by decide +kernel⟩
abbrev s_Inbox_require_idle : Stmt := inClass (top 106) 8
theorem sc_Inbox_require_idle : FnScope ["self"] ["self"] (defScope s_Inbox_require_idle) := ⟨rfl, rfl, rfl, by decide +kernel, rfl, by decide +kernel, by decide +kernel⟩
abbrev s_Inbox_require_room : Stmt := inClass (top 106) 9
theorem sc_Inbox_require_room : FnScope ["self", "many"] ["self", "many"] (defScope s_Inbox_require_room) := ⟨rfl, rfl, rfl, by decide +kernel, rfl, by decide +kernel, by decide +kernel⟩
abbrev s_Inbox_is_open : Stmt := inClass (top 106) 10
theorem sc_Inbox_is_open : FnScope ["self"] ["self"] (defScope s_Inbox_is_open) := ⟨rfl, rfl, rfl, by decide +kernel, rfl, by decide +kernel, by decide +kernel⟩
abbrev s_Inbox_require_open : Stmt := inClass (top 106) 11
theorem sc_Inbox_require_open : FnScope ["self"] ["self"] (defScope s_Inbox_require_open) := ⟨rfl, rfl, rfl, by decide +kernel, rfl, by decide +kernel, by decide +kernel⟩
abbrev s_Inbox_contains : Stmt := inClass (top 106) 12
theorem sc_Inbox_contains : FnScope ["self", "value"] ["self", "value"] (defScope s_Inbox_contains) := ⟨rfl, rfl, rfl, by decide +kernel, rfl, by decide +kernel, by decide +kernel⟩
abbrev s_Inbox_hear_one : Stmt := inClass (top 106) 13
theorem sc_Inbox_hear_one : FnScope ["self", "number", "taken", "stand"] ["self", "number"] (defScope s_Inbox_hear_one) := ⟨rfl, rfl, rfl, by decide +kernel, rfl, by decide +kernel, by decide +kernel⟩
abbrev s_Inbox_call : Stmt := inClass (top 106) 14
theorem sc_Inbox_call : FnScope ["self", "value", "taken"] ["self", "value"] (defScope s_Inbox_call) := ⟨rfl, rfl, rfl, by decide +kernel, rfl, by decide +kernel, by decide +kernel⟩
abbrev s_Inbox_hear_row : Stmt := inClass (top 106) 15
theorem sc_Inbox_hear_row : FnScope ["self", "numbers", "on_take", "found", "number"] ["self", "numbers", "on_take"] (defScope s_Inbox_hear_row) := ⟨rfl, rfl, rfl, by decide +kernel, rfl, by decide +kernel, by decide +kernel⟩
abbrev s_Inbox_hear_all : Stmt := inClass (top 106) 16
theorem sc_Inbox_hear_all : FnScope ["self", "value", "on_take", "numbers", "number", "leaf", "past", "found"] ["self", "value", "on_take"] (defScope s_Inbox_hear_all) := ⟨rfl, rfl, rfl, by decide +kernel, rfl, by decide +kernel, by decide +kernel⟩
abbrev s_Inbox_undo : Stmt := inClass (top 106) 17
theorem sc_Inbox_undo : FnScope ["self"] ["self"] (defScope s_Inbox_undo) := ⟨rfl, rfl, rfl, by decide +kernel, rfl, by decide +kernel, by decide +kernel⟩
abbrev s_Inbox_len : Stmt := inClass (top 106) 22
theorem sc_Inbox_len : FnScope ["self"] ["self"] (defScope s_Inbox_len) := ⟨rfl, rfl, rfl, by decide +kernel, rfl, by decide +kernel, by decide +kernel⟩
abbrev s_Inbox_str : Stmt := inClass (top 106) 24
theorem sc_Inbox_str : FnScope ["self"] ["self"] (defScope s_Inbox_str) := ⟨rfl, rfl, rfl, by decide +kernel, rfl, by decide +kernel, by decide +kernel⟩
abbrev s_HaltedInbox_init : Stmt := inClass (top 107) 0
abbrev s_HaltedInbox_is_open : Stmt := inClass (top 107) 3
theorem sc_HaltedInbox_is_open : FnScope ["self"] ["self"] (defScope s_HaltedInbox_is_open) := ⟨rfl, rfl, rfl, by decide +kernel, rfl, by decide +kernel, by decide +kernel⟩
abbrev s_LoggedInbox_init : Stmt := inClass (top 108) 0
abbrev s_LoggedInbox_log : Stmt := inClass (top 108) 1
theorem sc_LoggedInbox_log : FnScope ["self"] ["self"] (defScope s_LoggedInbox_log) := ⟨rfl, rfl, rfl, by decide +kernel, rfl, by decide +kernel, by decide +kernel⟩
abbrev s_LoggedInbox_note : Stmt := inClass (top 108) 2
theorem sc_LoggedInbox_note : FnScope ["self", "row"] ["self", "row"] (defScope s_LoggedInbox_note) := ⟨rfl, rfl, rfl, by decide +kernel, rfl, by decide +kernel, by decide +kernel⟩
abbrev s_LoggedHaltedInbox_init : Stmt := inClass (top 109) 0
theorem sc_LoggedHaltedInbox_init : FnScope ["self", "rules", "last", "limit"] ["self", "rules", "last", "limit"] (defScope s_LoggedHaltedInbox_init) := ⟨rfl, rfl, rfl, by decide +kernel, rfl, by decide +kernel, by decide +kernel⟩
abbrev s_Rules_init : Stmt := inClass (top 119) 0
theorem sc_Rules_init : FnScope ["self", "value", "error"] ["self", "value"] (defScope s_Rules_init) := ⟨rfl, rfl, rfl, by decide +kernel, rfl, by decide +kernel, by decide +kernel⟩
abbrev s_Rules_receiver : Stmt := inClass (top 119) 4
theorem sc_Rules_receiver : FnScope ["self"] ["self"] (defScope s_Rules_receiver) := ⟨rfl, rfl, rfl, by decide +kernel, rfl, by decide +kernel, by decide +kernel⟩
abbrev s_Rules_len : Stmt := inClass (top 119) 8
theorem sc_Rules_len : FnScope ["self"] ["self"] (defScope s_Rules_len) := ⟨rfl, rfl, rfl, by decide +kernel, rfl, by decide +kernel, by decide +kernel⟩
abbrev s_l_spring : Stmt := top 121
theorem sc_l_spring : FnScope ["_law_script", "_law_great", "_law_mixed", "_law_cell", "_law_more"] ["_law_script"] (defScope s_l_spring) := ⟨rfl, rfl, rfl, by decide +kernel, rfl, by decide +kernel, by decide +kernel⟩
abbrev s_l_dip : Stmt := top 122
theorem sc_l_dip : FnScope ["_law_spring_here", "_law_many", "_law_digit", "_law_more"] ["_law_spring_here", "_law_many"] (defScope s_l_dip) := ⟨rfl, rfl, rfl, by decide +kernel, rfl, by decide +kernel, by decide +kernel⟩
abbrev s_l_pick : Stmt := top 123
theorem sc_l_pick : FnScope ["_law_spring_here", "_law_some"] ["_law_spring_here", "_law_some"] (defScope s_l_pick) := ⟨rfl, rfl, rfl, by decide +kernel, rfl, by decide +kernel, by decide +kernel⟩
abbrev s_l_range : Stmt := top 124
theorem sc_l_range : FnScope ["_law_spring_here", "_law_way", "_law_low"] ["_law_spring_here"] (defScope s_l_range) := ⟨rfl, rfl, rfl, by decide +kernel, rfl, by decide +kernel, by decide +kernel⟩
abbrev s_l_row : Stmt := top 125
theorem sc_l_row : FnScope ["_law_spring_here", "_law_many", "_law_ahead", "_law_after", "_law_deed"] ["_law_spring_here", "_law_many"] (defScope s_l_row) := ⟨rfl, rfl, rfl, by decide +kernel, rfl, by decide +kernel, by decide +kernel⟩
abbrev s_l_window : Stmt := top 126
theorem sc_l_window : FnScope ["_law_size"] ["_law_size"] (defScope s_l_window) := ⟨rfl, rfl, rfl, by decide +kernel, rfl, by decide +kernel, by decide +kernel⟩
abbrev s_l_paired : Stmt := top 127
theorem sc_l_paired : FnScope ["_law_size", "_law_wide", "_law_times", "_law_zone", "_law_found", "_law_k", "_law_rows"] ["_law_size", "_law_wide", "_law_times"] (defScope s_l_paired) := ⟨rfl, rfl, rfl, by decide +kernel, rfl, by decide +kernel, by decide +kernel⟩
abbrev s_l_receiver : Stmt := top 128
theorem sc_l_receiver : FnScope ["_law_spring_here", "_law_states", "_law_rows", "_law_way", "_law_size", "_law_many", "_law_found", "_law_state", "_law_k"] ["_law_spring_here", "_law_states", "_law_rows"] (defScope s_l_receiver) := ⟨rfl, rfl, rfl, by decide +kernel, rfl, by decide +kernel, by decide +kernel⟩
abbrev s_l_range_text : Stmt := top 129
theorem sc_l_range_text : FnScope ["_law_own"] ["_law_own"] (defScope s_l_range_text) := ⟨rfl, rfl, rfl, by decide +kernel, rfl, by decide +kernel, by decide +kernel⟩
abbrev s_l_log_text : Stmt := top 130
theorem sc_l_log_text : FnScope ["_law_log", "_law_number", "_law_taken"] ["_law_log"] (defScope s_l_log_text) := ⟨rfl, rfl, rfl, by decide +kernel, rfl, by decide +kernel, by decide +kernel⟩
abbrev s_l_ranges_text : Stmt := top 131
theorem sc_l_ranges_text : FnScope ["_law_ranges", "_law_own"] ["_law_ranges"] (defScope s_l_ranges_text) := ⟨rfl, rfl, rfl, by decide +kernel, rfl, by decide +kernel, by decide +kernel⟩
abbrev s_l_gate : Stmt := top 132
theorem sc_l_gate : FnScope ["_law_kind", "_law_receiver_here", "_law_last", "_law_limit"] ["_law_kind", "_law_receiver_here", "_law_last", "_law_limit"] (defScope s_l_gate) := ⟨rfl, rfl, rfl, by decide +kernel, rfl, by decide +kernel, by decide +kernel⟩
abbrev s_l_by_methods : Stmt := top 133
theorem sc_l_by_methods : FnScope ["_law_twin", "_law_word", "_law_number"] ["_law_twin", "_law_word", "_law_number"] (defScope s_l_by_methods) := ⟨rfl, rfl, rfl, by decide +kernel, rfl, by decide +kernel, by decide +kernel⟩
abbrev s_l_shown : Stmt := top 134
theorem sc_l_shown : FnScope ["_law_inbox", "_law_told"] ["_law_inbox"] (defScope s_l_shown) := ⟨rfl, rfl, rfl, by decide +kernel, rfl, by decide +kernel, by decide +kernel⟩
abbrev s_l_within : Stmt := top 135
theorem sc_l_within : FnScope ["_law_inbox", "_law_desk", "_law_numbers", "_law_found", "_law_look"] ["_law_inbox", "_law_desk", "_law_numbers"] (defScope s_l_within) := ⟨rfl, rfl, rfl, by decide +kernel, rfl, by decide +kernel, by decide +kernel⟩
abbrev s_l_within_right : Stmt := top 136
theorem sc_l_within_right : FnScope ["_law_found", "_law_due", "_law_k"] ["_law_found", "_law_due"] (defScope s_l_within_right) := ⟨rfl, rfl, rfl, by decide +kernel, rfl, by decide +kernel, by decide +kernel⟩
abbrev s_law : Stmt := top 137
theorem sc_law : FnScope ["_law_script", "_law_spring_here", "_law_turn", "_law_receiver_here", "_law_kind", "_law_limit", "_law_inbox", "_law_twin", "_law_desks", "_law_many", "_law_k", "_law_way", "_law_at", "_law_word", "_law_number", "_law_due", "_law_line", "_law_found", "_law_desk", "_law_text", "_law_numbers", "_law_step"] ["_law_script"] (defScope s_law) := ⟨rfl, rfl, rfl, by decide +kernel, rfl, by decide +kernel, by decide +kernel⟩
end K8
set_option maxHeartbeats 4000000
namespace K8
open PySem PySem.Spec PyProof.Rows L2 NdefX LamX
/-! ### what the head looks at: functions -/
structure FE where
  adr : PySem.W.Frag → Addr
  name : Str
  qual : Str
  st : Stmt
  clo : PySem.W.Frag → List (Str × Addr)
abbrev FV : Type := Option (Str × Str × Arguments × FuncBody × Scope × Addr × Addr)
def FE.obs (K : PySem.W.Frag) (e : FE) : FV := match K.lookup (e.adr K) with
  | some ⟨_, _, .func fd, _⟩ => some (fd.name, fd.qualname, fd.params, fd.body, fd.scope, fd.globals, fd.builtins)
  | _ => none
def FE.val (e : FE) : FV := some (e.name, e.qual, defArgs e.st, .stmts (defBody e.st), defScope e.st, mainGlobals, builtinsNs)
def FE.chk (K : PySem.W.Frag) (e : FE) : Bool := PySem.W.keepIn K (.ref (e.adr K)) && (match K.lookup (e.adr K) with
  | some ⟨_, _, .func fd, _⟩ => PySem.W.codeIn K fd.code e.qual && (decide (fd.defaults = .none) && decide (fd.closure = e.clo K))
  | _ => false)
theorem FE.get {K : PySem.W.Frag} {e : FE} (h1 : e.obs K = e.val) (h2 : e.chk K = true) : ∃ (oc : Value) (od : Option Addr) (kV doc pm : Value) (an : Option Addr) (cdv ct : Value) (osl : Array (Option Value)),
    K.lookup (e.adr K) = some ⟨oc, od, .func (PySem.W.fnX e.name e.qual (defArgs e.st) (defBody e.st) (defScope e.st) (e.clo K) .none kV doc pm an cdv ct), osl⟩ ∧ PySem.W.codeIn K cdv e.qual = true ∧ PySem.W.keepIn K (.ref (e.adr K)) = true := by
  obtain ⟨kp, c2⟩ := He.ba h2
  unfold FE.obs at h1
  cases q : K.lookup (e.adr K) with
  | none => rw [q] at c2; cases c2
  | some o =>
    obtain ⟨oc, od, dt, osl⟩ := o
    rw [q] at c2 h1
    cases dt with
    | func fd =>
      obtain ⟨a1, a2, a3, a4, a5, a6, a7, a8, a9, a10, a11, a12, a13, a14, a15⟩ := fd
      have e2 : (some (a1, a2, a3, a4, a5, a6, a15) : FV) = some (e.name, e.qual, defArgs e.st, .stmts (defBody e.st), defScope e.st, mainGlobals, builtinsNs) := h1
      simp only [Option.some.injEq, Prod.mk.injEq] at e2
      obtain ⟨r1, r2, r3, r4, r5, r6, r7⟩ := e2
      obtain ⟨c3, c4⟩ := He.ba c2
      obtain ⟨c5, c6⟩ := He.ba c4
      have d1 : a8 = .none := of_decide_eq_true c5
      have d2 : a7 = e.clo K := of_decide_eq_true c6
      subst r1 r2 r3 r4 r5 r6 r7 d1 d2
      exact ⟨oc, od, a9, a10, a11, a12, a13, a14, osl, rfl, c3, kp⟩
    | _ => cases c2
/-- a property of the class at C: its object, its getter -/
def pA (K : PySem.W.Frag) (C : Addr) (f : Str) : Addr := match PySem.W.findIn K (.ref C) f with
  | some (some (.ref p)) => p
  | _ => 0
def gA (K : PySem.W.Frag) (C : Addr) (f : Str) : Addr := match PySem.W.recIn K (pA K C f) "property" with
  | some (.ref g :: _) => g
  | _ => 0
/-- the cell of __class__ -/
def cellA (K : PySem.W.Frag) (C : Str) : Addr := match K.lookup (He.ma K (He.ga K C) "__init__") with
  | some ⟨_, _, .func fd, _⟩ => (match fd.closure with
    | [(_, c)] => c
    | _ => 0)
  | _ => 0
def feL : List FE := [
  ⟨fun K => He.ga K "place_of", "place_of", "place_of", s_place_of, fun _ => []⟩,
  ⟨fun K => He.ga K "merged", "merged", "merged", s_merged, fun _ => []⟩,
  ⟨fun K => He.ga K "in_order", "in_order", "in_order", s_in_order, fun _ => []⟩,
  ⟨fun K => He.ga K "rest_of", "rest_of", "rest_of", s_rest_of, fun _ => []⟩,
  ⟨fun K => He.ga K "lies_in", "lies_in", "lies_in", s_lies_in, fun _ => []⟩,
  ⟨fun K => He.ga K "counting_row", "counting_row", "counting_row", s_counting_row, fun _ => []⟩,
  ⟨fun K => He.ga K "step_from", "step_from", "step_from", s_step_from, fun _ => []⟩,
  ⟨fun K => He.ga K "all_steps", "all_steps", "all_steps", s_all_steps, fun _ => []⟩,
  ⟨fun K => He.ga K "rests_met", "rests_met", "rests_met", s_rests_met, fun _ => []⟩,
  ⟨fun K => He.ga K "hear", "hear", "hear", s_hear, fun _ => []⟩,
  ⟨fun K => He.ga K "beginning", "beginning", "beginning", s_beginning, fun _ => []⟩,
  ⟨fun K => He.ga K "walked", "walked", "walked", s_walked, fun _ => []⟩,
  ⟨fun K => He.ga K "answers", "answers", "answers", s_answers, fun _ => []⟩,
  ⟨fun K => He.ga K "is_integer", "is_integer", "is_integer", s_is_integer, fun _ => []⟩,
  ⟨fun K => He.ga K "is_bound", "is_bound", "is_bound", s_is_bound, fun _ => []⟩,
  ⟨fun K => He.ga K "is_range", "is_range", "is_range", s_is_range, fun _ => []⟩,
  ⟨fun K => He.ga K "is_deed", "is_deed", "is_deed", s_is_deed, fun _ => []⟩,
  ⟨fun K => He.ga K "row_word", "row_word", "row_word", s_row_word, fun _ => []⟩,
  ⟨fun K => He.ga K "state_error", "state_error", "state_error", s_state_error, fun _ => []⟩,
  ⟨fun K => He.ga K "receiver_error", "receiver_error", "receiver_error", s_receiver_error, fun _ => []⟩,
  ⟨fun K => He.ga K "stretches", "stretches", "stretches", s_stretches, fun _ => []⟩,
  ⟨fun K => He.ga K "one_of", "one_of", "one_of", s_one_of, fun _ => []⟩,
  ⟨fun K => He.ga K "joined", "joined", "joined", s_joined, fun _ => []⟩,
  ⟨fun K => He.ga K "fits", "fits", "fits", s_fits, fun _ => []⟩,
  ⟨fun K => He.ga K "table_of", "table_of", "table_of", s_table_of, fun _ => []⟩,
  ⟨fun K => He.ga K "classes_of", "classes_of", "classes_of", s_classes_of, fun _ => []⟩,
  ⟨fun K => He.ga K "runs_of", "runs_of", "runs_of", s_runs_of, fun _ => []⟩,
  ⟨fun K => He.ga K "least_of", "least_of", "least_of", s_least_of, fun _ => []⟩,
  ⟨fun K => He.ga K "form_of", "form_of", "form_of", s_form_of, fun _ => []⟩,
  ⟨fun K => He.ga K "number_text", "number_text", "number_text", s_number_text, fun _ => []⟩,
  ⟨fun K => He.ga K "bound_text", "bound_text", "bound_text", s_bound_text, fun _ => []⟩,
  ⟨fun K => He.ga K "range_text", "range_text", "range_text", s_range_text, fun _ => []⟩,
  ⟨fun K => He.ga K "ranges_text", "ranges_text", "ranges_text", s_ranges_text, fun _ => []⟩,
  ⟨fun K => He.ga K "log_text", "log_text", "log_text", s_log_text, fun _ => []⟩,
  ⟨fun K => He.ga K "parse_number", "parse_number", "parse_number", s_parse_number, fun _ => []⟩,
  ⟨fun K => He.ga K "parse_log", "parse_log", "parse_log", s_parse_log, fun _ => []⟩,
  ⟨fun K => He.ga K "yes_or_no", "yes_or_no", "yes_or_no", s_yes_or_no, fun _ => []⟩,
  ⟨fun K => He.ga K "error_name", "error_name", "error_name", s_error_name, fun _ => []⟩,
  ⟨fun K => He.ga K "require_number", "require_number", "require_number", s_require_number, fun _ => []⟩,
  ⟨fun K => He.ga K "_law_spring", "_law_spring", "_law_spring", s_l_spring, fun _ => []⟩,
  ⟨fun K => He.ga K "_law_dip", "_law_dip", "_law_dip", s_l_dip, fun _ => []⟩,
  ⟨fun K => He.ga K "_law_pick", "_law_pick", "_law_pick", s_l_pick, fun _ => []⟩,
  ⟨fun K => He.ga K "_law_range", "_law_range", "_law_range", s_l_range, fun _ => []⟩,
  ⟨fun K => He.ga K "_law_row", "_law_row", "_law_row", s_l_row, fun _ => []⟩,
  ⟨fun K => He.ga K "_law_window", "_law_window", "_law_window", s_l_window, fun _ => []⟩,
  ⟨fun K => He.ga K "_law_paired", "_law_paired", "_law_paired", s_l_paired, fun _ => []⟩,
  ⟨fun K => He.ga K "_law_receiver", "_law_receiver", "_law_receiver", s_l_receiver, fun _ => []⟩,
  ⟨fun K => He.ga K "_law_range_text", "_law_range_text", "_law_range_text", s_l_range_text, fun _ => []⟩,
  ⟨fun K => He.ga K "_law_log_text", "_law_log_text", "_law_log_text", s_l_log_text, fun _ => []⟩,
  ⟨fun K => He.ga K "_law_ranges_text", "_law_ranges_text", "_law_ranges_text", s_l_ranges_text, fun _ => []⟩,
  ⟨fun K => He.ga K "_law_gate", "_law_gate", "_law_gate", s_l_gate, fun _ => []⟩,
  ⟨fun K => He.ga K "_law_by_methods", "_law_by_methods", "_law_by_methods", s_l_by_methods, fun _ => []⟩,
  ⟨fun K => He.ga K "_law_shown", "_law_shown", "_law_shown", s_l_shown, fun _ => []⟩,
  ⟨fun K => He.ga K "_law_within", "_law_within", "_law_within", s_l_within, fun _ => []⟩,
  ⟨fun K => He.ga K "_law_within_right", "_law_within_right", "_law_within_right", s_l_within_right, fun _ => []⟩,
  ⟨fun K => He.ga K "law", "law", "law", s_law, fun _ => []⟩,
  ⟨fun K => He.ma K (He.ga K "Inbox") "require_idle", "require_idle", "Inbox.require_idle", s_Inbox_require_idle, fun _ => []⟩,
  ⟨fun K => He.ma K (He.ga K "Inbox") "require_room", "require_room", "Inbox.require_room", s_Inbox_require_room, fun _ => []⟩,
  ⟨fun K => He.ma K (He.ga K "Inbox") "require_open", "require_open", "Inbox.require_open", s_Inbox_require_open, fun _ => []⟩,
  ⟨fun K => He.ma K (He.ga K "Inbox") "hear_one", "hear_one", "Inbox.hear_one", s_Inbox_hear_one, fun _ => []⟩,
  ⟨fun K => He.ma K (He.ga K "Inbox") "__call__", "__call__", "Inbox.__call__", s_Inbox_call, fun _ => []⟩,
  ⟨fun K => He.ma K (He.ga K "Inbox") "undo", "undo", "Inbox.undo", s_Inbox_undo, fun _ => []⟩,
  ⟨fun K => He.ma K (He.ga K "Inbox") "__contains__", "__contains__", "Inbox.__contains__", s_Inbox_contains, fun _ => []⟩,
  ⟨fun K => He.ma K (He.ga K "Inbox") "__len__", "__len__", "Inbox.__len__", s_Inbox_len, fun _ => []⟩,
  ⟨fun K => He.ma K (He.ga K "Inbox") "__str__", "__str__", "Inbox.__str__", s_Inbox_str, fun _ => []⟩,
  ⟨fun K => He.ma K (He.ga K "Inbox") "restart", "restart", "Inbox.restart", s_Inbox_restart, fun _ => []⟩,
  ⟨fun K => He.ma K (He.ga K "Inbox") "hear_all", "hear_all", "Inbox.hear_all", s_Inbox_hear_all, fun _ => []⟩,
  ⟨fun K => He.ma K (He.ga K "Inbox") "hear_row", "hear_row", "Inbox.hear_row", s_Inbox_hear_row, fun _ => []⟩,
  ⟨fun K => He.ma K (He.ga K "Inbox") "is_open", "is_open", "Inbox.is_open", s_Inbox_is_open, fun _ => []⟩,
  ⟨fun K => He.ma K (He.ga K "Inbox") "note", "note", "Inbox.note", s_Inbox_note, fun _ => []⟩,
  ⟨fun K => He.ma K (He.ga K "LoggedInbox") "require_idle", "require_idle", "Inbox.require_idle", s_Inbox_require_idle, fun _ => []⟩,
  ⟨fun K => He.ma K (He.ga K "LoggedInbox") "require_room", "require_room", "Inbox.require_room", s_Inbox_require_room, fun _ => []⟩,
  ⟨fun K => He.ma K (He.ga K "LoggedInbox") "require_open", "require_open", "Inbox.require_open", s_Inbox_require_open, fun _ => []⟩,
  ⟨fun K => He.ma K (He.ga K "LoggedInbox") "hear_one", "hear_one", "Inbox.hear_one", s_Inbox_hear_one, fun _ => []⟩,
  ⟨fun K => He.ma K (He.ga K "LoggedInbox") "__call__", "__call__", "Inbox.__call__", s_Inbox_call, fun _ => []⟩,
  ⟨fun K => He.ma K (He.ga K "LoggedInbox") "undo", "undo", "Inbox.undo", s_Inbox_undo, fun _ => []⟩,
  ⟨fun K => He.ma K (He.ga K "LoggedInbox") "__contains__", "__contains__", "Inbox.__contains__", s_Inbox_contains, fun _ => []⟩,
  ⟨fun K => He.ma K (He.ga K "LoggedInbox") "__len__", "__len__", "Inbox.__len__", s_Inbox_len, fun _ => []⟩,
  ⟨fun K => He.ma K (He.ga K "LoggedInbox") "__str__", "__str__", "Inbox.__str__", s_Inbox_str, fun _ => []⟩,
  ⟨fun K => He.ma K (He.ga K "LoggedInbox") "restart", "restart", "Inbox.restart", s_Inbox_restart, fun _ => []⟩,
  ⟨fun K => He.ma K (He.ga K "LoggedInbox") "hear_all", "hear_all", "Inbox.hear_all", s_Inbox_hear_all, fun _ => []⟩,
  ⟨fun K => He.ma K (He.ga K "LoggedInbox") "hear_row", "hear_row", "Inbox.hear_row", s_Inbox_hear_row, fun _ => []⟩,
  ⟨fun K => He.ma K (He.ga K "LoggedInbox") "is_open", "is_open", "Inbox.is_open", s_Inbox_is_open, fun _ => []⟩,
  ⟨fun K => He.ma K (He.ga K "LoggedInbox") "note", "note", "LoggedInbox.note", s_LoggedInbox_note, fun _ => []⟩,
  ⟨fun K => He.ma K (He.ga K "HaltedInbox") "require_idle", "require_idle", "Inbox.require_idle", s_Inbox_require_idle, fun _ => []⟩,
  ⟨fun K => He.ma K (He.ga K "HaltedInbox") "require_room", "require_room", "Inbox.require_room", s_Inbox_require_room, fun _ => []⟩,
  ⟨fun K => He.ma K (He.ga K "HaltedInbox") "require_open", "require_open", "Inbox.require_open", s_Inbox_require_open, fun _ => []⟩,
  ⟨fun K => He.ma K (He.ga K "HaltedInbox") "hear_one", "hear_one", "Inbox.hear_one", s_Inbox_hear_one, fun _ => []⟩,
  ⟨fun K => He.ma K (He.ga K "HaltedInbox") "__call__", "__call__", "Inbox.__call__", s_Inbox_call, fun _ => []⟩,
  ⟨fun K => He.ma K (He.ga K "HaltedInbox") "undo", "undo", "Inbox.undo", s_Inbox_undo, fun _ => []⟩,
  ⟨fun K => He.ma K (He.ga K "HaltedInbox") "__contains__", "__contains__", "Inbox.__contains__", s_Inbox_contains, fun _ => []⟩,
  ⟨fun K => He.ma K (He.ga K "HaltedInbox") "__len__", "__len__", "Inbox.__len__", s_Inbox_len, fun _ => []⟩,
  ⟨fun K => He.ma K (He.ga K "HaltedInbox") "__str__", "__str__", "Inbox.__str__", s_Inbox_str, fun _ => []⟩,
  ⟨fun K => He.ma K (He.ga K "HaltedInbox") "restart", "restart", "Inbox.restart", s_Inbox_restart, fun _ => []⟩,
  ⟨fun K => He.ma K (He.ga K "HaltedInbox") "hear_all", "hear_all", "Inbox.hear_all", s_Inbox_hear_all, fun _ => []⟩,
  ⟨fun K => He.ma K (He.ga K "HaltedInbox") "hear_row", "hear_row", "Inbox.hear_row", s_Inbox_hear_row, fun _ => []⟩,
  ⟨fun K => He.ma K (He.ga K "HaltedInbox") "is_open", "is_open", "HaltedInbox.is_open", s_HaltedInbox_is_open, fun _ => []⟩,
  ⟨fun K => He.ma K (He.ga K "HaltedInbox") "note", "note", "Inbox.note", s_Inbox_note, fun _ => []⟩,
  ⟨fun K => He.ma K (He.ga K "LoggedHaltedInbox") "require_idle", "require_idle", "Inbox.require_idle", s_Inbox_require_idle, fun _ => []⟩,
  ⟨fun K => He.ma K (He.ga K "LoggedHaltedInbox") "require_room", "require_room", "Inbox.require_room", s_Inbox_require_room, fun _ => []⟩,
  ⟨fun K => He.ma K (He.ga K "LoggedHaltedInbox") "require_open", "require_open", "Inbox.require_open", s_Inbox_require_open, fun _ => []⟩,
  ⟨fun K => He.ma K (He.ga K "LoggedHaltedInbox") "hear_one", "hear_one", "Inbox.hear_one", s_Inbox_hear_one, fun _ => []⟩,
  ⟨fun K => He.ma K (He.ga K "LoggedHaltedInbox") "__call__", "__call__", "Inbox.__call__", s_Inbox_call, fun _ => []⟩,
  ⟨fun K => He.ma K (He.ga K "LoggedHaltedInbox") "undo", "undo", "Inbox.undo", s_Inbox_undo, fun _ => []⟩,
  ⟨fun K => He.ma K (He.ga K "LoggedHaltedInbox") "__contains__", "__contains__", "Inbox.__contains__", s_Inbox_contains, fun _ => []⟩,
  ⟨fun K => He.ma K (He.ga K "LoggedHaltedInbox") "__len__", "__len__", "Inbox.__len__", s_Inbox_len, fun _ => []⟩,
  ⟨fun K => He.ma K (He.ga K "LoggedHaltedInbox") "__str__", "__str__", "Inbox.__str__", s_Inbox_str, fun _ => []⟩,
  ⟨fun K => He.ma K (He.ga K "LoggedHaltedInbox") "restart", "restart", "Inbox.restart", s_Inbox_restart, fun _ => []⟩,
  ⟨fun K => He.ma K (He.ga K "LoggedHaltedInbox") "hear_all", "hear_all", "Inbox.hear_all", s_Inbox_hear_all, fun _ => []⟩,
  ⟨fun K => He.ma K (He.ga K "LoggedHaltedInbox") "hear_row", "hear_row", "Inbox.hear_row", s_Inbox_hear_row, fun _ => []⟩,
  ⟨fun K => He.ma K (He.ga K "LoggedHaltedInbox") "is_open", "is_open", "HaltedInbox.is_open", s_HaltedInbox_is_open, fun _ => []⟩,
  ⟨fun K => He.ma K (He.ga K "LoggedHaltedInbox") "note", "note", "LoggedInbox.note", s_LoggedInbox_note, fun _ => []⟩,
  ⟨fun K => He.ma K (He.ga K "Desk") "do_deed", "do_deed", "Desk.do_deed", s_Desk_do_deed, fun _ => []⟩,
  ⟨fun K => He.ma K (He.ga K "Desk") "told_by", "told_by", "Desk.told_by", s_Desk_told_by, fun _ => []⟩,
  ⟨fun K => He.ma K (He.ga K "Desk") "told_alone", "told_alone", "Desk.told_alone", s_Desk_told_alone, fun _ => []⟩,
  ⟨fun K => He.ma K (He.ga K "Desk") "answer", "answer", "Desk.answer", s_Desk_answer, fun _ => []⟩,
  ⟨fun K => He.ma K (He.ga K "Desk") "answer_safely", "answer_safely", "Desk.answer_safely", s_Desk_answer_safely, fun _ => []⟩,
  ⟨fun K => He.ma K (He.ga K "Desk") "say", "say", "Desk.say", s_Desk_say, fun _ => []⟩,
  ⟨fun K => He.ma K (He.ga K "Rules") "__len__", "__len__", "Rules.__len__", s_Rules_len, fun _ => []⟩,
  ⟨fun K => gA K (He.ga K "Inbox") "rules", "rules", "Inbox.rules", s_Inbox_rules, fun _ => []⟩,
  ⟨fun K => gA K (He.ga K "Inbox") "stand", "stand", "Inbox.stand", s_Inbox_stand, fun _ => []⟩,
  ⟨fun K => gA K (He.ga K "Inbox") "taken", "taken", "Inbox.taken", s_Inbox_taken, fun _ => []⟩,
  ⟨fun K => gA K (He.ga K "Inbox") "version", "version", "Inbox.version", s_Inbox_version, fun _ => []⟩,
  ⟨fun K => gA K (He.ga K "Inbox") "last", "last", "Inbox.last", s_Inbox_last, fun _ => []⟩,
  ⟨fun K => gA K (He.ga K "LoggedInbox") "rules", "rules", "Inbox.rules", s_Inbox_rules, fun _ => []⟩,
  ⟨fun K => gA K (He.ga K "LoggedInbox") "stand", "stand", "Inbox.stand", s_Inbox_stand, fun _ => []⟩,
  ⟨fun K => gA K (He.ga K "LoggedInbox") "taken", "taken", "Inbox.taken", s_Inbox_taken, fun _ => []⟩,
  ⟨fun K => gA K (He.ga K "LoggedInbox") "version", "version", "Inbox.version", s_Inbox_version, fun _ => []⟩,
  ⟨fun K => gA K (He.ga K "LoggedInbox") "last", "last", "Inbox.last", s_Inbox_last, fun _ => []⟩,
  ⟨fun K => gA K (He.ga K "LoggedInbox") "log", "log", "LoggedInbox.log", s_LoggedInbox_log, fun _ => []⟩,
  ⟨fun K => gA K (He.ga K "HaltedInbox") "rules", "rules", "Inbox.rules", s_Inbox_rules, fun _ => []⟩,
  ⟨fun K => gA K (He.ga K "HaltedInbox") "stand", "stand", "Inbox.stand", s_Inbox_stand, fun _ => []⟩,
  ⟨fun K => gA K (He.ga K "HaltedInbox") "taken", "taken", "Inbox.taken", s_Inbox_taken, fun _ => []⟩,
  ⟨fun K => gA K (He.ga K "HaltedInbox") "version", "version", "Inbox.version", s_Inbox_version, fun _ => []⟩,
  ⟨fun K => gA K (He.ga K "HaltedInbox") "last", "last", "Inbox.last", s_Inbox_last, fun _ => []⟩,
  ⟨fun K => gA K (He.ga K "LoggedHaltedInbox") "rules", "rules", "Inbox.rules", s_Inbox_rules, fun _ => []⟩,
  ⟨fun K => gA K (He.ga K "LoggedHaltedInbox") "stand", "stand", "Inbox.stand", s_Inbox_stand, fun _ => []⟩,
  ⟨fun K => gA K (He.ga K "LoggedHaltedInbox") "taken", "taken", "Inbox.taken", s_Inbox_taken, fun _ => []⟩,
  ⟨fun K => gA K (He.ga K "LoggedHaltedInbox") "version", "version", "Inbox.version", s_Inbox_version, fun _ => []⟩,
  ⟨fun K => gA K (He.ga K "LoggedHaltedInbox") "last", "last", "Inbox.last", s_Inbox_last, fun _ => []⟩,
  ⟨fun K => gA K (He.ga K "LoggedHaltedInbox") "log", "log", "LoggedInbox.log", s_LoggedInbox_log, fun _ => []⟩,
  ⟨fun K => gA K (He.ga K "Rules") "receiver", "receiver", "Rules.receiver", s_Rules_receiver, fun _ => []⟩,
  ⟨fun K => gA K (He.ga K "Desk") "history", "history", "Desk.history", s_Desk_history, fun _ => []⟩,
  ⟨fun K => He.ma K (He.ga K "Leaf") "__init__", "__init__", "Leaf.__init__", s_Leaf_init, fun _ => []⟩,
  ⟨fun K => He.ma K (He.ga K "Rules") "__init__", "__init__", "Rules.__init__", s_Rules_init, fun _ => []⟩,
  ⟨fun K => He.ma K (He.ga K "Inbox") "__init__", "__init__", "Inbox.__init__", s_Inbox_init, fun _ => []⟩,
  ⟨fun K => He.ma K (He.ga K "Desk") "__init__", "__init__", "Desk.__init__", s_Desk_init, fun _ => []⟩,
  ⟨fun K => He.ma K (He.ga K "LoggedHaltedInbox") "__init__", "__init__", "LoggedHaltedInbox.__init__", s_LoggedHaltedInbox_init, fun _ => []⟩,
  ⟨fun K => He.ma K (He.ga K "LoggedInbox") "__init__", "__init__", "LoggedInbox.__init__", s_LoggedInbox_init, fun K => [("__class__", cellA K "LoggedInbox")]⟩,
  ⟨fun K => He.ma K (He.ga K "HaltedInbox") "__init__", "__init__", "HaltedInbox.__init__", s_HaltedInbox_init, fun K => [("__class__", cellA K "HaltedInbox")]⟩]
def gloL0 : List Str := ["place_of", "merged", "in_order", "rest_of", "lies_in", "counting_row", "step_from", "all_steps", "rests_met", "hear", "beginning", "walked", "answers", "is_integer", "is_bound", "is_range", "is_deed", "row_word", "state_error", "receiver_error", "stretches", "one_of", "joined", "fits", "table_of"]
def gloL1 : List Str := ["classes_of", "runs_of", "least_of", "form_of", "number_text", "bound_text", "range_text", "ranges_text", "log_text", "parse_number", "parse_log", "yes_or_no", "error_name", "require_number", "_law_spring", "_law_dip", "_law_pick", "_law_range", "_law_row", "_law_window", "_law_paired", "_law_receiver", "_law_range_text", "_law_log_text", "_law_ranges_text"]
def gloL2 : List Str := ["_law_gate", "_law_by_methods", "_law_shown", "_law_within", "_law_within_right", "law", "Leaf", "Rules", "Desk", "Inbox", "LoggedInbox", "HaltedInbox", "LoggedHaltedInbox", "Halted", "TooManyDeeds", "NothingToUndo", "Busy", "PostError", "BadCount", "BadNumber", "BadText", "DEEDS", "NUMBERED", "ALONE"]
def gloL : List Str := gloL0 ++ gloL1 ++ gloL2
def freeL : List Str := ["enumerate", "int", "bool", "str", "list", "tuple", "isinstance", "len", "range", "zip", "abs", "all", "repr", "super"]
def intL : List (Str × Int) := [("FAR", 13), ("MAX_BOUND", 6), ("MAX_STATES", 4), ("MAX_ROWS", 6), ("MAX_LOG", 40), ("MAX_DEEDS", 60), ("MAX_ROW", 20), ("LONG", 40), ("SPLIT", 1000000000000000000), ("KEPT", 20), ("MOST_LIMIT", 9)]
def strL : List (Str × Str) := [("DIGITS", "0123456789"), ("UNKNOWN", "unknown command")]
def tupL : List (Str × List He.Dv) := [("DEEDS", [.str "take", .str "keep", .str "leave", .str "drop"]), ("NUMBERED", [.str "hear", .str "restart", .str "would", .str "wait", .str "most"]), ("ALONE", [.str "undo", .str "last", .str "taken", .str "form", .str "wait"])]
def clsL : List Str := ["Leaf", "Rules", "Desk", "Inbox", "LoggedInbox", "HaltedInbox", "LoggedHaltedInbox"]
def noatL0 : List (Str × Str) := [("Leaf", "own_stand"), ("Leaf", "numbers"), ("Leaf", "refused"), ("Rules", "held"), ("Rules", "least"), ("Desk", "inbox"), ("Desk", "pairs"), ("Inbox", "own_rules"), ("Inbox", "leaf"), ("Inbox", "past"), ("Inbox", "rows"), ("Inbox", "is_busy"), ("Inbox", "most"), ("LoggedInbox", "own_rules"), ("LoggedInbox", "leaf"), ("LoggedInbox", "past"), ("LoggedInbox", "rows"), ("LoggedInbox", "is_busy"), ("LoggedInbox", "most"), ("HaltedInbox", "own_rules"), ("HaltedInbox", "leaf"), ("HaltedInbox", "past"), ("HaltedInbox", "rows"), ("HaltedInbox", "is_busy"), ("HaltedInbox", "most")]
def noatL1 : List (Str × Str) := [("LoggedHaltedInbox", "own_rules"), ("LoggedHaltedInbox", "leaf"), ("LoggedHaltedInbox", "past"), ("LoggedHaltedInbox", "rows"), ("LoggedHaltedInbox", "is_busy"), ("LoggedHaltedInbox", "most")]
def noatL : List (Str × Str) := noatL0 ++ noatL1
def methL0 : List (Str × Str) := [("Inbox", "require_idle"), ("Inbox", "require_room"), ("Inbox", "require_open"), ("Inbox", "hear_one"), ("Inbox", "__call__"), ("Inbox", "undo"), ("Inbox", "__contains__"), ("Inbox", "__len__"), ("Inbox", "__str__"), ("Inbox", "restart"), ("Inbox", "hear_all"), ("Inbox", "hear_row"), ("Inbox", "is_open"), ("Inbox", "note"), ("LoggedInbox", "require_idle"), ("LoggedInbox", "require_room"), ("LoggedInbox", "require_open"), ("LoggedInbox", "hear_one"), ("LoggedInbox", "__call__"), ("LoggedInbox", "undo"), ("LoggedInbox", "__contains__"), ("LoggedInbox", "__len__"), ("LoggedInbox", "__str__"), ("LoggedInbox", "restart"), ("LoggedInbox", "hear_all")]
def methL1 : List (Str × Str) := [("LoggedInbox", "hear_row"), ("LoggedInbox", "is_open"), ("LoggedInbox", "note"), ("HaltedInbox", "require_idle"), ("HaltedInbox", "require_room"), ("HaltedInbox", "require_open"), ("HaltedInbox", "hear_one"), ("HaltedInbox", "__call__"), ("HaltedInbox", "undo"), ("HaltedInbox", "__contains__"), ("HaltedInbox", "__len__"), ("HaltedInbox", "__str__"), ("HaltedInbox", "restart"), ("HaltedInbox", "hear_all"), ("HaltedInbox", "hear_row"), ("HaltedInbox", "is_open"), ("HaltedInbox", "note"), ("LoggedHaltedInbox", "require_idle"), ("LoggedHaltedInbox", "require_room"), ("LoggedHaltedInbox", "require_open"), ("LoggedHaltedInbox", "hear_one"), ("LoggedHaltedInbox", "__call__"), ("LoggedHaltedInbox", "undo"), ("LoggedHaltedInbox", "__contains__"), ("LoggedHaltedInbox", "__len__")]
def methL2 : List (Str × Str) := [("LoggedHaltedInbox", "__str__"), ("LoggedHaltedInbox", "restart"), ("LoggedHaltedInbox", "hear_all"), ("LoggedHaltedInbox", "hear_row"), ("LoggedHaltedInbox", "is_open"), ("LoggedHaltedInbox", "note"), ("Desk", "do_deed"), ("Desk", "told_by"), ("Desk", "told_alone"), ("Desk", "answer"), ("Desk", "answer_safely"), ("Desk", "say"), ("Rules", "__len__")]
def methL : List (Str × Str) := methL0 ++ methL1 ++ methL2
def mkrL : List Str := ["Leaf", "Rules", "Desk", "Inbox", "LoggedInbox", "HaltedInbox", "LoggedHaltedInbox"]
def excL : List Str := ["Busy", "Halted", "NothingToUndo"]
def exmL : List (Str × Str × Bool) := [("Halted", "Halted", true), ("NothingToUndo", "Halted", false), ("NothingToUndo", "TooManyDeeds", false), ("NothingToUndo", "NothingToUndo", true), ("Busy", "PostError", true), ("Halted", "PostError", true), ("NothingToUndo", "PostError", true)]
def kitL : List (Str × Str × Bool) := [("Inbox", "LoggedInbox", false), ("LoggedInbox", "LoggedInbox", true), ("HaltedInbox", "LoggedInbox", false), ("LoggedHaltedInbox", "LoggedInbox", true), ("Busy", "BadCount", false), ("Busy", "BadNumber", false), ("Busy", "BadText", false), ("Busy", "Busy", true), ("Busy", "Halted", false), ("Busy", "NothingToUndo", false), ("Busy", "TooManyDeeds", false), ("Halted", "BadCount", false), ("Halted", "BadNumber", false), ("Halted", "BadText", false), ("Halted", "Busy", false), ("Halted", "Halted", true), ("Halted", "NothingToUndo", false), ("Halted", "TooManyDeeds", false), ("NothingToUndo", "BadCount", false), ("NothingToUndo", "BadNumber", false), ("NothingToUndo", "BadText", false), ("NothingToUndo", "Busy", false), ("NothingToUndo", "Halted", false), ("NothingToUndo", "NothingToUndo", true), ("NothingToUndo", "TooManyDeeds", false)]
def propL : List (Str × Str) := [("Inbox", "rules"), ("Inbox", "stand"), ("Inbox", "taken"), ("Inbox", "version"), ("Inbox", "last"), ("LoggedInbox", "rules"), ("LoggedInbox", "stand"), ("LoggedInbox", "taken"), ("LoggedInbox", "version"), ("LoggedInbox", "last"), ("LoggedInbox", "log"), ("HaltedInbox", "rules"), ("HaltedInbox", "stand"), ("HaltedInbox", "taken"), ("HaltedInbox", "version"), ("HaltedInbox", "last"), ("LoggedHaltedInbox", "rules"), ("LoggedHaltedInbox", "stand"), ("LoggedHaltedInbox", "taken"), ("LoggedHaltedInbox", "version"), ("LoggedHaltedInbox", "last"), ("LoggedHaltedInbox", "log"), ("Rules", "receiver"), ("Desk", "history")]

/-! ### and facts -/
def propC (K : PySem.W.Frag) (C : Addr) (f : Str) : Bool := He.eqO (PySem.W.findIn K (.ref C) f) (some (some (.ref (pA K C f)))) && (He.eqO (PySem.W.specialIn K (.ref (pA K C f)) "__get__") (some (some (.builtin "property.__get__"))) && (decide (PySem.W.takesIn K (.ref (pA K C f)) = some true) && (match PySem.W.recIn K (pA K C f) "property" with
  | some (.ref g :: _) => decide (g = gA K C f)
  | _ => false)))
theorem prop_ok {K : PySem.W.Frag} {C : Addr} {f : Str} (h : propC K C f = true) : PropOf K C f (pA K C f) (gA K C f) := by
  obtain ⟨h1, h⟩ := He.ba h
  obtain ⟨h2, h⟩ := He.ba h
  obtain ⟨h3, h4⟩ := He.ba h
  refine ⟨He.eqO_ok h1, He.eqO_ok h2, of_decide_eq_true h3, ?_⟩
  split at h4
  · rename_i g rest e
    rw [of_decide_eq_true h4] at e
    exact ⟨rest, e⟩
  · cases h4
/-- what isinstance asks of an instance of the class at C -/
def tyC (K : PySem.W.Frag) (C : Addr) : Bool := He.eqO (PySem.W.findIn K (.ref C) "__class__") (some (some (.builtin "object.__class__"))) && (He.eqO (PySem.W.specialIn K (.builtin "object.__class__") "__get__") (some (some (.builtin "getset_descriptor.__get__"))) && (decide (PySem.W.takesIn K (.builtin "object.__class__") = some true) && decide (PySem.W.mroIn K C (.type "object") = some true)))
/-- .. of an error of the class at D -/
def excC (K : PySem.W.Frag) (D : Addr) : Bool := He.eqO (PySem.W.findIn K (.ref D) "__getattribute__") (some (some (.builtin "BaseException.__getattribute__"))) && (He.eqO (PySem.W.findIn K (.ref D) "__getattr__") (some none) && (decide (PySem.W.subIn K (.ref D) (.type "BaseException") = some true) && (PySem.W.hasDictIn K D && tyC K D)))
theorem excC_ok {K : PySem.W.Frag} {D : Addr} (h : excC K D = true) : ExcC K D := by
  obtain ⟨h1, h⟩ := He.ba h
  obtain ⟨h2, h⟩ := He.ba h
  obtain ⟨h3, h⟩ := He.ba h
  obtain ⟨h4, h⟩ := He.ba h
  obtain ⟨h5, h⟩ := He.ba h
  obtain ⟨h6, h⟩ := He.ba h
  obtain ⟨h7, h8⟩ := He.ba h
  exact ⟨He.eqO_ok h1, He.eqO_ok h2, of_decide_eq_true h3, h4, He.eqO_ok h5, He.eqO_ok h6, of_decide_eq_true h7, of_decide_eq_true h8⟩
/-- super().__init__ in the class named D, seen from the class named C -/
def supC (K : PySem.W.Frag) (D C : Str) : Bool := (match K.lookup (He.ma K (He.ga K D) "__init__") with
  | some ⟨_, _, .func fd, _⟩ => decide (fd.kwdefaults = .none) && (decide (fd.annotations = none) && (match fd.code with
    | .ref cc => (match K.lookup cc with
      | some ⟨_, _, .fields vs, _⟩ => (match (vs[2]? : Option Value) with
        | some (.str file _) => (PySem.Challenge.pw_lateposts_k80_whole_desks.main.file : Str) == file
        | _ => false)
      | _ => false)
    | _ => false))
  | _ => false) && ((match K.lookup (cellA K D) with
  | some ⟨_, _, .cell (some v), _⟩ => decide (v = .ref (He.ga K D))
  | _ => false) && ((PySem.W.clsIn K (He.ga K D)).isSome && ((match PySem.W.clsIn K (He.ga K C) with
  | some cd => He.eqO (PySem.W.alongIn K "__init__" ((cd.mro.dropWhile (· != .ref (He.ga K D))).drop 1)) (some (some (.ref (He.ma K (He.ga K "Inbox") "__init__"))))
  | none => false) && decide (PySem.W.mroIn K (He.ga K C) (.ref (He.ga K D)) = some true))))
def exL : List (PySem.W.Frag → Bool) := [
  fun K => gloL.all fun x => (He.Fa.glo x).ok K,
  fun K => freeL.all fun x => (He.Fa.free x).ok K,
  fun K => intL.all fun x => (He.Fa.int x.1 x.2).ok K,
  fun K => strL.all fun x => (He.Fa.str x.1 x.2).ok K,
  fun K => tupL.all fun x => He.tupB K x.1 x.2,
  fun K => clsL.all fun x => (He.Fa.cls x).ok K,
  fun K => noatL.all fun x => (He.Fa.noat x.1 x.2).ok K,
  fun K => methL.all fun x => (He.Fa.meth x.1 x.2).ok K,
  fun K => mkrL.all fun x => (He.Fa.mkr x).ok K,
  fun K => excL.all fun x => (He.Fa.exc x).ok K,
  fun K => exmL.all fun x => (He.Fa.exm x.1 x.2.1 x.2.2).ok K,
  fun K => kitL.all fun x => decide (PySem.W.kitOne K (.ref (He.ga K x.1)) (.ref (He.ga K x.2.1)) = some x.2.2),
  fun K => propL.all fun x => propC K (He.ga K x.1) x.2,
  fun K => decide ((clsL.map (He.ga K)).Nodup),
  fun K => excL.all fun x => excC K (He.ga K x),
  fun K => clsL.all fun x => tyC K (He.ga K x),
  fun K => supC K "LoggedInbox" "LoggedInbox" && (supC K "HaltedInbox" "HaltedInbox" && supC K "HaltedInbox" "LoggedHaltedInbox"),
  fun K => He.eqO (PySem.W.nsIn K cStatics "thirdparty.any") (some none) && (PySem.W.fnIn K (He.ma K (He.ga K "Inbox") "__init__") && decide (PySem.W.typeIn K (.ref (He.ma K (He.ga K "Inbox") "__init__")) = some (.type "function"))),
  fun K => PySem.W.readsIn K (He.ga K "HaltedInbox") (.type "type") && (He.eqO (PySem.W.specialIn K (.ref (He.ga K "HaltedInbox")) "__getattribute__") (some (some (.builtin "type.__getattribute__"))) && (match PySem.W.findCls K (.ref (He.ga K "HaltedInbox")) (.type "type") "__init__" with
    | some (.val u) => decide (u = .ref (He.ma K (He.ga K "HaltedInbox") "__init__"))
    | _ => false)),
  fun K => clsL.all fun x => match PySem.W.findIn K (.ref (He.ga K x)) "__call__" with
    | some (some (.ref f)) => PySem.W.fnIn K f
    | _ => true]
def exB (K : PySem.W.Frag) : Bool := exL.all fun f => f K
def tfL : List He.Defn := [("_law_within", none)]
/-- the addresses looked at: the module's names, classes' tables, functions' codes, getters, cells -/
def valsA (g : Addr → Option Obj) (a : Addr) : List Addr := match g a with
  | some o => (match o.data with
    | .dict es _ => es.toList.flatMap fun e => He.refV e.val
    | _ => [])
  | none => []
def stepA (g : Addr → Option Obj) (a : Addr) : List Addr := match g a with
  | some o => (match o.data with
    | .func fd => He.refV fd.code ++ fd.closure.map (·.2)
    | .cls cd => [cd.ns]
    | .fields vs => (match o.cls with
      | .type c => if decide (c = "property") then He.refV (vs.getD 0 .none) else []
      | _ => [])
    | _ => [])
  | none => []
def growY (g : Addr → Option Obj) (l1 : List Addr) : List Addr := l1 ++ ((l1.flatMap (stepA g)).flatMap fun a => a :: ((valsA g a).flatMap fun b => b :: ((stepA g b).flatMap fun c => c :: stepA g c)))
def clsA (g : Addr → Option Obj) (a : Addr) : List Addr := match g a with
  | some o => (match o.data with
    | .cls cd => [a, cd.ns]
    | _ => [])
  | none => []
def asY (g : Addr → Option Obj) : List Addr := cStatics :: mainGlobals :: ((valsA g mainGlobals).flatMap (clsA g) ++ growY g (valsA g mainGlobals))
abbrev AlY : Type := Bool × List FV
def obsY (fe : List FE) (ex : List (PySem.W.Frag → Bool)) (tf : List He.Defn) (g : Addr → Option Obj) (K : PySem.W.Frag) : AlY := (fe.all (fun e => e.chk K) && ((ex.all fun f => f K) && He.tabsB g tf K), fe.map fun e => e.obs K)
def obsYG (fe : List FE) (ex : List (PySem.W.Frag → Bool)) (tf : List He.Defn) (g : Addr → Option Obj) : AlY := obsY fe ex tf g (He.frT g (asY g))
def valY (fe : List FE) : AlY := (true, fe.map FE.val)
structure SaysG (fe : List FE) (ex : List (PySem.W.Frag → Bool)) (tf : List He.Defn) (h : Heap) (K : PySem.W.Frag) : Prop where
  all : ∀ e ∈ fe, e.chk K = true
  val : (fe.map fun e => e.obs K) = fe.map FE.val
  more : ∀ f ∈ ex, f K = true
  hd : ∀ p ∈ tf, PySem.W.codeHdIn K (He.cT K p).1 (He.cT K p).2 = true
  out : ∀ p ∈ tf, K.lookup (He.cT K p).2 = none
  empty : ∀ p ∈ tf, h.get? (He.cT K p).2 = some { cls := .none, data := .fields #[] }
theorem saysY_of {fe : List FE} {ex : List (PySem.W.Frag → Bool)} {tf : List He.Defn} {h : Heap} (e : obsYG fe ex tf h.get? = valY fe) : SaysG fe ex tf h (He.frT h.get? (asY h.get?)) := by
  generalize hK : He.frT h.get? (asY h.get?) = K
  have e0 : obsY fe ex tf h.get? K = valY fe := by rw [← hK]; exact e
  have e1 : (fe.all (fun e => e.chk K) && ((ex.all fun f => f K) && He.tabsB h.get? tf K)) = true := congrArg (fun z : AlY => z.1) e0
  obtain ⟨h1, h2⟩ := He.ba e1
  obtain ⟨h3, h4⟩ := He.ba h2
  have key : ∀ p ∈ tf, PySem.W.codeHdIn K (He.cT K p).1 (He.cT K p).2 = true ∧ ∃ o, h.get? (He.cT K p).2 = some o ∧ He.emptyTab o = true := fun p hp => by
    obtain ⟨h5, h6⟩ := He.ba (List.all_eq_true.mp h4 p hp)
    refine ⟨h5, ?_⟩
    split at h6
    · rename_i o q
      exact ⟨o, q, h6⟩
    · cases h6
  exact ⟨fun x hx => List.all_eq_true.mp h1 x hx, congrArg (fun z : AlY => z.2) e0, fun f hf => List.all_eq_true.mp h3 f hf, fun p hp => (key p hp).1, fun p hp => by
    obtain ⟨_, o, q, z⟩ := key p hp
    rw [← hK] at q ⊢
    exact He.frT_none q z, fun p hp => by
    obtain ⟨_, o, q, z⟩ := key p hp
    rw [q, He.emptyTab_eq z]⟩
def hookG (fe : List FE) (ex : List (PySem.W.Frag → Bool)) (tf : List He.Defn) : PySem.W.Hook where
  α := AlY
  obs := fun s => obsYG fe ex tf s.heap.get?
  val := fun _ => valY fe
  says := fun _ h => ∃ K : PySem.W.Frag, K.In h ∧ SaysG fe ex tf h K
  of := fun _ _ e => ⟨_, He.frT_in, saysY_of e⟩
  keeps := fun _ _ _ ⟨K, hK, c⟩ k => ⟨K, PySem.W.Frag.In.keeps hK k, ⟨c.all, c.val, c.more, c.hd, c.out, fun p hp => k _ _ (c.empty p hp)⟩⟩
theorem obsYG_eq {fe : List FE} {ex : List (PySem.W.Frag → Bool)} {tf : List He.Defn} {g : Addr → Option Obj} {s : Shared} (h : ∀ a, g a = s.heap.get? a) : obsYG fe ex tf g = (hookG fe ex tf).obs s := by
  have e : g = s.heap.get? := funext h
  rw [e] <;> rfl
abbrev SaysY (h : Heap) (K : PySem.W.Frag) : Prop := SaysG feL exL tfL h K
abbrev hookY : PySem.W.Hook := hookG feL exL tfL
theorem SaysY.fe {h : Heap} {K : PySem.W.Frag} (c : SaysY h K) (i : Nat) {e : FE} (q : feL[i]? = some e := by rfl) : ∃ (oc : Value) (od : Option Addr) (kV doc pm : Value) (an : Option Addr) (cdv ct : Value) (osl : Array (Option Value)),
    K.lookup (e.adr K) = some ⟨oc, od, .func (PySem.W.fnX e.name e.qual (defArgs e.st) (defBody e.st) (defScope e.st) (e.clo K) .none kV doc pm an cdv ct), osl⟩ ∧ PySem.W.codeIn K cdv e.qual = true ∧ PySem.W.keepIn K (.ref (e.adr K)) = true := by
  have e2 : (feL.map fun e => e.obs K)[i]? = (feL.map FE.val)[i]? := by rw [c.val]
  rw [List.getElem?_map, List.getElem?_map, q] at e2
  exact FE.get (Option.some.inj e2) (c.all e (List.mem_of_getElem? q))
theorem SaysY.ex {h : Heap} {K : PySem.W.Frag} (c : SaysY h K) (i : Nat) {f : PySem.W.Frag → Bool} (q : exL[i]? = some f := by rfl) : f K = true := c.more f (List.mem_of_getElem? q)
end K8
set_option maxHeartbeats 4000000
namespace K8
open PySem PySem.W PySem.Calls PyProof.Rows
/-! ### the head's run, looked at in parts -/
theorem obsYG_app {f1 f2 : List FE} {e1 e2 : List (PySem.W.Frag → Bool)} {t1 t2 : List He.Defn} {g : Addr → Option Obj} (h1 : obsYG f1 e1 t1 g = valY f1) (h2 : obsYG f2 e2 t2 g = valY f2) : obsYG (f1 ++ f2) (e1 ++ e2) (t1 ++ t2) g = valY (f1 ++ f2) := by
  unfold obsYG at *
  generalize He.frT g (asY g) = K at *
  have a1 := congrArg Prod.fst h1
  have a2 := congrArg Prod.snd h1
  have b1 := congrArg Prod.fst h2
  have b2 := congrArg Prod.snd h2
  dsimp only [obsY, valY, He.tabsB] at a1 a2 b1 b2 ⊢
  rw [List.all_append, List.all_append, List.all_append, List.map_append, List.map_append, a2, b2]
  simp only [Bool.and_eq_true] at a1 b1
  obtain ⟨x1, x2, x3⟩ := a1
  obtain ⟨y1, y2, y3⟩ := b1
  rw [x1, x2, x3, y1, y2, y3]
  rfl
end K8
set_option maxHeartbeats 0
namespace K8
open PySem PySem.W PySem.Calls PyProof.Rows
/-! ### the run of the head -/
abbrev rowR : OpenRow := OpenLaw.row PySem.Challenge.rw_lateposts_k80_whole_desks
abbrev rowQ : Program := view rowR.prog [137]
def names0 : List PySem.Str := ["_wall", "__name__", "PostError", "BadReceiver", "BadNumber", "BadRow", "BadStep", "BadCount", "BadText", "TooManyDeeds", "NothingToUndo", "Busy", "Halted", "NoPlace", "MAX_BOUND", "MAX_STATES", "MAX_ROWS", "MAX_LOG", "MAX_DEEDS", "MAX_ROW", "greater", "lesser", "greatest", "place_of", "merged", "in_order", "FAR", "rest_of", "lies_in", "counting_row"]
def names1 : List PySem.Str := ["step_from", "all_steps", "rests_met", "hear", "beginning", "walked", "answers", "DEEDS", "is_integer", "is_bound", "is_range", "is_deed", "row_word", "state_error", "receiver_error", "stretches", "one_of", "joined", "fits", "table_of", "classes_of", "runs_of", "least_of", "form_of", "run_at", "next_steps", "ahead_behind", "Node", "nodes_from", "all_nodes"]
def names2 : List PySem.Str := ["keys_behind", "below", "pairs_behind", "pairs_met", "wait_from", "rising_nodes", "worst", "places_taken", "waits", "longest_wait", "most_lost", "LONG", "PART", "SPLIT", "DIGITS", "number_text", "bound_text", "range_text", "ranges_text", "log_text", "parse_number", "parse_log", "UNKNOWN", "KEPT", "NUMBERED", "ALONE", "yes_or_no", "wait_text", "most_text", "error_name"]
def names3 : List PySem.Str := ["Desk", "MOST_LIMIT", "require_number", "Leaf", "Inbox", "HaltedInbox", "LoggedInbox", "LoggedHaltedInbox", "all_rows", "without_row", "less_one", "lean", "turned_bound", "turned_range", "mirrored", "Rules", "_law_spring", "_law_dip", "_law_pick", "_law_range", "_law_row", "_law_window", "_law_paired", "_law_receiver", "_law_range_text", "_law_log_text", "_law_ranges_text", "_law_gate", "_law_by_methods", "_law_shown"]
def names4 : List PySem.Str := ["_law_within", "_law_within_right"]
def rowNames : List PySem.Str := names0 ++ names1 ++ names2 ++ names3 ++ names4
noncomputable abbrev endR (w : World) (os : OsState) : Option SharedT := HandSHeadRun.endF (HandSHeadRun.stepQ (HandSHeadRun.denQ HandSHeadRun.tabQ) rowR.prog w) 20000 rowR.prog w os
end K8
set_option maxHeartbeats 0
namespace K8
open PySem PySem.W PySem.Calls PyProof.Rows
theorem tabs_whole : rowR.prog.tablesWhole = true := by decide +kernel
theorem run0 (w : World) : HandSHeadRun.RunEq rowR rowQ Hook.none (fun _ => ()) 20000 rowNames w := by
  intro os
  kernel_rfl
end K8
set_option maxHeartbeats 0
namespace K8
open PySem PySem.W PySem.Calls PyProof.Rows
theorem run1a (w : World) (os : OsState) : (endR w os).map (fun s => obsYG (feL.take 75) [] [] (HandSHeadRun.getT s)) = some (valY (feL.take 75)) := by
  kernel_rfl
theorem run1b (w : World) (os : OsState) : (endR w os).map (fun s => obsYG (feL.drop 75) [] tfL (HandSHeadRun.getT s)) = some (valY (feL.drop 75)) := by
  kernel_rfl
end K8
set_option maxHeartbeats 0
namespace K8
open PySem PySem.W PySem.Calls PyProof.Rows
theorem run2a (w : World) (os : OsState) : (endR w os).map (fun s => obsYG [] (exL.take 7) [] (HandSHeadRun.getT s)) = some (valY []) := by
  kernel_rfl
theorem run2b (w : World) (os : OsState) : (endR w os).map (fun s => obsYG [] (exL.drop 7) [] (HandSHeadRun.getT s)) = some (valY []) := by
  kernel_rfl
end K8
set_option maxHeartbeats 400000
namespace K8
open PySem PySem.W PySem.Calls PyProof.Rows
theorem trip {α β γ δ : Type} {a a' : α} {b b' : β} {c c' : γ} {d d' : δ} (h : (a, b, c) = (a', b', c')) (k : d = d') : (a, b, d) = (a', b', d') := by
  cases h
  cases k
  rfl
theorem run_swap {r : OpenRow} {q : Program} {H H' : Hook} {ob : SharedT → H.α} {ob' : SharedT → H'.α} {M : Nat} {loose : List PySem.Str} {w : World} (h : HandSHeadRun.RunEq r q H ob M loose w)
    (k : ∀ (os : OsState) (s : SharedT), HandSHeadRun.endF (HandSHeadRun.stepQ (HandSHeadRun.denQ HandSHeadRun.tabQ) r.prog w) M r.prog w os = some s → ob' s = H'.val w) : HandSHeadRun.RunEq r q H' ob' M loose w := by
  intro os
  have h0 := h os
  have k0 := k os
  generalize HandSHeadRun.endF (HandSHeadRun.stepQ (HandSHeadRun.denQ HandSHeadRun.tabQ) r.prog w) M r.prog w os = o at h0 k0 ⊢
  cases o with
  | none => cases h0
  | some s =>
    exact congrArg some (trip (Option.some.inj h0) (k0 s rfl))
theorem map_at {σ α : Type} {o : Option σ} {f : σ → α} {v : α} {s : σ} (h : o.map f = some v) (e : o = some s) : f s = v := by
  rw [e] at h
  exact Option.some.inj h
def obR (s : SharedT) : AlY := obsYG feL exL tfL (HandSHeadRun.getT s)
theorem obR_eq (s : SharedT) : obR s = hookY.obs s.abs := obsYG_eq (HandSHeadRun.getT_eq s)
theorem obs_join {F1 F2 F : List FE} {E1 E2 E : List (PySem.W.Frag → Bool)} {T : List He.Defn} (hF : F1 ++ F2 = F) (hE : E1 ++ E2 = E) {g : Addr → Option Obj} (h1 : obsYG F1 [] [] g = valY F1) (h2 : obsYG F2 [] T g = valY F2) (h3 : obsYG [] E1 [] g = valY []) (h4 : obsYG [] E2 [] g = valY []) : obsYG F E T g = valY F := by
  have h := obsYG_app (obsYG_app h1 h2) (obsYG_app h3 h4)
  simp only [List.append_nil, List.nil_append] at h
  rw [hF, hE] at h
  exact h
theorem runR_of {w : World} (run0 : HandSHeadRun.RunEq rowR rowQ Hook.none (fun _ => ()) 20000 rowNames w)
    (run1a : ∀ os : OsState, (endR w os).map (fun s => obsYG (feL.take 75) [] [] (HandSHeadRun.getT s)) = some (valY (feL.take 75))) (run1b : ∀ os : OsState, (endR w os).map (fun s => obsYG (feL.drop 75) [] tfL (HandSHeadRun.getT s)) = some (valY (feL.drop 75)))
    (run2a : ∀ os : OsState, (endR w os).map (fun s => obsYG [] (exL.take 7) [] (HandSHeadRun.getT s)) = some (valY [])) (run2b : ∀ os : OsState, (endR w os).map (fun s => obsYG [] (exL.drop 7) [] (HandSHeadRun.getT s)) = some (valY [])) :
    HandSHeadRun.RunEq rowR rowQ hookY obR 20000 rowNames w := by
  refine run_swap run0 fun os s e => ?_
  have e' : endR w os = some s := e
  have h1 := run1a os
  have h2 := run1b os
  have h3 := run2a os
  have h4 := run2b os
  rw [e'] at h1 h2 h3 h4
  exact obs_join (List.take_append_drop 75 feL) (List.take_append_drop 7 exL) (Option.some.inj h1) (Option.some.inj h2) (Option.some.inj h3) (Option.some.inj h4)
end K8
set_option maxHeartbeats 4000000
namespace K8
open PySem PySem.Spec PyProof.Rows L2
/-! ### defs and methods that keep a promise, by name -/
section
variable (P : Program) (w : World) (K : PySem.W.Frag) (mg : Str → Option Value) (base : Heap)
/-- a def of the module as it stands behind the top -/
def Df (x : Str) (st : Stmt) : Prop := ∃ f fd, Fun K x x st f fd ∧ mg x = some (.ref f)
/-- a method of the class at C -/
def Md (C : Addr) (m qual : Str) (st : Stmt) : Prop := ∃ f fd, Fun K m qual st f fd ∧ Cls K C ∧ Meth K C m f
def Cal (CX : CXT) (k : Nat) (x : Str) (sp : Sp) : Prop := ∃ f fd ps, FnOk P w K mg base CX k f fd ps sp ∧ mg x = some (.ref f) ∧ PySem.W.keepIn K (.ref f) = true ∧ Binds K fd ps []
def Met (CX : CXT) (k : Nat) (C : Addr) (m : Str) (sp : Sp) : Prop := ∃ f fd ps, FnOk P w K mg base CX k f fd ps sp ∧ Cls K C ∧ Meth K C m f ∧ Binds K fd ps []
end
/-- what binds where nothing is left to a default -/
abbrev BindA (x qual : Str) (st : Stmt) (ps : List Str) : Prop := ∀ (kV doc pm : Value) (an : Option Addr) (cdv ct : Value) (us : List Value), us.length = ps.length → bindArgs (PySem.W.fnOf x qual (defArgs st) (defBody st) (defScope st) .none kV doc pm an cdv ct) ⟨us, []⟩ = pure (ps.zip us)
section
variable {P : Program} {w : World} {K : PySem.W.Frag} {mg : Str → Option Value} {base : Heap}
theorem cal0 {x : Str} {st : Stmt} {N ps : List Str} {k : Nat} {sp : Sp} (D : Df K mg x st) (S : FnScope N ps (defScope st)) (b : BindA x x st ps) (len : ∀ vs H Q E, sp vs H Q E → vs.length = ps.length)
    (hbody : ∀ (f : Addr) (cdv : Value) (A : Around) (outer : List Env) (s : Shared) (H : Hp) (vs : List V) (Q : VK) (E : XK), Room k (A.deeper (envOfC x (defScope st) s.heap.objs.size f cdv)) → sp vs H Q E →
      ∃ t, PSs (cxOf CX0 P w K mg base N x (defScope st) f cdv A outer s H E).nox (defBody st) t ∧ t { nx := fun _ H' => Q .non H', rt := Q } (start N vs) H) : Cal P w K mg base CX0 (k + 1) x sp := by
  obtain ⟨f, fd, F, hm⟩ := D
  exact ⟨f, fd, ps, F.ok S len (hbody f), hm, F.kp, F.binds b⟩
theorem calX {x : Str} {st : Stmt} {N ps : List Str} {k : Nat} {sp : Sp} (D : Df K mg x st) (S : FnScope N ps (defScope st)) (b : BindA x x st ps) (len : ∀ vs H Q E, sp vs H Q E → vs.length = ps.length)
    (hbody : ∀ (f : Addr) (cdv : Value) (A : Around) (outer : List Env) (s : Shared) (H : Hp) (vs : List V) (Q : VK) (E : XK), Room k (A.deeper (envOfC x (defScope st) s.heap.objs.size f cdv)) → sp vs H Q E →
      ∃ t, PSs (cxOf (L2.CX P w) P w K mg base N x (defScope st) f cdv A outer s H E) (defBody st) t ∧ t { nx := fun _ H' => Q .non H', rt := Q } (start N vs) H) : Cal P w K mg base (L2.CX P w) (k + 1) x sp := by
  obtain ⟨f, fd, F, hm⟩ := D
  exact ⟨f, fd, ps, F.okX S len (hbody f), hm, F.kp, F.binds b⟩
theorem met0 {C : Addr} {m qual : Str} {st : Stmt} {N ps : List Str} {k : Nat} {sp : Sp} (D : Md K C m qual st) (S : FnScope N ps (defScope st)) (b : BindA m qual st ps) (len : ∀ vs H Q E, sp vs H Q E → vs.length = ps.length)
    (hbody : ∀ (f : Addr) (cdv : Value) (A : Around) (outer : List Env) (s : Shared) (H : Hp) (vs : List V) (Q : VK) (E : XK), Room k (A.deeper (envOfC qual (defScope st) s.heap.objs.size f cdv)) → sp vs H Q E →
      ∃ t, PSs (cxOf CX0 P w K mg base N qual (defScope st) f cdv A outer s H E).nox (defBody st) t ∧ t { nx := fun _ H' => Q .non H', rt := Q } (start N vs) H) : Met P w K mg base CX0 (k + 1) C m sp := by
  obtain ⟨f, fd, F, c, hm⟩ := D
  exact ⟨f, fd, ps, F.ok S len (hbody f), c, hm, F.binds b⟩
theorem metX {C : Addr} {m qual : Str} {st : Stmt} {N ps : List Str} {k : Nat} {sp : Sp} (D : Md K C m qual st) (S : FnScope N ps (defScope st)) (b : BindA m qual st ps) (len : ∀ vs H Q E, sp vs H Q E → vs.length = ps.length)
    (hbody : ∀ (f : Addr) (cdv : Value) (A : Around) (outer : List Env) (s : Shared) (H : Hp) (vs : List V) (Q : VK) (E : XK), Room k (A.deeper (envOfC qual (defScope st) s.heap.objs.size f cdv)) → sp vs H Q E →
      ∃ t, PSs (cxOf (L2.CX P w) P w K mg base N qual (defScope st) f cdv A outer s H E) (defBody st) t ∧ t { nx := fun _ H' => Q .non H', rt := Q } (start N vs) H) : Met P w K mg base (L2.CX P w) (k + 1) C m sp := by
  obtain ⟨f, fd, F, c, hm⟩ := D
  exact ⟨f, fd, ps, F.okX S len (hbody f), c, hm, F.binds b⟩
theorem metN {C : Addr} {m qual : Str} {st : Stmt} {N ps : List Str} {k : Nat} {sp : Sp} (D : Md K C m qual st) (S : FnScope N ps (defScope st)) (b : BindA m qual st ps) (len : ∀ vs H Q E, sp vs H Q E → vs.length = ps.length)
    (hbody : ∀ (f : Addr) (cdv : Value) (A : Around) (outer : List Env) (s : Shared) (H : Hp) (vs : List V) (Q : VK) (E : XK), Room k (A.deeper (envOfC qual (defScope st) s.heap.objs.size f cdv)) → sp vs H Q E →
      ∃ t, PSs (cxOf (L2N.CX P w) P w K mg base N qual (defScope st) f cdv A outer s H E) (defBody st) t ∧ t { nx := fun _ H' => Q .non H', rt := Q } (start N vs) H) : Met P w K mg base (L2N.CX P w) (k + 1) C m sp := by
  obtain ⟨f, fd, F, c, hm⟩ := D
  have bb := F.binds b
  obtain ⟨oc, od, kV, doc, pm, an, cdv, ct, osl, rfl, lk, hcd⟩ := F.ex
  exact ⟨f, _, ps, fn_of lk hcd S len fun A outer s H vs Q E hr hsp => hbody f cdv A outer s H vs Q E hr hsp, c, hm, bb⟩
end
/-! ### calls -/
/-- a call of a def that lets nothing out -/
def tC0 (sp : Sp) (t : TA) : TE := fun σ H Q => t σ H fun vs H1 => sp vs H1 Q E0
def tM0' (C : Addr) (m : Str) (sp : Sp) (E : L2.St → XK) (ta : TE) (t : TA) : TE := fun σ H Q => ta σ H fun x H1 => ∃ a dx fs, x = .ref a ∧ H1 a = some (.ins C dx fs) ∧ fs.lookup m = none ∧ t σ H1 fun vs H2 => sp (x :: vs) H2 Q (E σ)
/-- nothing leaves -/
abbrev EN : L2.St → XK := fun _ _ _ _ => False
theorem atN {X : Cx} (σ : L2.St) : PassesAt CX0 X σ (EN σ) := fun _ _ _ _ _ _ z => z.elim
section
variable {X : Cx} {CX : CXT} {k j : Nat} {C : Addr} {x m : Str} {sp : Sp} {E : L2.St → XK} {p pos apos : Pos} {e o : Expr} {es : List Expr} {ta : TE} {t : TA}
theorem pe_d (c : Cal X.prog X.w X.K X.mg X.base CX0 k x sp) (hr : Room j X.A) (hk : k ≤ j) (hg : Gl X x) (ha : PA X (e :: es) t)
    (hdb : (x == ("__debug__" : Str)) = false := by decide) (he : starEach (e :: es) X.env = (false, eval e X.env) :: starEach es X.env := by rfl) (hpl : (backTo pos (starEach es X.env)).any (·.1) = false := by rfl) :
    PE X (.Call (.Name x p) (e :: es) [] pos) (tC0 sp t) := by
  obtain ⟨f, fd, ps, F, hm, kp, b⟩ := c
  exact pe_callS (E := EN) F (hr.mono hk) hg hm kp b atN ha hdb he hpl
theorem pe_d0 (c : Cal X.prog X.w X.K X.mg X.base CX0 k x sp) (hr : Room j X.A) (hk : k ≤ j) (hg : Gl X x) (hdb : (x == ("__debug__" : Str)) = false := by decide) :
    PE X (.Call (.Name x p) [] [] pos) (tC0 sp tNil) := by
  obtain ⟨f, fd, ps, F, hm, kp, b⟩ := c
  exact pe_call0 (dvs := []) F (hr.mono hk) hg hm kp b .nil pass0 hdb
/-- a call of a def that may raise -/
theorem pe_dX (c : Cal X.prog X.w X.K X.mg X.base CX k x sp) (hr : Room j X.A) (hk : k ≤ j) (hx : ∀ σ, PassesAt CX X σ (E σ)) (hg : Gl X x) (ha : PA X (e :: es) t)
    (hdb : (x == ("__debug__" : Str)) = false := by decide) (he : starEach (e :: es) X.env = (false, eval e X.env) :: starEach es X.env := by rfl) (hpl : (backTo pos (starEach es X.env)).any (·.1) = false := by rfl) :
    PE X (.Call (.Name x p) (e :: es) [] pos) (tCallS sp E t) := by
  obtain ⟨f, fd, ps, F, hm, kp, b⟩ := c
  exact pe_callS F (hr.mono hk) hg hm kp b hx ha hdb he hpl
/-- o.m(e, ..) -/
theorem pe_mX {pl : Sem Bool} (c : Met X.prog X.w X.K X.mg X.base CX k C m sp) (hr : Room j X.A) (hk : k ≤ j) (hx : ∀ σ, PassesAt CX X σ (E σ)) (ho : PE X o ta) (ha : PA X (e :: es) t)
    (hst : starEach (e :: es) X.env = (false, eval e X.env) :: starEach es X.env := by rfl) (hpl : (backTo pos (starEach es X.env)).any (·.1) = false := by rfl)
    (ht : eval (.Call (.Attribute o m apos) (e :: es) [] pos) X.env = (do
      let ov ← eval o X.env
      standAt apos.atName
      let (f, first) ← holding [ov] (getMethod ov m pl)
      callWith pos f first (backTo pos (starEach (e :: es) X.env)) (backToKw pos (keywordEach [] X.env))) := by rfl) :
    PE X (.Call (.Attribute o m apos) (e :: es) [] pos) (tM0' C m sp E ta t) := by
  obtain ⟨f, fd, ps, F, cl, hm, b⟩ := c
  refine ⟨fun pins s σ H Q I h => ?_⟩
  refine PySem.W.methodCall_KW (pl := pl) (thn (ho.run pins s σ H _ I h) fun u s1 ⟨x, H1, I1, rx, a, dx, fs, ex, ea, l, q⟩ => ?_) ht
  subst ex
  obtain rfl : u = Value.ref a := rx
  refine getmeth_ok I1 ea cl hm l ?_
  refine PySem.W.callWith_K (first := [.ref a]) (h₀ := X.base) I.ok.mod.kin hm.kp (thn (ha.run pos pins s1 σ H1 _ I1 q) fun us s2 ⟨vs, H2, I2, r, q2⟩ => ⟨I2.kIn, ?_⟩) hst hpl
  exact run_fnS (us := .ref a :: us) (vs := .ref a :: vs) F (hr.mono hk) b (hx σ) I2 (.cons rfl r) q2
theorem pe_mX0 {pl : Sem Bool} (c : Met X.prog X.w X.K X.mg X.base CX k C m sp) (hr : Room j X.A) (hk : k ≤ j) (hx : ∀ σ, PassesAt CX X σ (E σ)) (ho : PE X o ta)
    (ht : eval (.Call (.Attribute o m apos) [] [] pos) X.env = (do
      let ov ← eval o X.env
      standAt apos.atName
      let (f, first) ← holding [ov] (getMethod ov m pl)
      callWith pos f first (backTo pos (starEach [] X.env)) (backToKw pos (keywordEach [] X.env))) := by rfl) :
    PE X (.Call (.Attribute o m apos) [] [] pos) (tM0' C m sp E ta tNil) := by
  obtain ⟨f, fd, ps, F, cl, hm, b⟩ := c
  refine ⟨fun pins s σ H Q I h => ?_⟩
  refine PySem.W.methodCall_KW (pl := pl) (thn (ho.run pins s σ H _ I h) fun u s1 ⟨x, H1, I1, rx, a, dx, fs, ex, ea, l, q⟩ => ?_) ht
  subst ex
  obtain rfl : u = Value.ref a := rx
  refine getmeth_ok I1 ea cl hm l ?_
  exact PySem.W.callWith_K0 (first := [.ref a]) I1.kIn hm.kp (run_fnS (us := [.ref a]) (vs := [.ref a]) F (hr.mono hk) b (hx σ) I1 (.cons rfl .nil) q)
end
/-- what a body's raise reaches in a def by okX -/
theorem atX {P : Program} {w : World} {K : PySem.W.Frag} {mg : Str → Option Value} {base : Heap} {N : List Str} {x : Str} {sc : Scope} {f : Addr} {cd : Value} {A : Around} {outer : List Env} {s : Shared} {H : Hp} {E : XK} (σ : L2.St) :
    PassesAt (L2.CX P w) (cxOf (L2.CX P w) P w K mg base N x sc f cd A outer s H E) σ (WE (fun cls d _ H => E cls d H) σ) := passAt (takes_of rfl rfl rfl rfl) σ
theorem atNX {P : Program} {w : World} {K : PySem.W.Frag} {mg : Str → Option Value} {base : Heap} {N : List Str} {x : Str} {sc : Scope} {f : Addr} {cd : Value} {A : Around} {outer : List Env} {s : Shared} {H : Hp} {E : XK} (σ : L2.St) :
    PassesAt (L2N.CX P w) (cxOf (L2N.CX P w) P w K mg base N x sc f cd A outer s H E) σ (WE (fun cls d _ H => E cls d H) σ) := L2N.passAt (L2N.takes_of rfl rfl rfl rfl) σ
/-- the context told is forgotten -/
theorem flZ {B : Heap} {outer : List Env} {a : Addr} {c : Value} {d : Option Addr} {h : Heap} (f : HandSPX.FlyingZ B outer a (L2N.Zn c d) h) : HandSPX.FlyingZ B outer a (Zc c d) h := by
  obtain ⟨k1, k2, k3, oe, vs, T, oT, ts', he, hz, hd, h1, hr⟩ := f
  exact ⟨k1, k2, k3, oe, vs, T, oT, ts', he, hz.zc, hd, h1, hr⟩
theorem cxN_X {P : Program} {w : World} {outer : List Env} {H : Hp} {s : Shared} {E : XK} {u : Value} {s' : Shared} (c : L2N.CX P w outer H s E u s') : L2.CX P w outer H s E u s' := by
  obtain ⟨a, B, H', cls, d, rfl, fl, r⟩ := c
  exact ⟨a, B, H', cls, d, rfl, flZ fl, r⟩
theorem Met.toX {P : Program} {w : World} {K : PySem.W.Frag} {mg : Str → Option Value} {base : Heap} {k : Nat} {C : Addr} {m : Str} {sp : Sp} (h : Met P w K mg base (L2N.CX P w) k C m sp) : Met P w K mg base (L2.CX P w) k C m sp := by
  obtain ⟨f, fd, ps, F, c, hm, b⟩ := h
  refine ⟨f, fd, ps, ⟨F.len, fun A outer s H args us vs Q E hr e0 hb r hsp => codeAny_mono (F.run A outer s H args us vs Q E hr e0 hb r hsp) fun r s' hq => ?_⟩, c, hm, b⟩
  cases r with
  | error e => exact cxN_X hq
  | ok fl => cases fl <;> exact hq
/-! ### heaps -/
theorem _root_.L2.Same.upd {H H' : Hp} {p : Addr} {o : HO} (s : Same H H') (h : H' p = none) : Same H (L2.upd H' p o) := fun b u e => by
  have e2 := s b u e
  rw [upd_ne (ne_of_none e2 h)]
  exact e2
theorem _root_.L2.Same.new {H : Hp} {p : Addr} {o : HO} (h : H p = none) : Same H (L2.upd H p o) := L2.Same.upd (L2.Same.refl H) h
/-- a store into an object of our own -/
theorem _root_.L2.Same.own {H H' : Hp} {p : Addr} {o : HO} (s : Same H H') (h : H p = none) : Same H (L2.upd H' p o) := fun b u e => by
  rw [upd_ne (ne_of_none e h)]
  exact s b u e
theorem _root_.L2.Same.tup {H H' : Hp} (s : Same H H') {a : Addr} {xs : List V} (h : H a = some (.tup xs)) : H' a = some (.tup xs) := s a _ h
end K8
set_option maxHeartbeats 4000000
namespace K8
open PySem PySem.Spec PyProof.Rows L2
/-! ### enumerate over a tuple -/
theorem enum_newV {v : Value} {o : Obj} {G : Heap → Prop} (B : Begins v o G) :
    Meets (Builtin.«enumerate.__new__» ⟨[.type "enumerate", v], []⟩) (fun _ R s => G s.heap ∧
      R (.ok (.ret (.ref (s.heap.push o).objs.size))) { s with heap := (s.heap.push o).push { cls := .type "enumerate", data := .fields #[.none, .bool false, .ref s.heap.objs.size, rawInt 0, .none, .none] } }) :=
  .of_wp fun prog w A R s hyp => by
    obtain ⟨hp, g, d, tk, os⟩ := s
    obtain ⟨g1, hyp⟩ := hyp
    have sub1 := sub_enumerate
    have it1 : ∀ {A' : Around} {E : Value → Shared → Prop} {Q : Value → Shared → Prop}, Q (.ref hp.objs.size) ⟨hp.push o, g, d, tk, os⟩ → wpAny (model prog w) A' (pyIter v) Q E ⟨hp, g, d, tk, os⟩ := fun q => B.iter prog w _ _ ⟨hp, g, d, tk, os⟩ _ g1 q
    wp_walk using it1
    refine wpAny_stack_any fun stk => wpAny_pure ?_
    split
    · rename_i c _ _ _ _ _
      cases (c == Value.type "enumerate") <;> (wp_walk using it1; exact ⟨_, rfl, hyp⟩)
    · wp_walk using it1
      exact ⟨_, rfl, hyp⟩
theorem call_enum1 {prog : Program} {w : World} {A : Around} {E : Value → Shared → Prop} {s : Shared} {v : Value} {o : Obj} {G : Heap → Prop} {Q : Value → Shared → Prop} (B : Begins v o G) (g1 : G s.heap)
    (q : ∀ h', IsEnum h' (s.heap.objs.size + 1) s.heap.objs.size 0 .none → h'.get? s.heap.objs.size = some o → (∀ b u, s.heap.get? b = some u → h'.get? b = some u) → Q (.ref (s.heap.objs.size + 1)) { s with heap := h' }) :
    wpAny (model prog w) A (call (.type "enumerate") [v]) Q E s := by
  refine callType_new F.called_enumerate (by decide) (F.typeCall_enumerate_1 _) (F.newCall_enumerate_1 _) (fun obj => F.args_object_init_2 obj _) F.entry_enumerate_new (enum_newV B) ⟨g1, ?_⟩
  have sz : (s.heap.push o).objs.size = s.heap.objs.size + 1 := Heap.size_push ..
  show _ ∧ _
  rw [sz]
  have e1 := Heap.get?_push_size (s.heap.push o) (o := { cls := .type "enumerate", data := .fields #[.none, .bool false, .ref s.heap.objs.size, rawInt 0, .none, .none] }) rfl
  rw [sz] at e1
  exact ⟨⟨_, e1, rfl⟩, q _ e1 (Heap.get?_push_of_some _ (Heap.get?_push_size _ B.free)) fun b u x => Heap.get?_push_of_some _ (Heap.get?_push_of_some _ x)⟩
/-- the tuple at a, each item in a new pair -/
def IteT (K : PySem.W.Frag) (a : Addr) : It :=
  ⟨fun i H => ∃ (xs : List V) (x : V), SqT K H a xs ∧ xs[i]? = some x, fun i H v H' => ∃ T x, v = .ref T ∧ H T = none ∧ H' = upd H T (.tup [.int (i : Nat), x]) ∧ ∀ xs, SqT K H a xs → xs[i]? = some x, fun i H => ∃ xs : List V, SqT K H a xs ∧ xs.length = i⟩
theorem turn_enumT {P : Program} {w : World} {K : PySem.W.Frag} {elts : List Expr} {kk : Nat} {tpos : Pos} (a e it : Addr) :
    Turn P w K (.Tuple elts kk tpos) (IteT K a) [e, it] e (fun i h => (∃ old, IsEnum h e it ((i : Nat) : Int) old) ∧ h.IsTupleIter it a i ∧ e ≠ it) where
  mem := List.mem_cons_self
  obj := fun i h st b hb => by
    obtain ⟨⟨old, he⟩, ⟨o, ho, hc, hd⟩, _⟩ := st
    rcases List.mem_cons.mp hb with z | z
    · rw [z]
      exact ⟨_, he, fun v q => nomatch q⟩
    · rw [List.mem_singleton.mp z]
      refine ⟨o, ho, fun v q => ?_⟩
      rw [hd] at q
      cases q
  keep := fun i h h' st k => by
    obtain ⟨⟨old, he⟩, hi, hne⟩ := st
    exact ⟨⟨old, k e (by simp) _ he⟩, hi.at fun o q => k it (by simp) o q, hne⟩
  item := by
    intro X hP hw hK hc i pins s σ H E I hf st hg
    subst hP hw hK
    obtain ⟨⟨old, he⟩, hit, hne⟩ := st
    obtain ⟨xs, x, hq, hx⟩ := hg
    obtain ⟨its, rv, p, hz⟩ := I.tuple hq
    obtain ⟨u, hu, ru⟩ := rv.get hx
    have hel : e < s.heap.objs.size := Heap.lt_size he
    have hil : it < s.heap.objs.size := by
      obtain ⟨_, q, _⟩ := hit
      exact Heap.lt_size q
    have hisz : i < its.toArray.size := by
      obtain ⟨h1, _⟩ := List.getElem?_eq_some_iff.mp hu
      simpa using h1
    obtain ⟨oa, hoa, hca, na, hda⟩ := id p
    have nat : a ≠ it := fun z => by
      obtain ⟨ot, hot, hct, hdt⟩ := hit
      rw [← z, hoa] at hot
      cases hot
      rw [hda] at hdt
      cases hdt
    have nae : a ≠ e := fun z => by
      rw [z, he] at hoa
      have z2 : ({ cls := .type "enumerate", data := .fields #[.none, .bool false, .ref it, rawInt ((i : Nat) : Int), .none, old] } : Obj).cls = oa.cls := by cases hoa; rfl
      rw [hca] at z2
      have z3 : Value.type "enumerate" = Value.type "tuple" := z2
      exact absurd z3 (by decide)
    refine wpAny_pyNext_enum_itemD (Draws.tuple (prog := X.prog) (w := X.w) (A := X.A.in1) (I.ok.hd hc) it a nat its.toArray) he ⟨hit, p⟩ hisz hne (by simp [Ne.symm nae, hne]) fun y h' tk hy ho st2 hT hsz hk => ?_
    have ey : y = u := by
      have h1 : its.toArray[i]? = some y := hy
      have h2 : its.toArray[i]? = some u := by simpa using hu
      rw [h1] at h2
      exact Option.some.inj h2
    subst ey
    refine ⟨_, rfl, wpAny_letOwnedTupleGo_enum (s := { s with heap := h', toks := tk + 1 }) ho fun h'' he' sb => ?_⟩
    have hT2 : h''.get? s.heap.objs.size = some { cls := .type "tuple", data := .seq #[.int i tk, y] } := (sb.2 _ (Nat.ne_of_gt hel)).trans hT
    have new : ObjOk X.prog X.w (upd H s.heap.objs.size (.tup [.int (i : Nat), x])) h'' s.heap.objs.size (.tup [.int (i : Nat), x]) :=
      ⟨by show 2 ≤ sizeLine; decide, [.int i tk, y], .cons ⟨_, rfl⟩ (.cons ru .nil), ⟨_, hT2, rfl, _, rfl⟩⟩
    have I1 : Inv X pins σ (upd H s.heap.objs.size (.tup [.int (i : Nat), x])) { s with heap := h'', toks := tk + 1 } :=
      I.turnedNew (ch := [e, it]) (fun b ob hb q => (sb.2 b (fun z => hb (by simp [z]))).trans (hk b ob (fun z => hb (by simp [z])) (fun z => hb (by simp [z])) q)) hf (Nat.le_refl _) new
    refine ⟨.ref s.heap.objs.size, _, I1, rfl, ⟨_, x, rfl, I.hok.fresh (Nat.le_refl _), rfl, fun ys hy => by rw [I.tuple_inj hy hq]; exact hx⟩, ⟨⟨y, ?_⟩, st2.1.at fun o q => (sb.2 it (Ne.symm hne)).trans q, hne⟩, fun b hb => ?_⟩
    · have e1 : ((i + 1 : Nat) : Int) = (i : Int) + 1 := by omega
      rw [e1]
      exact he'
    · have hb' : b < s.heap.objs.size := by
        rcases List.mem_cons.mp hb with z | z
        · rw [z]
          exact hel
        · rw [List.mem_singleton.mp z]
          exact hil
      rw [upd_ne (Nat.ne_of_lt hb')]
      exact (hf b hb).1
  done := by
    intro X hP hw hK hc i pins s σ H E I hf st hg
    subst hP hw hK
    obtain ⟨⟨old, he⟩, hit, hne⟩ := st
    obtain ⟨xs, hq, hx⟩ := hg
    obtain ⟨its, rv, p, hz⟩ := I.tuple hq
    obtain ⟨f0, f1, f2, f3, f4, f5⟩ := hf it (by simp)
    have hl := rv.length
    obtain ⟨oa, hoa, hca, na, hda⟩ := id p
    have nat : a ≠ it := fun z => by
      obtain ⟨ot, hot, hct, hdt⟩ := hit
      rw [← z, hoa] at hot
      cases hot
      rw [hda] at hdt
      cases hdt
    have en : its.toArray.size = i := by
      rw [List.size_toArray]
      omega
    refine wpAny_pyNext_enum_endD (Draws.tuple (prog := X.prog) (w := X.w) (A := X.A.in1) (I.ok.hd hc) it a nat its.toArray) he ⟨by rw [en]; exact hit, p⟩ fun h' eb => ⟨rfl, ?_⟩
    exact I.turned (t' := s.toks) (fun b o hb q => eb b o hb q) f0 f1 f3 f4 f5
  self := fun A i s Q E st h => by
    obtain ⟨⟨_, he⟩, _⟩ := st
    exact wpAny_pyIter_enum he h
def iEnumT (K : PySem.W.Frag) (ta : TA) : TI := fun σ H R => ta σ H fun vs H1 => ∃ a xs, vs = [.ref a] ∧ SqT K H1 a xs ∧ R (IteT K a) H1
theorem pi_enumT {X : Cx} {e : Expr} {ta : TA} {p pos tpos : Pos} {elts : List Expr} {kk : Nat} (hg : Gl X "enumerate") (hm : X.mg "enumerate" = none) (ha : PA X [e] ta) (hs : starEach [e] X.env = [(false, eval e X.env)] := by rfl) :
    PI X (.Tuple elts kk tpos) (.Call (.Name "enumerate" p) [e] [] pos) (iEnumT X.K ta) := by
  refine ⟨fun pins s σ H R I h => ?_⟩
  refine Call_ (ld_blt I hg hm boot_enumerate (PyProof.Rows.callWith_type1 (thn (ha.run pos pins s σ H _ I h) fun us s1 ⟨vs, H1, I1, r1, q1⟩ => ?_) hs rfl))
  obtain ⟨a, xs, ex, hq, q⟩ := q1
  subst ex
  cases r1 with
  | cons r rr =>
    cases rr
    cases r
    obtain ⟨its, rv, p', hz⟩ := I1.tuple hq
    refine call_enum1 (begins_tuple a its.toArray) p' fun h' he hit hk => wpAny_pyIter_enum he ?_
    have I2 : Inv X pins σ H1 { s1 with heap := h' } := I1.kept (t' := s1.toks) hk
    refine ⟨s1.heap.objs.size + 1, [s1.heap.objs.size + 1, s1.heap.objs.size], _, _, H1, rfl, I2, turn_enumT a (s1.heap.objs.size + 1) s1.heap.objs.size, ⟨⟨.none, he⟩, ⟨_, hit, rfl, rfl⟩, Nat.succ_ne_self _⟩, fun b hb => ?_, q⟩
    have hle : s1.heap.objs.size ≤ b := by
      rcases List.mem_cons.mp hb with z | z
      · rw [z]
        exact Nat.le_add_right _ _
      · rw [List.mem_singleton.mp z]
        exact Nat.le_refl _
    exact I1.fpOk hle (I1.hok.fresh hle)
/-- a for over enumerate(t), by an invariant -/
theorem for_enumT {K : PySem.W.Frag} {a : Addr} {xs : List V} {g : TG} {tb : TS} {D : Ends} {σ : L2.St} {H : Hp} (Pv : Nat → L2.St → Hp → Prop) (h0 : Pv 0 σ H) (hl : ∀ i σ H, i ≤ xs.length → Pv i σ H → SqT K H a xs)
    (hs : ∀ (i : Nat) (x : V) (T : Addr) (σ : L2.St) (H : Hp), xs[i]? = some x → Pv i σ H → H T = none → g (.ref T) σ (upd H T (.tup [.int (i : Nat), x])) fun σ2 H2 => tb { D with nx := Pv (i + 1), ct := Pv (i + 1), bk := D.nx } σ2 H2) (hd : ∀ σ H, Pv xs.length σ H → D.nx σ H) :
    ∃ W : Nat → Nat → L2.St → Hp → Prop, (∃ m, W 0 m σ H) ∧ ∀ i m σ H, W i m σ H →
      ((IteT K a).stop i H ∧ D.nx σ H) ∨ ((IteT K a).go i H ∧ ∃ N : L2.St → Hp → Prop, (∀ σ' H', N σ' H' → ∃ m', m' < m ∧ W (i + 1) m' σ' H') ∧ ∀ v H', (IteT K a).yld i H v H' → g v σ H' fun σ2 H2 => tb { D with nx := N, ct := N, bk := D.nx } σ2 H2) := by
  refine ⟨fun i m σ H => m = xs.length - i ∧ i ≤ xs.length ∧ Pv i σ H, ⟨xs.length, rfl, Nat.zero_le _, h0⟩, ?_⟩
  rintro i m σ H ⟨rfl, hi, pv⟩
  have q := hl i σ H hi pv
  by_cases lt : i < xs.length
  · refine .inr ⟨⟨xs, xs[i], q, by simp [lt]⟩, Pv (i + 1), fun σ' H' p' => ⟨xs.length - (i + 1), by omega, rfl, lt, p'⟩, fun v H' y => ?_⟩
    obtain ⟨T, x, rfl, hT, rfl, hx⟩ := y
    exact hs i x T σ H (hx xs q) pv hT
  · have e : i = xs.length := by omega
    subst e
    exact .inl ⟨⟨xs, q, rfl⟩, hd σ H pv⟩
end K8
set_option maxHeartbeats 4000000
namespace K8
open PySem PySem.Spec PyProof.Rows L2
/-! ### data: tuples of flat things, as they lie in the heap -/
inductive Td (H : Hp) : V → PyData → Prop
  | non : Td H .non .none
  | bl (b : Bool) : Td H (.bl b) (.bool b)
  | int (i : Int) : Td H (.int i) (.int i)
  | str (x : Str) : Td H (.str x) (.str x)
  | tup {a : Addr} {xs : List V} {ds : List PyData} (h : H a = some (.tup xs)) (n : xs.length = ds.length) (all : ∀ (i : Nat) (x : V) (d : PyData), xs[i]? = some x → ds[i]? = some d → Td H x d) : Td H (.ref a) (.tuple ds)
/-- the tuples stay -/
def TupK (H H' : Hp) : Prop := ∀ a xs, H a = some (.tup xs) → H' a = some (.tup xs)
theorem _root_.L2.Same.tupK {H H' : Hp} (s : Same H H') : TupK H H' := fun a xs h => s a _ h
theorem TupK.refl (H : Hp) : TupK H H := fun _ _ h => h
theorem TupK.trans {A B C : Hp} (a : TupK A B) (b : TupK B C) : TupK A C := fun p xs h => b p xs (a p xs h)
theorem TupK.new {H H' : Hp} {p : Addr} {o : HO} (s : TupK H H') (h : H' p = none) : TupK H (L2.upd H' p o) := fun b xs e => by
  have e2 := s b xs e
  rw [upd_ne (ne_of_none e2 h)]
  exact e2
theorem TupK.own {H H' : Hp} {p : Addr} {o u : HO} (s : TupK H H') (h : H' p = some u) (n : ∀ xs, u ≠ .tup xs) : TupK H (L2.upd H' p o) := fun b xs e => by
  have e2 := s b xs e
  rw [upd_ne (ne_of e2 h fun z => n xs z.symm)]
  exact e2
theorem Td.mono {H H' : Hp} (k : TupK H H') {v : V} {d : PyData} (h : Td H v d) : Td H' v d := by
  induction h with
  | non => exact .non
  | bl b => exact .bl b
  | int i => exact .int i
  | str x => exact .str x
  | tup h n _ ih => exact .tup (k _ _ h) n ih
theorem Td.same {H H' : Hp} (k : Same H H') {v : V} {d : PyData} (h : Td H v d) : Td H' v d := h.mono k.tupK
/-- .. as the layer reads data -/
theorem dpAll_of {K : PySem.W.Frag} {H : Hp} : ∀ {xs : List V} {ds : List PyData}, xs.length = ds.length → (∀ (i : Nat) (x : V) (d : PyData), xs[i]? = some x → ds[i]? = some d → Dp K H x d) → DpAll K H xs ds
  | [], [], _, _ => .nil
  | x :: xs, d :: ds, n, h => .cons (h 0 x d rfl rfl) (dpAll_of (by simpa using n) fun i y e a b => h (i + 1) y e (by simpa using a) (by simpa using b))
theorem Td.dp {K : PySem.W.Frag} {H : Hp} {v : V} {d : PyData} (h : Td H v d) : Dp K H v d := by
  induction h with
  | non => exact .non
  | bl b => exact .bl b
  | int i => exact .int i
  | str x => exact .str x
  | tup h n _ ih => exact .tup (.of h) (dpAll_of n ih)
/-- flat values -/
theorem Td.nonE {H : Hp} {v : V} (h : Td H v .none) : v = .non := by cases h; rfl
theorem Td.blE {H : Hp} {v : V} {b : Bool} (h : Td H v (.bool b)) : v = .bl b := by cases h; rfl
theorem Td.intE {H : Hp} {v : V} {i : Int} (h : Td H v (.int i)) : v = .int i := by cases h; rfl
theorem Td.strE {H : Hp} {v : V} {x : Str} (h : Td H v (.str x)) : v = .str x := by cases h; rfl
theorem Td.tupE {H : Hp} {v : V} {ds : List PyData} (h : Td H v (.tuple ds)) : ∃ a xs, v = .ref a ∧ H a = some (.tup xs) ∧ xs.length = ds.length ∧ ∀ (i : Nat) (x : V) (d : PyData), xs[i]? = some x → ds[i]? = some d → Td H x d := by
  cases h with
  | tup h n all => exact ⟨_, _, rfl, h, n, all⟩
theorem Td.tup1 {H : Hp} {v : V} {a : PyData} (h : Td H v (.tuple [a])) : ∃ p x, v = .ref p ∧ H p = some (.tup [x]) ∧ Td H x a := by
  obtain ⟨p, xs, rfl, h, n, all⟩ := h.tupE
  match xs, n with
  | [x], _ => exact ⟨p, x, rfl, h, all 0 _ _ rfl rfl⟩
theorem Td.tup2 {H : Hp} {v : V} {a b : PyData} (h : Td H v (.tuple [a, b])) : ∃ p x y, v = .ref p ∧ H p = some (.tup [x, y]) ∧ Td H x a ∧ Td H y b := by
  obtain ⟨p, xs, rfl, h, n, all⟩ := h.tupE
  match xs, n with
  | [x, y], _ => exact ⟨p, x, y, rfl, h, all 0 _ _ rfl rfl, all 1 _ _ rfl rfl⟩
theorem Td.tup3 {H : Hp} {v : V} {a b c : PyData} (h : Td H v (.tuple [a, b, c])) : ∃ p x y z, v = .ref p ∧ H p = some (.tup [x, y, z]) ∧ Td H x a ∧ Td H y b ∧ Td H z c := by
  obtain ⟨p, xs, rfl, h, n, all⟩ := h.tupE
  match xs, n with
  | [x, y, z], _ => exact ⟨p, x, y, z, rfl, h, all 0 _ _ rfl rfl, all 1 _ _ rfl rfl, all 2 _ _ rfl rfl⟩
theorem Td.tup4 {H : Hp} {v : V} {a b c e : PyData} (h : Td H v (.tuple [a, b, c, e])) : ∃ p x y z w, v = .ref p ∧ H p = some (.tup [x, y, z, w]) ∧ Td H x a ∧ Td H y b ∧ Td H z c ∧ Td H w e := by
  obtain ⟨p, xs, rfl, h, n, all⟩ := h.tupE
  match xs, n with
  | [x, y, z, w], _ => exact ⟨p, x, y, z, w, rfl, h, all 0 _ _ rfl rfl, all 1 _ _ rfl rfl, all 2 _ _ rfl rfl, all 3 _ _ rfl rfl⟩
theorem Td.of1 {H : Hp} {p : Addr} {x : V} {a : PyData} (h : H p = some (.tup [x])) (ha : Td H x a) : Td H (.ref p) (.tuple [a]) := .tup h rfl fun i y d e1 e2 => by
  match i with
  | 0 => cases e1; cases e2; exact ha
theorem Td.of2 {H : Hp} {p : Addr} {x y : V} {a b : PyData} (h : H p = some (.tup [x, y])) (ha : Td H x a) (hb : Td H y b) : Td H (.ref p) (.tuple [a, b]) := .tup h rfl fun i y d e1 e2 => by
  match i with
  | 0 => cases e1; cases e2; exact ha
  | 1 => cases e1; cases e2; exact hb
theorem Td.of3 {H : Hp} {p : Addr} {x y z : V} {a b c : PyData} (h : H p = some (.tup [x, y, z])) (ha : Td H x a) (hb : Td H y b) (hc : Td H z c) : Td H (.ref p) (.tuple [a, b, c]) := .tup h rfl fun i y d e1 e2 => by
  match i with
  | 0 => cases e1; cases e2; exact ha
  | 1 => cases e1; cases e2; exact hb
  | 2 => cases e1; cases e2; exact hc
theorem Td.of4 {H : Hp} {p : Addr} {x y z u : V} {a b c e : PyData} (h : H p = some (.tup [x, y, z, u])) (ha : Td H x a) (hb : Td H y b) (hc : Td H z c) (he : Td H u e) : Td H (.ref p) (.tuple [a, b, c, e]) := .tup h rfl fun i y d e1 e2 => by
  match i with
  | 0 => cases e1; cases e2; exact ha
  | 1 => cases e1; cases e2; exact hb
  | 2 => cases e1; cases e2; exact hc
  | 3 => cases e1; cases e2; exact he
theorem Td.of0 {H : Hp} {p : Addr} (h : H p = some (.tup [])) : Td H (.ref p) (.tuple []) := .tup h rfl fun i y d e1 e2 => by
  cases e1
/-- an item -/
theorem Td.at_ {H : Hp} {v : V} {ds : List PyData} {i : Nat} {d : PyData} (h : Td H v (.tuple ds)) (e : ds[i]? = some d) : ∃ a xs x, v = .ref a ∧ H a = some (.tup xs) ∧ xs.length = ds.length ∧ xs[i]? = some x ∧ Td H x d := by
  obtain ⟨a, xs, rfl, h, n, all⟩ := h.tupE
  have hi : i < xs.length := by
    rw [n]
    exact (List.getElem?_eq_some_iff.mp e).1
  exact ⟨a, xs, xs[i], rfl, h, n, by simp [hi], all i _ d (by simp [hi]) e⟩
/-! ### numbers or None, ranges, rows -/
abbrev OI := Option Int
def oiD : OI → PyData
  | none => .none
  | some i => .int i
def oiV : OI → V
  | none => .non
  | some i => .int i
theorem Td.oiE {H : Hp} {v : V} : ∀ {o : OI}, Td H v (oiD o) → v = oiV o
  | none, h => h.nonE
  | some _, h => h.intE
theorem Td.oi {H : Hp} : ∀ o : OI, Td H (oiV o) (oiD o)
  | none => .non
  | some i => .int i
theorem oiV_non (o : OI) : decide (oiV o = V.non) = o.isNone := by cases o <;> rfl
structure Rg where
  lo : OI
  hi : OI
def Rg.d (r : Rg) : PyData := .tuple [oiD r.lo, oiD r.hi]
def geB (lo : OI) (n : Int) : Bool := match lo with
  | none => true
  | some l => decide (l ≤ n)
def leB (hi : OI) (n : Int) : Bool := match hi with
  | none => true
  | some h => decide (n ≤ h)
def Rg.has (r : Rg) (n : Int) : Bool := geB r.lo n && leB r.hi n
def org : Option Rg → PyData
  | none => .none
  | some r => r.d
inductive Deed where | take | keep | leave | drop deriving DecidableEq
def Deed.s : Deed → Str
  | .take => "take" | .keep => "keep" | .leave => "leave" | .drop => "drop"
structure Row where
  ahead : Rg
  after : Option Rg
  deed : Deed
  next : Nat
def Row.d (r : Row) : PyData := .tuple [r.ahead.d, org r.after, .str r.deed.s, .int r.next]
abbrev Sta := List Row
def staD (s : Sta) : PyData := .tuple (s.map Row.d)
abbrev Rec := List Sta
def recD (r : Rec) : PyData := .tuple (r.map staD)
/-- a rest -/
structure Rst where
  st : Nat
  gap : OI
  deriving DecidableEq
def Rst.d (r : Rst) : PyData := match r.gap with
  | none => .tuple [.int r.st]
  | some g => .tuple [.int r.st, .int g]
/-- a stand -/
structure Sd where
  st : Nat
  last : Int
  kept : OI
  deriving DecidableEq
def Sd.d (s : Sd) : PyData := .tuple [.int s.st, .int s.last, oiD s.kept]
/-! ### what hearing does, over plain data -/
def Sd.rest (s : Sd) : Rst := ⟨s.st, s.kept.map fun k => k - s.last⟩
def Row.so (r : Row) (rs : Rst) (step : Int) : Bool := r.ahead.has step && (match r.after with | none => true | some a => (match rs.gap with | none => false | some g => a.has (step - g)))
def countR (rows : Sta) (rs : Rst) (step : Int) : Option Nat := rows.findIdx? fun r => r.so rs step
def rowsOf (R : Rec) (rs : Rst) : Sta := R.getD rs.st []
def stepF (R : Rec) (rs : Rst) (step : Int) : Bool × Rst := match (rowsOf R rs).find? fun r => r.so rs step with
  | none => (false, rs)
  | some r => match r.deed with
    | .take => (true, ⟨r.next, none⟩)
    | .keep => (false, ⟨r.next, some step⟩)
    | .leave => (false, ⟨r.next, rs.gap⟩)
    | .drop => (false, ⟨r.next, none⟩)
def hearF (R : Rec) (s : Sd) (n : Int) : Bool × Sd := match stepF R s.rest (n - s.last) with
  | (true, rs) => (true, ⟨rs.st, n, none⟩)
  | (false, rs) => (false, ⟨rs.st, s.last, rs.gap.map fun g => s.last + g⟩)
end K8
set_option maxHeartbeats 4000000
namespace K8
open PySem PySem.Spec PyProof.Rows L2
set_option hygiene false in
local macro_rules | `(tactic| walk_at "w") => `(tactic| (repeat (first | refine ⟨_, rfl, ?_⟩ | refine ⟨_, _, rfl, rfl, ?_⟩ | refine ⟨rfl, ?_⟩ | refine ⟨_, _, rfl, ?_⟩ | refine ⟨_, _, rfl, .of upd_same, rfl, ?_⟩ | refine ⟨_, _, rfl, .of (by assumption), rfl, ?_⟩ | refine ⟨_, _, rfl, .of (by assumption), ?_⟩ | refine ⟨_, _, rfl, .inr (.of (by assumption)), ?_⟩ | refine ⟨_, _, rfl, .inl (.of (by assumption)), ?_⟩ | refine ⟨_, _, _, _, rfl, rfl, .of (by assumption), atI_nat (j := 0) rfl, ?_⟩ | refine ⟨_, _, _, _, rfl, rfl, .of (by assumption), atI_nat (j := 1) rfl, ?_⟩ | refine ⟨_, _, _, _, rfl, rfl, .of (by assumption), atI_nat (j := 2) rfl, ?_⟩ | refine ⟨fun z => absurd z.1 (show ¬ (1 : Nat) = 0 by decide), fun _ q hq => ?_⟩ | refine ⟨fun z => absurd z.1 (show ¬ (2 : Nat) = 0 by decide), fun _ q hq => ?_⟩ | refine ⟨sz1, fun q hq => ?_⟩ | refine ⟨sz2, fun q hq => ?_⟩ | refine ⟨sz3, fun q hq => ?_⟩ | refine ⟨sz0, fun q hq => ?_⟩ | refine iteT ?_ | refine iteF ?_)))
/-! ### what the module's names hold -/
structure Gx (K : PySem.W.Frag) (mg : Str → Option Value) : Prop where
  enumerate : mg "enumerate" = none
  int : mg "int" = none
  bool : mg "bool" = none
  str : mg "str" = none
  list : mg "list" = none
  tuple : mg "tuple" = none
  isinstance : mg "isinstance" = none
  len : mg "len" = none
  range : mg "range" = none
  zip : mg "zip" = none
  abs : mg "abs" = none
  all : mg "all" = none
  repr : mg "repr" = none
  FAR : ∃ t, mg "FAR" = some (.int 13 t)
  MAX_BOUND : ∃ t, mg "MAX_BOUND" = some (.int 6 t)
  MAX_STATES : ∃ t, mg "MAX_STATES" = some (.int 4 t)
  MAX_ROWS : ∃ t, mg "MAX_ROWS" = some (.int 6 t)
  MAX_LOG : ∃ t, mg "MAX_LOG" = some (.int 40 t)
  MAX_DEEDS : ∃ t, mg "MAX_DEEDS" = some (.int 60 t)
  MAX_ROW : ∃ t, mg "MAX_ROW" = some (.int 20 t)
  LONG : ∃ t, mg "LONG" = some (.int 40 t)
  SPLIT : ∃ t, mg "SPLIT" = some (.int 1000000000000000000 t)
  KEPT : ∃ t, mg "KEPT" = some (.int 20 t)
  MOST_LIMIT : ∃ t, mg "MOST_LIMIT" = some (.int 9 t)
  DIGITS : ∃ t, mg "DIGITS" = some (.str "0123456789" t)
  UNKNOWN : ∃ t, mg "UNKNOWN" = some (.str "unknown command" t)
  DEEDS : mg "DEEDS" = some (.ref (He.ga K "DEEDS"))
  DEEDSt : ∀ H : Hp, SqT K H (He.ga K "DEEDS") [.str "take", .str "keep", .str "leave", .str "drop"]
  NUMBERED : mg "NUMBERED" = some (.ref (He.ga K "NUMBERED"))
  NUMBEREDt : ∀ H : Hp, SqT K H (He.ga K "NUMBERED") [.str "hear", .str "restart", .str "would", .str "wait", .str "most"]
  ALONE : mg "ALONE" = some (.ref (He.ga K "ALONE"))
  ALONEt : ∀ H : Hp, SqT K H (He.ga K "ALONE") [.str "undo", .str "last", .str "taken", .str "form", .str "wait"]
theorem pe_gi {X : Cx} {x : Str} {i : Int} {pos : Pos} (hg : Gl X x) (h : ∃ t, X.mg x = some (.int i t)) (hd : (x == ("__debug__" : Str)) = false := by decide) : PE X (.Name x pos) (tC (.int i)) := by
  obtain ⟨t, h⟩ := h
  exact pe_glob hg h ⟨t, rfl⟩ hd
theorem pe_gs {X : Cx} {x z : Str} {pos : Pos} (hg : Gl X x) (h : ∃ t, X.mg x = some (.str z t)) (hd : (x == ("__debug__" : Str)) = false := by decide) : PE X (.Name x pos) (tC (.str z)) := by
  obtain ⟨t, h⟩ := h
  exact pe_glob hg h ⟨t, rfl⟩ hd
theorem sz0 {α : Type} : ([] : List α).length ≤ sizeLine := by show 0 ≤ sizeLine; decide
theorem sz1 {α : Type} {a : α} : [a].length ≤ sizeLine := by show 1 ≤ sizeLine; decide
theorem sz2 {α : Type} {a b : α} : [a, b].length ≤ sizeLine := by show 2 ≤ sizeLine; decide
theorem sz3 {α : Type} {a b c : α} : [a, b, c].length ≤ sizeLine := by show 3 ≤ sizeLine; decide
theorem sz4 {α : Type} {a b c d : α} : [a, b, c, d].length ≤ sizeLine := by show 4 ≤ sizeLine; decide
section
variable {P : Program} {w : World} {K : PySem.W.Frag} {mg : Str → Option Value} {base : Heap}
/-! ### rest_of -/
def sp_rest_of : Sp := fun vs H Q _ => ∃ (v : V) (s : Sd), vs = [v] ∧ Td H v s.d ∧ ∀ (H' : Hp) (r : V), Same H H' → Td H' r s.rest.d → Q r H'
theorem ok_rest_of (D : Df K mg "rest_of" s_rest_of) (G : Gx K mg) : Cal P w K mg base CX0 1 "rest_of" sp_rest_of := by
  refine cal0 D sc_rest_of (fun _ _ _ _ _ _ us hl => match us, hl with | [_], _ => rfl) (fun vs H Q E h => ?_) (fun f cdv A outer s H vs Q E hr h => ?_)
  · obtain ⟨v, s, rfl, _⟩ := h
    rfl
  · obtain ⟨v, s, rfl, hv, k⟩ := h
    refine ⟨_, (pss_cons (ps_asg (pv 0) (pg_tup (n := 3) rfl (pgs_cons (pg_name (i := 1) sc_rest_of.nd rfl (Or.inl rfl)) (pgs_cons (pg_name (i := 2) sc_rest_of.nd rfl (Or.inl rfl)) (pgs_cons (pg_name (i := 3) sc_rest_of.nd rfl (Or.inl rfl)) pgs_nil)))))
      (pss_one (ps_ret (pe_ifExp (pt_cmpR op_isN (pv 3) pe_non (nomark _)) (pe_tup (pa_cons (pv 1) pa_nil)) (pe_tup (pa_cons (pv 1) (pa_cons (pe_op op_sub (pv 3) (pv 2)) pa_nil))))))), ?_⟩
    obtain ⟨p, x, y, z, rfl, hp, hx, hy, hz⟩ := hv.tup3
    cases hx.intE
    cases hy.intE
    cases hz.oiE
    obtain ⟨st, last, kept⟩ := s
    refine ⟨_, rfl, p, _, rfl, .of hp, rfl, _, _, rfl, _, _, rfl, _, _, rfl, rfl, ?_⟩
    cases kept with
    | none => exact ⟨_, rfl, rfl, _, rfl, iteT ⟨_, rfl, sz1, fun q hq => k _ _ (.new hq) (.of1 upd_same (.int _))⟩⟩
    | some z => exact ⟨_, rfl, rfl, _, rfl, iteF ⟨_, rfl, _, rfl, _, rfl, _, _, rfl, rfl, sz2, fun q hq => k _ _ (.new hq) (.of2 upd_same (.int _) (.int _))⟩⟩
/-! ### lies_in -/
def sp_lies_in : Sp := fun vs H Q _ => ∃ (n : Int) (v : V) (r : Rg), vs = [.int n, v] ∧ Td H v r.d ∧ Q (.bl (r.has n)) H
theorem ok_lies_in (D : Df K mg "lies_in" s_lies_in) (G : Gx K mg) : Cal P w K mg base CX0 1 "lies_in" sp_lies_in := by
  refine cal0 D sc_lies_in (fun _ _ _ _ _ _ us hl => match us, hl with | [_, _], _ => rfl) (fun vs H Q E h => ?_) (fun f cdv A outer s H vs Q E hr h => ?_)
  · obtain ⟨n, v, r, rfl, _⟩ := h
    rfl
  · obtain ⟨n, v, ⟨lo, hi⟩, rfl, hv, k⟩ := h
    refine ⟨_, (pss_cons (ps_asg (pv 1) (pg_tup (n := 2) rfl (pgs_cons (pg_name (i := 2) sc_lies_in.nd rfl (Or.inl rfl)) (pgs_cons (pg_name (i := 3) sc_lies_in.nd rfl (Or.inl rfl)) pgs_nil))))
      (pss_one (ps_ret (pe_and (pe_or (pe_cmpR op_isN (pv 2) pe_non (nomark _)) (pe_one (pe_cmpR op_le (pv 2) (pv 0) (nomark _)))) (pe_one (pe_or (pe_cmpR op_isN (pv 3) pe_non (nomark _)) (pe_one (pe_cmpR op_le (pv 0) (pv 3) (nomark _))))))))), ?_⟩
    obtain ⟨p, x, y, rfl, hp, hx, hy⟩ := hv.tup2
    cases hx.oiE
    cases hy.oiE
    refine ⟨_, rfl, p, _, rfl, .of hp, rfl, _, _, rfl, _, _, rfl, rfl, ?_⟩
    have end_ : ∀ c : Bool, c = geB lo n → if c = true then (tOrV (tOp (fun x y H Q => y = V.non ∧ Q (V.bl (decide (x = V.non))) H) (tVar 3) (tC V.non)) (tOp (rI0 fun i j => V.bl (decide (i ≤ j))) (tVar 0) (tVar 3))) [some (.int n), some (.ref p), some (oiV lo), some (oiV hi)] H Q else Q (.bl false) H := by
      intro c ec
      have k' : Q (.bl (geB lo n && leB hi n)) H := k
      rw [← ec] at k'
      cases c with
      | false => exact iteF k'
      | true =>
        refine iteT ?_
        cases hi with
        | none => exact ⟨_, rfl, rfl, _, rfl, iteT k'⟩
        | some h => exact ⟨_, rfl, rfl, _, rfl, iteF ⟨_, rfl, _, rfl, _, _, rfl, rfl, k'⟩⟩
    cases lo with
    | none => exact ⟨_, rfl, rfl, _, rfl, iteT ⟨_, rfl, end_ _ rfl⟩⟩
    | some l => exact ⟨_, rfl, rfl, _, rfl, iteF ⟨_, rfl, _, rfl, _, _, rfl, rfl, _, rfl, end_ _ rfl⟩⟩
/-! ### counting_row -/
def onV : Option Nat → V
  | none => .non
  | some i => .int i
def sp_counting_row : Sp := fun vs H Q _ => ∃ (v r : V) (R : Rec) (rs : Rst) (step : Int), vs = [v, r, .int step] ∧ Td H v (recD R) ∧ Td H r rs.d ∧ rs.st < R.length ∧ ∀ H' : Hp, Same H H' → Q (onV (countR (rowsOf R rs) rs step)) H'
theorem rst0 {H : Hp} {r : V} {rs : Rst} (h : Td H r rs.d) : ∃ p xs, r = .ref p ∧ H p = some (.tup xs) ∧ xs = .int rs.st :: (match rs.gap with | none => [] | some g => [.int g]) := by
  obtain ⟨st, gap⟩ := rs
  cases gap with
  | none =>
    obtain ⟨p, x, rfl, hp, hx⟩ := h.tup1
    cases hx.intE
    exact ⟨p, _, rfl, hp, rfl⟩
  | some g =>
    obtain ⟨p, x, y, rfl, hp, hx, hy⟩ := h.tup2
    cases hx.intE
    cases hy.intE
    exact ⟨p, _, rfl, hp, rfl⟩
theorem ok_counting_row (D : Df K mg "counting_row" s_counting_row) (G : Gx K mg) (c_lies_in : Cal P w K mg base CX0 1 "lies_in" sp_lies_in) : Cal P w K mg base CX0 2 "counting_row" sp_counting_row := by
  refine cal0 D sc_counting_row (fun _ _ _ _ _ _ us hl => match us, hl with | [_, _, _], _ => rfl) (fun vs H Q E h => ?_) (fun f cdv A outer s H vs Q E hr h => ?_)
  · obtain ⟨v, r, R, rs, step, rfl, _⟩ := h
    rfl
  · obtain ⟨v, r, R, rs, step, rfl, hv, hrs, hst, k⟩ := h
    refine ⟨_, (pss_cons (ps_for PassesOwn.never rfl (pi_enumT (by rfl) G.enumerate (pa_cons (pe_ix ix_tup (pv 0) (pe_ix ix_tup (pv 1) pe_int (fun _ _ => rfl)) (fun _ _ => rfl)) pa_nil)) (pg_tup (n := 2) rfl (pgs_cons (pg_name (i := 3) sc_counting_row.nd rfl (Or.inl rfl)) (pgs_cons (pg_name (i := 4) sc_counting_row.nd rfl (Or.inl rfl)) pgs_nil))) (pss_cons (ps_asg (pv 4) (pg_tup (n := 4) rfl (pgs_cons (pg_name (i := 5) sc_counting_row.nd rfl (Or.inl rfl)) (pgs_cons (pg_name (i := 6) sc_counting_row.nd rfl (Or.inl rfl)) (pgs_cons (pg_name (i := 7) sc_counting_row.nd rfl (Or.inl rfl)) (pgs_cons (pg_name (i := 8) sc_counting_row.nd rfl (Or.inl rfl)) pgs_nil))))))
      (pss_one (ps_if (pt_val (pe_d c_lies_in hr (by decide) (by rfl) (pa_cons (pv 2) (pa_cons (pv 5) pa_nil)))) (pss_one (ps_if (PW.pt (pw_or (pt_cmpR op_isN (pv 6) pe_non (nomark _)) (pw_or1 (PW.pt (pw_and (pt_cmpR op_eq (pe_callB call_len_seq (by rfl) G.len (by decide +kernel) (pa_cons (pv 1) pa_nil)) pe_int (nomark _)) (pw_and1 (pt_val (pe_d c_lies_in hr (by decide) (by rfl) (pa_cons (pe_op op_sub (pv 2) (pe_ix ix_tup (pv 1) pe_int (fun _ _ => rfl))) (pa_cons (pv 6) pa_nil)))))))))) (pss_one (ps_ret (pv 3))) pss_nil)) pss_nil))))
      (pss_one (ps_ret pe_non))), ?_⟩
    obtain ⟨pr, ys, rfl, hpr, eys⟩ := rst0 hrs
    have e1 : R[rs.st]? = some (rowsOf R rs) := by
      unfold rowsOf
      simp [List.getD, hst]
    obtain ⟨pv_, xs, x, rfl, hpv, nx, hx, tx⟩ := hv.at_ (i := rs.st) (d := staD (rowsOf R rs)) (by rw [List.getElem?_map, e1] <;> rfl)
    obtain ⟨ps, rows, rfl, hps, nrows, allr⟩ := tx.tupE
    have hd0 : ys[0]? = some (.int rs.st) := by rw [eys]; rfl
    refine ⟨_, rfl, _, rfl, pr, _, _, _, rfl, rfl, .of hpr, atI_nat (j := 0) hd0, pv_, _, _, _, rfl, rfl, .of hpv, atI_nat hx, ps, rows, rfl, .of hps, ?_⟩
    have nrw : rows.length = (rowsOf R rs).length := by rw [nrows, List.length_map]
    refine for_enumT (xs := rows) (fun i σ H' => Same H H' ∧ (∃ a b c d e g, σ = [some (.ref pv_), some (.ref pr), some (.int step), a, b, c, d, e, g]) ∧ ∀ j rw, j < i → (rowsOf R rs)[j]? = some rw → rw.so rs step = false) ?_ ?_ ?_ ?_
    · exact ⟨.refl _, ⟨_, _, _, _, _, _, rfl⟩, fun j _ h => absurd h (Nat.not_lt_zero j)⟩
    · rintro i σ H' hi ⟨sm, _⟩
      exact .of (sm _ _ hps)
    · rintro i x T σ H' hx ⟨sm, ⟨a, b, c, d, e, g, rfl⟩, un⟩ hT
      have hi : i < (rowsOf R rs).length := nrw ▸ (List.getElem?_eq_some_iff.mp hx).1
      have hR : (rowsOf R rs)[i]? = some ((rowsOf R rs)[i]) := by simp [hi]
      generalize (rowsOf R rs)[i] = row at hR
      have tr := allr i x row.d hx (by rw [List.getElem?_map, hR]; rfl)
      obtain ⟨pw, xa, xb, xc, xd, rfl, hw, ta, tb, tc, td⟩ := tr.tup4
      have sm2 : Same H (upd H' T (.tup [.int (i : Nat), .ref pw])) := sm.upd hT
      have hw2 := sm2 _ _ hw
      have ta2 := ta.same sm2
      walk_at "w"
      refine ⟨step, _, row.ahead, rfl, ta2, ?_⟩
      refine ⟨_, rfl, ?_⟩
      have fin : row.so rs step = false → (fun σ H' => Same H H' ∧ (∃ a b c d e g, σ = [some (.ref pv_), some (.ref pr), some (.int step), a, b, c, d, e, g]) ∧ ∀ j rw, j < i + 1 → (rowsOf R rs)[j]? = some rw → rw.so rs step = false) [some (.ref pv_), some (.ref pr), some (.int step), some (.int (i : Nat)), some (.ref pw), some xa, some xb, some xc, some xd] (L2.upd H' T (.tup [.int (i : Nat), .ref pw])) := fun no => ⟨sm2, ⟨_, _, _, _, _, _, rfl⟩, fun j rw hj hr => by
        rcases Nat.lt_succ_iff_lt_or_eq.mp hj with lt | rfl
        · exact un j rw lt hr
        · rw [hR] at hr; cases hr; exact no⟩
      have yes : row.so rs step = true → countR (rowsOf R rs) rs step = some i := fun y => by
        unfold countR
        rw [List.findIdx?_eq_some_iff_getElem]
        exact ⟨hi, by simpa [List.getElem?_eq_getElem hi] using (show ((rowsOf R rs)[i]?.map fun r => r.so rs step) = some true by rw [hR]; simp [y]), fun j hj => by
          have := un j _ hj (List.getElem?_eq_getElem (by omega))
          simp [this]⟩
      cases ea : row.ahead.has step with
      | false => exact iteF (fin (by unfold Row.so; rw [ea]; rfl))
      | true =>
        refine iteT ?_
        cases eb : row.after with
        | none =>
          rw [eb] at tb
          cases tb.nonE
          walk_at "w"
          show Q _ _
          have k2 := k _ sm2
          rw [yes (by unfold Row.so; rw [ea, eb]; rfl)] at k2
          exact k2
        | some rb =>
          rw [eb] at tb
          have tb2 : Td (L2.upd H' T (.tup [.int (i : Nat), .ref pw])) xb rb.d := tb.same sm2
          obtain ⟨pb, hb⟩ : ∃ pb, xb = .ref pb := by obtain ⟨p, _, e, _⟩ := tb.tupE; exact ⟨p, e⟩
          subst hb
          have hpr2 := sm2 _ _ hpr
          cases eg : rs.gap with
          | none =>
            rw [eg] at eys
            subst eys
            walk_at "w"
            exact fin (by unfold Row.so; rw [ea, eb, eg]; rfl)
          | some gp =>
            rw [eg] at eys
            subst eys
            have hd1 : ([.int rs.st, .int gp] : List V)[1]? = some (.int gp) := rfl
            walk_at "w"
            refine ⟨step - gp, _, rb, rfl, tb2, ?_⟩
            refine ⟨_, rfl, ?_⟩
            cases ec : rb.has (step - gp) with
            | false => exact iteF (fin (by unfold Row.so; rw [ea, eb, eg]; exact ec))
            | true =>
              walk_at "w"
              show Q _ _
              have k2 := k _ sm2
              rw [yes (by unfold Row.so; rw [ea, eb, eg]; exact ec)] at k2
              exact k2
    · rintro σ H' ⟨sm, ⟨a, b, c, d, e, g, rfl⟩, un⟩
      have no : countR (rowsOf R rs) rs step = none := by
        unfold countR
        rw [List.findIdx?_eq_none_iff]
        intro rw hm
        obtain ⟨j, hj, rfl⟩ := List.mem_iff_getElem.mp hm
        exact un j _ (nrw ▸ hj) (List.getElem?_eq_getElem hj)
      have k2 := k _ sm
      rw [no] at k2
      exact k2
end
end K8
set_option maxHeartbeats 4000000
namespace K8
open PySem PySem.Spec PyProof.Rows L2
set_option hygiene false in
local macro_rules | `(tactic| walk_at "w") => `(tactic| (repeat (first | refine ⟨_, rfl, ?_⟩ | refine ⟨_, _, rfl, rfl, ?_⟩ | refine ⟨rfl, ?_⟩ | refine ⟨_, _, rfl, ?_⟩ | refine ⟨_, _, rfl, .of upd_same, rfl, ?_⟩ | refine ⟨_, _, rfl, .of (by assumption), rfl, ?_⟩ | refine ⟨_, _, rfl, .of (by assumption), ?_⟩ | refine ⟨_, _, rfl, .inr (.of (by assumption)), ?_⟩ | refine ⟨_, _, rfl, .inl (.of (by assumption)), ?_⟩ | refine ⟨_, _, _, _, rfl, rfl, .of (by assumption), atI_nat (j := 0) rfl, ?_⟩ | refine ⟨_, _, _, _, rfl, rfl, .of (by assumption), atI_nat (j := 1) rfl, ?_⟩ | refine ⟨_, _, _, _, rfl, rfl, .of (by assumption), atI_nat (j := 2) rfl, ?_⟩ | refine ⟨fun z => absurd z.1 (show ¬ (1 : Nat) = 0 by decide), fun _ q hq => ?_⟩ | refine ⟨fun z => absurd z.1 (show ¬ (2 : Nat) = 0 by decide), fun _ q hq => ?_⟩ | refine ⟨sz1, fun q hq => ?_⟩ | refine ⟨sz2, fun q hq => ?_⟩ | refine ⟨sz3, fun q hq => ?_⟩ | refine ⟨sz0, fun q hq => ?_⟩ | refine iteT ?_ | refine iteF ?_)))
section
variable {P : Program} {w : World} {K : PySem.W.Frag} {mg : Str → Option Value} {base : Heap}
/-! ### step_from -/
theorem Td.up {H : Hp} {p : Addr} {o : HO} {v : V} {d : PyData} (h : Td H v d) (n : H p = none) : Td (L2.upd H p o) v d := h.same (.new n)
theorem countR_find {rows : Sta} {rs : Rst} {step : Int} : rows.find? (fun r => r.so rs step) = (countR rows rs step).bind fun i => rows[i]? := by
  unfold countR
  induction rows with
  | nil => rfl
  | cons a l ih =>
    simp only [List.find?_cons, List.findIdx?_cons]
    cases a.so rs step with
    | true => rfl
    | false =>
      simp only [Bool.false_eq_true, if_false]
      rw [ih]
      cases List.findIdx? (fun r => r.so rs step) l <;> rfl
def sp_step_from : Sp := fun vs H Q _ => ∃ (v r : V) (R : Rec) (rs : Rst) (step : Int), vs = [v, r, .int step] ∧ Td H v (recD R) ∧ Td H r rs.d ∧ rs.st < R.length ∧
  ∀ (H' : Hp) (o : V), Same H H' → Td H' o (.tuple [.bool (stepF R rs step).1, (stepF R rs step).2.d]) → Q o H'
theorem ok_step_from (D : Df K mg "step_from" s_step_from) (G : Gx K mg) (c_counting_row : Cal P w K mg base CX0 2 "counting_row" sp_counting_row) : Cal P w K mg base CX0 3 "step_from" sp_step_from := by
  refine cal0 D sc_step_from (fun _ _ _ _ _ _ us hl => match us, hl with | [_, _, _], _ => rfl) (fun vs H Q E h => ?_) (fun f cdv A outer s H vs Q E hr h => ?_)
  · obtain ⟨v, r, R, rs, step, rfl, _⟩ := h
    rfl
  · obtain ⟨v, r, R, rs, step, rfl, hv, hrs, hst, k⟩ := h
    refine ⟨_, (pss_cons (ps_set (i := 3) sc_step_from.nd rfl (Or.inl rfl) (pe_d c_counting_row hr (by decide) (by rfl) (pa_cons (pv 0) (pa_cons (pv 1) (pa_cons (pv 2) pa_nil)))))
      (pss_cons (ps_if (pt_cmpR op_isN (pv 3) pe_non (nomark _)) (pss_one (ps_ret (pe_tup (pa_cons pe_bl (pa_cons (pv 1) pa_nil))))) pss_nil)
      (pss_cons (ps_asg (pe_slice sl_tupA (pe_ix ix_tup (pe_ix ix_tup (pv 0) (pe_ix ix_tup (pv 1) pe_int (fun _ _ => rfl)) (fun _ _ => rfl)) (pv 3) (fun _ _ => rfl)) (po_some pe_int) po_none) (pg_tup (n := 2) rfl (pgs_cons (pg_name (i := 4) sc_step_from.nd rfl (Or.inl rfl)) (pgs_cons (pg_name (i := 5) sc_step_from.nd rfl (Or.inl rfl)) pgs_nil))))
      (pss_cons (ps_if (pt_cmpR op_eq (pv 4) pe_str (nomark _)) (pss_one (ps_ret (pe_tup (pa_cons pe_bl (pa_cons (pe_tup (pa_cons (pv 5) pa_nil)) pa_nil))))) pss_nil)
      (pss_cons (ps_if (pt_cmpR op_eq (pv 4) pe_str (nomark _)) (pss_one (ps_ret (pe_tup (pa_cons pe_bl (pa_cons (pe_tup (pa_cons (pv 5) (pa_cons (pv 2) pa_nil))) pa_nil))))) pss_nil)
      (pss_one (ps_ret (pe_tup (pa_cons pe_bl (pa_cons (pe_ifExp (pt_cmpR op_eq (pv 4) pe_str (nomark _)) (pe_tup (pa_cons (pv 5) pa_nil)) (pe_op op_catA (pe_tup (pa_cons (pv 5) pa_nil)) (pe_slice sl_tupA (pv 1) (po_some pe_int) po_none))) pa_nil)))))))))), ?_⟩
    have e1 : R[rs.st]? = some (rowsOf R rs) := by
      unfold rowsOf
      simp [List.getD, hst]
    walk_at "w"
    refine ⟨_, _, _, _, _, rfl, hv, hrs, hst, fun H1 s1 => ?_⟩
    cases ec : countR (rowsOf R rs) rs step with
    | none =>
      have es : stepF R rs step = (false, rs) := by unfold stepF; rw [countR_find, ec]; rfl
      rw [es] at k
      walk_at "w"
      exact k _ _ (s1.upd hq) (.of2 upd_same (.bl _) (hrs.same (s1.upd hq)))
    | some i =>
      have hi : i < (rowsOf R rs).length := (List.findIdx?_eq_some_iff_getElem.mp ec).1
      have hR : (rowsOf R rs)[i]? = some ((rowsOf R rs)[i]) := by simp [hi]
      generalize (rowsOf R rs)[i] = row at hR
      have es : stepF R rs step = match row.deed with | .take => (true, ⟨row.next, none⟩) | .keep => (false, ⟨row.next, some step⟩) | .leave => (false, ⟨row.next, rs.gap⟩) | .drop => (false, ⟨row.next, none⟩) := by
        unfold stepF; rw [countR_find, ec]; simp only [Option.bind_some, hR] <;> (cases row.deed <;> rfl)
      obtain ⟨pr, ys, rfl, hpr, eys⟩ := rst0 hrs
      obtain ⟨pv_, xs, x, rfl, hpv, nx, hx, tx⟩ := hv.at_ (i := rs.st) (d := staD (rowsOf R rs)) (by rw [List.getElem?_map, e1] <;> rfl)
      obtain ⟨ps, rows, y, rfl, hps, nrows, hy, ty⟩ := tx.at_ (i := i) (d := row.d) (by rw [List.getElem?_map, hR]; rfl)
      obtain ⟨pw, xa, xb, xc, xd, rfl, hw, ta, tb, tc, td⟩ := ty.tup4
      cases tc.strE
      cases td.intE
      have hpr1 := s1 _ _ hpr
      have hpv1 := s1 _ _ hpv
      have hps1 := s1 _ _ hps
      have hw1 := s1 _ _ hw
      have hd0 : ys[0]? = some (.int rs.st) := by rw [eys]; rfl
      have a0 : atI ys 0 = some (.int rs.st) := atI_nat (j := 0) hd0
      have ax : atI xs (rs.st : Int) = some (.ref ps) := atI_nat hx
      have ay : atI rows (i : Int) = some (.ref pw) := atI_nat hy
      walk_at "w"
      refine ⟨_, _, _, _, rfl, rfl, .of hpr1, a0, _, _, _, _, rfl, rfl, .of hpv1, ax, ?_⟩
      walk_at "w"
      refine ⟨_, _, _, _, rfl, rfl, .of hps1, ay, ?_⟩
      walk_at "w"

      have s2 : ∀ o, Same H (L2.upd H1 q o) := fun o => s1.upd hq
      cases ed : row.deed with
      | take =>
        rw [ed] at es
        rw [es] at k
        walk_at "w"
        exact k _ _ (((s2 _).upd (by assumption)).upd (by assumption)) (.of2 upd_same (.bl _) ((Td.of1 upd_same (.int _)).up (by assumption)))
      | keep =>
        rw [ed] at es
        rw [es] at k
        walk_at "w"
        exact k _ _ (((s2 _).upd (by assumption)).upd (by assumption)) (.of2 upd_same (.bl _) ((Td.of2 upd_same (.int _) (.int _)).up (by assumption)))
      | leave =>
        rw [ed] at es
        rw [es] at k
        have hpr2 := fun o => s2 o _ _ hpr
        cases eg : rs.gap with
        | none =>
          rw [eg] at eys k
          subst eys
          walk_at "w"
          refine ⟨_, _, rfl, .of (((s2 _).upd (by assumption)) _ _ hpr), ?_⟩
          walk_at "w"
          refine ⟨_, _, _, _, rfl, rfl, .of ((upd_ne (ne_of_none upd_same (by assumption))).trans upd_same), .of upd_same, (by show 1 ≤ sizeLine; decide), (fun z => (nomatch z)), (fun _ _ => ?_), (fun _ z => absurd rfl z)⟩
          walk_at "w"
          exact k _ _ ((((s2 _).upd (by assumption)).upd (by assumption)).upd (by assumption)) (.of2 upd_same (.bl _) (((Td.of1 upd_same (.int _)).up (by assumption)).up (by assumption)))
        | some g =>
          rw [eg] at eys k
          subst eys
          walk_at "w"
          refine ⟨_, _, rfl, .of (((s2 _).upd (by assumption)) _ _ hpr), ?_⟩
          walk_at "w"
          refine ⟨_, _, _, _, rfl, rfl, .of ((upd_ne (ne_of_none upd_same (by assumption))).trans upd_same), .of upd_same, (by show 2 ≤ sizeLine; decide), fun z => (nomatch z), fun _ z => (nomatch z), fun _ _ q hq => ?_⟩
          walk_at "w"
          exact k _ _ (((((s2 _).upd (by assumption)).upd (by assumption)).upd (by assumption)).upd (by assumption)) (.of2 upd_same (.bl _) ((Td.of2 upd_same (.int _) (.int _)).up (by assumption)))
      | drop => 
        rw [ed] at es
        rw [es] at k
        walk_at "w"
        exact k _ _ (((s2 _).upd (by assumption)).upd (by assumption)) (.of2 upd_same (.bl _) ((Td.of1 upd_same (.int _)).up (by assumption)))
end
end K8
set_option maxHeartbeats 4000000
namespace K8
open PySem PySem.Spec PyProof.Rows L2
set_option hygiene false in
local macro_rules | `(tactic| walk_at "w") => `(tactic| (repeat (first | refine ⟨_, rfl, ?_⟩ | refine ⟨_, _, rfl, rfl, ?_⟩ | refine ⟨rfl, ?_⟩ | refine ⟨_, _, rfl, ?_⟩ | refine ⟨_, _, rfl, .of upd_same, rfl, ?_⟩ | refine ⟨_, _, rfl, .of (by assumption), rfl, ?_⟩ | refine ⟨_, _, rfl, .of (by assumption), ?_⟩ | refine ⟨_, _, rfl, .inr (.of (by assumption)), ?_⟩ | refine ⟨_, _, rfl, .inl (.of (by assumption)), ?_⟩ | refine ⟨_, _, _, _, rfl, rfl, .of (by assumption), atI_nat (j := 0) rfl, ?_⟩ | refine ⟨_, _, _, _, rfl, rfl, .of (by assumption), atI_nat (j := 1) rfl, ?_⟩ | refine ⟨_, _, _, _, rfl, rfl, .of (by assumption), atI_nat (j := 2) rfl, ?_⟩ | refine ⟨fun z => absurd z.1 (show ¬ (1 : Nat) = 0 by decide), fun _ q hq => ?_⟩ | refine ⟨fun z => absurd z.1 (show ¬ (2 : Nat) = 0 by decide), fun _ q hq => ?_⟩ | refine ⟨sz1, fun q hq => ?_⟩ | refine ⟨sz2, fun q hq => ?_⟩ | refine ⟨sz3, fun q hq => ?_⟩ | refine ⟨sz0, fun q hq => ?_⟩ | refine iteT ?_ | refine iteF ?_)))
section
variable {P : Program} {w : World} {K : PySem.W.Frag} {mg : Str → Option Value} {base : Heap}
theorem iteDT {p A B : Prop} [Decidable p] (h : p) (a : A) : if decide p = true then A else B := by rw [if_pos (decide_eq_true h)]; exact a
theorem iteDF {p A B : Prop} [Decidable p] (h : ¬ p) (b : B) : if decide p = true then A else B := by rw [if_neg (by simpa using h)]; exact b
theorem iteDT' {p A B : Prop} [Decidable p] (h : p) (b : B) : if (!decide p) = true then A else B := by rw [if_neg (by simpa using h)]; exact b
theorem boolT {b : Bool} {Q : VK} {H : Hp} (h : b = true) (k : Q (.bl true) H) : Q (.bl b) H := h ▸ k
/-! ### is_integer, is_bound, is_range, is_deed -/
def sp_is_integer : Sp := fun vs H Q _ => ∃ i : Int, vs = [.int i] ∧ Q (.bl true) H
theorem ok_is_integer (D : Df K mg "is_integer" s_is_integer) (G : Gx K mg) : Cal P w K mg base CX0 1 "is_integer" sp_is_integer := by
  refine cal0 D sc_is_integer (fun _ _ _ _ _ _ us hl => match us, hl with | [_], _ => rfl) (fun vs H Q E h => ?_) (fun f cdv A outer s H vs Q E hr h => ?_)
  · obtain ⟨v, rfl, _⟩ := h
    rfl
  · obtain ⟨i, rfl, k⟩ := h
    refine ⟨_, (pss_one (ps_ret (pe_and (pe_callB call_isi (by rfl) G.isinstance (by decide +kernel) (pa_cons (pv 0) (pa_cons (pe_bltn (v := .ty "int") (u := .type "int") (by rfl) G.int (by decide +kernel) rfl) pa_nil))) (pe_one (pe_not (pe_callB call_isi (by rfl) G.isinstance (by decide +kernel) (pa_cons (pv 0) (pa_cons (pe_bltn (v := .ty "bool") (u := .type "bool") (by rfl) G.bool (by decide +kernel) rfl) pa_nil)))))))), ?_⟩
    refine ⟨_, rfl, _, _, _, _, true, rfl, .ty _, .base (.int i), kit_ty (by decide +kernel), _, rfl, ?_⟩
    walk_at "w"
    refine ⟨_, _, _, _, false, rfl, .ty _, .base (.int i), kit_ty (by decide +kernel), ?_⟩
    walk_at "w"
    exact k
def BOk (b : OI) : Prop := ∀ i, b = some i → -6 ≤ i ∧ i ≤ 6
structure RgOk' (r : Rg) : Prop where
  lo : BOk r.lo
  hi : BOk r.hi
  le : ∀ l h, r.lo = some l → r.hi = some h → l ≤ h
structure RowOk (n : Nat) (r : Row) : Prop where
  ahead : RgOk' r.ahead
  after : ∀ a, r.after = some a → RgOk' a
  next : r.next < n
  keep : r.deed = .keep → r.ahead.lo.isSome = true ∧ r.ahead.hi.isSome = true
structure RecOk (R : Rec) : Prop where
  pos : 0 < R.length
  le : R.length ≤ 4
  rows : ∀ s ∈ R, s.length ≤ 6 ∧ ∀ r ∈ s, RowOk R.length r
def sp_is_bound : Sp := fun vs H Q _ => ∃ b : OI, vs = [oiV b] ∧ BOk b ∧ Q (.bl true) H
theorem ok_is_bound (D : Df K mg "is_bound" s_is_bound) (G : Gx K mg) (c_is_integer : Cal P w K mg base CX0 1 "is_integer" sp_is_integer) : Cal P w K mg base CX0 2 "is_bound" sp_is_bound := by
  refine cal0 D sc_is_bound (fun _ _ _ _ _ _ us hl => match us, hl with | [_], _ => rfl) (fun vs H Q E h => ?_) (fun f cdv A outer s H vs Q E hr h => ?_)
  · obtain ⟨v, rfl, _⟩ := h
    rfl
  · obtain ⟨b, rfl, hb, k⟩ := h
    refine ⟨_, (pss_one (ps_ret (pe_or (pe_cmpR op_isN (pv 0) pe_non (nomark _)) (pe_one (pe_and (pe_d c_is_integer hr (by decide) (by rfl) (pa_cons (pv 0) pa_nil)) (pe_one (pe_chain op_le op_le (pe_op op_sub pe_int (pe_gi (by rfl) G.MAX_BOUND)) (pv 0) (pe_gi (by rfl) G.MAX_BOUND)))))))), ?_⟩
    cases b with
    | none =>
      walk_at "w"
      exact k
    | some i =>
      obtain ⟨h1, h2⟩ := hb i rfl
      walk_at "w"
      refine iteDT (by omega) ?_
      walk_at "w"
      exact boolT (decide_eq_true h2) k
theorem RgOk'.bnd {r : Rg} (h : RgOk' r) : BOk r.lo ∧ BOk r.hi := ⟨h.lo, h.hi⟩
def sp_is_range : Sp := fun vs H Q _ => ∃ (v : V) (r : Rg), vs = [v] ∧ Td H v r.d ∧ RgOk' r ∧ Q (.bl true) H
theorem ok_is_range (D : Df K mg "is_range" s_is_range) (G : Gx K mg) (c_is_bound : Cal P w K mg base CX0 2 "is_bound" sp_is_bound) : Cal P w K mg base CX0 3 "is_range" sp_is_range := by
  refine cal0 D sc_is_range (fun _ _ _ _ _ _ us hl => match us, hl with | [_], _ => rfl) (fun vs H Q E h => ?_) (fun f cdv A outer s H vs Q E hr h => ?_)
  · obtain ⟨v, _, rfl, _⟩ := h
    rfl
  · obtain ⟨v, r, rfl, hv, ok, k⟩ := h
    refine ⟨_, (pss_cons (ps_if (PW.pt (pw_or (pt_not (pt_val (pe_callB call_isi (by rfl) G.isinstance (by decide +kernel) (pa_cons (pv 0) (pa_cons (pe_bltn (v := .ty "tuple") (u := .type "tuple") (by rfl) G.tuple (by decide +kernel) rfl) pa_nil))))) (pw_or (pt_cmpR op_ne (pe_callB call_len_seq (by rfl) G.len (by decide +kernel) (pa_cons (pv 0) pa_nil)) pe_int (nomark _)) (pw_or (pt_not (pt_val (pe_d c_is_bound hr (by decide) (by rfl) (pa_cons (pe_ix ix_tup (pv 0) pe_int (fun _ _ => rfl)) pa_nil)))) (pw_or1 (pt_not (pt_val (pe_d c_is_bound hr (by decide) (by rfl) (pa_cons (pe_ix ix_tup (pv 0) pe_int (fun _ _ => rfl)) pa_nil))))))))) (pss_one (ps_ret pe_bl)) pss_nil)
      (pss_one (ps_ret (pe_or (pe_cmpR op_isN (pe_ix ix_tup (pv 0) pe_int (fun _ _ => rfl)) pe_non (nomark _)) (pe_or (pe_cmpR op_isN (pe_ix ix_tup (pv 0) pe_int (fun _ _ => rfl)) pe_non (nomark _)) (pe_one (pe_cmpR op_le (pe_ix ix_tup (pv 0) pe_int (fun _ _ => rfl)) (pe_ix ix_tup (pv 0) pe_int (fun _ _ => rfl)) (nomark _)))))))), ?_⟩
    obtain ⟨lo, hi⟩ := r
    obtain ⟨p, x, y, rfl, hp, hx, hy⟩ := hv.tup2
    cases hx.oiE
    cases hy.oiE
    walk_at "w"
    refine ⟨_, _, _, _, true, rfl, .ty _, .base (.tup hp), kit_ty (by decide +kernel), ?_⟩
    walk_at "w"
    refine ⟨ok.lo, ?_⟩
    walk_at "w"
    refine ⟨ok.hi, ?_⟩
    walk_at "w"
    cases lo with
    | none =>
      walk_at "w"
      exact k
    | some l =>
      walk_at "w"
      cases hi with
      | none =>
        walk_at "w"
        exact k
      | some h =>
        walk_at "w"
        exact boolT (decide_eq_true (ok.le _ _ rfl rfl)) k
def sp_is_deed : Sp := fun vs H Q _ => ∃ d : Deed, vs = [.str d.s] ∧ Q (.bl true) H
theorem ok_is_deed (D : Df K mg "is_deed" s_is_deed) (G : Gx K mg) : Cal P w K mg base CX0 1 "is_deed" sp_is_deed := by
  refine cal0 D sc_is_deed (fun _ _ _ _ _ _ us hl => match us, hl with | [_], _ => rfl) (fun vs H Q E h => ?_) (fun f cdv A outer s H vs Q E hr h => ?_)
  · obtain ⟨d, rfl, _⟩ := h
    rfl
  · obtain ⟨d, rfl, k⟩ := h
    refine ⟨_, (pss_one (ps_ret (pe_and (pe_callB call_isi (by rfl) G.isinstance (by decide +kernel) (pa_cons (pv 0) (pa_cons (pe_bltn (v := .ty "str") (u := .type "str") (by rfl) G.str (by decide +kernel) rfl) pa_nil))) (pe_one (pe_cmpR op_in_seq (pv 0) (pe_glob (v := .ref _) (by rfl) G.DEEDS rfl) rfl))))), ?_⟩
    walk_at "w"
    refine ⟨_, _, _, _, true, rfl, .ty _, .base (.str _), kit_ty (by decide +kernel), ?_⟩
    walk_at "w"
    refine ⟨_, _, rfl, .inr (G.DEEDSt _), rfl, by decide +kernel, ?_⟩
    exact boolT (by cases d <;> decide +kernel) k
end
end K8
set_option maxHeartbeats 4000000
namespace K8
open PySem PySem.Spec PyProof.Rows L2
set_option hygiene false in
local macro_rules | `(tactic| walk_at "w") => `(tactic| (repeat (first | refine ⟨_, rfl, ?_⟩ | refine ⟨_, _, rfl, rfl, ?_⟩ | refine ⟨rfl, ?_⟩ | refine ⟨_, _, rfl, ?_⟩ | refine ⟨_, _, rfl, .of upd_same, rfl, ?_⟩ | refine ⟨_, _, rfl, .of (by assumption), rfl, ?_⟩ | refine ⟨_, _, rfl, .of (by assumption), ?_⟩ | refine ⟨_, _, rfl, .inr (.of (by assumption)), ?_⟩ | refine ⟨_, _, rfl, .inl (.of (by assumption)), ?_⟩ | refine ⟨_, _, _, _, rfl, rfl, .of (by assumption), atI_nat (j := 0) rfl, ?_⟩ | refine ⟨_, _, _, _, rfl, rfl, .of (by assumption), atI_nat (j := 1) rfl, ?_⟩ | refine ⟨_, _, _, _, rfl, rfl, .of (by assumption), atI_nat (j := 2) rfl, ?_⟩ | refine ⟨fun z => absurd z.1 (show ¬ (1 : Nat) = 0 by decide), fun _ q hq => ?_⟩ | refine ⟨fun z => absurd z.1 (show ¬ (2 : Nat) = 0 by decide), fun _ q hq => ?_⟩ | refine ⟨sz1, fun q hq => ?_⟩ | refine ⟨sz2, fun q hq => ?_⟩ | refine ⟨sz3, fun q hq => ?_⟩ | refine ⟨sz0, fun q hq => ?_⟩ | refine iteT ?_ | refine iteF ?_)))
section
variable {P : Program} {w : World} {K : PySem.W.Frag} {mg : Str → Option Value} {base : Heap}
/-! ### row_word, state_error, receiver_error -/
def sp_row_word : Sp := fun vs H Q _ => ∃ (v : V) (r : Row) (n : Nat), vs = [v, .int n] ∧ Td H v r.d ∧ RowOk n r ∧ ∀ H', Same H H' → Q .non H'
theorem ok_row_word (D : Df K mg "row_word" s_row_word) (G : Gx K mg) (c_is_integer : Cal P w K mg base CX0 1 "is_integer" sp_is_integer) (c_is_range : Cal P w K mg base CX0 3 "is_range" sp_is_range) (c_is_deed : Cal P w K mg base CX0 1 "is_deed" sp_is_deed) : Cal P w K mg base CX0 4 "row_word" sp_row_word := by
  refine cal0 D sc_row_word (fun _ _ _ _ _ _ us hl => match us, hl with | [_, _], _ => rfl) (fun vs H Q E h => ?_) (fun f cdv A outer s H vs Q E hr h => ?_)
  · obtain ⟨v, _, _, rfl, _⟩ := h
    rfl
  · obtain ⟨v, r, n, rfl, hv, ok, k⟩ := h
    refine ⟨_, (pss_cons (ps_if (PW.pt (pw_or (pt_not (pt_val (pe_callB call_isi (by rfl) G.isinstance (by decide +kernel) (pa_cons (pv 0) (pa_cons (pe_bltn (v := .ty "tuple") (u := .type "tuple") (by rfl) G.tuple (by decide +kernel) rfl) pa_nil))))) (pw_or1 (pt_cmpR op_ne (pe_callB call_len_seq (by rfl) G.len (by decide +kernel) (pa_cons (pv 0) pa_nil)) pe_int (nomark _))))) (pss_one (ps_ret pe_str)) pss_nil)
      (pss_cons (ps_asg (pv 0) (pg_tup (n := 4) rfl (pgs_cons (pg_name (i := 2) sc_row_word.nd rfl (Or.inl rfl)) (pgs_cons (pg_name (i := 3) sc_row_word.nd rfl (Or.inl rfl)) (pgs_cons (pg_name (i := 4) sc_row_word.nd rfl (Or.inl rfl)) (pgs_cons (pg_name (i := 5) sc_row_word.nd rfl (Or.inl rfl)) pgs_nil))))))
      (pss_cons (ps_if (pt_not (pt_val (pe_d c_is_range hr (by decide) (by rfl) (pa_cons (pv 2) pa_nil)))) (pss_one (ps_ret pe_str)) pss_nil)
      (pss_cons (ps_if (PW.pt (pw_and (pt_cmpR op_notN (pv 3) pe_non (nomark _)) (pw_and1 (pt_not (pt_val (pe_d c_is_range hr (by decide) (by rfl) (pa_cons (pv 3) pa_nil))))))) (pss_one (ps_ret pe_str)) pss_nil)
      (pss_cons (ps_if (pt_not (pt_val (pe_d c_is_deed hr (by decide) (by rfl) (pa_cons (pv 4) pa_nil)))) (pss_one (ps_ret pe_str)) pss_nil)
      (pss_cons (ps_if (PW.pt (pw_or (pt_not (pt_val (pe_d c_is_integer hr (by decide) (by rfl) (pa_cons (pv 5) pa_nil)))) (pw_or1 (pt_not (pt_chain op_le op_lt pe_int (pv 5) (pv 1)))))) (pss_one (ps_ret pe_str)) pss_nil)
      (pss_one (ps_ret (pe_ifExp (PW.pt (pw_and (pt_cmpR op_eq (pv 4) pe_str (nomark _)) (pw_and1 (pt_cmpR op_in_seq pe_non (pv 2) rfl)))) pe_str pe_non))))))))), ?_⟩
    obtain ⟨p, xa, xb, xc, xd, rfl, hp, ta, tb, tc, td⟩ := hv.tup4
    cases tc.strE
    cases td.intE
    walk_at "w"
    refine ⟨_, _, _, _, true, rfl, .ty _, .base (.tup hp), kit_ty (by decide +kernel), ?_⟩
    walk_at "w"
    refine ⟨_, _, rfl, ta, ok.ahead, ?_⟩
    walk_at "w"
    have nx := ok.next
    cases ea : r.after with
    | none =>
      rw [ea] at tb
      cases tb.nonE
      walk_at "w"
      refine iteDT' (by omega) ?_
      cases ed : r.deed with
      | keep =>
        obtain ⟨k1, k2⟩ := ok.keep ed
        obtain ⟨l, h1⟩ := Option.isSome_iff_exists.mp k1
        obtain ⟨h, h2⟩ := Option.isSome_iff_exists.mp k2
        have ta2 := ta
        unfold Rg.d at ta2
        rw [h1, h2] at ta2
        obtain ⟨pa, x1, x2, rfl, hpa, t1, t2⟩ := ta2.tup2
        cases t1.intE
        cases t2.intE
        walk_at "w"
        exact k _ (.refl _)
      | take =>
        walk_at "w"
        exact k _ (.refl _)
      | leave =>
        walk_at "w"
        exact k _ (.refl _)
      | drop =>
        walk_at "w"
        exact k _ (.refl _)
    | some a =>
      rw [ea] at tb
      obtain ⟨pb, rfl⟩ : ∃ pb, xb = .ref pb := by obtain ⟨p, _, e, _⟩ := tb.tupE; exact ⟨p, e⟩
      walk_at "w"
      refine ⟨_, _, rfl, tb, ok.after a ea, ?_⟩
      walk_at "w"
      refine iteDT' (by omega) ?_
      cases ed : r.deed with
      | keep =>
        obtain ⟨k1, k2⟩ := ok.keep ed
        obtain ⟨l, h1⟩ := Option.isSome_iff_exists.mp k1
        obtain ⟨h, h2⟩ := Option.isSome_iff_exists.mp k2
        have ta2 := ta
        unfold Rg.d at ta2
        rw [h1, h2] at ta2
        obtain ⟨pa, x1, x2, rfl, hpa, t1, t2⟩ := ta2.tup2
        cases t1.intE
        cases t2.intE
        walk_at "w"
        exact k _ (.refl _)
      | take =>
        walk_at "w"
        exact k _ (.refl _)
      | leave =>
        walk_at "w"
        exact k _ (.refl _)
      | drop =>
        walk_at "w"
        exact k _ (.refl _)
def sp_state_error : Sp := fun vs H Q _ => ∃ (v : V) (st : Sta) (i n : Nat), vs = [v, .int i, .int n] ∧ Td H v (staD st) ∧ st.length ≤ 6 ∧ (∀ r ∈ st, RowOk n r) ∧ ∀ H', Same H H' → Q .non H'
theorem ok_state_error (D : Df K mg "state_error" s_state_error) (G : Gx K mg) (c_row_word : Cal P w K mg base CX0 4 "row_word" sp_row_word) : Cal P w K mg base CX0 5 "state_error" sp_state_error := by
  refine cal0 D sc_state_error (fun _ _ _ _ _ _ us hl => match us, hl with | [_, _, _], _ => rfl) (fun vs H Q E h => ?_) (fun f cdv A outer s H vs Q E hr h => ?_)
  · obtain ⟨v, _, _, _, rfl, _⟩ := h
    rfl
  · obtain ⟨v, st, i0, n, rfl, hv, hl, ok, k⟩ := h
    refine ⟨_, (pss_cons (ps_if (PW.pt (pw_or (pt_not (pt_val (pe_callB call_isi (by rfl) G.isinstance (by decide +kernel) (pa_cons (pv 0) (pa_cons (pe_bltn (v := .ty "tuple") (u := .type "tuple") (by rfl) G.tuple (by decide +kernel) rfl) pa_nil))))) (pw_or1 (pt_cmpR op_gt (pe_callB call_len_seq (by rfl) G.len (by decide +kernel) (pa_cons (pv 0) pa_nil)) (pe_gi (by rfl) G.MAX_ROWS) (nomark _))))) (pss_one (ps_ret (pe_tup (pa_cons (pe_tup (pa_cons (pv 1) pa_nil)) (pa_cons pe_str pa_nil))))) pss_nil)
      (pss_cons (ps_for PassesOwn.never rfl (pi_enumT (by rfl) G.enumerate (pa_cons (pv 0) pa_nil)) (pg_tup (n := 2) rfl (pgs_cons (pg_name (i := 3) sc_state_error.nd rfl (Or.inl rfl)) (pgs_cons (pg_name (i := 4) sc_state_error.nd rfl (Or.inl rfl)) pgs_nil))) (pss_cons (ps_set (i := 5) sc_state_error.nd rfl (Or.inl rfl) (pe_d c_row_word hr (by decide) (by rfl) (pa_cons (pv 4) (pa_cons (pv 2) pa_nil))))
      (pss_one (ps_if (pt_cmpR op_notN (pv 5) pe_non (nomark _)) (pss_one (ps_ret (pe_tup (pa_cons (pe_tup (pa_cons (pv 1) (pa_cons (pv 3) pa_nil))) (pa_cons (pv 5) pa_nil))))) pss_nil))))
      (pss_one (ps_ret pe_non)))), ?_⟩
    obtain ⟨ps, rows, rfl, hps, nrows, allr⟩ := hv.tupE
    rw [List.length_map] at nrows
    walk_at "w"
    refine ⟨_, _, _, _, true, rfl, .ty _, .base (.tup hps), kit_ty (by decide +kernel), ?_⟩
    walk_at "w"
    refine iteDF (by omega) ?_
    walk_at "w"
    refine for_enumT (xs := rows) (fun i σ H' => Same H H' ∧ (∃ a b c, σ = [some (.ref ps), some (.int i0), some (.int n), a, b, c])) ?_ ?_ ?_ ?_
    · exact ⟨.refl _, _, _, _, rfl⟩
    · rintro i σ H' hi ⟨sm, _⟩
      exact .of (sm _ _ hps)
    · rintro i x T σ H' hx ⟨sm, a, b, c, rfl⟩ hT
      have hi : i < st.length := nrows ▸ (List.getElem?_eq_some_iff.mp hx).1
      have hR : st[i]? = some st[i] := by simp [hi]
      have tr := allr i x _ hx (by rw [List.getElem?_map, hR]; rfl)
      have sm2 : Same H (L2.upd H' T (.tup [.int (i : Nat), x])) := sm.upd hT
      walk_at "w"
      refine ⟨_, _, _, rfl, tr.same sm2, ok _ (List.getElem_mem hi), fun H2 s2 => ?_⟩
      walk_at "w"
      exact ⟨sm2.trans s2, _, _, _, rfl⟩
    · rintro σ H' ⟨sm, a, b, c, rfl⟩
      exact k _ sm
def sp_receiver_error : Sp := fun vs H Q _ => ∃ (v : V) (R : Rec), vs = [v] ∧ Td H v (recD R) ∧ RecOk R ∧ ∀ H', Same H H' → Q .non H'
theorem ok_receiver_error (D : Df K mg "receiver_error" s_receiver_error) (G : Gx K mg) (c_state_error : Cal P w K mg base CX0 5 "state_error" sp_state_error) : Cal P w K mg base CX0 6 "receiver_error" sp_receiver_error := by
  refine cal0 D sc_receiver_error (fun _ _ _ _ _ _ us hl => match us, hl with | [_], _ => rfl) (fun vs H Q E h => ?_) (fun f cdv A outer s H vs Q E hr h => ?_)
  · obtain ⟨v, _, rfl, _⟩ := h
    rfl
  · obtain ⟨v, R, rfl, hv, ok, k⟩ := h
    refine ⟨_, (pss_cons (ps_if (PW.pt (pw_or (pt_not (pt_val (pe_callB call_isi (by rfl) G.isinstance (by decide +kernel) (pa_cons (pv 0) (pa_cons (pe_bltn (v := .ty "tuple") (u := .type "tuple") (by rfl) G.tuple (by decide +kernel) rfl) pa_nil))))) (pw_or1 (pt_not (pt_chain op_le op_le pe_int (pe_callB call_len_seq (by rfl) G.len (by decide +kernel) (pa_cons (pv 0) pa_nil)) (pe_gi (by rfl) G.MAX_STATES)))))) (pss_one (ps_ret (pe_tup (pa_cons (pe_tup pa_nil) (pa_cons pe_str pa_nil))))) pss_nil)
      (pss_cons (ps_for PassesOwn.never rfl (pi_enumT (by rfl) G.enumerate (pa_cons (pv 0) pa_nil)) (pg_tup (n := 2) rfl (pgs_cons (pg_name (i := 1) sc_receiver_error.nd rfl (Or.inl rfl)) (pgs_cons (pg_name (i := 2) sc_receiver_error.nd rfl (Or.inl rfl)) pgs_nil))) (pss_cons (ps_set (i := 3) sc_receiver_error.nd rfl (Or.inl rfl) (pe_d c_state_error hr (by decide) (by rfl) (pa_cons (pv 2) (pa_cons (pv 1) (pa_cons (pe_callB call_len_seq (by rfl) G.len (by decide +kernel) (pa_cons (pv 0) pa_nil)) pa_nil)))))
      (pss_one (ps_if (pt_cmpR op_notN (pv 3) pe_non (nomark _)) (pss_one (ps_ret (pv 3))) pss_nil))))
      (pss_one (ps_ret pe_non)))), ?_⟩
    obtain ⟨ps, rows, rfl, hps, nrows, allr⟩ := hv.tupE
    rw [List.length_map] at nrows
    have l1 := ok.pos
    have l2 := ok.le
    walk_at "w"
    refine ⟨_, _, _, _, true, rfl, .ty _, .base (.tup hps), kit_ty (by decide +kernel), ?_⟩
    walk_at "w"
    refine iteDT (by omega) ?_
    walk_at "w"
    refine iteDT' (by omega) ?_
    walk_at "w"
    refine for_enumT (xs := rows) (fun i σ H' => Same H H' ∧ (∃ a b c, σ = [some (.ref ps), a, b, c])) ?_ ?_ ?_ ?_
    · exact ⟨.refl _, _, _, _, rfl⟩
    · rintro i σ H' hi ⟨sm, _⟩
      exact .of (sm _ _ hps)
    · rintro i x T σ H' hx ⟨sm, a, b, c, rfl⟩ hT
      have hi : i < R.length := nrows ▸ (List.getElem?_eq_some_iff.mp hx).1
      have hR : R[i]? = some R[i] := by simp [hi]
      have tr := allr i x _ hx (by rw [List.getElem?_map, hR]; rfl)
      have sm2 : Same H (L2.upd H' T (.tup [.int (i : Nat), x])) := sm.upd hT
      have hps2 := sm2 _ _ hps
      walk_at "w"
      obtain ⟨o1, o2⟩ := ok.rows _ (List.getElem_mem hi)
      refine ⟨_, _, _, _, (by rw [nrows]), tr.same sm2, o1, o2, fun H2 s2 => ?_⟩
      walk_at "w"
      exact ⟨sm2.trans s2, _, _, _, rfl⟩
    · rintro σ H' ⟨sm, a, b, c, rfl⟩
      exact k _ sm
end
end K8
set_option maxHeartbeats 4000000
namespace K8
open PySem PySem.Spec PyProof.Rows L2
set_option hygiene false in
local macro_rules | `(tactic| walk_at "w") => `(tactic| (repeat (first | refine ⟨_, rfl, ?_⟩ | refine ⟨_, _, rfl, rfl, ?_⟩ | refine ⟨rfl, ?_⟩ | refine ⟨_, _, rfl, ?_⟩ | refine ⟨_, _, rfl, .of upd_same, rfl, ?_⟩ | refine ⟨_, _, rfl, .of (by assumption), rfl, ?_⟩ | refine ⟨_, _, rfl, .of (by assumption), ?_⟩ | refine ⟨_, _, rfl, .inr (.of (by assumption)), ?_⟩ | refine ⟨_, _, rfl, .inl (.of (by assumption)), ?_⟩ | refine ⟨_, _, _, _, rfl, rfl, .of (by assumption), atI_nat (j := 0) rfl, ?_⟩ | refine ⟨_, _, _, _, rfl, rfl, .of (by assumption), atI_nat (j := 1) rfl, ?_⟩ | refine ⟨_, _, _, _, rfl, rfl, .of (by assumption), atI_nat (j := 2) rfl, ?_⟩ | refine ⟨fun z => absurd z.1 (show ¬ (1 : Nat) = 0 by decide), fun _ q hq => ?_⟩ | refine ⟨fun z => absurd z.1 (show ¬ (2 : Nat) = 0 by decide), fun _ q hq => ?_⟩ | refine ⟨sz1, fun q hq => ?_⟩ | refine ⟨sz2, fun q hq => ?_⟩ | refine ⟨sz3, fun q hq => ?_⟩ | refine ⟨sz0, fun q hq => ?_⟩ | refine ⟨_, _, _, rfl, rfl, (by assumption), (by assumption), ?_⟩ | refine ⟨.inl ⟨rfl, _, .of (by assumption)⟩, ?_⟩ | refine ⟨_, _, rfl, .inl ⟨.of (by assumption), fun q hq => ?_⟩⟩ | refine iteT ?_ | refine iteF ?_)))
section
variable {P : Program} {w : World} {K : PySem.W.Frag} {mg : Str → Option Value} {base : Heap}
/-! ### all_steps -/
abbrev stV : List V := rgV (-13) 14
def sp_all_steps : Sp := fun vs H Q _ => vs = [] ∧ ∀ q, H q = none → Q (.ref q) (L2.upd H q (.lst stV))
theorem ok_all_steps (D : Df K mg "all_steps" s_all_steps) (G : Gx K mg) : Cal P w K mg base CX0 1 "all_steps" sp_all_steps := by
  refine cal0 D sc_all_steps (fun _ _ _ _ _ _ us hl => match us, hl with | [], _ => rfl) (fun vs H Q E h => ?_) (fun f cdv A outer s H vs Q E hr h => ?_)
  · obtain ⟨rfl, _⟩ := h
    rfl
  · obtain ⟨rfl, k⟩ := h
    refine ⟨_, (pss_one (ps_ret (pe_listRg (by rfl) (by rfl) G.list (prg_2 (by rfl) G.range (pe_op op_sub pe_int (pe_gi (by rfl) G.FAR)) (pe_op op_add (pe_gi (by rfl) G.FAR) pe_int))))), ?_⟩
    walk_at "w"
    refine ⟨⟨by decide, by decide, by decide, by decide, by decide⟩, fun q hq => ?_⟩
    exact k q hq
/-! ### hear -/
def sp_hear : Sp := fun vs H Q _ => ∃ (v t : V) (R : Rec) (s : Sd) (n : Int), vs = [v, t, .int n] ∧ Td H v (recD R) ∧ Td H t s.d ∧ s.st < R.length ∧ ∀ (H' : Hp) (o : V), Same H H' → Td H' o (.tuple [.bool (hearF R s n).1, (hearF R s n).2.d]) → Q o H'
theorem ok_hear (D : Df K mg "hear" s_hear) (G : Gx K mg) (c_step_from : Cal P w K mg base CX0 3 "step_from" sp_step_from) (c_rest_of : Cal P w K mg base CX0 1 "rest_of" sp_rest_of) : Cal P w K mg base CX0 4 "hear" sp_hear := by
  refine cal0 D sc_hear (fun _ _ _ _ _ _ us hl => match us, hl with | [_, _, _], _ => rfl) (fun vs H Q E h => ?_) (fun f cdv A outer s H vs Q E hr h => ?_)
  · obtain ⟨_, _, _, _, _, rfl, _⟩ := h
    rfl
  · obtain ⟨v, t, R, sd, n, rfl, hv, ht, hst, k⟩ := h
    refine ⟨_, (pss_cons (ps_set (i := 3) sc_hear.nd rfl (Or.inl rfl) (pe_ix ix_tup (pv 1) pe_int (fun _ _ => rfl)))
      (pss_cons (ps_asg (pe_d c_step_from hr (by decide) (by rfl) (pa_cons (pv 0) (pa_cons (pe_d c_rest_of hr (by decide) (by rfl) (pa_cons (pv 1) pa_nil)) (pa_cons (pe_op op_sub (pv 2) (pv 3)) pa_nil)))) (pg_tup (n := 2) rfl (pgs_cons (pg_name (i := 4) sc_hear.nd rfl (Or.inl rfl)) (pgs_cons (pg_name (i := 5) sc_hear.nd rfl (Or.inl rfl)) pgs_nil))))
      (pss_cons (ps_if (pt_val (pv 4)) (pss_one (ps_ret (pe_tup (pa_cons pe_bl (pa_cons (pe_tup (pa_cons (pe_ix ix_tup (pv 5) pe_int (fun _ _ => rfl)) (pa_cons (pv 2) (pa_cons pe_non pa_nil)))) pa_nil))))) pss_nil)
      (pss_one (ps_ret (pe_tup (pa_cons pe_bl (pa_cons (pe_tup (pa_cons (pe_ix ix_tup (pv 5) pe_int (fun _ _ => rfl)) (pa_cons (pv 3) (pa_cons (pe_ifExp (pt_cmpR op_eq (pe_callB call_len_seq (by rfl) G.len (by decide +kernel) (pa_cons (pv 5) pa_nil)) pe_int (nomark _)) (pe_op op_add (pv 3) (pe_ix ix_tup (pv 5) pe_int (fun _ _ => rfl))) pe_non) pa_nil)))) pa_nil)))))))), ?_⟩
    obtain ⟨p, x, y, z, rfl, hp, hx, hy, hz⟩ := ht.tup3
    cases hx.intE
    cases hy.intE
    cases hz.oiE
    walk_at "w"
    refine ⟨_, sd, rfl, ht, fun H1 r1 s1 t1 => ?_⟩
    walk_at "w"
    refine ⟨_, _, R, _, _, rfl, hv.same s1, t1, hst, fun H2 o s2 t2 => ?_⟩
    obtain ⟨pp, xa, xb, rfl, hpp, ta, tb⟩ := t2.tup2
    cases ta.blE
    walk_at "w"
    generalize es : stepF R sd.rest (n - sd.last) = sf at tb
    obtain ⟨c, rs⟩ := sf
    obtain ⟨pr, ys, rfl, hpr, eys⟩ := rst0 tb
    have hd0 : ys[0]? = some (.int rs.st) := by rw [eys]; rfl
    have a0 : atI ys 0 = some (.int rs.st) := atI_nat (j := 0) hd0
    cases c with
    | true =>
      have eh : hearF R sd n = (true, ⟨rs.st, n, none⟩) := by unfold hearF; rw [es]
      rw [eh] at k
      have s12 := s1.trans s2
      walk_at "w"
      refine ⟨_, _, _, _, rfl, rfl, .of hpr, a0, ?_⟩
      walk_at "w"
      exact k _ _ ((s12.upd (by assumption)).upd (by assumption)) (.of2 upd_same (.bl _) ((Td.of3 upd_same (.int _) (.int _) .non).up (by assumption)))
    | false =>
      have eh : hearF R sd n = (false, ⟨rs.st, sd.last, rs.gap.map fun g => sd.last + g⟩) := by unfold hearF; rw [es]
      rw [eh] at k
      have s12 := s1.trans s2
      cases eg : rs.gap with
      | none =>
        rw [eg] at eys k
        subst eys
        walk_at "w"
        exact k _ _ ((s12.upd (by assumption)).upd (by assumption)) (.of2 upd_same (.bl _) ((Td.of3 upd_same (.int _) (.int _) .non).up (by assumption)))
      | some g =>
        rw [eg] at eys k
        subst eys
        walk_at "w"
        exact k _ _ ((s12.upd (by assumption)).upd (by assumption)) (.of2 upd_same (.bl _) ((Td.of3 upd_same (.int _) (.int _) (.int _)).up (by assumption)))
/-! ### beginning, walked, answers -/
def sd0 (last : Int) : Sd := ⟨0, last, none⟩
def sp_beginning : Sp := fun vs H Q _ => ∃ n : Int, vs = [.int n] ∧ ∀ (H' : Hp) (o : V), Same H H' → Td H' o (sd0 n).d → Q o H'
theorem ok_beginning (D : Df K mg "beginning" s_beginning) (G : Gx K mg) : Cal P w K mg base CX0 1 "beginning" sp_beginning := by
  refine cal0 D sc_beginning (fun _ _ _ _ _ _ us hl => match us, hl with | [_], _ => rfl) (fun vs H Q E h => ?_) (fun f cdv A outer s H vs Q E hr h => ?_)
  · obtain ⟨_, rfl, _⟩ := h
    rfl
  · obtain ⟨n, rfl, k⟩ := h
    refine ⟨_, (pss_one (ps_ret (pe_tup (pa_cons pe_int (pa_cons (pv 0) (pa_cons pe_non pa_nil)))))), ?_⟩
    walk_at "w"
    exact k _ _ (.new hq) (.of3 upd_same (.int _) (.int _) .non)
end
end K8
set_option maxHeartbeats 4000000
namespace K8
open PySem PySem.Spec PyProof.Rows L2
set_option hygiene false in
local macro_rules | `(tactic| walk_at "w") => `(tactic| (repeat (first | refine ⟨_, rfl, ?_⟩ | refine ⟨_, _, rfl, rfl, ?_⟩ | refine ⟨rfl, ?_⟩ | refine ⟨_, _, rfl, ?_⟩ | refine ⟨_, _, rfl, .of upd_same, rfl, ?_⟩ | refine ⟨_, _, rfl, .of (by assumption), rfl, ?_⟩ | refine ⟨_, _, rfl, .of (by assumption), ?_⟩ | refine ⟨_, _, rfl, .inr (.of (by assumption)), ?_⟩ | refine ⟨_, _, rfl, .inl (.of (by assumption)), ?_⟩ | refine ⟨_, _, _, _, rfl, rfl, .of (by assumption), atI_nat (j := 0) rfl, ?_⟩ | refine ⟨_, _, _, _, rfl, rfl, .of (by assumption), atI_nat (j := 1) rfl, ?_⟩ | refine ⟨_, _, _, _, rfl, rfl, .of (by assumption), atI_nat (j := 2) rfl, ?_⟩ | refine ⟨fun z => absurd z.1 (show ¬ (1 : Nat) = 0 by decide), fun _ q hq => ?_⟩ | refine ⟨fun z => absurd z.1 (show ¬ (2 : Nat) = 0 by decide), fun _ q hq => ?_⟩ | refine ⟨sz1, fun q hq => ?_⟩ | refine ⟨sz2, fun q hq => ?_⟩ | refine ⟨sz3, fun q hq => ?_⟩ | refine ⟨sz0, fun q hq => ?_⟩ | refine ⟨_, _, _, rfl, rfl, (by assumption), (by assumption), ?_⟩ | refine ⟨.inl ⟨rfl, _, .of (by assumption)⟩, ?_⟩ | refine ⟨_, _, rfl, .inl ⟨.of (by assumption), fun q hq => ?_⟩⟩ | refine iteT ?_ | refine iteF ?_)))
section
variable {P : Program} {w : World} {K : PySem.W.Frag} {mg : Str → Option Value} {base : Heap}
/-! ### walked, answers -/
/-- hearing one behind another -/
def walkF (R : Rec) : Sd → List Int → List Bool × Sd
  | s, [] => ([], s)
  | s, n :: ns => ((hearF R s n).1 :: (walkF R (hearF R s n).2 ns).1, (walkF R (hearF R s n).2 ns).2)
theorem walkF_snoc (R : Rec) (n : Int) : ∀ (l : List Int) (s : Sd), walkF R s (l ++ [n]) = ((walkF R s l).1 ++ [(hearF R (walkF R s l).2 n).1], (hearF R (walkF R s l).2 n).2)
  | [], s => rfl
  | m :: l, s => by
    show ((hearF R s m).1 :: (walkF R (hearF R s m).2 (l ++ [n])).1, (walkF R (hearF R s m).2 (l ++ [n])).2) = _
    rw [walkF_snoc R n l]
    rfl
theorem walkF_len (R : Rec) : ∀ (l : List Int) (s : Sd), (walkF R s l).1.length = l.length
  | [], _ => rfl
  | n :: l, s => by show (walkF R (hearF R s n).2 l).1.length + 1 = _; rw [walkF_len R l]; rfl
theorem stepF_st {R : Rec} (ok : RecOk R) {rs : Rst} {step : Int} (h : rs.st < R.length) : (stepF R rs step).2.st < R.length := by
  unfold stepF
  cases e : (rowsOf R rs).find? fun r => r.so rs step with
  | none => exact h
  | some r =>
    have hm := List.mem_of_find?_eq_some e
    have hs : rowsOf R rs ∈ R := by
      unfold rowsOf
      simp [List.getD, h]
    have hn := ((ok.rows _ hs).2 _ hm).next
    cases ed : r.deed <;> simpa [ed] using hn
theorem hearF_st {R : Rec} (ok : RecOk R) {s : Sd} {n : Int} (h : s.st < R.length) : (hearF R s n).2.st < R.length := by
  have := stepF_st ok (rs := s.rest) (step := n - s.last) h
  unfold hearF
  cases e : stepF R s.rest (n - s.last) with
  | mk c rs =>
    rw [e] at this
    cases c <;> exact this
theorem walkF_st {R : Rec} (ok : RecOk R) : ∀ (l : List Int) (s : Sd), s.st < R.length → (walkF R s l).2.st < R.length
  | [], _, h => h
  | n :: l, s, h => walkF_st ok l _ (hearF_st ok h)
theorem TupK.upd {H H' : Hp} {p : Addr} {o : HO} (s : TupK H H') (h : H' p = none) : TupK H (L2.upd H' p o) := s.new h
/-- data of a list of V -/
structure Tds (H : Hp) (xs : List V) (ds : List PyData) : Prop where
  len : xs.length = ds.length
  all : ∀ (i : Nat) (x : V) (d : PyData), xs[i]? = some x → ds[i]? = some d → Td H x d
theorem Tds.mono {H H' : Hp} {xs : List V} {ds : List PyData} (k : TupK H H') (h : Tds H xs ds) : Tds H' xs ds := ⟨h.len, fun i x d a b => (h.all i x d a b).mono k⟩
theorem Tds.nil {H : Hp} : Tds H [] [] := ⟨rfl, fun i x d a b => by simp at a⟩
theorem Tds.snoc {H : Hp} {xs : List V} {ds : List PyData} {x : V} {d : PyData} (h : Tds H xs ds) (hx : Td H x d) : Tds H (xs ++ [x]) (ds ++ [d]) := ⟨by simp [h.len], fun i y e a b => by
  by_cases lt : i < xs.length
  · rw [List.getElem?_append_left lt] at a
    rw [List.getElem?_append_left (h.len ▸ lt)] at b
    exact h.all i y e a b
  · have e1 : i = xs.length := by
      have := (List.getElem?_eq_some_iff.mp a).1
      simp at this
      omega
    subst e1
    rw [List.getElem?_append_right (Nat.le_refl _)] at a
    rw [List.getElem?_append_right (by have := h.len; omega)] at b
    simp [h.len] at a b
    rw [← a, ← b]
    exact hx⟩
theorem Tds.tup {H : Hp} {p : Addr} {xs : List V} {ds : List PyData} (h : Tds H xs ds) (hp : H p = some (.tup xs)) : Td H (.ref p) (.tuple ds) := .tup hp h.len h.all
theorem Td.tds {H : Hp} {v : V} {ds : List PyData} (h : Td H v (.tuple ds)) : ∃ p xs, v = .ref p ∧ H p = some (.tup xs) ∧ Tds H xs ds := by
  obtain ⟨p, xs, e, hp, n, all⟩ := h.tupE
  exact ⟨p, xs, e, hp, n, all⟩
theorem Tds.ints {H : Hp} : ∀ {xs : List V} {ns : List Int}, Tds H xs (ns.map .int) → xs = ns.map .int
  | [], [], _ => rfl
  | [], n :: ns, h => nomatch h.len
  | x :: xs, [], h => nomatch h.len
  | x :: xs, n :: ns, h => by
    have hx := (h.all 0 x (.int n) rfl rfl).intE
    have ht : Tds H xs (ns.map .int) := ⟨by have := h.len; simpa using this, fun i y e a b => h.all (i + 1) y e (by simpa using a) (by simpa using b)⟩
    rw [hx, ht.ints]
    rfl
theorem Tds.bools {H : Hp} : ∀ {xs : List V} {ns : List Bool}, Tds H xs (ns.map .bool) → xs = ns.map .bl
  | [], [], _ => rfl
  | [], n :: ns, h => nomatch h.len
  | x :: xs, [], h => nomatch h.len
  | x :: xs, n :: ns, h => by
    have hx := (h.all 0 x (.bool n) rfl rfl).blE
    have ht : Tds H xs (ns.map .bool) := ⟨by have := h.len; simpa using this, fun i y e a b => h.all (i + 1) y e (by simpa using a) (by simpa using b)⟩
    rw [hx, ht.bools]
    rfl
theorem Tds.ofInts {H : Hp} (ns : List Int) : Tds H (ns.map V.int) (ns.map .int) := ⟨by simp, fun i x d a b => by
  rw [List.getElem?_map] at a b
  cases e : ns[i]? with
  | none => rw [e] at a; cases a
  | some n => rw [e] at a b; cases a; cases b; exact .int n⟩
theorem Tds.ofBools {H : Hp} (ns : List Bool) : Tds H (ns.map V.bl) (ns.map .bool) := ⟨by simp, fun i x d a b => by
  rw [List.getElem?_map] at a b
  cases e : ns[i]? with
  | none => rw [e] at a; cases a
  | some n => rw [e] at a b; cases a; cases b; exact .bl n⟩
def sp_walked : Sp := fun vs H Q _ => ∃ (v t : V) (R : Rec) (ns : List Int) (n : Int), vs = [v, t, .int n] ∧ Td H v (recD R) ∧ RecOk R ∧ Td H t (.tuple (ns.map .int)) ∧ ns.length ≤ 1000 ∧
  ∀ (H' : Hp) (o : V), Same H H' → Td H' o (.tuple [.tuple ((walkF R (sd0 n) ns).1.map .bool), (walkF R (sd0 n) ns).2.d]) → Q o H'
theorem take_snoc {α : Type} {l : List α} {i : Nat} {a : α} (h : l[i]? = some a) : l.take (i + 1) = l.take i ++ [a] := by
  rw [List.take_add_one, h]; rfl
theorem ok_walked (D : Df K mg "walked" s_walked) (G : Gx K mg) (c_beginning : Cal P w K mg base CX0 1 "beginning" sp_beginning) (c_hear : Cal P w K mg base CX0 4 "hear" sp_hear) : Cal P w K mg base CX0 5 "walked" sp_walked := by
  refine cal0 D sc_walked (fun _ _ _ _ _ _ us hl => match us, hl with | [_, _, _], _ => rfl) (fun vs H Q E h => ?_) (fun f cdv A outer s H vs Q E hr h => ?_)
  · obtain ⟨_, _, _, _, _, rfl, _⟩ := h
    rfl
  · obtain ⟨v, t, R, ns, n, rfl, hv, ok, ht, hl, k⟩ := h
    refine ⟨_, (pss_cons (ps_set (i := 3) sc_walked.nd rfl (Or.inl rfl) (pe_d c_beginning hr (by decide) (by rfl) (pa_cons (pv 2) pa_nil)))
      (pss_cons (ps_set (i := 4) sc_walked.nd rfl (Or.inl rfl) (pe_lst pa_nil))
      (pss_cons (ps_for PassesOwn.never rfl (pi_tup (pv 1)) (pg_name (i := 5) sc_walked.nd rfl (Or.inl rfl)) (pss_cons (ps_asg (pe_d c_hear hr (by decide) (by rfl) (pa_cons (pv 0) (pa_cons (pv 3) (pa_cons (pv 5) pa_nil)))) (pg_tup (n := 2) rfl (pgs_cons (pg_name (i := 6) sc_walked.nd rfl (Or.inl rfl)) (pgs_cons (pg_name (i := 3) sc_walked.nd rfl (Or.inl rfl)) pgs_nil))))
      (pss_one (ps_expr (pe_bm PySem.F.plainAttrs_list PySem.F.slot_list_append PySem.F.type_list_append mt_append (pv 4) (pa_cons (pv 6) pa_nil))))))
      (pss_one (ps_ret (pe_tup (pa_cons (pe_callTy call_tuple_of (by rfl) G.tuple (by decide +kernel) (pa_cons (pv 4) pa_nil)) (pa_cons (pv 3) pa_nil)))))))), ?_⟩
    obtain ⟨p, xs, rfl, hp, tx⟩ := ht.tds
    cases tx.ints
    walk_at "w"
    intro H1 o s1 t1
    walk_at "w"
    have s2 : Same H (L2.upd H1 q (.lst [])) := s1.upd hq
    refine ⟨⟨_, .of (s2 _ _ hp)⟩, ?_⟩
    refine for_tup (xs := ns.map V.int) (fun i σ H' => TupK (L2.upd H1 q (.lst [])) H' ∧ Same H H' ∧ (∃ st a b, σ = [some v, some (.ref p), some (.int n), some st, some (.ref q), a, b] ∧ Td H' st (walkF R (sd0 n) (ns.take i)).2.d) ∧ H' q = some (.lst ((walkF R (sd0 n) (ns.take i)).1.map V.bl))) ?_ ?_ ?_ ?_
    · exact ⟨.refl _, s2, ⟨_, _, _, rfl, t1.up hq⟩, upd_same⟩
    · rintro i σ H' hi ⟨_, sm, _⟩
      exact .of (sm _ _ hp)
    · rintro i x σ H' hx ⟨tk, sm, ⟨st, a, b, rfl, tst⟩, hl'⟩
      rw [List.getElem?_map] at hx
      obtain ⟨m, hm, rfl⟩ := Option.map_eq_some_iff.mp hx
      have hst := walkF_st ok (ns.take i) (sd0 n) ok.pos
      have hw := walkF_snoc R m (ns.take i) (sd0 n)
      rw [← take_snoc hm] at hw
      have hlen : ((walkF R (sd0 n) (ns.take i)).1.map V.bl).length < sizeLine := by
        rw [List.length_map, walkF_len, List.length_take]
        exact small1000 (by omega)
      generalize walkF R (sd0 n) (ns.take i) = cur at *
      walk_at "w"
      refine ⟨_, _, R, cur.2, m, rfl, hv.same sm, tst, hst, fun H2 o2 s3 t2 => ?_⟩
      obtain ⟨pp, xa, xb, rfl, hpp, ta, tb⟩ := t2.tup2
      cases ta.blE
      have sm3 := sm.trans s3
      have hl2 := s3 _ _ hl'
      have hq0 := s1.free hq
      walk_at "w"
      have own : ∀ o, TupK H2 (L2.upd H2 q o) := fun o => TupK.own (.refl _) hl2 (fun _ z => by cases z)
      refine ⟨(tk.trans s3.tupK).trans (own _), sm3.own hq0, ⟨_, _, _, rfl, ?_⟩, ?_⟩
      · rw [hw]
        exact tb.mono (own _)
      · rw [hw, upd_same]
        simp
    · rintro σ H' ⟨tk, sm, ⟨st, a, b, rfl, tst⟩, hl'⟩
      rw [List.length_map, List.take_length] at *
      walk_at "w"
      exact k _ _ ((sm.upd (by assumption)).upd (by assumption)) (.of2 upd_same (((Tds.ofBools _).tup upd_same).up (by assumption)) ((tst.up (by assumption)).up (by assumption)))
end
/-! ### answers: a keyword-only parameter -/
section
variable (P : Program) (w : World) (K : PySem.W.Frag) (mg : Str → Option Value) (base : Heap)
def CalK (CX : CXT) (k : Nat) (x : Str) (n : Nat) (ks : List Str) (sp : Sp) : Prop := ∃ f fd ps, FnOk P w K mg base CX k f fd ps sp ∧ mg x = some (.ref f) ∧ PySem.W.keepIn K (.ref f) = true ∧ KBn K fd ps n ks (fun us ws => us ++ ws) fun vs zs => vs ++ zs
end
section
variable {P : Program} {w : World} {K : PySem.W.Frag} {mg : Str → Option Value} {base : Heap}
/-- what binds with keywords written -/
abbrev BindK (x qual : Str) (st : Stmt) (ps : List Str) (n : Nat) (ks : List Str) : Prop := ∀ (kV doc pm : Value) (an : Option Addr) (cdv ct : Value) (us ws : List Value), us.length = n → ws.length = ks.length → bindArgs (PySem.W.fnOf x qual (defArgs st) (defBody st) (defScope st) .none kV doc pm an cdv ct) ⟨us, ks.zip ws⟩ = pure (ps.zip (us ++ ws))
theorem calK0 {x : Str} {st : Stmt} {N ps : List Str} {k n : Nat} {ks : List Str} {sp : Sp} (D : Df K mg x st) (S : FnScope N ps (defScope st)) (b : BindK x x st ps n ks) (len : ∀ vs H Q E, sp vs H Q E → vs.length = ps.length)
    (hbody : ∀ (f : Addr) (cdv : Value) (A : Around) (outer : List Env) (s : Shared) (H : Hp) (vs : List V) (Q : VK) (E : XK), Room k (A.deeper (envOfC x (defScope st) s.heap.objs.size f cdv)) → sp vs H Q E →
      ∃ t, PSs (cxOf CX0 P w K mg base N x (defScope st) f cdv A outer s H E).nox (defBody st) t ∧ t { nx := fun _ H' => Q .non H', rt := Q } (start N vs) H) : CalK P w K mg base CX0 (k + 1) x n ks sp := by
  obtain ⟨f, fd, F, hm⟩ := D
  refine ⟨f, fd, ps, F.ok S len (hbody f), hm, F.kp, ⟨fun s us ws X l1 l2 => ?_, fun r1 r2 => r1.append r2⟩⟩
  obtain ⟨oc, od, kV, doc, pm, an, cdv, ct, osl, rfl, lk, hcd⟩ := F.ex
  exact .of_eq (b kV doc pm an cdv ct us ws l1 l2)
theorem pe_dK {X : Cx} {k j n : Nat} {x : Str} {ks : List Str} {sp : Sp} {p pos : Pos} {e : Expr} {es : List Expr} {kws : List Keyword} {t tk : TA} (c : CalK X.prog X.w X.K X.mg X.base CX0 k x n ks sp) (hr : Room j X.A) (hk : k ≤ j) (hg : Gl X x) (ha : PA X (e :: es) t) (hkw : PK X kws tk)
    (hall : (backToKw pos (keywordEach kws X.env)).all (·.1.isSome) = true := by rfl) (hks : (backToKw pos (keywordEach kws X.env)).filterMap (·.1) = ks := by rfl)
    (hdb : (x == ("__debug__" : Str)) = false := by decide) (he : starEach (e :: es) X.env = (false, eval e X.env) :: starEach es X.env := by rfl)
    (hpl : ((backTo pos (starEach (e :: es) X.env)).any (·.1) || (backToKw pos (keywordEach kws X.env)).any (·.1.isNone)) = false := by rfl) :
    PE X (.Call (.Name x p) (e :: es) kws pos) (tCallN n ks.length sp (fun vs zs => vs ++ zs) E0 t tk) := by
  obtain ⟨f, fd, ps, F, hm, kp, b⟩ := c
  exact pe_callN F (hr.mono hk) hg hm kp b pass0 ha hkw hall hks hdb he hpl
def sp_answers : Sp := fun vs H Q _ => ∃ (v t : V) (R : Rec) (ns : List Int) (n : Int), vs = [v, t, .int n] ∧ Td H v (recD R) ∧ RecOk R ∧ Td H t (.tuple (ns.map .int)) ∧ ns.length ≤ 1000 ∧
  ∀ (H' : Hp) (o : V), Same H H' → Td H' o (.tuple ((walkF R (sd0 n) ns).1.map .bool)) → Q o H'
theorem ok_answers (D : Df K mg "answers" s_answers) (G : Gx K mg) (c_walked : Cal P w K mg base CX0 5 "walked" sp_walked) : CalK P w K mg base CX0 6 "answers" 2 ["last"] sp_answers := by
  refine calK0 D sc_answers (fun _ _ _ _ _ _ us ws h1 h2 => match us, ws, h1, h2 with | [_, _], [_], _, _ => rfl) (fun vs H Q E h => ?_) (fun f cdv A outer s H vs Q E hr h => ?_)
  · obtain ⟨_, _, _, _, _, rfl, _⟩ := h
    rfl
  · obtain ⟨v, t, R, ns, n, rfl, hv, ok, ht, hl, k⟩ := h
    refine ⟨_, (pss_one (ps_ret (pe_ix ix_tup (pe_d c_walked hr (by decide) (by rfl) (pa_cons (pv 0) (pa_cons (pv 1) (pa_cons (pv 2) pa_nil)))) pe_int (fun _ _ => rfl)))), ?_⟩
    walk_at "w"
    refine ⟨_, _, R, _, _, rfl, hv, ok, ht, hl, fun H1 o s1 t1 => ?_⟩
    obtain ⟨p, x, y, rfl, hp, tx, ty⟩ := t1.tup2
    walk_at "w"
    exact k _ _ s1 tx
end
end K8
set_option maxHeartbeats 4000000
namespace K8
open PySem PySem.Spec PyProof.Rows L2
set_option hygiene false in
local macro_rules | `(tactic| walk_at "w") => `(tactic| (repeat (first | refine ⟨_, rfl, ?_⟩ | refine ⟨_, _, rfl, rfl, ?_⟩ | refine ⟨rfl, ?_⟩ | refine ⟨_, _, rfl, ?_⟩ | refine ⟨_, _, rfl, .of upd_same, rfl, ?_⟩ | refine ⟨_, _, rfl, .of (by assumption), rfl, ?_⟩ | refine ⟨_, _, rfl, .of (by assumption), ?_⟩ | refine ⟨_, _, rfl, .inr (.of (by assumption)), ?_⟩ | refine ⟨_, _, rfl, .inl (.of (by assumption)), ?_⟩ | refine ⟨_, _, _, _, rfl, rfl, .of (by assumption), atI_nat (j := 0) rfl, ?_⟩ | refine ⟨_, _, _, _, rfl, rfl, .of (by assumption), atI_nat (j := 1) rfl, ?_⟩ | refine ⟨_, _, _, _, rfl, rfl, .of (by assumption), atI_nat (j := 2) rfl, ?_⟩ | refine ⟨fun z => absurd z.1 (show ¬ (1 : Nat) = 0 by decide), fun _ q hq => ?_⟩ | refine ⟨fun z => absurd z.1 (show ¬ (2 : Nat) = 0 by decide), fun _ q hq => ?_⟩ | refine ⟨sz1, fun q hq => ?_⟩ | refine ⟨sz2, fun q hq => ?_⟩ | refine ⟨sz3, fun q hq => ?_⟩ | refine ⟨sz0, fun q hq => ?_⟩ | refine ⟨_, _, _, rfl, rfl, (by assumption), (by assumption), ?_⟩ | refine ⟨.inl ⟨rfl, _, .of (by assumption)⟩, ?_⟩ | refine ⟨_, _, rfl, .inl ⟨.of (by assumption), fun q hq => ?_⟩⟩ | refine iteT ?_ | refine iteF ?_)))
section
variable {P : Program} {w : World} {K : PySem.W.Frag} {mg : Str → Option Value} {base : Heap}
/-! ### place_of -/
def sp_place_of : Sp := fun vs H Q _ => ∃ (a : Addr) (xs : List V) (t : V) (ds : List PyData) (d : PyData), vs = [.ref a, t] ∧ H a = some (.lst xs) ∧ Tds H xs ds ∧ Td H t d ∧ (∀ e ∈ ds, SeqAt.shaped e = true) ∧ SeqAt.shaped d = true ∧
  ∀ H' : Hp, Same H H' → Q (onV (ds.findIdx? fun e => PyData.eqv e d)) H'
theorem ok_place_of (D : Df K mg "place_of" s_place_of) (G : Gx K mg) : Cal P w K mg base CX0 1 "place_of" sp_place_of := by
  refine cal0 D sc_place_of (fun _ _ _ _ _ _ us hl => match us, hl with | [_, _], _ => rfl) (fun vs H Q E h => ?_) (fun f cdv A outer s H vs Q E hr h => ?_)
  · obtain ⟨_, _, _, _, _, rfl, _⟩ := h
    rfl
  · obtain ⟨a, xs, t, ds, d, rfl, ha, tx, ht, sh, shd, k⟩ := h
    refine ⟨_, (pss_cons (ps_for PassesOwn.never rfl (pi_enum (by rfl) G.enumerate (pa_cons (pv 0) pa_nil)) (pg_tup (n := 2) rfl (pgs_cons (pg_name (i := 2) sc_place_of.nd rfl (Or.inl rfl)) (pgs_cons (pg_name (i := 3) sc_place_of.nd rfl (Or.inl rfl)) pgs_nil))) (pss_one (ps_if (pt_cmpR (op_eqD hr.units) (pv 3) (pv 1) (nomark _)) (pss_one (ps_ret (pv 2))) pss_nil)))
      (pss_one (ps_ret pe_non))), ?_⟩
    walk_at "w"
    refine for_it (walk_enum (xs := xs)) (fun i σ H' => Same H H' ∧ (∃ b c, σ = [some (.ref a), some t, b, c]) ∧ ∀ j e, j < i → ds[j]? = some e → PyData.eqv e d = false) ?_ ?_ ?_ ?_
    · exact ⟨.refl _, ⟨_, _, rfl⟩, fun j _ h => absurd h (Nat.not_lt_zero j)⟩
    · rintro i σ H' hi ⟨sm, _⟩
      exact .of (sm _ _ ha)
    · rintro i x σ H' H2 hi ⟨sm, ⟨b, c, rfl⟩, un⟩ ⟨T, x1, x2, rfl, hT, rfl, e1, e2⟩
      cases e1
      have hid : i < ds.length := tx.len ▸ hi
      have hd : ds[i]? = some ds[i] := by simp [hid]
      have he := tx.all i x2 _ e2 hd
      have she := sh _ (List.getElem_mem hid)
      generalize ds[i] = e at hd he she
      have sm2 : Same H (L2.upd H' T (.tup [.int (i : Nat), x2])) := sm.upd hT
      walk_at "w"
      refine ⟨e, d, (he.same sm2).dp, (ht.same sm2).dp, she, shd, ?_⟩
      walk_at "w"
      cases eq : PyData.eqv e d with
      | true =>
        walk_at "w"
        have fi : ds.findIdx? (fun e => PyData.eqv e d) = some i := by
          rw [List.findIdx?_eq_some_iff_getElem]
          refine ⟨hid, ?_, fun j hj => ?_⟩
          · rw [List.getElem?_eq_getElem hid] at hd
            cases hd
            exact eq
          · have := un j _ hj (List.getElem?_eq_getElem (by omega))
            simp [this]
        have k2 := k _ sm2
        rw [fi] at k2
        exact k2
      | false =>
        walk_at "w"
        refine ⟨sm2, ⟨_, _, rfl⟩, fun j e' hj hr => ?_⟩
        rcases Nat.lt_succ_iff_lt_or_eq.mp hj with lt | rfl
        · exact un j e' lt hr
        · rw [hd] at hr; cases hr; exact eq
    · rintro σ H' ⟨sm, ⟨b, c, rfl⟩, un⟩
      have fi : ds.findIdx? (fun e => PyData.eqv e d) = none := by
        rw [List.findIdx?_eq_none_iff]
        intro e hm
        obtain ⟨j, hj, rfl⟩ := List.mem_iff_getElem.mp hm
        exact un j _ (tx.len ▸ hj) (List.getElem?_eq_getElem hj)
      have k2 := k _ sm
      rw [fi] at k2
      exact k2
end
end K8
set_option maxHeartbeats 4000000
namespace K8
/-! ### lists without doubles -/
theorem nodup_len {α : Type} [DecidableEq α] : ∀ {xs ys : List α}, xs.Nodup → (∀ x ∈ xs, x ∈ ys) → xs.length ≤ ys.length
  | [], _, _, _ => Nat.zero_le _
  | x :: xs, ys, nd, sub => by
    have hx : x ∈ ys := sub x List.mem_cons_self
    have h1 : xs.length ≤ (ys.erase x).length := nodup_len (List.nodup_cons.mp nd).2 fun y hy => by
      have hne : y ≠ x := fun e => (List.nodup_cons.mp nd).1 (e ▸ hy)
      exact (List.mem_erase_of_ne hne).mpr (sub y (List.mem_cons_of_mem _ hy))
    rw [List.length_erase_of_mem hx] at h1
    have : 0 < ys.length := List.length_pos_of_mem hx
    show xs.length + 1 ≤ _
    omega
theorem nodup_snoc {α : Type} {xs : List α} {x : α} (nd : xs.Nodup) (h : x ∉ xs) : (xs ++ [x]).Nodup := by
  rw [List.nodup_append]
  exact ⟨nd, by simp, fun a ha b hb e => by simp at hb; subst hb; subst e; exact h ha⟩
/-! ### rests -/
def stN (i : Nat) : Int := -13 + (i : Int)
structure RstOk (n : Nat) (r : Rst) : Prop where
  st : r.st < n
  gap : ∀ g, r.gap = some g → -13 ≤ g ∧ g ≤ 13
def rstU : List Rst := (List.range 4).flatMap fun s => ⟨s, none⟩ :: (List.range 27).map fun i => ⟨s, some (stN i)⟩
theorem rstU_mem {n : Nat} {r : Rst} (hn : n ≤ 4) (h : RstOk n r) : r ∈ rstU := by
  obtain ⟨s, g⟩ := r
  have hs := h.st
  refine List.mem_flatMap.mpr ⟨s, List.mem_range.mpr (by simp at hs; omega), ?_⟩
  cases g with
  | none => exact List.mem_cons_self
  | some g =>
    obtain ⟨g1, g2⟩ := h.gap g rfl
    refine List.mem_cons_of_mem _ (List.mem_map.mpr ⟨(g + 13).toNat, List.mem_range.mpr (by omega), ?_⟩)
    unfold stN
    have : -13 + ((g + 13).toNat : Int) = g := by omega
    rw [this]
theorem rstU_len : rstU.length = 112 := by decide +kernel
theorem rests_len {n : Nat} {rs : List Rst} (hn : n ≤ 4) (nd : rs.Nodup) (ok : ∀ r ∈ rs, RstOk n r) : rs.length ≤ 112 := by
  have := nodup_len (ys := rstU) nd fun r hr => rstU_mem hn (ok r hr)
  rwa [rstU_len] at this
theorem stepF_ok {R : Rec} (ok : RecOk R) {rs : Rst} {step : Int} (h : RstOk R.length rs) (h1 : -13 ≤ step) (h2 : step ≤ 13) : RstOk R.length (stepF R rs step).2 := by
  refine ⟨stepF_st ok h.st, ?_⟩
  unfold stepF
  cases e : (rowsOf R rs).find? fun r => r.so rs step with
  | none => exact h.gap
  | some r =>
    cases ed : r.deed with
    | take => simp [ed]
    | keep => simp [ed]; omega
    | leave => simpa [ed] using h.gap
    | drop => simp [ed]
/-- equal as the program compares them -/
theorem rst_eqv {a b : Rst} : PySem.PyData.eqv a.d b.d = decide (a = b) := by
  obtain ⟨s, g⟩ := a
  obtain ⟨t, k⟩ := b
  rw [Bool.eq_iff_iff, decide_eq_true_iff]
  cases g <;> cases k <;> simp [Rst.d, PySem.PyData.eqv, PySem.PyData.eqvAll]
  · omega
  · intro _
    omega
theorem rst_shaped (a : Rst) : PySem.SeqAt.shaped a.d = true := by
  obtain ⟨s, g⟩ := a
  cases g <;> rfl
theorem canLayAll {ds : List PySem.PyData} (h : ∀ d ∈ ds, d.canLay0 = true) : PySem.PyData.canLayAll0 ds = true := by
  induction ds with
  | nil => rfl
  | cons d ds ih => simp [PySem.PyData.canLayAll0, h d List.mem_cons_self, ih fun e he => h e (List.mem_cons_of_mem _ he)]
theorem depthAll_le {ds : List PySem.PyData} {n : Nat} (h : ∀ d ∈ ds, d.depth ≤ n) : PySem.PyData.depthAll ds ≤ n := by
  induction ds with
  | nil => exact Nat.zero_le _
  | cons d ds ih => exact Nat.max_le.mpr ⟨h d List.mem_cons_self, ih fun e he => h e (List.mem_cons_of_mem _ he)⟩
/-- flat data: no text that cannot lie, at most so deep -/
structure Fl (n : Nat) (d : PySem.PyData) : Prop where
  lay : d.canLay0 = true
  dep : d.depth ≤ n
theorem Fl.mono {m n : Nat} {d : PySem.PyData} (h : Fl m d) (l : m ≤ n) : Fl n d := ⟨h.lay, Nat.le_trans h.dep l⟩
theorem Fl.shaped {n : Nat} {d : PySem.PyData} (h : Fl n d) (l : n ≤ 64) : PySem.SeqAt.shaped d = true := by
  unfold PySem.SeqAt.shaped
  rw [h.lay, decide_eq_true (Nat.le_trans h.dep l)]
  rfl
theorem Fl.lst {n : Nat} {ds : List PySem.PyData} (h : ∀ d ∈ ds, Fl n d) : Fl (n + 1) (.list ds) := ⟨canLayAll fun d hd => (h d hd).lay, Nat.succ_le_succ (depthAll_le fun d hd => (h d hd).dep)⟩
theorem Fl.tup {n : Nat} {ds : List PySem.PyData} (h : ∀ d ∈ ds, Fl n d) : Fl (n + 1) (.tuple ds) := ⟨canLayAll fun d hd => (h d hd).lay, Nat.succ_le_succ (depthAll_le fun d hd => (h d hd).dep)⟩
theorem Fl.int (n : Nat) (i : Int) : Fl n (.int i) := ⟨rfl, Nat.zero_le _⟩
theorem Fl.bool (n : Nat) (i : Bool) : Fl n (.bool i) := ⟨rfl, Nat.zero_le _⟩
theorem Fl.non (n : Nat) : Fl n .none := ⟨rfl, Nat.zero_le _⟩
theorem Fl.tup2 {n : Nat} {a b : PySem.PyData} (ha : Fl n a) (hb : Fl n b) : Fl (n + 1) (.tuple [a, b]) := Fl.tup fun d hd => by
  simp at hd
  rcases hd with rfl | rfl <;> assumption
theorem rst_fl (a : Rst) : Fl 1 a.d := by
  obtain ⟨s, g⟩ := a
  cases g <;> exact ⟨rfl, Nat.le_refl _⟩
end K8
set_option maxHeartbeats 4000000
namespace K8
open PySem PySem.Spec PyProof.Rows L2
set_option hygiene false in
local macro_rules | `(tactic| walk_at "w") => `(tactic| (repeat (first | refine ⟨_, rfl, ?_⟩ | refine ⟨_, _, rfl, rfl, ?_⟩ | refine ⟨rfl, ?_⟩ | refine ⟨_, _, rfl, ?_⟩ | refine ⟨_, _, rfl, .of upd_same, rfl, ?_⟩ | refine ⟨_, _, rfl, .of (by assumption), rfl, ?_⟩ | refine ⟨_, _, rfl, .of (by assumption), ?_⟩ | refine ⟨_, _, rfl, .inr (.of (by assumption)), ?_⟩ | refine ⟨_, _, rfl, .inl (.of (by assumption)), ?_⟩ | refine ⟨_, _, _, _, rfl, rfl, .of (by assumption), atI_nat (j := 0) rfl, ?_⟩ | refine ⟨_, _, _, _, rfl, rfl, .of (by assumption), atI_nat (j := 1) rfl, ?_⟩ | refine ⟨_, _, _, _, rfl, rfl, .of (by assumption), atI_nat (j := 2) rfl, ?_⟩ | refine ⟨fun z => absurd z.1 (show ¬ (1 : Nat) = 0 by decide), fun _ q hq => ?_⟩ | refine ⟨fun z => absurd z.1 (show ¬ (2 : Nat) = 0 by decide), fun _ q hq => ?_⟩ | refine ⟨sz1, fun q hq => ?_⟩ | refine ⟨sz2, fun q hq => ?_⟩ | refine ⟨sz3, fun q hq => ?_⟩ | refine ⟨sz0, fun q hq => ?_⟩ | refine ⟨_, _, _, rfl, rfl, (by assumption), (by assumption), ?_⟩ | refine ⟨.inl ⟨rfl, _, .of (by assumption)⟩, ?_⟩ | refine ⟨_, _, rfl, .inl ⟨.of (by assumption), fun q hq => ?_⟩⟩ | refine iteT ?_ | refine iteF ?_)))
section
variable {P : Program} {w : World} {K : PySem.W.Frag} {mg : Str → Option Value} {base : Heap}
/-! ### rests_met -/
theorem u65 {k : Nat} {A : Around} (r : Room k A) : A.units + 65 < cLine := by have := r.un; omega
theorem stV_at {i : Nat} {x : V} (h : stV[i]? = some x) : i < 27 ∧ x = .int (stN i) := by
  unfold stV rgV at h
  rw [List.getElem?_map] at h
  obtain ⟨m, hm, rfl⟩ := Option.map_eq_some_iff.mp h
  obtain ⟨h1, h2⟩ := List.getElem?_eq_some_iff.mp hm
  simp at h1 h2
  subst h2
  exact ⟨h1, rfl⟩
theorem stV_len : stV.length = 27 := by decide +kernel
theorem Tds.same {H H' : Hp} {xs : List V} {ds : List PyData} (k : Same H H') (h : Tds H xs ds) : Tds H' xs ds := h.mono k.tupK
theorem Tds.dp {H : Hp} {xs : List V} {ds : List PyData} (h : Tds H xs ds) : DpAll K H xs ds := dpAll_of h.len fun i x d a b => (h.all i x d a b).dp
theorem Tds.dpl {H : Hp} {xs : List V} {ds : List PyData} {p : Addr} (h : Tds H xs ds) (hp : H p = some (.lst xs)) : Dp K H (.ref p) (.list ds) := .lst (.of hp) h.dp
theorem rst_any {rs : List Rst} {r : Rst} : ((rs.map Rst.d).any fun z => PyData.eqv z r.d) = decide (r ∈ rs) := by
  rw [List.any_map, Bool.eq_iff_iff, List.any_eq_true, decide_eq_true_iff]
  constructor
  · rintro ⟨a, ha, e⟩
    simp [rst_eqv] at e
    exact e ▸ ha
  · intro h
    exact ⟨r, h, by simp [rst_eqv]⟩
theorem rsts_shaped (rs : List Rst) : SeqAt.shaped (.list (rs.map Rst.d)) = true := (Fl.lst (n := 1) fun d hd => by
  obtain ⟨r, _, rfl⟩ := List.mem_map.mp hd
  exact rst_fl r).shaped (by decide)
structure Met_ (R : Rec) (rs : List Rst) : Prop where
  nd : rs.Nodup
  ok : ∀ r ∈ rs, RstOk R.length r
  z : rs[0]? = some ⟨0, none⟩
/-- the first n rests lead to none but these -/
def Clo (R : Rec) (rs : List Rst) (n : Nat) : Prop := ∀ (j : Nat) (r : Rst) (i : Nat), j < n → rs[j]? = some r → i < 27 → (stepF R r (stN i)).2 ∈ rs
def sp_rests_met : Sp := fun vs H Q _ => ∃ (v : V) (R : Rec), vs = [v] ∧ Td H v (recD R) ∧ RecOk R ∧
  ∀ (H' : Hp) (q : Addr) (xs : List V) (rs : List Rst), Same H H' → H q = none → H' q = some (.lst xs) → Tds H' xs (rs.map Rst.d) → Met_ R rs → Clo R rs rs.length → Q (.ref q) H'
theorem ok_rests_met (D : Df K mg "rests_met" s_rests_met) (G : Gx K mg) (c_all_steps : Cal P w K mg base CX0 1 "all_steps" sp_all_steps) (c_step_from : Cal P w K mg base CX0 3 "step_from" sp_step_from) : Cal P w K mg base CX0 4 "rests_met" sp_rests_met := by
  refine cal0 D sc_rests_met (fun _ _ _ _ _ _ us hl => match us, hl with | [_], _ => rfl) (fun vs H Q E h => ?_) (fun f cdv A outer s H vs Q E hr h => ?_)
  · obtain ⟨_, _, rfl, _⟩ := h
    rfl
  · obtain ⟨v, R, rfl, hv, ok, k⟩ := h
    refine ⟨_, (pss_cons (ps_set (i := 1) sc_rests_met.nd rfl (Or.inl rfl) (pe_lst (pa_cons (pe_tup (pa_cons pe_int pa_nil)) pa_nil)))
      (pss_cons (ps_set (i := 2) sc_rests_met.nd rfl (Or.inl rfl) pe_int)
      (pss_cons (ps_while PassesOwn.never (pt_cmpR op_lt (pv 2) (pe_callB call_len_seq (by rfl) G.len (by decide +kernel) (pa_cons (pv 1) pa_nil)) (nomark _)) (pss_cons (ps_for PassesOwn.never rfl (pi_list (pe_d0 c_all_steps hr (by decide) (by rfl))) (pg_name (i := 3) sc_rests_met.nd rfl (Or.inl rfl)) (pss_cons (ps_set (i := 4) sc_rests_met.nd rfl (Or.inl rfl) (pe_ix ix_tup (pe_d c_step_from hr (by decide) (by rfl) (pa_cons (pv 0) (pa_cons (pe_ix ix_list (pv 1) (pv 2) (fun _ _ => rfl)) (pa_cons (pv 3) pa_nil)))) pe_int (fun _ _ => rfl)))
      (pss_one (ps_if (pt_cmpR (op_notInD (u65 hr)) (pv 4) (pv 1) rfl) (pss_one (ps_expr (pe_bm PySem.F.plainAttrs_list PySem.F.slot_list_append PySem.F.type_list_append mt_append (pv 1) (pa_cons (pv 4) pa_nil)))) pss_nil))))
      (pss_one (ps_aug (i := 2) sc_rests_met.nd rfl (Or.inl rfl) pe_int ip_add))))
      (pss_one (ps_ret (pv 1)))))), ?_⟩
    walk_at "w"
    have hq1 : H q = none := by
      cases hH : H q with
      | none => rfl
      | some o => rw [upd_ne (ne_of_none hH (by assumption))] at hq; rw [hH] at hq; cases hq
    rename_i q0 hq0
    refine ⟨fun m σ H' => Same H H' ∧ ∃ (at_ : Nat) (a b : Option V) (xs : List V) (rs : List Rst), m = 112 - at_ ∧ σ = [some v, some (.ref q), some (.int at_), a, b] ∧ H' q = some (.lst xs) ∧ Tds H' xs (rs.map Rst.d) ∧ Met_ R rs ∧ Clo R rs at_ ∧ at_ ≤ rs.length, ?_, ?_⟩
    · refine ⟨112, (L2.Same.upd (.new hq0) hq), 0, none, none, _, [⟨0, none⟩], rfl, rfl, upd_same, ?_, ⟨by simp, ?_, rfl⟩, ?_, by simp⟩
      · refine ⟨rfl, fun i x d a b => ?_⟩
        match i with
        | 0 => cases a; cases b; exact (Td.of1 upd_same (.int _)).up hq
      · intro r hr
        simp at hr
        subst hr
        exact ⟨ok.pos, fun g z => nomatch z⟩
      · intro j r i hj
        exact absurd hj (Nat.not_lt_zero j)
    · rintro m σ H' ⟨sm, at_, a, b, xs, rs, rfl, rfl, hl, tx, met, clo, hle⟩
      have hlen : xs.length = rs.length := by rw [tx.len, List.length_map]
      have h112 := rests_len ok.le met.nd met.ok
      walk_at "w"
      by_cases lt : at_ < xs.length
      · refine iteDT (by omega) ⟨_, fun _ _ h => h, ?_⟩
        walk_at "w"
        intro L hL
        obtain ⟨r, hr⟩ : ∃ r, rs[at_]? = some r := ⟨_, List.getElem?_eq_getElem (by omega)⟩
        have hne : q ≠ L := ne_of_none hl hL
        have rok := met.ok r (List.mem_of_getElem? hr)
        refine ⟨_, rfl, ⟨_, .of upd_same⟩, ?_⟩
        refine for_list (xs := stV) (fun i σ H2 => Same H H2 ∧ H2 L = some (.lst stV) ∧ ∃ (a b : Option V) (xs : List V) (rs : List Rst), σ = [some v, some (.ref q), some (.int at_), a, b] ∧ H2 q = some (.lst xs) ∧ Tds H2 xs (rs.map Rst.d) ∧ Met_ R rs ∧ Clo R rs at_ ∧ rs[at_]? = some r ∧ ∀ i', i' < i → (stepF R r (stN i')).2 ∈ rs) ?_ ?_ ?_ ?_
        · exact ⟨sm.upd hL, upd_same, _, _, xs, rs, rfl, (upd_ne hne).trans hl, tx.same (.new hL), met, clo, hr, fun i' h => absurd h (Nat.not_lt_zero i')⟩
        · rintro i σ H2 hi ⟨_, h, _⟩
          exact .of h
        · rintro i x σ H2 hx ⟨sm, hL2, a, b, xs, rs, rfl, hl, tx, met, clo, hr, cl⟩
          obtain ⟨hi, rfl⟩ := stV_at hx
          have hlen : xs.length = rs.length := by rw [tx.len, List.length_map]
          have h112 := rests_len ok.le met.nd met.ok
          have hxl : xs.length < sizeLine := small1000 (by omega)
          obtain ⟨y, hy⟩ : ∃ y, xs[at_]? = some y := ⟨_, List.getElem?_eq_getElem (by have := (List.getElem?_eq_some_iff.mp hr).1; omega)⟩
          have ty := tx.all at_ y r.d hy (by rw [List.getElem?_map, hr]; rfl)
          have ay : atI xs (at_ : Int) = some y := atI_nat hy
          walk_at "w"
          refine ⟨_, _, _, _, rfl, rfl, .of hl, ay, ?_⟩
          walk_at "w"
          refine ⟨_, _, R, r, _, rfl, hv.same sm, ty, rok.st, fun H3 o s3 t3 => ?_⟩
          obtain ⟨pp, xa, xb, rfl, hpp, ta, tb⟩ := t3.tup2
          have hl3 := s3 _ _ hl
          have nok := stepF_ok ok rok (step := stN i) (by unfold stN; omega) (by unfold stN; omega)
          generalize es : (stepF R r (stN i)).2 = nr at *
          walk_at "w"
          have sm3 := sm.trans s3
          have tx3 := tx.same s3
          refine ⟨_, _, tb.dp, tx3.dpl hl3, rst_shaped nr, rsts_shaped rs, ?_⟩
          rw [rst_any]
          walk_at "w"
          by_cases hn : nr ∈ rs
          · rw [decide_eq_true hn]
            walk_at "w"
            refine ⟨sm3, s3 _ _ hL2, _, _, xs, rs, rfl, hl3, tx3, met, clo, hr, fun i' hi' => ?_⟩
            rcases Nat.lt_succ_iff_lt_or_eq.mp hi' with lt | rfl
            · exact cl i' lt
            · rw [es]; exact hn
          · rw [decide_eq_false hn]
            walk_at "w"
            have own : ∀ o, TupK H3 (L2.upd H3 q o) := fun o => TupK.own (.refl _) hl3 (fun _ z => by cases z)
            refine ⟨sm3.own hq1, (upd_ne hne.symm).trans (s3 _ _ hL2), _, _, xs ++ [xb], rs ++ [nr], rfl, upd_same, ?_, ⟨nodup_snoc met.nd hn, ?_, ?_⟩, ?_, ?_, ?_⟩
            · rw [List.map_append]
              exact (tx3.mono (own _)).snoc (tb.mono (own _))
            · intro r' hr'
              rcases List.mem_append.mp hr' with h | h
              · exact met.ok r' h
              · simp at h; subst h; exact nok
            · rw [List.getElem?_append_left (List.getElem?_eq_some_iff.mp met.z).1]
              exact met.z
            · intro j r' i' hj hr' hi'
              rw [List.getElem?_append_left (by have := (List.getElem?_eq_some_iff.mp hr).1; omega)] at hr'
              exact List.mem_append_left _ (clo j r' i' hj hr' hi')
            · rw [List.getElem?_append_left (List.getElem?_eq_some_iff.mp hr).1]
              exact hr
            · intro i' hi'
              rcases Nat.lt_succ_iff_lt_or_eq.mp hi' with lt | rfl
              · exact List.mem_append_left _ (cl i' lt)
              · rw [es]; exact List.mem_append_right _ List.mem_cons_self
        · rintro σ H2 ⟨sm, hL2, a, b, xs, rs, rfl, hl, tx, met, clo, hr, cl⟩
          walk_at "w"
          rw [stV_len] at cl
          have h112 := rests_len ok.le met.nd met.ok
          have hlt := (List.getElem?_eq_some_iff.mp hr).1
          refine ⟨112 - (at_ + 1), by omega, sm, at_ + 1, _, _, xs, rs, rfl, rfl, hl, tx, met, ?_, hlt⟩
          intro j r' i' hj hr' hi'
          rcases Nat.lt_succ_iff_lt_or_eq.mp hj with lt | rfl
          · exact clo j r' i' lt hr' hi'
          · rw [hr] at hr'; cases hr'; exact cl i' hi'
      · refine iteDF (by omega) ?_
        walk_at "w"
        have e : at_ = rs.length := by omega
        subst e
        exact k _ _ _ _ sm hq1 hl tx met clo
end
end K8
set_option maxHeartbeats 4000000
namespace K8
open PySem PySem.Spec PyProof.Rows L2
/-! ### the rules within a comprehension, told with the outer context's K (B: one block deep, C: two) -/
section
variable {X : Cx} {s s' : Shared} {H H' : Hp} {sc sc' : Scope} {env env' : Env} {fp fp' : List Addr}
theorem pg_tupB {es : List Expr} {k n : Nat} {t : TGs} {pos : Pos} (hc : X.calm = true) (h : PGs (X.blk s H sc env fp) es t)
    (hn : (assignEach es env).length = n := by rfl) (hst : (assignEach es env).findIdx? (·.1) = none := by rfl) : PG (X.blk s H sc env fp) (.Tuple es k pos) (gTup X.K n t) := pg_tup hc h hn hst
theorem pg_tupC {es : List Expr} {k n : Nat} {t : TGs} {pos : Pos} (hc : X.calm = true) (h : PGs ((X.blk s H sc env fp).blk s' H' sc' env' fp') es t)
    (hn : (assignEach es env').length = n := by rfl) (hst : (assignEach es env').findIdx? (·.1) = none := by rfl) : PG ((X.blk s H sc env fp).blk s' H' sc' env' fp') (.Tuple es k pos) (gTup X.K n t) := pg_tup hc h hn hst
theorem ix_listB : IxR (X.blk s H sc env fp) (rIxL X.K) := ix_list
theorem ix_listC : IxR ((X.blk s H sc env fp).blk s' H' sc' env' fp') (rIxL X.K) := ix_list
theorem ix_tupB : IxR (X.blk s H sc env fp) (rIxT X.K) := ix_tup
theorem pi_listB {tg l : Expr} {tl : TE} (hl : PE (X.blk s H sc env fp) l tl) : PI (X.blk s H sc env fp) tg l (iList X.K tl) := pi_list hl
theorem call_tuple_ofB : CallR (X.blk s H sc env fp) (.type "tuple") (fun xs H Q => ∃ p ys, xs = [.ref p] ∧ ((SqL X.K H p ys ∧ ∀ l, H l = none → Q (.ref l) (upd H l (.tup ys))) ∨ (SqT X.K H p ys ∧ Q (.ref p) H))) := call_tuple_of
theorem call_len_seqB : CallR (X.blk s H sc env fp) (.builtin "len") (fun xs H Q => ∃ p ys, xs = [.ref p] ∧ (SqL X.K H p ys ∨ SqT X.K H p ys) ∧ Q (.int ys.length) H) := call_len_seq
theorem op_eqDB (hu : X.A.units + 64 < cLine) : OpR (X.blk s H sc env fp) (compareOp .Eq) (rEqD X.K) := op_eqD hu
end
end K8
set_option maxHeartbeats 4000000
namespace K8
open PySem PySem.Spec PyProof.Rows L2
set_option hygiene false in
local macro_rules | `(tactic| walk_at "w") => `(tactic| (repeat (first | refine ⟨_, rfl, ?_⟩ | refine ⟨_, _, rfl, rfl, ?_⟩ | refine ⟨rfl, ?_⟩ | refine ⟨_, _, rfl, ?_⟩ | refine ⟨_, _, rfl, .of upd_same, rfl, ?_⟩ | refine ⟨_, _, rfl, .of (by assumption), rfl, ?_⟩ | refine ⟨_, _, rfl, .of (by assumption), ?_⟩ | refine ⟨_, _, rfl, .inr (.of (by assumption)), ?_⟩ | refine ⟨_, _, rfl, .inl (.of (by assumption)), ?_⟩ | refine ⟨_, _, _, _, rfl, rfl, .of (by assumption), atI_nat (j := 0) rfl, ?_⟩ | refine ⟨_, _, _, _, rfl, rfl, .of (by assumption), atI_nat (j := 1) rfl, ?_⟩ | refine ⟨_, _, _, _, rfl, rfl, .of (by assumption), atI_nat (j := 2) rfl, ?_⟩ | refine ⟨fun z => absurd z.1 (show ¬ (1 : Nat) = 0 by decide), fun _ q hq => ?_⟩ | refine ⟨fun z => absurd z.1 (show ¬ (2 : Nat) = 0 by decide), fun _ q hq => ?_⟩ | refine ⟨sz1, fun q hq => ?_⟩ | refine ⟨sz2, fun q hq => ?_⟩ | refine ⟨sz3, fun q hq => ?_⟩ | refine ⟨sz0, fun q hq => ?_⟩ | refine ⟨_, _, _, rfl, rfl, (by assumption), (by assumption), ?_⟩ | refine ⟨.inl ⟨rfl, _, .of (by assumption)⟩, ?_⟩ | refine ⟨_, _, rfl, .inl ⟨.of (by assumption), fun q hq => ?_⟩⟩ | refine ⟨⟨_, .of (by assumption)⟩, ?_⟩ | refine iteT ?_ | refine iteF ?_)))
section
variable {P : Program} {w : World} {K : PySem.W.Frag} {mg : Str → Option Value} {base : Heap}
/-! ### table_of -/
/-- all but the object at q stays -/
structure Kb (q : Addr) (H H' : Hp) : Prop where
  at_ : ∀ b o, b ≠ q → H b = some o → H' b = some o
  tup : TupK H H'
theorem Kb.of {q : Addr} {H H' : Hp} (s : Same H H') : Kb q H H' := ⟨fun b o _ h => s b o h, s.tupK⟩
theorem Kb.trans {q : Addr} {H H1 H2 : Hp} (a : Kb q H H1) (b : Kb q H1 H2) : Kb q H H2 := ⟨fun c o n h => b.at_ c o n (a.at_ c o n h), a.tup.trans b.tup⟩
theorem Kb.lst {q : Addr} {H : Hp} {xs ys : List V} (h : H q = some (.lst xs)) : Kb q H (L2.upd H q (.lst ys)) := ⟨fun b o n e => (upd_ne n).trans e, TupK.own (.refl _) h fun _ z => by cases z⟩
theorem Kb.same {q : Addr} {H H1 H2 : Hp} (s : Same H H1) (n : H q = none) (k : Kb q H1 H2) : Same H H2 := fun b o h => k.at_ b o (ne_of_none h n) (s b o h)
theorem place_ix {rs : List Rst} {r : Rst} (h : r ∈ rs) : ∃ i, i < rs.length ∧ (rs.map Rst.d).findIdx? (fun e => PyData.eqv e r.d) = some i := by
  cases e : (rs.map Rst.d).findIdx? (fun e => PyData.eqv e r.d) with
  | none =>
    rw [List.findIdx?_eq_none_iff] at e
    have := e r.d (List.mem_map.mpr ⟨r, h, rfl⟩)
    simp [rst_eqv] at this
  | some i =>
    have := (List.findIdx?_eq_some_iff_getElem.mp e).1
    rw [List.length_map] at this
    exact ⟨i, this, rfl⟩
/-- a row of a table: m pairs of a truth and a number below n; the list is not the one at q -/
def RowT (H : Hp) (v : V) (m n : Nat) (q : Addr) : Prop := ∃ (a : Addr) (cs : List V), v = .ref a ∧ a ≠ q ∧ H a = some (.lst cs) ∧ cs.length = m ∧ ∀ (j : Nat) (c : V), cs[j]? = some c → ∃ (b : Bool) (i : Nat), i < n ∧ Td H c (.tuple [.bool b, .int i])
theorem RowT.keep {H H' : Hp} {v : V} {m n : Nat} {q : Addr} (h : RowT H v m n q) (k : Kb q H H') : RowT H' v m n q := by
  obtain ⟨a, cs, rfl, hq, ha, hl, hc⟩ := h
  exact ⟨a, cs, rfl, hq, k.at_ _ _ hq ha, hl, fun j c e => by
    obtain ⟨b, i, hi, t⟩ := hc j c e
    exact ⟨b, i, hi, t.mono k.tup⟩⟩
structure TblT (H : Hp) (rows : List V) (n : Nat) (q : Addr) : Prop where
  all : ∀ (j : Nat) (v : V), rows[j]? = some v → RowT H v 27 n q
theorem TblT.keep {H H' : Hp} {rows : List V} {n : Nat} {q : Addr} (h : TblT H rows n q) (k : Kb q H H') : TblT H' rows n q := ⟨fun j v e => (h.all j v e).keep k⟩
theorem get_snoc {α : Type} {xs : List α} {x y : α} {i : Nat} (h : (xs ++ [x])[i]? = some y) : xs[i]? = some y ∨ (i = xs.length ∧ y = x) := by
  by_cases lt : i < xs.length
  · rw [List.getElem?_append_left lt] at h
    exact .inl h
  · have e : i = xs.length := by
      have := (List.getElem?_eq_some_iff.mp h).1
      simp at this
      omega
    subst e
    simp at h
    exact .inr ⟨rfl, h.symm⟩
def sp_table_of : Sp := fun vs H Q _ => ∃ (v : V) (R : Rec), vs = [v] ∧ Td H v (recD R) ∧ RecOk R ∧
  ∀ (H' : Hp) (q : Addr) (rows : List V), Same H H' → H q = none → H' q = some (.lst rows) → TblT H' rows rows.length q → 0 < rows.length → rows.length ≤ 112 → Q (.ref q) H'
theorem ok_table_of (D : Df K mg "table_of" s_table_of) (G : Gx K mg) (c_all_steps : Cal P w K mg base CX0 1 "all_steps" sp_all_steps) (c_step_from : Cal P w K mg base CX0 3 "step_from" sp_step_from) (c_rests_met : Cal P w K mg base CX0 4 "rests_met" sp_rests_met) (c_place_of : Cal P w K mg base CX0 1 "place_of" sp_place_of) : Cal P w K mg base CX0 5 "table_of" sp_table_of := by
  refine cal0 D sc_table_of (fun _ _ _ _ _ _ us hl => match us, hl with | [_], _ => rfl) (fun vs H Q E h => ?_) (fun f cdv A outer s H vs Q E hr h => ?_)
  · obtain ⟨_, _, rfl, _⟩ := h
    rfl
  · obtain ⟨v, R, rfl, hv, ok, k⟩ := h
    refine ⟨_, (pss_cons (ps_set (i := 1) sc_table_of.nd rfl (Or.inr rfl) (pe_d c_rests_met hr (by decide) (by rfl) (pa_cons (pv 0) pa_nil)))
      (pss_cons (ps_set (i := 2) sc_table_of.nd rfl (Or.inl rfl) (pe_lst pa_nil))
      (pss_cons (ps_for PassesOwn.never rfl (pi_list (pv 1)) (pg_name (i := 3) sc_table_of.nd rfl (Or.inr rfl)) (pss_cons (ps_setLc (i := 4) (own := [("step", 5)]) (by rfl) sc_table_of.nd rfl rfl (sw_true rfl rfl rfl (by decide +kernel)) (pi_list (pe_d0 c_all_steps hr (by decide) (by rfl))) (blkOk_by (N := ["receiver", "rests", "found", "rest", "row", "step", "taken", "behind"]) (sc := defScope s_table_of) (by decide +kernel)) (fun _ _ _ _ _ => (pg_name (i := 5) sc_table_of.nd rfl (Or.inl rfl) (Or.inr rfl))) (fun _ _ _ _ _ => pts_nil) (fun _ _ _ _ _ => (pe_d c_step_from hr (by decide) (by rfl) (pa_cons (pv 0) (pa_cons (pv 3) (pa_cons (pv 5) pa_nil))))))
      (pss_one (ps_expr (pe_bm PySem.F.plainAttrs_list PySem.F.slot_list_append PySem.F.type_list_append mt_append (pv 2) (pa_cons (by exact pe_lc (own := [("taken", 6), ("behind", 7)]) (by rfl) sc_table_of.nd (pi_list (pv 4)) (blkOk_by (N := ["receiver", "rests", "found", "rest", "row", "step", "taken", "behind"]) (sc := defScope s_table_of) (by decide +kernel)) (fun _ _ _ _ _ => (pg_tupB (n := 2) rfl (pgs_cons (pg_name (i := 6) sc_table_of.nd rfl (Or.inl rfl) (Or.inr rfl)) (pgs_cons (pg_name (i := 7) sc_table_of.nd rfl (Or.inl rfl) (Or.inr rfl)) pgs_nil)))) (fun _ _ _ _ _ => pts_nil) (fun _ _ _ _ _ => (pe_tup (pa_cons (pv 6) (pa_cons (pe_d c_place_of hr (by decide) (by rfl) (pa_cons (pv 1) (pa_cons (pv 7) pa_nil))) pa_nil))))) pa_nil))))))
      (pss_one (ps_ret (pv 2)))))), ?_⟩
    walk_at "w"
    refine ⟨_, R, rfl, hv, ok, fun H1 q xs rs s1 hq h1 tx met clo => ?_⟩
    walk_at "w"
    rename_i q1 hq1
    have hne : q1 ≠ q := ne_of_none h1 hq
    have hqn : H q = none := s1.free hq
    have hlen : xs.length = rs.length := by rw [tx.len, List.length_map]
    have h112 := rests_len ok.le met.nd met.ok
    refine ⟨⟨_, .of ((upd_ne hne).trans h1)⟩, ?_⟩
    refine for_list (xs := xs) (fun i σ H' => Kb q (L2.upd H1 q (.lst [])) H' ∧ ∃ (a b c d e : Option V) (rows : List V), σ = [some v, some (.ref q1), some (.ref q), a, b, c, d, e] ∧ H' q = some (.lst rows) ∧ rows.length = i ∧ TblT H' rows rs.length q) ?_ ?_ ?_ ?_
    · exact ⟨.of (.refl _), _, _, _, _, _, [], rfl, upd_same, rfl, ⟨fun j v h => by simp at h⟩⟩
    · rintro i σ H' hi ⟨kb, _⟩
      exact .of (kb.at_ _ _ hne ((upd_ne hne).trans h1))
    · rintro i x σ H' hx ⟨kb, a, b, c, d, e, rows, rfl, hl, hi, tb⟩
      have hir : i < rs.length := hlen ▸ (List.getElem?_eq_some_iff.mp hx).1
      have hr : rs[i]? = some rs[i] := List.getElem?_eq_getElem hir
      have sH : Same H H' := Kb.same (s1.upd hq) hqn kb
      have h1' := kb.at_ _ _ hne ((upd_ne hne).trans h1)
      have tx' : Tds H' xs (rs.map Rst.d) := (tx.same (.new hq)).mono kb.tup
      have tr := tx'.all i x rs[i].d hx (by rw [List.getElem?_map, hr]; rfl)
      have rok := met.ok _ (List.mem_of_getElem? hr)
      have rcl := fun j hj => clo i rs[i] j hir hr hj
      generalize rs[i] = r at *
      walk_at "w"
      intro L hL
      refine ⟨_, rfl, ⟨_, .of upd_same⟩, ?_⟩
      intro D1 hD1
      refine lc_list (xs := stV) (fun j H2 => Same (L2.upd H' L (.lst stV)) H2 ∧ ∃ acc : List V, H2 D1 = some (.lst acc) ∧ acc.length = j ∧ ∀ m c, acc[m]? = some c → Td H2 c (.tuple [.bool (stepF R r (stN m)).1, (stepF R r (stN m)).2.d])) ?_ ?_ ?_ ?_
      · exact ⟨.new hD1, [], upd_same, rfl, fun m c h => by simp at h⟩
      · rintro j H2 hj ⟨s2, _⟩
        exact .of (s2 _ _ upd_same)
      · rintro j y H2 hy ⟨s2, acc, hD, hal, hac⟩
        obtain ⟨hj, rfl⟩ := stV_at hy
        have s20 : Same H' H2 := (L2.Same.new hL).trans s2
        walk_at "w"
        refine ⟨_, _, R, r, _, rfl, hv.same (sH.trans s20), tr.same s20, rok.st, fun H4 o s4 t4 => ?_⟩
        have hD4 := s4 _ _ hD
        have ow : TupK H4 (L2.upd H4 D1 (.lst (acc ++ [o]))) := TupK.own (.refl _) hD4 fun _ z => by cases z
        refine ⟨acc, hD4, small1000 (by omega), (s2.trans s4).own hD1, acc ++ [o], upd_same, by simp [hal], fun m c hc => ?_⟩
        rcases get_snoc hc with h | ⟨rfl, rfl⟩
        · exact ((hac m c h).same s4).mono ow
        · rw [hal]
          exact t4.mono ow
      · rintro H2 ⟨s2, acc, hD, hal, hac⟩
        rw [stV_len] at hal
        have s20 : Same H' H2 := (L2.Same.new hL).trans s2
        have h12 := s20 _ _ h1'
        have hl2 := s20 _ _ hl
        walk_at "w"
        intro D2 hD2
        refine lc_list (xs := acc) (fun j H3 => Same H2 H3 ∧ ∃ cs : List V, H3 D2 = some (.lst cs) ∧ cs.length = j ∧ ∀ (m : Nat) (c : V), cs[m]? = some c → ∃ (b : Bool) (i : Nat), i < rs.length ∧ Td H3 c (.tuple [.bool b, .int i])) ?_ ?_ ?_ ?_
        · exact ⟨.new hD2, [], upd_same, rfl, fun m c h => by simp at h⟩
        · rintro j H3 hj ⟨s3, _⟩
          exact .of (s3 _ _ hD)
        · rintro j y H3 hy ⟨s3, cs, hD3, hcl, hcs⟩
          have hj : j < 27 := hal ▸ (List.getElem?_eq_some_iff.mp hy).1
          have ty := (hac j y hy).same s3
          obtain ⟨py, y1, y2, rfl, hpy, ty1, ty2⟩ := ty.tup2
          cases ty1.blE
          have mem := rcl j hj
          obtain ⟨ix, hix, eix⟩ := place_ix mem
          generalize (stepF R r (stN j)).2 = nr at *
          generalize (stepF R r (stN j)).1 = tk at *
          have s30 := s20.trans s3
          walk_at "w"
          refine ⟨_, _, _, rs.map Rst.d, nr.d, rfl, s3 _ _ h12, tx'.same s30, ty2, fun e he => ?_, rst_shaped nr, fun H4 s4 => ?_⟩
          · obtain ⟨r', _, rfl⟩ := List.mem_map.mp he
            exact rst_shaped r'
          rw [eix]
          walk_at "w"
          have s45 : Same H4 (L2.upd H4 q (.tup [.bl tk, onV (some ix)])) := .new hq
          have hD5 := s45 _ _ (s4 _ _ hD3)
          have ow : TupK (L2.upd H4 q (.tup [.bl tk, onV (some ix)])) (L2.upd (L2.upd H4 q (.tup [.bl tk, onV (some ix)])) D2 (.lst (cs ++ [.ref q]))) := TupK.own (.refl _) hD5 fun _ z => by cases z
          refine ⟨cs, hD5, small1000 (by omega), ((s3.trans s4).trans s45).own hD2, cs ++ [.ref q], upd_same, by simp [hcl], fun m c hc => ?_⟩
          rcases get_snoc hc with h | ⟨rfl, rfl⟩
          · obtain ⟨b, i, hi, t⟩ := hcs m c h
            exact ⟨b, i, hi, ((t.same s4).same s45).mono ow⟩
          · exact ⟨tk, ix, hix, (Td.of2 upd_same (.bl _) (.int _)).mono ow⟩
        · rintro H3 ⟨s3, cs, hD3, hcl, hcs⟩
          have s30 := s20.trans s3
          have hl3 := s30 _ _ hl
          have hrl : rows.length < sizeLine := small1000 (by omega)
          walk_at "w"
          have hne2 : D2 ≠ q := (ne_of_none hl2 hD2).symm
          have kb3 : Kb q H' (L2.upd H3 q (.lst (rows ++ [.ref D2]))) := (Kb.of s30).trans (.lst hl3)
          refine ⟨kb.trans kb3, _, _, _, _, _, _, rfl, upd_same, by simp [hi], ⟨fun j u hu => ?_⟩⟩
          rcases get_snoc hu with h | ⟨rfl, rfl⟩
          · exact (tb.all j u h).keep kb3
          · refine RowT.keep ⟨D2, cs, rfl, hne2, hD3, by omega, hcs⟩ (.lst hl3)
    · rintro σ H' ⟨kb, a, b, c, d, e, rows, rfl, hl, hi, tb⟩
      walk_at "w"
      have z := (List.getElem?_eq_some_iff.mp met.z).1
      exact k _ _ _ (Kb.same (s1.upd hq) hqn kb) hqn hl (by rw [hi, hlen]; exact tb) (by omega) (by omega)
end
end K8
set_option maxHeartbeats 4000000
namespace K8
open PySem PySem.Spec PyProof.Rows L2
set_option hygiene false in
local macro_rules | `(tactic| walk_at "w") => `(tactic| (repeat (first | refine ⟨_, rfl, ?_⟩ | refine ⟨_, _, rfl, rfl, ?_⟩ | refine ⟨rfl, ?_⟩ | refine ⟨_, _, rfl, ?_⟩ | refine ⟨_, _, rfl, .of upd_same, rfl, ?_⟩ | refine ⟨_, _, rfl, .of (by assumption), rfl, ?_⟩ | refine ⟨_, _, rfl, .of (by assumption), ?_⟩ | refine ⟨_, _, rfl, .inr (.of (by assumption)), ?_⟩ | refine ⟨_, _, rfl, .inl (.of (by assumption)), ?_⟩ | refine ⟨_, _, _, _, rfl, rfl, .of (by assumption), atI_nat (j := 0) rfl, ?_⟩ | refine ⟨_, _, _, _, rfl, rfl, .of (by assumption), atI_nat (j := 1) rfl, ?_⟩ | refine ⟨_, _, _, _, rfl, rfl, .of (by assumption), atI_nat (j := 2) rfl, ?_⟩ | refine ⟨fun z => absurd z.1 (show ¬ (1 : Nat) = 0 by decide), fun _ q hq => ?_⟩ | refine ⟨fun z => absurd z.1 (show ¬ (2 : Nat) = 0 by decide), fun _ q hq => ?_⟩ | refine ⟨sz1, fun q hq => ?_⟩ | refine ⟨sz2, fun q hq => ?_⟩ | refine ⟨sz3, fun q hq => ?_⟩ | refine ⟨sz0, fun q hq => ?_⟩ | refine ⟨_, _, _, rfl, rfl, (by assumption), (by assumption), ?_⟩ | refine ⟨.inl ⟨rfl, _, .of (by assumption)⟩, ?_⟩ | refine ⟨_, _, rfl, .inl ⟨.of (by assumption), fun q hq => ?_⟩⟩ | refine ⟨⟨_, .of (by assumption)⟩, ?_⟩ | refine iteT ?_ | refine iteF ?_)))
section
variable {P : Program} {w : World} {K : PySem.W.Frag} {mg : Str → Option Value} {base : Heap}
/-! ### classes_of -/
theorem TupK.lst {H : Hp} {p : Addr} {xs : List V} {o : HO} (h : H p = some (.lst xs)) : TupK H (L2.upd H p o) := TupK.own (.refl _) h fun _ z => by cases z
theorem mem_snoc {α : Type} {p : α → Prop} {xs : List α} {x : α} (h : ∀ z ∈ xs, p z) (hx : p x) : ∀ z ∈ xs ++ [x], p z := fun z hz => by
  rcases List.mem_append.mp hz with h1 | h1
  · exact h z h1
  · simp at h1; exact h1 ▸ hx
theorem place_ok {ds : List PyData} {d : PyData} (h : ds.any (fun z => PyData.eqv z d) = true) : ∃ i, ds.findIdx? (fun e => PyData.eqv e d) = some i := by
  cases e : ds.findIdx? (fun e => PyData.eqv e d) with
  | some i => exact ⟨i, rfl⟩
  | none =>
    rw [List.findIdx?_eq_none_iff] at e
    obtain ⟨z, hz, hz2⟩ := List.any_eq_true.mp h
    rw [e z hz] at hz2
    cases hz2
def natV (cs : List Nat) : List V := cs.map fun (m : Nat) => V.int (m : Int)
theorem natV_at {cs : List Nat} {i : Nat} (h : i < cs.length) : ∃ n : Nat, (natV cs)[i]? = some (.int n) := ⟨cs[i], by simp [natV, h]⟩
theorem natV_len (cs : List Nat) : (natV cs).length = cs.length := by simp [natV]
def sp_classes_of : Sp := fun vs H Q _ => ∃ (q q2 : Addr) (rows : List V), vs = [.ref q] ∧ H q = some (.lst rows) ∧ TblT H rows rows.length q2 ∧ 0 < rows.length ∧ rows.length ≤ 112 ∧
  ∀ (H' : Hp) (p : Addr) (cs : List Nat), Same H H' → H p = none → H' p = some (.lst (natV cs)) → cs.length = rows.length → Q (.ref p) H'
theorem ok_classes_of (D : Df K mg "classes_of" s_classes_of) (G : Gx K mg) (c_place_of : Cal P w K mg base CX0 1 "place_of" sp_place_of) : Cal P w K mg base CX0 2 "classes_of" sp_classes_of := by
  refine cal0 D sc_classes_of (fun _ _ _ _ _ _ us hl => match us, hl with | [_], _ => rfl) (fun vs H Q E h => ?_) (fun f cdv A outer s H vs Q E hr h => ?_)
  · obtain ⟨_, _, _, rfl, _⟩ := h
    rfl
  · obtain ⟨qt, q2, rows, rfl, hqt, tb, n0, n1, k⟩ := h
    refine ⟨_, (pss_cons (ps_set (i := 1) sc_classes_of.nd rfl (Or.inr rfl) (by exact pe_lc (own := [("row", 2)]) (by rfl) sc_classes_of.nd (pi_list (pv 0)) (blkOk_by (N := ["table", "classes", "row", "many", "known", "signs", "taken", "behind", "sign"]) (sc := defScope s_classes_of) (by decide +kernel)) (fun _ _ _ _ _ => (pg_name (i := 2) sc_classes_of.nd rfl (Or.inl rfl) (Or.inr rfl))) (fun _ _ _ _ _ => pts_nil) (fun _ _ _ _ _ => pe_int)))
      (pss_cons (ps_set (i := 3) sc_classes_of.nd rfl (Or.inl rfl) pe_int)
      (pss_cons (ps_set (i := 4) sc_classes_of.nd rfl (Or.inr rfl) (pe_lst (pa_cons (pe_tup pa_nil) pa_nil)))
      (pss_cons (ps_while PassesOwn.never (pt_cmpR op_lt (pv 3) (pe_callB call_len_seq (by rfl) G.len (by decide +kernel) (pa_cons (pv 4) pa_nil)) (nomark _)) (pss_cons (ps_set (i := 3) sc_classes_of.nd rfl (Or.inl rfl) (pe_callB call_len_seq (by rfl) G.len (by decide +kernel) (pa_cons (pv 4) pa_nil)))
      (pss_cons (ps_setLc (i := 5) (own := [("row", 2)]) (by rfl) sc_classes_of.nd rfl rfl (sw_true rfl rfl rfl (by decide +kernel)) (pi_list (pv 0)) (blkOk_by (N := ["table", "classes", "row", "many", "known", "signs", "taken", "behind", "sign"]) (sc := defScope s_classes_of) (by decide +kernel)) (fun _ _ _ _ _ => (pg_name (i := 2) sc_classes_of.nd rfl (Or.inl rfl) (Or.inr rfl))) (fun _ _ _ _ _ => pts_nil) (fun _ _ _ _ _ => (pe_callTy call_tuple_ofB (by rfl) G.tuple (by decide +kernel) (pa_cons (by exact pe_lc (own := [("taken", 6), ("behind", 7)]) (by rfl) sc_classes_of.nd (pi_listB (pv 2)) (blkOk_by (by rfl)) (fun _ _ _ _ _ => (pg_tupC (n := 2) rfl (pgs_cons (pg_name (i := 6) sc_classes_of.nd rfl (Or.inl rfl) (Or.inr rfl)) (pgs_cons (pg_name (i := 7) sc_classes_of.nd rfl (Or.inl rfl) (Or.inr rfl)) pgs_nil)))) (fun _ _ _ _ _ => pts_nil) (fun _ _ _ _ _ => (pe_tup (pa_cons (pv 6) (pa_cons (pe_ix ix_listC (pv 1) (pv 7) (fun _ _ => rfl)) pa_nil))))) pa_nil))))
      (pss_cons (ps_set (i := 4) sc_classes_of.nd rfl (Or.inr rfl) (pe_lst pa_nil))
      (pss_cons (ps_for PassesOwn.never rfl (pi_list (pv 5)) (pg_name (i := 8) sc_classes_of.nd rfl (Or.inl rfl)) (pss_one (ps_if (pt_cmpR (op_notInD (u65 hr)) (pv 8) (pv 4) rfl) (pss_one (ps_expr (pe_bm PySem.F.plainAttrs_list PySem.F.slot_list_append PySem.F.type_list_append mt_append (pv 4) (pa_cons (pv 8) pa_nil)))) pss_nil)))
      (pss_one (ps_set (i := 1) sc_classes_of.nd rfl (Or.inr rfl) (by exact pe_lc (own := [("sign", 8)]) (by rfl) sc_classes_of.nd (pi_list (pv 5)) (blkOk_by (N := ["table", "classes", "row", "many", "known", "signs", "taken", "behind", "sign"]) (sc := defScope s_classes_of) (by decide +kernel)) (fun _ _ _ _ _ => (pg_name (i := 8) sc_classes_of.nd rfl (Or.inl rfl) (Or.inr rfl))) (fun _ _ _ _ _ => pts_nil) (fun _ _ _ _ _ => (pe_d c_place_of hr (by decide) (by rfl) (pa_cons (pv 4) (pa_cons (pv 8) pa_nil))))))))))))
      (pss_one (ps_ret (pv 1))))))), ?_⟩
    walk_at "w"
    intro D1 hD1
    refine lc_list (xs := rows) (fun j H2 => Same H H2 ∧ H2 D1 = some (.lst (natV (List.replicate j 0)))) ?_ ?_ ?_ ?_
    · exact ⟨.new hD1, upd_same⟩
    · rintro j H2 hj ⟨s2, _⟩
      exact .of (s2 _ _ hqt)
    · rintro j x H2 hx ⟨s2, hD⟩
      have hj := (List.getElem?_eq_some_iff.mp hx).1
      walk_at "w"
      refine ⟨_, hD, small1000 (by rw [natV_len, List.length_replicate]; omega), s2.own hD1, ?_⟩
      rw [upd_same, List.replicate_succ']
      simp [natV]
    · rintro H2 ⟨s2, hD⟩
      walk_at "w"
      rename_i t0 ht0
      refine ⟨fun m σ H' => Same H H' ∧ ∃ (mn : Nat) (Dc Dk : Addr) (cs : List Nat) (ks : List V) (kds : List PyData) (a b c d e : Option V), m = 113 - mn ∧ σ = [some (.ref qt), some (.ref Dc), a, some (.int mn), some (.ref Dk), b, c, d, e] ∧ H Dc = none ∧ H' Dc = some (.lst (natV cs)) ∧ cs.length = rows.length ∧ H' Dk = some (.lst ks) ∧ Tds H' ks kds ∧ kds.length ≤ rows.length, ?_, ?_⟩
      · refine ⟨113, (s2.upd ht0).upd hq, 0, D1, q, List.replicate rows.length 0, [.ref t0], [.tuple []], none, none, none, none, none, rfl, rfl, hD1, ?_, List.length_replicate .., upd_same, ?_, n0⟩
        · exact (upd_ne (ne_of_none (H := L2.upd H2 t0 (.tup [])) ((upd_ne (ne_of_none hD ht0)).trans hD) hq)).trans ((upd_ne (ne_of_none hD ht0)).trans hD)
        · exact (Tds.nil (H := L2.upd H2 t0 (.tup []))).snoc (.of0 upd_same) |>.same (.new hq)
      · rintro m σ H1 ⟨s1, mn, Dc, Dk, cs, ks, kds, a, b, c, d, e, rfl, rfl, hDc0, hDc, hcl, hDk, tk, hkl⟩
        have hks := tk.len
        walk_at "w"
        by_cases lt : mn < ks.length
        · refine iteDT (by omega) ⟨_, fun _ _ h => h, ?_⟩
          have hq1 := s1 _ _ hqt
          walk_at "w"
          intro Ds hDs
          refine lc_list (xs := rows) (fun j H3 => Same H1 H3 ∧ ∃ (ys : List V) (sds : List PyData), H3 Ds = some (.lst ys) ∧ ys.length = j ∧ Tds H3 ys sds ∧ ∀ z ∈ sds, Fl 2 z) ?_ ?_ ?_ ?_
          · exact ⟨.new hDs, [], [], upd_same, rfl, .nil, fun z h => nomatch h⟩
          · rintro j H3 hj ⟨s3, _⟩
            exact .of (s3 _ _ hq1)
          · rintro j x H3 hx ⟨s3, ys, sds, hD3, hyl, ty, fl⟩
            have hj := (List.getElem?_eq_some_iff.mp hx).1
            obtain ⟨ar, cl, rfl, _, har, hal, hac⟩ := tb.all j x hx
            have har3 := s3 _ _ (s1 _ _ har)
            have hDc3 := s3 _ _ hDc
            walk_at "w"
            intro Dr hDr
            refine lc_list (xs := cl) (fun j H4 => Same H3 H4 ∧ ∃ (zs : List V) (zds : List PyData), H4 Dr = some (.lst zs) ∧ zs.length = j ∧ Tds H4 zs zds ∧ ∀ z ∈ zds, Fl 1 z) ?_ ?_ ?_ ?_
            · exact ⟨.new hDr, [], [], upd_same, rfl, .nil, fun z h => nomatch h⟩
            · rintro j H4 hj ⟨s4, _⟩
              exact .of (s4 _ _ har3)
            · rintro j y H4 hy ⟨s4, zs, zds, hD4, hzl, tz, flz⟩
              have hj' := (List.getElem?_eq_some_iff.mp hy).1
              obtain ⟨bb, ii, hii, tc⟩ := hac j y hy
              obtain ⟨pc, c1, c2, rfl, hpc, tc1, tc2⟩ := (tc.same ((s1.trans s3).trans s4)).tup2
              cases tc1.blE
              cases tc2.intE
              have hDc4 := s4 _ _ hDc3
              obtain ⟨nn, hnn⟩ := natV_at (cs := cs) (i := ii) (by omega)
              have an : atI (natV cs) (ii : Int) = some (.int nn) := atI_nat hnn
              walk_at "w"
              refine ⟨_, _, _, _, rfl, rfl, .of hDc4, an, ?_⟩
              walk_at "w"
              have s45 : Same H4 (L2.upd H4 q (.tup [.bl bb, .int nn])) := .new hq
              have hD5 := s45 _ _ hD4
              refine ⟨zs, hD5, small1000 (by omega), (s4.trans s45).own hDr, zs ++ [.ref q], zds ++ [.tuple [.bool bb, .int nn]], upd_same, by simp [hzl], ((tz.same s45).mono (.lst hD5)).snoc ((Td.of2 upd_same (.bl _) (.int _)).mono (.lst hD5)), mem_snoc flz (.tup2 (.bool 0 _) (.int 0 _))⟩
            · rintro H4 ⟨s4, zs, zds, hD4, hzl, tz, flz⟩
              walk_at "w"
              have s45 : Same H4 (L2.upd H4 q (.tup zs)) := .new hq
              have hD5 := s45 _ _ (s4 _ _ hD3)
              refine ⟨ys, hD5, small1000 (by omega), ((s3.trans s4).trans s45).own hDs, ys ++ [.ref q], sds ++ [.tuple zds], upd_same, by simp [hyl], (((ty.same s4).same s45).mono (.lst hD5)).snoc ((((tz.same s45).tup upd_same)).mono (.lst hD5)), mem_snoc fl (.tup flz)⟩
          · rintro H3 ⟨s3, ys, sds, hD3, hyl, ty, fl⟩
            have hsl := ty.len
            walk_at "w"
            have s34 : Same H3 (L2.upd H3 q (.lst [])) := .new hq
            have hneq : Ds ≠ q := ne_of_none hD3 hq
            have hqn : H1 q = none := s3.free hq
            refine ⟨⟨_, .of (s34 _ _ hD3)⟩, ?_⟩
            refine for_list (xs := ys) (fun i σ H4 => Kb q (L2.upd H3 q (.lst [])) H4 ∧ ∃ (ls : List V) (kds : List PyData) (a b c d : Option V), σ = [some (.ref qt), some (.ref Dc), a, some (.int ks.length), some (.ref q), some (.ref Ds), b, c, d] ∧ H4 q = some (.lst ls) ∧ Tds H4 ls kds ∧ kds.length ≤ i ∧ (∀ z ∈ kds, Fl 2 z) ∧ ∀ (j : Nat) (z : PyData), j < i → sds[j]? = some z → kds.any (fun y => PyData.eqv y z) = true) ?_ ?_ ?_ ?_
            · exact ⟨.of (.refl _), [], [], _, _, _, _, rfl, upd_same, .nil, Nat.le_refl _, (fun z h => nomatch h), fun j z h => absurd h (Nat.not_lt_zero j)⟩
            · rintro i σ H4 hi ⟨kb, _⟩
              exact .of (kb.at_ _ _ hneq (s34 _ _ hD3))
            · rintro i x σ H4 hx ⟨kb, ls, kds, a, b, c, d, rfl, hl, tl, hle, flk, cov⟩
              have hi := (List.getElem?_eq_some_iff.mp hx).1
              have hz : sds[i]? = some sds[i] := List.getElem?_eq_getElem (by omega)
              have ty4 := ((ty.same s34).mono kb.tup)
              have tx := ty4.all i x _ hx hz
              have flx := fl _ (List.mem_of_getElem? hz)
              generalize sds[i] = sd at hz tx flx
              have hll := tl.len
              walk_at "w"
              refine ⟨sd, kds, tx.dp, tl.dpl hl, flx.shaped (by decide), (Fl.lst flk).shaped (by decide), ?_⟩
              cases eq : kds.any (fun y => PyData.eqv y sd) with
              | true =>
                walk_at "w"
                refine ⟨kb, ls, kds, _, _, _, _, rfl, hl, tl, by omega, flk, fun j z hj hzj => ?_⟩
                rcases Nat.lt_succ_iff_lt_or_eq.mp hj with lt | rfl
                · exact cov j z lt hzj
                · rw [hz] at hzj; cases hzj; exact eq
              | false =>
                have hlz : ls.length < sizeLine := small1000 (by omega)
                walk_at "w"
                refine ⟨kb.trans (.lst hl), ls ++ [x], kds ++ [sd], _, _, _, _, rfl, upd_same, (tl.mono (.lst hl)).snoc (tx.mono (.lst hl)), by simp; omega, mem_snoc flk flx, fun j z hj hzj => ?_⟩
                rw [List.any_append]
                rcases Nat.lt_succ_iff_lt_or_eq.mp hj with lt | rfl
                · rw [cov j z lt hzj]; rfl
                · rw [hz] at hzj
                  cases hzj
                  have := SeqAt.eqv_refl sd flx.lay
                  simp [this]
            · rintro σ H4 ⟨kb, ls, kds, a, b, c, d, rfl, hl, tl, hle, flk, cov⟩
              have hD4 := kb.at_ _ _ hneq (s34 _ _ hD3)
              have ty4 := ((ty.same s34).mono kb.tup)
              have s14 : Same H1 H4 := Kb.same (s3.trans s34) hqn kb
              walk_at "w"
              intro Dn hDn
              refine lc_list (xs := ys) (fun j H5 => Same H4 H5 ∧ ∃ ns : List Nat, H5 Dn = some (.lst (natV ns)) ∧ ns.length = j) ?_ ?_ ?_ ?_
              · exact ⟨.new hDn, [], upd_same, rfl⟩
              · rintro j H5 hj ⟨s5, _⟩
                exact .of (s5 _ _ hD4)
              · rintro j x H5 hx ⟨s5, ns, hDn5, hnl⟩
                have hj := (List.getElem?_eq_some_iff.mp hx).1
                have hz : sds[j]? = some sds[j] := List.getElem?_eq_getElem (by omega)
                have tx := (ty4.all j x _ hx hz).same s5
                have flx := fl _ (List.mem_of_getElem? hz)
                have cv := cov j _ hj hz
                generalize sds[j] = sd at hz tx flx cv
                obtain ⟨ix, eix⟩ := place_ok cv
                walk_at "w"
                refine ⟨_, _, _, kds, sd, rfl, s5 _ _ hl, tl.same s5, tx, fun e he => (flk e he).shaped (by decide), flx.shaped (by decide), fun H6 s6 => ?_⟩
                rw [eix]
                have hD6 := s6 _ _ hDn5
                refine ⟨_, hD6, small1000 (by rw [natV_len]; omega), (s5.trans s6).own hDn, ns ++ [ix], ?_, by simp [hnl]⟩
                rw [upd_same]
                simp [natV, onV]
              · rintro H5 ⟨s5, ns, hDn5, hnl⟩
                walk_at "w"
                have hDn0 : H Dn = none := (s1.trans s14).free hDn
                exact ⟨113 - ks.length, by omega, (s1.trans s14).trans s5, ks.length, Dn, q, ns, ls, kds, _, _, _, _, _, rfl, rfl, hDn0, hDn5, by omega, s5 _ _ hl, tl.same s5, by omega⟩
        · refine iteDF (by omega) ?_
          walk_at "w"
          exact k _ _ _ s1 hDc0 hDc hcl
end
end K8
set_option maxHeartbeats 4000000
namespace K8
open PySem PySem.Spec PyProof.Rows L2
/-! ### slices, sums and items of tuples, as data -/
def cutP {α : Type} (xs : List α) (lo hi : Option Int) : List α := (xs.drop (HT.sIx xs.length 0 lo)).take (HT.sIx xs.length xs.length hi - HT.sIx xs.length 0 lo)
theorem Tds.drop {H : Hp} {xs : List V} {ds : List PyData} (n : Nat) (h : Tds H xs ds) : Tds H (xs.drop n) (ds.drop n) := ⟨by simp [h.len], fun i x d a b => by
  rw [List.getElem?_drop] at a b
  exact h.all _ x d a b⟩
theorem Tds.take {H : Hp} {xs : List V} {ds : List PyData} (n : Nat) (h : Tds H xs ds) : Tds H (xs.take n) (ds.take n) := ⟨by simp [h.len], fun i x d a b => by
  rw [List.getElem?_take] at a b
  split at a
  · rename_i hi
    rw [if_pos hi] at b
    exact h.all _ x d a b
  · cases a⟩
theorem Tds.cut {H : Hp} {xs : List V} {ds : List PyData} (lo hi : Option Int) (h : Tds H xs ds) : Tds H (cutV xs lo hi) (cutP ds lo hi) := by
  unfold cutV cutP
  rw [h.len]
  exact (h.drop _).take _
theorem Tds.app {H : Hp} {xs ys : List V} {ds es : List PyData} (h : Tds H xs ds) (h' : Tds H ys es) : Tds H (xs ++ ys) (ds ++ es) := ⟨by simp [h.len, h'.len], fun i x d a b => by
  by_cases lt : i < xs.length
  · rw [List.getElem?_append_left lt] at a
    rw [List.getElem?_append_left (h.len ▸ lt)] at b
    exact h.all _ x d a b
  · rw [List.getElem?_append_right (by omega)] at a
    rw [List.getElem?_append_right (by have := h.len; omega)] at b
    rw [h.len] at a
    exact h'.all _ x d a b⟩
theorem sl_td {K : PySem.W.Frag} {H : Hp} {x : V} {ds : List PyData} {lo hi : Option Int} {Q : VK} (h : Td H x (.tuple ds)) (k : ∀ H' o, Same H H' → Td H' o (.tuple (cutP ds lo hi)) → Q o H') : rSlA K x lo hi H Q := by
  obtain ⟨p, xs, rfl, hp, tx⟩ := h.tds
  refine ⟨p, xs, rfl, .of hp, fun w => k _ _ (.refl _) ?_, fun _ q hq => k _ _ (.new hq) ((tx.cut lo hi).same (.new hq) |>.tup upd_same)⟩
  have e : cutP ds lo hi = ds := by
    unfold cutP
    rw [← tx.len, w.1, w.2, List.drop_zero, Nat.sub_zero, tx.len, List.take_length]
  rw [e]
  exact h
theorem cat_td {K : PySem.W.Frag} {H : Hp} {x y : V} {ds es : List PyData} {Q : VK} (hx : Td H x (.tuple ds)) (hy : Td H y (.tuple es)) (hl : ds.length + es.length ≤ sizeLine) (k : ∀ H' o, Same H H' → Td H' o (.tuple (ds ++ es)) → Q o H') : rCatA K x y H Q := by
  obtain ⟨p, xs, rfl, hp, tx⟩ := hx.tds
  obtain ⟨q, ys, rfl, hq, ty⟩ := hy.tds
  refine ⟨p, q, xs, ys, rfl, rfl, .of hp, .of hq, by rw [tx.len, ty.len]; exact hl, fun e => ?_, fun _ e => ?_, fun _ _ r hr => k _ _ (.new hr) ((tx.app ty).same (.new hr) |>.tup upd_same)⟩
  · have : ds = [] := List.eq_nil_of_length_eq_zero (by rw [← tx.len, e]; rfl)
    rw [this] at k
    exact k _ _ (.refl _) hy
  · have : es = [] := List.eq_nil_of_length_eq_zero (by rw [← ty.len, e]; rfl)
    rw [this, List.append_nil] at k
    exact k _ _ (.refl _) hx
theorem atI_rel {H : Hp} {xs : List V} {ds : List PyData} {i : Int} {d : PyData} (h : Tds H xs ds) (e : atI ds i = some d) : ∃ v, atI xs i = some v ∧ Td H v d := by
  unfold atI at e ⊢
  rw [h.len]
  cases e2 : ixN ds.length i with
  | none => rw [e2] at e; cases e
  | some j =>
    rw [e2] at e
    have e' : ds[j]? = some d := e
    have hj : j < xs.length := by rw [h.len]; exact (List.getElem?_eq_some_iff.mp e').1
    exact ⟨xs[j], by simp [hj], h.all j _ d (by simp [hj]) e'⟩
theorem ix_td {K : PySem.W.Frag} {H : Hp} {x : V} {ds : List PyData} {i : Int} {d : PyData} {Q : VK} (h : Td H x (.tuple ds)) (e : atI ds i = some d) (k : ∀ v, Td H v d → Q v H) : rIxT K x (.int i) H Q := by
  obtain ⟨p, xs, rfl, hp, tx⟩ := h.tds
  obtain ⟨v, ev, tv⟩ := atI_rel tx e
  exact ⟨p, xs, i, v, rfl, rfl, .of hp, ev, k v tv⟩
theorem eq_td {K : PySem.W.Frag} {H : Hp} {x y : V} {d e : PyData} {m n : Nat} {Q : VK} (hx : Td H x d) (hy : Td H y e) (fd : Fl m d) (fe : Fl n e) (hm : m ≤ 64) (hn : n ≤ 64) (k : Q (.bl (PyData.eqv d e)) H) : rEqD K x y H Q :=
  ⟨d, e, hx.dp, hy.dp, fd.shaped hm, fe.shaped hn, k⟩
theorem ne_td {K : PySem.W.Frag} {H : Hp} {x y : V} {d e : PyData} {m n : Nat} {Q : VK} (hx : Td H x d) (hy : Td H y e) (fd : Fl m d) (fe : Fl n e) (hm : m ≤ 64) (hn : n ≤ 64) (k : Q (.bl (!PyData.eqv d e)) H) : rNeD K x y H Q :=
  ⟨d, e, hx.dp, hy.dp, fd.shaped hm, fe.shaped hn, k⟩
theorem cutP_init {α : Type} (xs : List α) (x : α) : cutP (xs ++ [x]) none (some (-1)) = xs := by
  unfold cutP
  have h1 : HT.sIx (xs ++ [x]).length (xs ++ [x]).length (some (-1)) = xs.length := by
    show (if (-1 : Int) < 0 then ((-1 : Int) + ((xs ++ [x]).length : Int)).toNat else min (-1 : Int).toNat (xs ++ [x]).length) = _
    rw [if_pos (by decide)]
    simp
    omega
  rw [h1]
  show List.take (xs.length - 0) (List.drop 0 (xs ++ [x])) = xs
  simp
theorem cutP_tail {α : Type} (x : α) (xs : List α) : cutP (x :: xs) (some 1) none = xs := by
  unfold cutP
  have h1 : HT.sIx (x :: xs).length 0 (some 1) = 1 := by
    show (if (1 : Int) < 0 then ((1 : Int) + ((x :: xs).length : Int)).toNat else min (1 : Int).toNat (x :: xs).length) = 1
    rw [if_neg (by decide)]
    simp
  rw [h1, HT.sIx_none]
  simp
end K8
set_option maxHeartbeats 4000000
namespace K8
open PySem PySem.Spec PyProof.Rows L2
set_option hygiene false in
local macro_rules | `(tactic| walk_at "w") => `(tactic| (repeat (first | refine ⟨_, rfl, ?_⟩ | refine ⟨_, _, rfl, rfl, ?_⟩ | refine ⟨rfl, ?_⟩ | refine ⟨_, _, rfl, ?_⟩ | refine ⟨_, _, rfl, .of upd_same, rfl, ?_⟩ | refine ⟨_, _, rfl, .of (by assumption), rfl, ?_⟩ | refine ⟨_, _, rfl, .of (by assumption), ?_⟩ | refine ⟨_, _, rfl, .inr (.of (by assumption)), ?_⟩ | refine ⟨_, _, rfl, .inl (.of (by assumption)), ?_⟩ | refine ⟨_, _, _, _, rfl, rfl, .of (by assumption), atI_nat (j := 0) rfl, ?_⟩ | refine ⟨_, _, _, _, rfl, rfl, .of (by assumption), atI_nat (j := 1) rfl, ?_⟩ | refine ⟨_, _, _, _, rfl, rfl, .of (by assumption), atI_nat (j := 2) rfl, ?_⟩ | refine ⟨fun z => absurd z.1 (show ¬ (1 : Nat) = 0 by decide), fun _ q hq => ?_⟩ | refine ⟨fun z => absurd z.1 (show ¬ (2 : Nat) = 0 by decide), fun _ q hq => ?_⟩ | refine ⟨sz1, fun q hq => ?_⟩ | refine ⟨sz2, fun q hq => ?_⟩ | refine ⟨sz3, fun q hq => ?_⟩ | refine ⟨sz0, fun q hq => ?_⟩ | refine ⟨_, _, _, rfl, rfl, (by assumption), (by assumption), ?_⟩ | refine ⟨.inl ⟨rfl, _, .of (by assumption)⟩, ?_⟩ | refine ⟨_, _, rfl, .inl ⟨.of (by assumption), fun q hq => ?_⟩⟩ | refine ⟨⟨_, .of (by assumption)⟩, ?_⟩ | refine iteT ?_ | refine iteF ?_)))
section
variable {P : Program} {w : World} {K : PySem.W.Frag} {mg : Str → Option Value} {base : Heap}
/-! ### runs_of -/
theorem fl_oi (n : Nat) (o : OI) : Fl n (oiD o) := by cases o <;> exact ⟨rfl, Nat.zero_le _⟩
/-- a run as it grows -/
def IsRun (d : PyData) : Prop := ∃ (i : Int) (b : Bool) (o : OI), d = .tuple [.int i, .bool b, oiD o]
theorem IsRun.fl {d : PyData} (h : IsRun d) : Fl 1 d := by
  obtain ⟨i, b, o, rfl⟩ := h
  exact .tup fun d hd => by
    simp at hd
    rcases hd with rfl | rfl | rfl
    · exact .int _ _
    · exact .bool _ _
    · exact fl_oi _ _
def sp_runs_of : Sp := fun vs H Q _ => ∃ (a : Addr) (cs : List V), vs = [.ref a] ∧ H a = some (.lst cs) ∧ cs.length = 27 ∧ (∀ c ∈ cs, ∃ (b : Bool) (o : OI), Td H c (.tuple [.bool b, oiD o])) ∧ ∀ (H' : Hp) (o : V), Same H H' → Q o H'
theorem ok_runs_of (D : Df K mg "runs_of" s_runs_of) (G : Gx K mg) (c_all_steps : Cal P w K mg base CX0 1 "all_steps" sp_all_steps) : Cal P w K mg base CX0 2 "runs_of" sp_runs_of := by
  refine cal0 D sc_runs_of (fun _ _ _ _ _ _ us hl => match us, hl with | [_], _ => rfl) (fun vs H Q E h => ?_) (fun f cdv A outer s H vs Q E hr h => ?_)
  · obtain ⟨_, _, rfl, _⟩ := h
    rfl
  · obtain ⟨a, cs, rfl, ha, hcl, hc, k⟩ := h
    refine ⟨_, (pss_cons (ps_set (i := 1) sc_runs_of.nd rfl (Or.inl rfl) (pe_tup pa_nil))
      (pss_cons (ps_for PassesOwn.never rfl (RZ.pi_zipA (by rfl) G.zip (pa_cons (pe_d0 c_all_steps hr (by decide) (by rfl)) (pa_cons (pv 0) pa_nil))) (pg_tup (n := 2) rfl (pgs_cons (pg_name (i := 2) sc_runs_of.nd rfl (Or.inl rfl)) (pgs_cons (pg_tup (n := 2) rfl (pgs_cons (pg_name (i := 3) sc_runs_of.nd rfl (Or.inl rfl)) (pgs_cons (pg_name (i := 4) sc_runs_of.nd rfl (Or.inl rfl)) pgs_nil))) pgs_nil))) (pss_cons (ps_if (PW.pt (pw_and (pt_cmpR (op_neD hr.units) (pv 1) (pe_tup pa_nil) (nomark _)) (pw_and1 (pt_cmpR (op_eqD hr.units) (pe_slice sl_tupA (pe_ix ix_tup (pv 1) (pe_un un_neg pe_int) (fun _ _ => rfl)) (po_some pe_int) po_none) (pe_tup (pa_cons (pv 3) (pa_cons (pv 4) pa_nil))) (nomark _))))) (pss_one (ps_set (i := 1) sc_runs_of.nd rfl (Or.inl rfl) (pe_slice sl_tupA (pv 1) po_none (po_some (pe_un un_neg pe_int))))) pss_nil)
      (pss_one (ps_set (i := 1) sc_runs_of.nd rfl (Or.inl rfl) (pe_op op_catA (pv 1) (pe_tup (pa_cons (pe_tup (pa_cons (pv 2) (pa_cons (pv 3) (pa_cons (pv 4) pa_nil)))) pa_nil)))))))
      (pss_one (ps_ret (pe_op op_catA (pe_slice sl_tupA (pv 1) po_none (po_some (pe_un un_neg pe_int))) (pe_tup (pa_cons (pe_op op_catA (pe_tup (pa_cons pe_non pa_nil)) (pe_slice sl_tupA (pe_ix ix_tup (pv 1) (pe_un un_neg pe_int) (fun _ _ => rfl)) (po_some pe_int) po_none)) pa_nil))))))), ?_⟩
    walk_at "w"
    intro L hL
    walk_at "w"
    have s1 : Same H (L2.upd (L2.upd H q (.tup [])) L (.lst stV)) := (L2.Same.new hq).upd hL
    have hne : a ≠ L := ne_of_none ((upd_ne (ne_of_none ha hq)).trans ha) hL
    refine ⟨_, _, _, _, rfl, .inl ⟨.of upd_same, .of (s1 _ _ ha), ?_⟩⟩
    refine RZ.for_zipL (xs := stV) (ys := cs) (by rw [stV_len, hcl]) (fun i σ H' => Same (L2.upd (L2.upd H q (.tup [])) L (.lst stV)) H' ∧ ∃ (fv : V) (ds : List PyData) (b c d : Option V), σ = [some (.ref a), some fv, b, c, d] ∧ Td H' fv (.tuple ds) ∧ (∀ z ∈ ds, IsRun z) ∧ ds.length ≤ i ∧ (0 < i → ds ≠ [])) ?_ ?_ ?_ ?_
    · exact ⟨.refl _, _, [], _, _, _, rfl, (Td.of0 upd_same).up hL, (fun z h => nomatch h), Nat.le_refl _, fun h => absurd h (Nat.lt_irrefl 0)⟩
    · rintro i σ H' ⟨s2, _⟩
      exact ⟨.of (s2 _ _ upd_same), .of (s2 _ _ (s1 _ _ ha))⟩
    · rintro i x c T σ H' hx hcx ⟨s2, fv, ds, b, c1, d, rfl, tf, run, hle, hpos⟩ hT
      obtain ⟨hi, rfl⟩ := stV_at hx
      obtain ⟨bb, oo, tc⟩ := hc c (List.mem_of_getElem? hcx)
      have s3 : Same H' (L2.upd H' T (.tup [.int (stN i), c])) := .new hT
      obtain ⟨pc, d1, d2, rfl, hpc, td1, td2⟩ := (tc.same ((s1.trans s2).trans s3)).tup2
      cases td1.blE
      cases td2.oiE
      walk_at "w"
      have tf2 := (tf.same s3).up (o := .tup []) hq
      have s4 : Same H' (L2.upd (L2.upd H' T (.tup [.int (stN i), .ref pc])) q (.tup [])) := s3.upd hq
      have fds : Fl 2 (.tuple ds) := .tup fun z hz => (run z hz).fl
      refine ne_td tf2 (.of0 upd_same) fds (.tup (n := 0) fun z hz => nomatch hz) (by decide) (by decide) ?_
      rcases List.eq_nil_or_concat ds with rfl | ⟨es, d9, rfl⟩
      · walk_at "w"
        have s5 := s4
        have run5 := run
        have tf3 := tf2
        generalize hes : ([] : List PyData) = es at tf3 run5 hle
        walk_at "w"
        refine cat_td (ds := es) ((tf3.up (by assumption)).up (by assumption)) (.of1 upd_same ((Td.of3 upd_same (.int _) (.bl _) (Td.oi _)).up (by assumption))) (by have z : sizeLine = 16777216 := sizeLine_eq; simp; omega) fun H6 o s6 t6 => ?_
        walk_at "w"
        refine ⟨s2.trans (s5.trans (((L2.Same.new (by assumption)).upd (by assumption)).trans s6)), o, _, _, _, _, rfl, t6, mem_snoc run5 ⟨_, _, _, rfl⟩, by simp; omega, fun _ => by simp⟩
      · rw [List.concat_eq_append] at *
        have ne : PyData.eqv (.tuple (es ++ [d9])) (.tuple []) = false := by cases es <;> rfl
        rw [ne]
        obtain ⟨ri, rb, ro, rfl⟩ := run d9 (by simp)
        walk_at "w"
        refine ix_td tf2 (atI_last _ _) fun v9 t9 => ?_
        walk_at "w"
        dsimp only [tNoPart]
        refine sl_td t9 fun H5 o5 s5' t5 => ?_
        walk_at "w"
        have s5 : Same H' H5 := s4.trans s5'
        rw [cutP_tail] at t5
        refine eq_td (t5.up (by assumption)) (.of2 upd_same (.bl _) (Td.oi _)) (.tup2 (.bool 0 _) (fl_oi 0 _)) (.tup2 (.bool 0 _) (fl_oi 0 _)) (by decide) (by decide) ?_
        have s6 : Same H' (L2.upd H5 q (.tup [.bl bb, oiV oo])) := s5.upd (by assumption)
        have tf6 := tf.same s6
        generalize PyData.eqv (.tuple [.bool rb, oiD ro]) (.tuple [.bool bb, oiD oo]) = cc
        cases cc with
        | true =>
          walk_at "w"
          dsimp only [tNoPart]
          refine sl_td tf6 fun H7 o7 s7 t7 => ?_
          rw [cutP_init] at t7
          have s5 := s6.trans s7
          have tf3 := t7
          have run5 : ∀ z ∈ es, IsRun z := fun z hz => run z (List.mem_append_left _ hz)
          have hle : es.length ≤ i := by simp at hle; omega
          walk_at "w"
          refine cat_td (ds := es) ((tf3.up (by assumption)).up (by assumption)) (.of1 upd_same ((Td.of3 upd_same (.int _) (.bl _) (Td.oi _)).up (by assumption))) (by have z : sizeLine = 16777216 := sizeLine_eq; simp; omega) fun H6 o s6 t6 => ?_
          walk_at "w"
          refine ⟨s2.trans (s5.trans (((L2.Same.new (by assumption)).upd (by assumption)).trans s6)), o, _, _, _, _, rfl, t6, mem_snoc run5 ⟨_, _, _, rfl⟩, by simp; omega, fun _ => by simp⟩
        | false =>
          have s5 := s6
          have tf3 := tf6
          have run5 := run
          generalize es ++ [PyData.tuple [PyData.int ri, PyData.bool rb, oiD ro]] = es at tf3 run5 hle
          walk_at "w"
          refine cat_td (ds := es) ((tf3.up (by assumption)).up (by assumption)) (.of1 upd_same ((Td.of3 upd_same (.int _) (.bl _) (Td.oi _)).up (by assumption))) (by have z : sizeLine = 16777216 := sizeLine_eq; simp; omega) fun H6 o s6 t6 => ?_
          walk_at "w"
          refine ⟨s2.trans (s5.trans (((L2.Same.new (by assumption)).upd (by assumption)).trans s6)), o, _, _, _, _, rfl, t6, mem_snoc run5 ⟨_, _, _, rfl⟩, by simp; omega, fun _ => by simp⟩
    · rintro σ H' ⟨s2, fv, ds, b, c1, d, rfl, tf, run, hle, hpos⟩
      rw [stV_len] at hle hpos
      rcases List.eq_nil_or_concat ds with rfl | ⟨es, d9, rfl⟩
      · exact absurd rfl (hpos (by decide))
      rw [List.concat_eq_append] at *
      obtain ⟨ri, rb, ro, rfl⟩ := run d9 (by simp)
      walk_at "w"
      dsimp only [tNoPart]
      refine sl_td tf fun H7 o7 s7 t7 => ?_
      rw [cutP_init] at t7
      walk_at "w"
      refine ix_td ((tf.same s7).up (by assumption)) (atI_last _ _) fun v9 t9 => ?_
      walk_at "w"
      dsimp only [tNoPart]
      refine sl_td t9 fun H5 o5 s5' t5 => ?_
      rw [cutP_tail] at t5
      refine cat_td (Td.same s5' (.of1 upd_same .non)) t5 (by have z : sizeLine = 16777216 := sizeLine_eq; simp; omega) fun H6 o6 s6 t6 => ?_
      walk_at "w"
      refine cat_td (((t7.up (by assumption)).same (s5'.trans s6)).up (by assumption)) (.of1 upd_same (t6.up (by assumption))) (by have z : sizeLine = 16777216 := sizeLine_eq; simp at *; omega) fun H8 o8 s8 t8 => ?_
      exact k _ _ ((s1.trans s2).trans (((s7.upd (by assumption)).trans (s5'.trans s6)).trans ((L2.Same.new (by assumption)).trans s8)))
end
end K8
set_option maxHeartbeats 4000000
namespace K8
open PySem PySem.Spec PyProof.Rows L2
set_option hygiene false in
local macro_rules | `(tactic| walk_at "w") => `(tactic| (repeat (first | refine ⟨_, rfl, ?_⟩ | refine ⟨_, _, rfl, rfl, ?_⟩ | refine ⟨rfl, ?_⟩ | refine ⟨_, _, rfl, ?_⟩ | refine ⟨_, _, rfl, .of upd_same, rfl, ?_⟩ | refine ⟨_, _, rfl, .of (by assumption), rfl, ?_⟩ | refine ⟨_, _, rfl, .of (by assumption), ?_⟩ | refine ⟨_, _, rfl, .inr (.of (by assumption)), ?_⟩ | refine ⟨_, _, rfl, .inl (.of (by assumption)), ?_⟩ | refine ⟨_, _, _, _, rfl, rfl, .of (by assumption), atI_nat (j := 0) rfl, ?_⟩ | refine ⟨_, _, _, _, rfl, rfl, .of (by assumption), atI_nat (j := 1) rfl, ?_⟩ | refine ⟨_, _, _, _, rfl, rfl, .of (by assumption), atI_nat (j := 2) rfl, ?_⟩ | refine ⟨fun z => absurd z.1 (show ¬ (1 : Nat) = 0 by decide), fun _ q hq => ?_⟩ | refine ⟨fun z => absurd z.1 (show ¬ (2 : Nat) = 0 by decide), fun _ q hq => ?_⟩ | refine ⟨sz1, fun q hq => ?_⟩ | refine ⟨sz2, fun q hq => ?_⟩ | refine ⟨sz3, fun q hq => ?_⟩ | refine ⟨sz0, fun q hq => ?_⟩ | refine ⟨_, _, _, rfl, rfl, (by assumption), (by assumption), ?_⟩ | refine ⟨.inl ⟨rfl, _, .of (by assumption)⟩, ?_⟩ | refine ⟨_, _, rfl, .inl ⟨.of (by assumption), fun q hq => ?_⟩⟩ | refine ⟨⟨_, .of (by assumption)⟩, ?_⟩ | refine iteT ?_ | refine iteF ?_)))
section
variable {P : Program} {w : World} {K : PySem.W.Frag} {mg : Str → Option Value} {base : Heap}
/-! ### least_of, form_of -/
/-- all but the objects at p and q stays -/
structure Kc (p q : Addr) (H H' : Hp) : Prop where
  at_ : ∀ b o, b ≠ p → b ≠ q → H b = some o → H' b = some o
  tup : TupK H H'
theorem Kc.of {p q : Addr} {H H' : Hp} (s : Same H H') : Kc p q H H' := ⟨fun b o _ _ h => s b o h, s.tupK⟩
theorem Kc.trans {p q : Addr} {H H1 H2 : Hp} (a : Kc p q H H1) (b : Kc p q H1 H2) : Kc p q H H2 := ⟨fun c o n n' h => b.at_ c o n n' (a.at_ c o n n' h), a.tup.trans b.tup⟩
theorem Kc.fst {p q : Addr} {H : Hp} {xs ys : List V} (h : H p = some (.lst xs)) : Kc p q H (L2.upd H p (.lst ys)) := ⟨fun b o n _ e => (upd_ne n).trans e, .lst h⟩
theorem Kc.snd {p q : Addr} {H : Hp} {xs ys : List V} (h : H q = some (.lst xs)) : Kc p q H (L2.upd H q (.lst ys)) := ⟨fun b o _ n e => (upd_ne n).trans e, .lst h⟩
theorem Kc.same {p q : Addr} {H H1 H2 : Hp} (s : Same H H1) (n : H p = none) (m : H q = none) (k : Kc p q H1 H2) : Same H H2 := fun b o h => k.at_ b o (ne_of_none h n) (ne_of_none h m) (s b o h)
/-- a row: 27 pairs of a truth and a number of cs -/
def RowP (H : Hp) (v : V) (cs : List Nat) (p q : Addr) : Prop := ∃ (a : Addr) (zs : List V), v = .ref a ∧ a ≠ p ∧ a ≠ q ∧ H a = some (.lst zs) ∧ zs.length = 27 ∧ ∀ (j : Nat) (c : V), zs[j]? = some c → ∃ (b : Bool) (i : Nat), i ∈ cs ∧ Td H c (.tuple [.bool b, .int i])
theorem RowP.keep {H H' : Hp} {v : V} {cs : List Nat} {p q : Addr} (h : RowP H v cs p q) (k : Kc p q H H') : RowP H' v cs p q := by
  obtain ⟨a, zs, rfl, hp, hq, ha, hl, hc⟩ := h
  exact ⟨a, zs, rfl, hp, hq, k.at_ _ _ hp hq ha, hl, fun j c e => by
    obtain ⟨b, i, hi, t⟩ := hc j c e
    exact ⟨b, i, hi, t.mono k.tup⟩⟩
theorem Tds.nats {H : Hp} (ns : List Nat) : Tds H (natV ns) (ns.map fun (m : Nat) => .int (m : Int)) := ⟨by simp [natV], fun i x d a b => by
  unfold natV at a
  rw [List.getElem?_map] at a b
  cases e : ns[i]? with
  | none => rw [e] at a; cases a
  | some n => rw [e] at a b; cases a; cases b; exact .int _⟩
theorem nats_ix {cs : List Nat} {n : Nat} (h : n ∈ cs) : ∃ i, i < cs.length ∧ (cs.map fun (m : Nat) => PyData.int (m : Int)).findIdx? (fun e => PyData.eqv e (.int n)) = some i := by
  obtain ⟨i, hi⟩ := place_ok (ds := cs.map fun (m : Nat) => PyData.int (m : Int)) (d := .int n) (List.any_eq_true.mpr ⟨_, List.mem_map.mpr ⟨n, h, rfl⟩, by simp [PyData.eqv]⟩)
  have := (List.findIdx?_eq_some_iff_getElem.mp hi).1
  rw [List.length_map] at this
  exact ⟨i, this, hi⟩
theorem nat_shaped (n : Int) : SeqAt.shaped (.int n) = true := rfl
theorem natV_flat (ns : List Nat) : (natV ns).all flatV = true := by simp [natV, List.all_map, flatV]
theorem natV_in (ns : List Nat) (n : Nat) : inV (.int n) (natV ns) = decide (n ∈ ns) := by
  unfold inV natV
  rw [List.any_map, Bool.eq_iff_iff, List.any_eq_true, decide_eq_true_iff]
  constructor
  · rintro ⟨a, ha, e⟩
    simp [eqV] at e
    have : a = n := by omega
    exact this ▸ ha
  · intro h
    exact ⟨n, h, by simp [eqV]⟩
theorem natV_snoc (ns : List Nat) (n : Nat) : natV ns ++ [.int n] = natV (ns ++ [n]) := by simp [natV]
theorem onV_td {H : Hp} (o : Option Nat) : Td H (onV o) (oiD (o.map fun (n : Nat) => (n : Int))) := by cases o <;> constructor
theorem natV_at2 {cs : List Nat} {i : Nat} (h : i < cs.length) : ∃ n : Nat, n ∈ cs ∧ (natV cs)[i]? = some (.int n) := ⟨cs[i], List.getElem_mem h, by simp [natV, h]⟩
def sp_least_of : Sp := fun vs H Q _ => ∃ (q q2 : Addr) (rows : List V), vs = [.ref q] ∧ H q = some (.lst rows) ∧ TblT H rows rows.length q2 ∧ 0 < rows.length ∧ rows.length ≤ 112 ∧
  ∀ (H' : Hp) (p : Addr) (xs : List V), Same H H' → H' p = some (.tup xs) → xs.length ≤ 112 → Q (.ref p) H'
theorem ok_least_of (D : Df K mg "least_of" s_least_of) (G : Gx K mg) (c_place_of : Cal P w K mg base CX0 1 "place_of" sp_place_of) (c_classes_of : Cal P w K mg base CX0 2 "classes_of" sp_classes_of) (c_runs_of : Cal P w K mg base CX0 2 "runs_of" sp_runs_of) : Cal P w K mg base CX0 3 "least_of" sp_least_of := by
  refine cal0 D sc_least_of (fun _ _ _ _ _ _ us hl => match us, hl with | [_], _ => rfl) (fun vs H Q E h => ?_) (fun f cdv A outer s H vs Q E hr h => ?_)
  · obtain ⟨_, _, _, rfl, _⟩ := h
    rfl
  · obtain ⟨qt, q2, rows, rfl, hqt, tb, n0, n1, k⟩ := h
    refine ⟨_, (pss_cons (ps_set (i := 1) sc_least_of.nd rfl (Or.inr rfl) (pe_d c_classes_of hr (by decide) (by rfl) (pa_cons (pv 0) pa_nil)))
      (pss_cons (ps_set (i := 2) sc_least_of.nd rfl (Or.inr rfl) (pe_lst (pa_cons (pe_ix ix_list (pv 1) pe_int (fun _ _ => rfl)) pa_nil)))
      (pss_cons (ps_set (i := 3) sc_least_of.nd rfl (Or.inl rfl) (pe_lst pa_nil))
      (pss_cons (ps_while PassesOwn.never (pt_cmpR op_lt (pe_callB call_len_seq (by rfl) G.len (by decide +kernel) (pa_cons (pv 3) pa_nil)) (pe_callB call_len_seq (by rfl) G.len (by decide +kernel) (pa_cons (pv 2) pa_nil)) (nomark _)) (pss_cons (ps_setLc (i := 4) (own := [("taken", 5), ("behind", 6)]) (by rfl) sc_least_of.nd rfl rfl (sw_true rfl rfl rfl (by decide +kernel)) (pi_list (pe_ix ix_list (pv 0) (pe_d c_place_of hr (by decide) (by rfl) (pa_cons (pv 1) (pa_cons (pe_ix ix_list (pv 2) (pe_callB call_len_seq (by rfl) G.len (by decide +kernel) (pa_cons (pv 3) pa_nil)) (fun _ _ => rfl)) pa_nil))) (fun _ _ => rfl))) (blkOk_by (N := ["table", "classes", "order", "rows", "row", "taken", "behind", "name"]) (sc := defScope s_least_of) (by decide +kernel)) (fun _ _ _ _ _ => (pg_tupB (n := 2) rfl (pgs_cons (pg_name (i := 5) sc_least_of.nd rfl (Or.inl rfl) (Or.inr rfl)) (pgs_cons (pg_name (i := 6) sc_least_of.nd rfl (Or.inl rfl) (Or.inr rfl)) pgs_nil)))) (fun _ _ _ _ _ => pts_nil) (fun _ _ _ _ _ => (pe_tup (pa_cons (pv 5) (pa_cons (pe_ix ix_listB (pv 1) (pv 6) (fun _ _ => rfl)) pa_nil)))))
      (pss_cons (ps_expr (pe_bm PySem.F.plainAttrs_list PySem.F.slot_list_append PySem.F.type_list_append mt_append (pv 3) (pa_cons (pv 4) pa_nil)))
      (pss_one (ps_for PassesOwn.never rfl (pi_list (pv 4)) (pg_tup (n := 2) rfl (pgs_cons (pg_name (i := 5) sc_least_of.nd rfl (Or.inl rfl)) (pgs_cons (pg_name (i := 7) sc_least_of.nd rfl (Or.inl rfl)) pgs_nil))) (pss_one (ps_if (pt_cmpR op_notIn_seq (pv 7) (pv 2) rfl) (pss_one (ps_expr (pe_bm PySem.F.plainAttrs_list PySem.F.slot_list_append PySem.F.type_list_append mt_append (pv 2) (pa_cons (pv 7) pa_nil)))) pss_nil)))))))
      (pss_one (ps_ret (pe_callTy call_tuple_of (by rfl) G.tuple (by decide +kernel) (pa_cons (by exact pe_lc (own := [("row", 4)]) (by rfl) sc_least_of.nd (pi_list (pv 3)) (blkOk_by (N := ["table", "classes", "order", "rows", "row", "taken", "behind", "name"]) (sc := defScope s_least_of) (by decide +kernel)) (fun _ _ _ _ _ => (pg_name (i := 4) sc_least_of.nd rfl (Or.inl rfl) (Or.inr rfl))) (fun _ _ _ _ _ => pts_nil) (fun _ _ _ _ _ => (pe_d c_runs_of hr (by decide) (by rfl) (pa_cons (by exact pe_lc (own := [("taken", 5), ("name", 7)]) (by rfl) sc_least_of.nd (pi_listB (pv 4)) (blkOk_by (by rfl)) (fun _ _ _ _ _ => (pg_tupC (n := 2) rfl (pgs_cons (pg_name (i := 5) sc_least_of.nd rfl (Or.inl rfl) (Or.inr rfl)) (pgs_cons (pg_name (i := 7) sc_least_of.nd rfl (Or.inl rfl) (Or.inr rfl)) pgs_nil)))) (fun _ _ _ _ _ => pts_nil) (fun _ _ _ _ _ => (pe_tup (pa_cons (pv 5) (pa_cons (pe_d c_place_of hr (by decide) (by rfl) (pa_cons (pv 2) (pa_cons (pv 7) pa_nil))) pa_nil))))) pa_nil)))) pa_nil)))))))), ?_⟩
    walk_at "w"
    refine ⟨_, q2, rows, rfl, hqt, tb, n0, n1, fun H1 pc cs s1 hpc hc hcl => ?_⟩
    obtain ⟨n9, hn9m, hn9⟩ := natV_at2 (cs := cs) (i := 0) (by omega)
    have an : atI (natV cs) 0 = some (.int n9) := atI_nat (j := 0) hn9
    walk_at "w"
    refine ⟨_, _, _, _, rfl, rfl, .of hc, an, ?_⟩
    walk_at "w"
    rename_i qo hqo
    generalize hqr : q = qr at *
    have hne : qo ≠ qr := fun z => by rw [← z] at hq; rw [upd_same] at hq; cases hq
    have hpo : pc ≠ qo := ne_of_none hc hqo
    have hpr : pc ≠ qr := ne_of_none ((upd_ne hpo).trans hc) hq
    have s2 : Same H1 (L2.upd (L2.upd H1 qo (.lst [.int n9])) qr (.lst [])) := (L2.Same.new hqo).upd hq
    have ho2 : L2.upd (L2.upd H1 qo (.lst [.int n9])) qr (.lst []) qo = some (.lst (natV [n9])) := (upd_ne hne).trans upd_same
    have hr2 : L2.upd (L2.upd H1 qo (.lst [.int n9])) qr (.lst []) qr = some (.lst []) := upd_same
    have hoH : H qo = none := s1.free hqo
    have hrH : H qr = none := (s1.trans (.new hqo)).free hq
    have s12 := s1.trans s2
    generalize L2.upd (L2.upd H1 qo (.lst [.int n9])) qr (.lst []) = H2 at *
    have hc2 := s2 _ _ hc
    refine ⟨fun m σ H' => Kc qo qr H2 H' ∧ ∃ (os : List Nat) (rs : List V) (a b c d : Option V), m = 113 - rs.length ∧ σ = [some (.ref qt), some (.ref pc), some (.ref qo), some (.ref qr), a, b, c, d] ∧ H' qo = some (.lst (natV os)) ∧ H' qr = some (.lst rs) ∧ os.Nodup ∧ (∀ n ∈ os, n ∈ cs) ∧ rs.length ≤ os.length ∧ ∀ (j : Nat) (v : V), rs[j]? = some v → RowP H' v cs qo qr, ?_, ?_⟩
    · exact ⟨113, .of (.refl _), [n9], [], _, _, _, _, rfl, rfl, ho2, hr2, by simp, (fun n h => by simp at h; exact h ▸ hn9m), Nat.zero_le _, fun j v h => by simp at h⟩
    · rintro m σ H3 ⟨k3, os, rs, a, b, c, d, rfl, rfl, ho, hrr, nd, sub, hle, rows3⟩
      have hos := nodup_len nd sub
      have hnl := natV_len os
      have hc3 := k3.at_ _ _ hpo hpr hc2
      have s3 : Same H H3 := Kc.same s12 hoH hrH k3
      walk_at "w"
      by_cases lt : rs.length < (natV os).length
      · refine iteDT (by omega) ⟨_, fun _ _ h => h, ?_⟩
        have hqt3 := s3 _ _ hqt
        obtain ⟨n, hnm, hn⟩ := natV_at2 (cs := os) (i := rs.length) (by omega)
        have an2 : atI (natV os) (rs.length : Int) = some (.int n) := atI_nat hn
        obtain ⟨ix, hix, eix⟩ := nats_ix (sub n hnm)
        walk_at "w"
        refine ⟨_, _, _, _, rfl, rfl, .of ho, an2, ?_⟩
        walk_at "w"
        refine ⟨_, _, _, _, .int n, rfl, hc3, .nats cs, .int _, (fun e he => by obtain ⟨m, _, rfl⟩ := List.mem_map.mp he; rfl), rfl, fun H4 s4 => ?_⟩
        rw [eix]
        have hqt4 := s4 _ _ hqt3
        obtain ⟨tr, htr⟩ : ∃ tr, rows[ix]? = some tr := ⟨_, List.getElem?_eq_getElem (by omega)⟩
        have atr : atI rows (ix : Int) = some tr := atI_nat htr
        obtain ⟨ar, cl, rfl, _, har, hal, hac⟩ := tb.all ix tr htr
        have har4 := (s3.trans s4) _ _ har
        walk_at "w"
        refine ⟨_, _, _, _, rfl, rfl, .of hqt4, atr, ?_⟩
        walk_at "w"
        intro Dr hDr
        refine lc_list (xs := cl) (fun j H5 => Same H4 H5 ∧ ∃ (zs : List V), H5 Dr = some (.lst zs) ∧ zs.length = j ∧ ∀ (j : Nat) (c : V), zs[j]? = some c → ∃ (b : Bool) (i : Nat), i ∈ cs ∧ Td H5 c (.tuple [.bool b, .int i])) ?_ ?_ ?_ ?_
        · exact ⟨.new hDr, [], upd_same, rfl, fun j c h => by simp at h⟩
        · rintro j H5 hj ⟨s5, _⟩
          exact .of (s5 _ _ har4)
        · rintro j y H5 hy ⟨s5, zs, hD5, hzl, hzs⟩
          have hj' := (List.getElem?_eq_some_iff.mp hy).1
          obtain ⟨bb, ii, hii, tc⟩ := hac j y hy
          obtain ⟨pc2, c1, c2, rfl, hpc2, tc1, tc2⟩ := (tc.same ((s3.trans s4).trans s5)).tup2
          cases tc1.blE
          cases tc2.intE
          have hc5 := (s4.trans s5) _ _ hc3
          obtain ⟨nn, hnnm, hnn⟩ := natV_at2 (cs := cs) (i := ii) (by omega)
          have an5 : atI (natV cs) (ii : Int) = some (.int nn) := atI_nat hnn
          walk_at "w"
          refine ⟨_, _, _, _, rfl, rfl, .of hc5, an5, ?_⟩
          walk_at "w"
          have s56 : Same H5 (L2.upd H5 q (.tup [.bl bb, .int nn])) := .new hq
          have hD6 := s56 _ _ hD5
          refine ⟨zs, hD6, small1000 (by omega), (s5.trans s56).own hDr, zs ++ [.ref q], upd_same, by simp [hzl], fun j c hcj => ?_⟩
          rcases get_snoc hcj with h | ⟨rfl, rfl⟩
          · obtain ⟨b, i, hi, t⟩ := hzs j c h
            exact ⟨b, i, hi, (t.same s56).mono (.lst hD6)⟩
          · exact ⟨bb, nn, hnnm, (Td.of2 upd_same (.bl _) (.int _)).mono (.lst hD6)⟩
        · rintro H5 ⟨s5, zs, hD5, hzl, hzs⟩
          have s35 := s4.trans s5
          have hr5 := s35 _ _ hrr
          have hrl : rs.length < sizeLine := small1000 (by omega)
          walk_at "w"
          have dq : Dr ≠ qr := (ne_of_none (s4 _ _ hrr) hDr).symm
          have dq2 : Dr ≠ qo := (ne_of_none (s4 _ _ ho) hDr).symm
          have k56 : Kc qo qr H3 (L2.upd H5 qr (.lst (rs ++ [.ref Dr]))) := (Kc.of s35).trans (.snd hr5)
          have k36 := k3.trans k56
          have ho6 : L2.upd H5 qr (.lst (rs ++ [.ref Dr])) qo = some (.lst (natV os)) := (upd_ne hne).trans (s35 _ _ ho)
          have hr6 : L2.upd H5 qr (.lst (rs ++ [.ref Dr])) qr = some (.lst (rs ++ [.ref Dr])) := upd_same
          have hD6 : L2.upd H5 qr (.lst (rs ++ [.ref Dr])) Dr = some (.lst zs) := (upd_ne dq).trans hD5
          have rows6 : ∀ (j : Nat) (v : V), (rs ++ [.ref Dr])[j]? = some v → RowP (L2.upd H5 qr (.lst (rs ++ [.ref Dr]))) v cs qo qr := fun j v hv => by
            rcases get_snoc hv with h | ⟨rfl, rfl⟩
            · exact (rows3 j v h).keep k56
            · exact RowP.keep ⟨Dr, zs, rfl, dq2, dq, hD5, by omega, hzs⟩ (.snd hr5)
          have tz6 : ∀ (j : Nat) (c : V), zs[j]? = some c → ∃ (b : Bool) (i : Nat), i ∈ cs ∧ Td (L2.upd H5 qr (.lst (rs ++ [.ref Dr]))) c (.tuple [.bool b, .int i]) := fun j c h => by
            obtain ⟨b, i, hi, t⟩ := hzs j c h
            exact ⟨b, i, hi, t.mono (.lst hr5)⟩
          generalize L2.upd H5 qr (.lst (rs ++ [.ref Dr])) = H6 at *
          refine ⟨⟨_, .of hD6⟩, ?_⟩
          refine for_list (xs := zs) (fun i σ H7 => Kc qo qr H6 H7 ∧ ∃ (os : List Nat) (a b c d : Option V), σ = [some (.ref qt), some (.ref pc), some (.ref qo), some (.ref qr), a, b, c, d] ∧ H7 qo = some (.lst (natV os)) ∧ H7 qr = some (.lst (rs ++ [.ref Dr])) ∧ os.Nodup ∧ (∀ n ∈ os, n ∈ cs) ∧ rs.length + 1 ≤ os.length) ?_ ?_ ?_ ?_
          · exact ⟨.of (.refl _), os, _, _, _, _, rfl, ho6, hr6, nd, sub, by omega⟩
          · rintro i σ H7 hi ⟨k7, _⟩
            exact .of (k7.at_ _ _ dq2 dq hD6)
          · rintro i x σ H7 hx ⟨k7, os, a, b, c, d, rfl, ho7, hr7, nd, sub, hle⟩
            obtain ⟨bb, ii, hii, tc⟩ := tz6 i x hx
            obtain ⟨pc2, c1, c2, rfl, hpc2, tc1, tc2⟩ := (tc.mono k7.tup).tup2
            cases tc1.blE
            cases tc2.intE
            have hos := nodup_len nd sub
            walk_at "w"
            refine ⟨natV_flat _, ?_⟩
            rw [natV_in]
            by_cases hin : ii ∈ os
            · rw [decide_eq_true hin]
              walk_at "w"
              exact ⟨k7, os, _, _, _, _, rfl, ho7, hr7, nd, sub, hle⟩
            · rw [decide_eq_false hin]
              have hol : (natV os).length < sizeLine := small1000 (by rw [natV_len]; omega)
              walk_at "w"
              refine ⟨k7.trans (.fst ho7), os ++ [ii], _, _, _, _, rfl, ?_, (upd_ne hne.symm).trans hr7, nodup_snoc nd hin, mem_snoc sub hii, by simp; omega⟩
              rw [upd_same, natV_snoc]
          · rintro σ H7 ⟨k7, os, a, b, c, d, rfl, ho7, hr7, nd, sub, hle⟩
            exact ⟨113 - (rs ++ [V.ref Dr]).length, by simp; omega, k36.trans k7, os, _, _, _, _, _, rfl, rfl, ho7, hr7, nd, sub, by simp; omega, fun j v hv => (rows6 j v hv).keep k7⟩
      · refine iteDF (by omega) ?_
        walk_at "w"
        intro Dt hDt
        refine lc_list (xs := rs) (fun j H5 => Same H3 H5 ∧ ∃ zs : List V, H5 Dt = some (.lst zs) ∧ zs.length = j) ?_ ?_ ?_ ?_
        · exact ⟨.new hDt, [], upd_same, rfl⟩
        · rintro j H5 hj ⟨s5, _⟩
          exact .of (s5 _ _ hrr)
        · rintro j x H5 hx ⟨s5, ws, hDt5, hwl⟩
          have hj := (List.getElem?_eq_some_iff.mp hx).1
          obtain ⟨ar, zs, rfl, _, _, har, hzl, hzs⟩ := rows3 j x hx
          have har5 := s5 _ _ har
          have ho5 := s5 _ _ ho
          walk_at "w"
          intro Di hDi
          refine lc_list (xs := zs) (fun j H6 => Same H5 H6 ∧ ∃ (ys : List V), H6 Di = some (.lst ys) ∧ ys.length = j ∧ ∀ (j : Nat) (c : V), ys[j]? = some c → ∃ (b : Bool) (o : OI), Td H6 c (.tuple [.bool b, oiD o])) ?_ ?_ ?_ ?_
          · exact ⟨.new hDi, [], upd_same, rfl, fun j c h => by simp at h⟩
          · rintro j H6 hj ⟨s6, _⟩
            exact .of (s6 _ _ har5)
          · rintro j y H6 hy ⟨s6, ys, hD6, hyl, hys⟩
            have hj' := (List.getElem?_eq_some_iff.mp hy).1
            obtain ⟨bb, ii, hii, tc⟩ := hzs j y hy
            obtain ⟨pc2, c1, c2, rfl, hpc2, tc1, tc2⟩ := (tc.same (s5.trans s6)).tup2
            cases tc1.blE
            cases tc2.intE
            walk_at "w"
            refine ⟨_, _, _, _, .int ii, rfl, s6 _ _ ho5, .nats os, .int _, (fun e he => by obtain ⟨m, _, rfl⟩ := List.mem_map.mp he; rfl), rfl, fun H7 s7 => ?_⟩
            generalize (List.findIdx? (fun e => PyData.eqv e (PyData.int ii)) (os.map fun (m : Nat) => PyData.int (m : Int))) = oo
            walk_at "w"
            have s78 : Same H7 (L2.upd H7 q (.tup [.bl bb, onV oo])) := .new hq
            have hD8 := s78 _ _ (s7 _ _ hD6)
            refine ⟨ys, hD8, small1000 (by omega), ((s6.trans s7).trans s78).own hDi, ys ++ [.ref q], upd_same, by simp [hyl], fun j c hcj => ?_⟩
            rcases get_snoc hcj with h | ⟨rfl, rfl⟩
            · obtain ⟨b, o, t⟩ := hys j c h
              exact ⟨b, o, ((t.same s7).same s78).mono (.lst hD8)⟩
            · exact ⟨bb, _, (Td.of2 upd_same (.bl _) (onV_td oo)).mono (.lst hD8)⟩
          · rintro H6 ⟨s6, ys, hD6, hyl, hys⟩
            walk_at "w"
            refine ⟨_, ys, rfl, hD6, by omega, fun c hcm => ?_, fun H7 o s7 => ?_⟩
            · obtain ⟨j, hj, rfl⟩ := List.mem_iff_getElem.mp hcm
              exact hys j _ (List.getElem?_eq_getElem hj)
            · have hD7 := s7 _ _ (s6 _ _ hDt5)
              exact ⟨ws, hD7, small1000 (by omega), ((s5.trans s6).trans s7).own hDt, ws ++ [o], upd_same, by simp [hwl]⟩
        · rintro H5 ⟨s5, ws, hDt5, hwl⟩
          walk_at "w"
          exact k _ _ ws ((s3.trans s5).upd (by assumption)) upd_same (by omega)
def sp_form_of : Sp := fun vs H Q _ => ∃ (v : V) (R : Rec), vs = [v] ∧ Td H v (recD R) ∧ RecOk R ∧ ∀ (H' : Hp) (p : Addr) (xs : List V), Same H H' → H' p = some (.tup xs) → xs.length ≤ 112 → Q (.ref p) H'
theorem ok_form_of (D : Df K mg "form_of" s_form_of) (G : Gx K mg) (c_table_of : Cal P w K mg base CX0 5 "table_of" sp_table_of) (c_least_of : Cal P w K mg base CX0 3 "least_of" sp_least_of) : Cal P w K mg base CX0 6 "form_of" sp_form_of := by
  refine cal0 D sc_form_of (fun _ _ _ _ _ _ us hl => match us, hl with | [_], _ => rfl) (fun vs H Q E h => ?_) (fun f cdv A outer s H vs Q E hr h => ?_)
  · obtain ⟨_, _, rfl, _⟩ := h
    rfl
  · obtain ⟨v, R, rfl, hv, ok, k⟩ := h
    refine ⟨_, (pss_one (ps_ret (pe_d c_least_of hr (by decide) (by rfl) (pa_cons (pe_d c_table_of hr (by decide) (by rfl) (pa_cons (pv 0) pa_nil)) pa_nil)))), ?_⟩
    walk_at "w"
    refine ⟨_, R, rfl, hv, ok, fun H1 q rows s1 _ hq tb n0 n1 => ?_⟩
    walk_at "w"
    exact ⟨_, q, rows, rfl, hq, tb, n0, n1, fun H2 p xs s2 hp hl => k _ _ _ (s1.trans s2) hp hl⟩
end
end K8
set_option maxHeartbeats 4000000
namespace K8
open PySem PySem.Spec PyProof.Rows L2
/-! ### texts of small numbers -/
def Sn (n : Int) : Prop := -200 ≤ n ∧ n ≤ 200
instance (n : Int) : Decidable (Sn n) := by unfold Sn; infer_instance
abbrev nt (n : Int) : Str := toString n
theorem byFin {p : Int → Prop} (h : ∀ k : Fin 401, p ((k.val : Int) - 200)) {n : Int} (hn : Sn n) : p n := by
  obtain ⟨a, b⟩ := hn
  have := h ⟨(n + 200).toNat, by omega⟩
  have e : (((n + 200).toNat : Nat) : Int) - 200 = n := by omega
  simp only at this
  rwa [e] at this
theorem nt_ok {n : Int} (h : Sn n) : (nt n).length ≤ 5 ∧ 1 ≤ (nt n).length := byFin (p := fun n => (nt n).length ≤ 5 ∧ 1 ≤ (nt n).length) (by decide +kernel) h
def nAbs (n : Int) : Int := if n < 0 then -n else n
theorem nt_num {n : Int} (h : Sn n) : (if n < 0 then ("-" : Str) else ("" : Str)) ++ Txt.join ("" : Str) [nt (nAbs n)] = nt n := byFin (p := fun n => (if n < 0 then ("-" : Str) else ("" : Str)) ++ Txt.join ("" : Str) [nt (nAbs n)] = nt n) (by decide +kernel) h
/-- the digits as parse_number finds them -/
def digF (n : Int) : Str := if n < 0 then cutS (nt n) (some 1) none else nt n
theorem dig_ok {n : Int} (h : Sn n) : (decide (cutS (nt n) none (some 1) = ("-" : Str)) = decide (n < 0)) ∧ 1 ≤ (digF n).length ∧ (digF n).length ≤ 5 ∧ ((digF n).cps.toList.all fun c => decide (c ∈ ("0123456789" : Str).cps.toList)) = true ∧
    intText? (digF n) = some (nAbs n) ∧ (decide (digF n = nt n) = decide (¬ n < 0)) ∧ (∃ c, (digF n).cps.toList[0]? = some c ∧ ((⟨#[c]⟩ : Str) = "0" → nt n = "0")) := byFin (p := fun n => (decide (cutS (nt n) none (some 1) = ("-" : Str)) = decide (n < 0)) ∧ 1 ≤ (digF n).length ∧ (digF n).length ≤ 5 ∧ ((digF n).cps.toList.all fun c => decide (c ∈ ("0123456789" : Str).cps.toList)) = true ∧
    intText? (digF n) = some (nAbs n) ∧ (decide (digF n = nt n) = decide (¬ n < 0)) ∧ (∃ c, (digF n).cps.toList[0]? = some c ∧ ((⟨#[c]⟩ : Str) = "0" → nt n = "0"))) (fun k => by
      have a : ∀ k : Fin 401, (decide (cutS (nt ((k.val : Int) - 200)) none (some 1) = ("-" : Str)) = decide (((k.val : Int) - 200) < 0)) ∧ 1 ≤ (digF ((k.val : Int) - 200)).length ∧ (digF ((k.val : Int) - 200)).length ≤ 5 ∧ ((digF ((k.val : Int) - 200)).cps.toList.all fun c => decide (c ∈ ("0123456789" : Str).cps.toList)) = true ∧
          intText? (digF ((k.val : Int) - 200)) = some (nAbs ((k.val : Int) - 200)) ∧ (decide (digF ((k.val : Int) - 200) = nt ((k.val : Int) - 200)) = decide (¬ ((k.val : Int) - 200) < 0)) ∧ ((digF ((k.val : Int) - 200)).cps.toList[0]?.any fun c => decide ((⟨#[c]⟩ : Str) = "0" → nt ((k.val : Int) - 200) = "0")) = true := by decide +kernel
      obtain ⟨a1, a2, a3, a4, a5, a6, a7⟩ := a k
      refine ⟨a1, a2, a3, a4, a5, a6, ?_⟩
      cases e : (digF ((k.val : Int) - 200)).cps.toList[0]? with
      | none => rw [e] at a7; cases a7
      | some c =>
        rw [e] at a7
        exact ⟨c, rfl, of_decide_eq_true a7⟩) h
end K8
set_option maxHeartbeats 4000000
namespace K8
open PySem PySem.Spec PyProof.Rows L2
set_option hygiene false in
local macro_rules | `(tactic| walk_at "w") => `(tactic| (repeat (first | refine ⟨_, rfl, ?_⟩ | refine ⟨_, _, rfl, rfl, ?_⟩ | refine ⟨rfl, ?_⟩ | refine ⟨_, _, rfl, ?_⟩ | refine ⟨_, _, rfl, .of upd_same, rfl, ?_⟩ | refine ⟨_, _, rfl, .of (by assumption), rfl, ?_⟩ | refine ⟨_, _, rfl, .of (by assumption), fun q hq => ?_⟩ | refine ⟨_, _, rfl, .of (by assumption), ?_⟩ | refine ⟨_, _, rfl, .inr (.of (by assumption)), ?_⟩ | refine ⟨_, _, rfl, .inl (.of (by assumption)), ?_⟩ | refine ⟨_, _, _, _, rfl, rfl, .of (by assumption), atI_nat (j := 0) rfl, ?_⟩ | refine ⟨_, _, _, _, rfl, rfl, .of (by assumption), atI_nat (j := 1) rfl, ?_⟩ | refine ⟨_, _, _, _, rfl, rfl, .of (by assumption), atI_nat (j := 2) rfl, ?_⟩ | refine ⟨fun z => absurd z.1 (show ¬ (1 : Nat) = 0 by decide), fun _ q hq => ?_⟩ | refine ⟨fun z => absurd z.1 (show ¬ (2 : Nat) = 0 by decide), fun _ q hq => ?_⟩ | refine ⟨sz1, fun q hq => ?_⟩ | refine ⟨sz2, fun q hq => ?_⟩ | refine ⟨sz3, fun q hq => ?_⟩ | refine ⟨sz0, fun q hq => ?_⟩ | refine ⟨_, _, _, rfl, rfl, (by assumption), (by assumption), ?_⟩ | refine ⟨.inl ⟨rfl, _, .of (by assumption)⟩, ?_⟩ | refine ⟨_, _, rfl, .inl ⟨.of (by assumption), fun q hq => ?_⟩⟩ | refine ⟨⟨_, .of (by assumption)⟩, ?_⟩ | refine ⟨⟨_, rfl⟩, ?_⟩ | refine iteT ?_ | refine iteF ?_)))
section
variable {P : Program} {w : World} {K : PySem.W.Frag} {mg : Str → Option Value} {base : Heap}
/-! ### texts -/
def sp_number_text : Sp := fun vs H Q _ => ∃ n : Int, vs = [.int n] ∧ Sn n ∧ ∀ H', Same H H' → Q (.str (nt n)) H'
theorem log_ok {n : Int} (h : Sn n) : n.natAbs.log2 < 1920 := byFin (p := fun n => n.natAbs.log2 < 1920) (by decide +kernel) h
theorem abs_ok {n : Int} (h : Sn n) : Sn (nAbs n) := by obtain ⟨a, b⟩ := h; unfold nAbs Sn; split <;> omega
theorem ok_number_text (D : Df K mg "number_text" s_number_text) (G : Gx K mg) : Cal P w K mg base CX0 1 "number_text" sp_number_text := by
  refine cal0 D sc_number_text (fun _ _ _ _ _ _ us hl => match us, hl with | [_], _ => rfl) (fun vs H Q E h => ?_) (fun f cdv A outer s H vs Q E hr h => ?_)
  · obtain ⟨_, rfl, _⟩ := h
    rfl
  · obtain ⟨n, rfl, hn, k⟩ := h
    refine ⟨_, (pss_cons (ps_set (i := 1) sc_number_text.nd rfl (Or.inl rfl) (pe_lst pa_nil))
      (pss_cons (ps_set (i := 2) sc_number_text.nd rfl (Or.inl rfl) (pe_callB call_abs (by rfl) G.abs (by decide +kernel) (pa_cons (pv 0) pa_nil)))
      (pss_cons (ps_while PassesOwn.never (pt_cmpR op_ge (pv 2) (pe_gi (by rfl) G.SPLIT) (nomark _)) pss_never)
      (pss_cons (ps_expr (pe_bm PySem.F.plainAttrs_list PySem.F.slot_list_append PySem.F.type_list_append mt_append (pv 1) (pa_cons (pe_callTy call_str_int (by rfl) G.str (by decide +kernel) (pa_cons (pv 2) pa_nil)) pa_nil)))
      (pss_one (ps_ret (pe_op op_add_str (pe_ifExp (pt_cmpR op_lt (pv 0) pe_int (nomark _)) pe_str pe_str) (pe_join pe_str (pe_revL (pv 1)))))))))), ?_⟩
    walk_at "w"
    refine ⟨fun _ σ' H' => σ' = _ ∧ H' = _, ⟨0, rfl, rfl⟩, ?_⟩
    rintro m σ' H' ⟨rfl, rfl⟩
    have ha := abs_ok hn
    have e1 : (if n < 0 then -n else n) = nAbs n := rfl
    rw [e1]
    walk_at "w"
    refine iteDF (by unfold Sn at ha; omega) ?_
    have hq1 : L2.upd H q (.lst []) q = some (.lst []) := upd_same
    have hz : ([] : List V).length < sizeLine := small1000 (Nat.zero_le _)
    walk_at "w"
    refine ⟨log_ok ha, ?_⟩
    walk_at "w"
    have key := nt_num hn
    have hq2 : L2.upd (L2.upd H q (.lst [])) q (.lst ([] ++ [V.str (nt (nAbs n))])) q = some (.lst [V.str (nt (nAbs n))]) := upd_same
    have ol := nt_ok ha
    have ol2 := nt_ok hn
    have l0 : ("" : Str).length = 0 := rfl
    have l1 : ("-" : Str).length = 1 := rfl
    have fin : Txt.join ("" : Str) [nt (nAbs n)] = nt (nAbs n) := byFin (p := fun n => Txt.join ("" : Str) [nt (nAbs n)] = nt (nAbs n)) (by decide +kernel) hn
    have sz := sizeLine_eq
    have lz : ([nt (nAbs n)].map (·.length)).sum + [nt (nAbs n)].length * ("" : Str).length ≤ 16777216 := by
      rw [l0]
      show ((nt (nAbs n)).length + 0) + 1 * 0 ≤ 16777216
      omega
    by_cases lt : n < 0
    · rw [if_pos lt] at key
      rw [decide_eq_true lt]
      walk_at "w"
      refine ⟨_, _, [nt (nAbs n)], rfl, rfl, .inl (.of upd_same), lz, ?_⟩
      walk_at "w"
      refine ⟨by rw [fin]; omega, ?_⟩
      rw [key]
      exact k _ ((L2.Same.own (L2.Same.own (L2.Same.refl H) (by assumption)) (by assumption)).upd (by assumption))
    · rw [if_neg lt] at key
      rw [decide_eq_false lt]
      walk_at "w"
      refine ⟨_, _, [nt (nAbs n)], rfl, rfl, .inl (.of upd_same), lz, ?_⟩
      walk_at "w"
      refine ⟨by rw [fin]; omega, ?_⟩
      rw [key]
      exact k _ ((L2.Same.own (L2.Same.own (L2.Same.refl H) (by assumption)) (by assumption)).upd (by assumption))
end
end K8
set_option maxHeartbeats 4000000
namespace K8
open PySem PySem.Spec PyProof.Rows L2
set_option hygiene false in
local macro_rules | `(tactic| walk_at "w") => `(tactic| (repeat (first | refine ⟨_, rfl, ?_⟩ | refine ⟨_, _, rfl, rfl, ?_⟩ | refine ⟨rfl, ?_⟩ | refine ⟨_, _, rfl, ?_⟩ | refine ⟨_, _, rfl, .of upd_same, rfl, ?_⟩ | refine ⟨_, _, rfl, .of (by assumption), rfl, ?_⟩ | refine ⟨_, _, rfl, .of (by assumption), fun q hq => ?_⟩ | refine ⟨_, _, rfl, .of (by assumption), ?_⟩ | refine ⟨_, _, rfl, .inr (.of (by assumption)), ?_⟩ | refine ⟨_, _, rfl, .inl (.of (by assumption)), ?_⟩ | refine ⟨_, _, _, _, rfl, rfl, .of (by assumption), atI_nat (j := 0) rfl, ?_⟩ | refine ⟨_, _, _, _, rfl, rfl, .of (by assumption), atI_nat (j := 1) rfl, ?_⟩ | refine ⟨_, _, _, _, rfl, rfl, .of (by assumption), atI_nat (j := 2) rfl, ?_⟩ | refine ⟨fun z => absurd z.1 (show ¬ (1 : Nat) = 0 by decide), fun _ q hq => ?_⟩ | refine ⟨fun z => absurd z.1 (show ¬ (2 : Nat) = 0 by decide), fun _ q hq => ?_⟩ | refine ⟨sz1, fun q hq => ?_⟩ | refine ⟨sz2, fun q hq => ?_⟩ | refine ⟨sz3, fun q hq => ?_⟩ | refine ⟨sz0, fun q hq => ?_⟩ | refine ⟨_, _, _, rfl, rfl, (by assumption), (by assumption), ?_⟩ | refine ⟨.inl ⟨rfl, _, .of (by assumption)⟩, ?_⟩ | refine ⟨_, _, rfl, .inl ⟨.of (by assumption), fun q hq => ?_⟩⟩ | refine ⟨⟨_, .of (by assumption)⟩, ?_⟩ | refine ⟨⟨_, rfl⟩, ?_⟩ | refine iteT ?_ | refine iteF ?_)))
section
variable {P : Program} {w : World} {K : PySem.W.Frag} {mg : Str → Option Value} {base : Heap}
/-! ### texts of ranges -/
def SnB (b : OI) : Prop := ∀ i, b = some i → Sn i
structure RgS (r : Rg) : Prop where
  lo : SnB r.lo
  hi : SnB r.hi
def bt : OI → Str
  | none => ""
  | some i => nt i
def rt (r : Rg) : Str := (bt r.lo ++ ("..": Str)) ++ bt r.hi
def rst (rs : List Rg) : Str := match rs with
  | [] => "-"
  | _ => Txt.join (", " : Str) (rs.map rt)
theorem bt_len {b : OI} (h : SnB b) : (bt b).length ≤ 5 := by
  cases b with
  | none => exact Nat.zero_le _
  | some i => exact (nt_ok (h i rfl)).1
theorem app_len (a b : Str) : (a ++ b).length = a.length + b.length := by
  show (a.cps ++ b.cps).size = _
  rw [Array.size_append]
  rfl
theorem app_le {a b : Str} {m n : Nat} (ha : a.length ≤ m) (hb : b.length ≤ n) : (a ++ b).length ≤ m + n := by rw [app_len]; omega
theorem sum_le {a b : Str} {m n : Nat} (ha : a.length ≤ m) (hb : b.length ≤ n) (h : m + n ≤ sizeLine := by decide) : a.length + b.length ≤ sizeLine := Nat.le_trans (Nat.add_le_add ha hb) h
theorem rt_len {r : Rg} (h : RgS r) : (rt r).length ≤ 12 := by
  have h1 := bt_len h.lo
  have h2 := bt_len h.hi
  have h3 : (".." : Str).length = 2 := rfl
  unfold rt
  rw [app_len, app_len]
  omega
theorem rts_sum {rs : List Rg} (h : ∀ r ∈ rs, RgS r) : ((rs.map rt).map (·.length)).sum ≤ 12 * rs.length := by
  induction rs with
  | nil => exact Nat.le_refl _
  | cons r rs ih =>
    have := ih fun z hz => h z (List.mem_cons_of_mem _ hz)
    have := rt_len (h r List.mem_cons_self)
    simp only [List.map_cons, List.sum_cons, List.length_cons]
    omega
def sp_bound_text : Sp := fun vs H Q _ => ∃ b : OI, vs = [oiV b] ∧ SnB b ∧ ∀ H', Same H H' → Q (.str (bt b)) H'
theorem ok_bound_text (D : Df K mg "bound_text" s_bound_text) (G : Gx K mg) (c_number_text : Cal P w K mg base CX0 1 "number_text" sp_number_text) : Cal P w K mg base CX0 2 "bound_text" sp_bound_text := by
  refine cal0 D sc_bound_text (fun _ _ _ _ _ _ us hl => match us, hl with | [_], _ => rfl) (fun vs H Q E h => ?_) (fun f cdv A outer s H vs Q E hr h => ?_)
  · obtain ⟨_, rfl, _⟩ := h
    rfl
  · obtain ⟨b, rfl, hb, k⟩ := h
    refine ⟨_, (pss_one (ps_ret (pe_ifExp (pt_cmpR op_isN (pv 0) pe_non (nomark _)) pe_str (pe_d c_number_text hr (by decide) (by rfl) (pa_cons (pv 0) pa_nil))))), ?_⟩
    cases b with
    | none =>
      walk_at "w"
      exact k _ (.refl _)
    | some i =>
      walk_at "w"
      exact ⟨hb i rfl, k⟩
def sp_range_text : Sp := fun vs H Q _ => ∃ (v : V) (r : Rg), vs = [v] ∧ Td H v r.d ∧ RgS r ∧ ∀ H', Same H H' → Q (.str (rt r)) H'
theorem ok_range_text (D : Df K mg "range_text" s_range_text) (G : Gx K mg) (c_bound_text : Cal P w K mg base CX0 2 "bound_text" sp_bound_text) : Cal P w K mg base CX0 3 "range_text" sp_range_text := by
  refine cal0 D sc_range_text (fun _ _ _ _ _ _ us hl => match us, hl with | [_], _ => rfl) (fun vs H Q E h => ?_) (fun f cdv A outer s H vs Q E hr h => ?_)
  · obtain ⟨_, _, rfl, _⟩ := h
    rfl
  · obtain ⟨v, ⟨lo, hi⟩, rfl, hv, ok, k⟩ := h
    refine ⟨_, (pss_one (ps_ret (pe_op op_add_str (pe_op op_add_str (pe_d c_bound_text hr (by decide) (by rfl) (pa_cons (pe_ix ix_tup (pv 0) pe_int (fun _ _ => rfl)) pa_nil)) pe_str) (pe_d c_bound_text hr (by decide) (by rfl) (pa_cons (pe_ix ix_tup (pv 0) pe_int (fun _ _ => rfl)) pa_nil))))), ?_⟩
    obtain ⟨p, x, y, rfl, hp, hx, hy⟩ := hv.tup2
    cases hx.oiE
    cases hy.oiE
    have h1 := bt_len ok.lo
    have h2 := bt_len ok.hi
    have h3 : (".." : Str).length = 2 := rfl
    have sz := sizeLine_eq
    walk_at "w"
    refine ⟨ok.lo, fun H1 s1 => ?_⟩
    have hp1 := s1 _ _ hp
    walk_at "w"
    refine ⟨sum_le h1 (Nat.le_refl 2), ?_⟩
    walk_at "w"
    refine ⟨ok.hi, fun H2 s2 => ?_⟩
    walk_at "w"
    refine ⟨sum_le (app_le h1 (Nat.le_refl 2)) h2, ?_⟩
    exact k _ (s1.trans s2)
theorem ok_l_range_text (D : Df K mg "_law_range_text" s_l_range_text) (G : Gx K mg) : Cal P w K mg base CX0 1 "_law_range_text" sp_range_text := by
  refine cal0 D sc_l_range_text (fun _ _ _ _ _ _ us hl => match us, hl with | [_], _ => rfl) (fun vs H Q E h => ?_) (fun f cdv A outer s H vs Q E hr h => ?_)
  · obtain ⟨_, _, rfl, _⟩ := h
    rfl
  · obtain ⟨v, ⟨lo, hi⟩, rfl, hv, ok, k⟩ := h
    refine ⟨_, (pss_one (ps_ret (pe_op op_add_str (pe_op op_add_str (pe_ifExp (pt_cmpR op_isN (pe_ix ix_tup (pv 0) pe_int (fun _ _ => rfl)) pe_non (nomark _)) pe_str (pe_callTy call_str_int (by rfl) G.str (by decide +kernel) (pa_cons (pe_ix ix_tup (pv 0) pe_int (fun _ _ => rfl)) pa_nil))) pe_str) (pe_ifExp (pt_cmpR op_isN (pe_ix ix_tup (pv 0) pe_int (fun _ _ => rfl)) pe_non (nomark _)) pe_str (pe_callTy call_str_int (by rfl) G.str (by decide +kernel) (pa_cons (pe_ix ix_tup (pv 0) pe_int (fun _ _ => rfl)) pa_nil)))))), ?_⟩
    obtain ⟨p, x, y, rfl, hp, hx, hy⟩ := hv.tup2
    cases hx.oiE
    cases hy.oiE
    have h1 := bt_len ok.lo
    have h2 := bt_len ok.hi
    have h3 : (".." : Str).length = 2 := rfl
    have sz := sizeLine_eq
    cases lo with
    | none =>
      walk_at "w"
      refine ⟨sum_le h1 (Nat.le_refl 2), ?_⟩
      cases hi with
      | none =>
        walk_at "w"
        refine ⟨sum_le (app_le h1 (Nat.le_refl 2)) h2, ?_⟩
        exact k _ (.refl _)
      | some h =>
        walk_at "w"
        refine ⟨log_ok (ok.hi h rfl), ?_⟩
        walk_at "w"
        refine ⟨sum_le (app_le h1 (Nat.le_refl 2)) h2, ?_⟩
        exact k _ (.refl _)
    | some l =>
      walk_at "w"
      refine ⟨log_ok (ok.lo l rfl), ?_⟩
      walk_at "w"
      refine ⟨sum_le h1 (Nat.le_refl 2), ?_⟩
      cases hi with
      | none =>
        walk_at "w"
        refine ⟨sum_le (app_le h1 (Nat.le_refl 2)) h2, ?_⟩
        exact k _ (.refl _)
      | some h =>
        walk_at "w"
        refine ⟨log_ok (ok.hi h rfl), ?_⟩
        walk_at "w"
        refine ⟨sum_le (app_le h1 (Nat.le_refl 2)) h2, ?_⟩
        exact k _ (.refl _)
/-! ### texts of many ranges -/
theorem rg_fl (r : Rg) : Fl 1 r.d := .tup2 (fl_oi 0 _) (fl_oi 0 _)
theorem rgs_fl (rs : List Rg) : Fl 2 (.tuple (rs.map Rg.d)) := .tup fun d hd => by
  obtain ⟨r, _, rfl⟩ := List.mem_map.mp hd
  exact rg_fl r
theorem nil_fl : Fl 1 (.tuple []) := .tup (n := 0) fun z hz => nomatch hz
theorem eqv_nil {ds : List PyData} : PyData.eqv (.tuple ds) (.tuple []) = ds.isEmpty := by cases ds <;> rfl
theorem strs_sum {rs : List Rg} (h : ∀ r ∈ rs, RgS r) (hl : rs.length ≤ 100) : ((rs.map rt).map (·.length)).sum + (rs.map rt).length * (", " : Str).length ≤ 16777216 := by
  have h1 := rts_sum h
  rw [List.length_map, show (", " : Str).length = 2 from rfl]
  omega
def sp_ranges_text : Sp := fun vs H Q _ => ∃ (v : V) (rs : List Rg), vs = [v] ∧ Td H v (.tuple (rs.map Rg.d)) ∧ (∀ r ∈ rs, RgS r) ∧ rs.length ≤ 100 ∧ ∀ H', Same H H' → Q (.str (rst rs)) H'
theorem ok_ranges_text (D : Df K mg "ranges_text" s_ranges_text) (G : Gx K mg) (c_range_text : Cal P w K mg base CX0 3 "range_text" sp_range_text) : Cal P w K mg base CX0 4 "ranges_text" sp_ranges_text := by
  refine cal0 D sc_ranges_text (fun _ _ _ _ _ _ us hl => match us, hl with | [_], _ => rfl) (fun vs H Q E h => ?_) (fun f cdv A outer s H vs Q E hr h => ?_)
  · obtain ⟨_, _, rfl, _⟩ := h
    rfl
  · obtain ⟨v, rs, rfl, hv, ok, hl, k⟩ := h
    refine ⟨_, (pss_one (ps_ret (pe_ifExp (pt_cmpR (op_eqD hr.units) (pv 0) (pe_tup pa_nil) (nomark _)) pe_str (pe_join pe_str (by exact pe_lc (own := [("own", 1)]) (by rfl) sc_ranges_text.nd (pi_tup (pv 0)) (blkOk_by (N := ["found", "own"]) (sc := defScope s_ranges_text) (by decide +kernel)) (fun _ _ _ _ _ => (pg_name (i := 1) sc_ranges_text.nd rfl (Or.inl rfl) (Or.inr rfl))) (fun _ _ _ _ _ => pts_nil) (fun _ _ _ _ _ => (pe_d c_range_text hr (by decide) (by rfl) (pa_cons (pv 1) pa_nil)))))))), ?_⟩
    obtain ⟨p, xs, rfl, hp, tx⟩ := hv.tds
    walk_at "w"
    have s1 : Same H (L2.upd H q (.tup [])) := .new hq
    refine eq_td (hv.same s1) (.of0 upd_same) (rgs_fl rs) nil_fl (by decide) (by decide) ?_
    rw [eqv_nil]
    cases rs with
    | nil =>
      walk_at "w"
      exact k _ s1
    | cons r0 rs0 =>
      generalize hrs : r0 :: rs0 = rs at *
      have e : (rs.map Rg.d).isEmpty = false := by subst hrs; rfl
      have e2 : rst rs = Txt.join (", " : Str) (rs.map rt) := by subst hrs; rfl
      rw [e]
      have hp1 := s1 _ _ hp
      walk_at "w"
      intro Dn hDn
      refine lc_tup (xs := xs) (fun j H2 => Same (L2.upd H q (.tup [])) H2 ∧ H2 Dn = some (.lst (((rs.take j).map rt).map V.str))) ?_ ?_ ?_ ?_
      · exact ⟨.new hDn, upd_same⟩
      · rintro j H2 hj ⟨s2, _⟩
        exact .of (s2 _ _ hp1)
      · rintro j x H2 hx ⟨s2, hD⟩
        have hj : j < rs.length := by
          have := (List.getElem?_eq_some_iff.mp hx).1
          rw [tx.len, List.length_map] at this
          exact this
        have hr9 : rs[j]? = some rs[j] := List.getElem?_eq_getElem hj
        have t9 := tx.all j x _ hx (by rw [List.getElem?_map, hr9]; rfl)
        walk_at "w"
        refine ⟨_, _, rfl, (t9.same s1).same s2, ok _ (List.getElem_mem hj), fun H3 s3 => ?_⟩
        refine ⟨_, s3 _ _ hD, small1000 (by simp; omega), (s2.trans s3).own hDn, ?_⟩
        rw [upd_same, take_snoc hr9, List.map_append, List.map_append]
        rfl
      · rintro H2 ⟨s2, hD⟩
        rw [tx.len, List.length_map, List.take_length] at hD
        walk_at "w"
        refine ⟨_, _, rs.map rt, rfl, rfl, .inl (.of hD), strs_sum ok hl, ?_⟩
        rw [← e2]
        exact k _ (s1.trans s2)
theorem ok_l_ranges_text (D : Df K mg "_law_ranges_text" s_l_ranges_text) (G : Gx K mg) (c__law_range_text : Cal P w K mg base CX0 1 "_law_range_text" sp_range_text) : Cal P w K mg base CX0 2 "_law_ranges_text" sp_ranges_text := by
  refine cal0 D sc_l_ranges_text (fun _ _ _ _ _ _ us hl => match us, hl with | [_], _ => rfl) (fun vs H Q E h => ?_) (fun f cdv A outer s H vs Q E hr h => ?_)
  · obtain ⟨_, _, rfl, _⟩ := h
    rfl
  · obtain ⟨v, rs, rfl, hv, ok, hl, k⟩ := h
    refine ⟨_, (pss_one (ps_ret (pe_ifExp (pt_cmpR (op_neD hr.units) (pv 0) (pe_tup pa_nil) (nomark _)) (pe_join pe_str (by exact pe_lc (own := [("_law_own", 1)]) (by rfl) sc_l_ranges_text.nd (pi_tup (pv 0)) (blkOk_by (N := ["_law_ranges", "_law_own"]) (sc := defScope s_l_ranges_text) (by decide +kernel)) (fun _ _ _ _ _ => (pg_name (i := 1) sc_l_ranges_text.nd rfl (Or.inl rfl) (Or.inr rfl))) (fun _ _ _ _ _ => pts_nil) (fun _ _ _ _ _ => (pe_d c__law_range_text hr (by decide) (by rfl) (pa_cons (pv 1) pa_nil))))) pe_str))), ?_⟩
    obtain ⟨p, xs, rfl, hp, tx⟩ := hv.tds
    walk_at "w"
    have s1 : Same H (L2.upd H q (.tup [])) := .new hq
    refine ne_td (hv.same s1) (.of0 upd_same) (rgs_fl rs) nil_fl (by decide) (by decide) ?_
    rw [eqv_nil]
    cases rs with
    | nil =>
      walk_at "w"
      exact k _ s1
    | cons r0 rs0 =>
      generalize hrs : r0 :: rs0 = rs at *
      have e : (rs.map Rg.d).isEmpty = false := by subst hrs; rfl
      have e2 : rst rs = Txt.join (", " : Str) (rs.map rt) := by subst hrs; rfl
      rw [e]
      have hp1 := s1 _ _ hp
      walk_at "w"
      intro Dn hDn
      refine lc_tup (xs := xs) (fun j H2 => Same (L2.upd H q (.tup [])) H2 ∧ H2 Dn = some (.lst (((rs.take j).map rt).map V.str))) ?_ ?_ ?_ ?_
      · exact ⟨.new hDn, upd_same⟩
      · rintro j H2 hj ⟨s2, _⟩
        exact .of (s2 _ _ hp1)
      · rintro j x H2 hx ⟨s2, hD⟩
        have hj : j < rs.length := by
          have := (List.getElem?_eq_some_iff.mp hx).1
          rw [tx.len, List.length_map] at this
          exact this
        have hr9 : rs[j]? = some rs[j] := List.getElem?_eq_getElem hj
        have t9 := tx.all j x _ hx (by rw [List.getElem?_map, hr9]; rfl)
        walk_at "w"
        refine ⟨_, _, rfl, (t9.same s1).same s2, ok _ (List.getElem_mem hj), fun H3 s3 => ?_⟩
        refine ⟨_, s3 _ _ hD, small1000 (by simp; omega), (s2.trans s3).own hDn, ?_⟩
        rw [upd_same, take_snoc hr9, List.map_append, List.map_append]
        rfl
      · rintro H2 ⟨s2, hD⟩
        rw [tx.len, List.length_map, List.take_length] at hD
        walk_at "w"
        refine ⟨_, _, rs.map rt, rfl, rfl, .inl (.of hD), strs_sum ok hl, ?_⟩
        rw [← e2]
        exact k _ (s1.trans s2)
end
end K8
set_option maxHeartbeats 4000000
namespace K8
open PySem PySem.Spec PyProof.Rows L2
set_option hygiene false in
local macro_rules | `(tactic| walk_at "w") => `(tactic| (repeat (first | refine ⟨_, rfl, ?_⟩ | refine ⟨_, _, rfl, rfl, ?_⟩ | refine ⟨rfl, ?_⟩ | refine ⟨_, _, rfl, ?_⟩ | refine ⟨_, _, rfl, .of upd_same, rfl, ?_⟩ | refine ⟨_, _, rfl, .of (by assumption), rfl, ?_⟩ | refine ⟨_, _, rfl, .of (by assumption), fun q hq => ?_⟩ | refine ⟨_, _, rfl, .of (by assumption), ?_⟩ | refine ⟨_, _, rfl, .inr (.of (by assumption)), ?_⟩ | refine ⟨_, _, rfl, .inl (.of (by assumption)), ?_⟩ | refine ⟨_, _, _, _, rfl, rfl, .of (by assumption), atI_nat (j := 0) rfl, ?_⟩ | refine ⟨_, _, _, _, rfl, rfl, .of (by assumption), atI_nat (j := 1) rfl, ?_⟩ | refine ⟨_, _, _, _, rfl, rfl, .of (by assumption), atI_nat (j := 2) rfl, ?_⟩ | refine ⟨fun z => absurd z.1 (show ¬ (1 : Nat) = 0 by decide), fun _ q hq => ?_⟩ | refine ⟨fun z => absurd z.1 (show ¬ (2 : Nat) = 0 by decide), fun _ q hq => ?_⟩ | refine ⟨sz1, fun q hq => ?_⟩ | refine ⟨sz2, fun q hq => ?_⟩ | refine ⟨sz3, fun q hq => ?_⟩ | refine ⟨sz0, fun q hq => ?_⟩ | refine ⟨_, _, _, rfl, rfl, (by assumption), (by assumption), ?_⟩ | refine ⟨.inl ⟨rfl, _, .of (by assumption)⟩, ?_⟩ | refine ⟨_, _, rfl, .inl ⟨.of (by assumption), fun q hq => ?_⟩⟩ | refine ⟨⟨_, .of (by assumption)⟩, ?_⟩ | refine ⟨⟨_, rfl⟩, ?_⟩ | refine iteT ?_ | refine iteF ?_)))
section
variable {P : Program} {w : World} {K : PySem.W.Frag} {mg : Str → Option Value} {base : Heap}
/-! ### texts of logs -/
def lt0 : Str := Txt.join (" " : Str) [nt 0 ++ ("+" : Str)]
def sp_log_text : Sp := fun vs H Q _ => ∃ (v : V), vs = [v] ∧ Td H v (.tuple [.tuple [.int 0, .bool true]]) ∧ ∀ H', Same H H' → Q (.str lt0) H'
theorem ok_log_text (D : Df K mg "log_text" s_log_text) (G : Gx K mg) (c_number_text : Cal P w K mg base CX0 1 "number_text" sp_number_text) : Cal P w K mg base CX0 2 "log_text" sp_log_text := by
  refine cal0 D sc_log_text (fun _ _ _ _ _ _ us hl => match us, hl with | [_], _ => rfl) (fun vs H Q E h => ?_) (fun f cdv A outer s H vs Q E hr h => ?_)
  · obtain ⟨_, rfl, _⟩ := h
    rfl
  · obtain ⟨v, rfl, hv, k⟩ := h
    refine ⟨_, (pss_one (ps_ret (pe_join pe_str (by exact pe_lc (own := [("number", 1), ("taken", 2)]) (by rfl) sc_log_text.nd (pi_tup (pv 0)) (blkOk_by (N := ["log", "number", "taken"]) (sc := defScope s_log_text) (by decide +kernel)) (fun _ _ _ _ _ => (pg_tupB (n := 2) rfl (pgs_cons (pg_name (i := 1) sc_log_text.nd rfl (Or.inl rfl) (Or.inr rfl)) (pgs_cons (pg_name (i := 2) sc_log_text.nd rfl (Or.inl rfl) (Or.inr rfl)) pgs_nil)))) (fun _ _ _ _ _ => pts_nil) (fun _ _ _ _ _ => (pe_op op_add_str (pe_d c_number_text hr (by decide) (by rfl) (pa_cons (pv 1) pa_nil)) (pe_ifExp (pt_val (pv 2)) pe_str pe_str))))))), ?_⟩
    obtain ⟨p, x, rfl, hp, tx⟩ := hv.tup1
    walk_at "w"
    intro Dn hDn
    refine lc_tup (xs := [x]) (fun j H2 => Same H H2 ∧ H2 Dn = some (.lst (List.replicate j (.str (nt 0 ++ ("+" : Str)))))) ?_ ?_ ?_ ?_
    · exact ⟨.new hDn, upd_same⟩
    · rintro j H2 hj ⟨s2, _⟩
      exact .of (s2 _ _ hp)
    · rintro j y H2 hx ⟨s2, hD⟩
      match j with
      | 0 =>
        cases hx
        obtain ⟨px, a, b, rfl, hpx, ta, tb⟩ := (tx.same s2).tup2
        cases ta.intE
        cases tb.blE
        walk_at "w"
        refine ⟨by decide, fun H3 s3 => ?_⟩
        walk_at "w"
        refine ⟨by decide +kernel, ?_⟩
        exact ⟨_, s3 _ _ hD, by decide, (s2.trans s3).own hDn, upd_same⟩
    · rintro H2 ⟨s2, hD⟩
      walk_at "w"
      refine ⟨_, _, [nt 0 ++ ("+" : Str)], rfl, rfl, .inl (.of hD), by decide +kernel, ?_⟩
      exact k _ s2
def sp_l_log_text : Sp := fun vs H Q _ => ∃ (p : Addr) (x : V), vs = [.ref p] ∧ H p = some (.lst [x]) ∧ Td H x (.tuple [.int 0, .bool true]) ∧ ∀ H', Same H H' → Q (.str lt0) H'
theorem ok_l_log_text (D : Df K mg "_law_log_text" s_l_log_text) (G : Gx K mg) : Cal P w K mg base CX0 1 "_law_log_text" sp_l_log_text := by
  refine cal0 D sc_l_log_text (fun _ _ _ _ _ _ us hl => match us, hl with | [_], _ => rfl) (fun vs H Q E h => ?_) (fun f cdv A outer s H vs Q E hr h => ?_)
  · obtain ⟨_, _, rfl, _⟩ := h
    rfl
  · obtain ⟨p, x, rfl, hp, tx, k⟩ := h
    refine ⟨_, (pss_one (ps_ret (pe_join pe_str (by exact pe_lc (own := [("_law_number", 1), ("_law_taken", 2)]) (by rfl) sc_l_log_text.nd (pi_list (pv 0)) (blkOk_by (N := ["_law_log", "_law_number", "_law_taken"]) (sc := defScope s_l_log_text) (by decide +kernel)) (fun _ _ _ _ _ => (pg_tupB (n := 2) rfl (pgs_cons (pg_name (i := 1) sc_l_log_text.nd rfl (Or.inl rfl) (Or.inr rfl)) (pgs_cons (pg_name (i := 2) sc_l_log_text.nd rfl (Or.inl rfl) (Or.inr rfl)) pgs_nil)))) (fun _ _ _ _ _ => pts_nil) (fun _ _ _ _ _ => (pe_op op_add_str (pe_callTy call_str_int (by rfl) G.str (by decide +kernel) (pa_cons (pv 1) pa_nil)) (pe_ifExp (pt_val (pv 2)) pe_str pe_str))))))), ?_⟩
    walk_at "w"
    intro Dn hDn
    refine lc_list (xs := [x]) (fun j H2 => Same H H2 ∧ H2 Dn = some (.lst (List.replicate j (.str (nt 0 ++ ("+" : Str)))))) ?_ ?_ ?_ ?_
    · exact ⟨.new hDn, upd_same⟩
    · rintro j H2 hj ⟨s2, _⟩
      exact .of (s2 _ _ hp)
    · rintro j y H2 hx ⟨s2, hD⟩
      match j with
      | 0 =>
        cases hx
        obtain ⟨px, a, b, rfl, hpx, ta, tb⟩ := (tx.same s2).tup2
        cases ta.intE
        cases tb.blE
        walk_at "w"
        refine ⟨by decide, ?_⟩
        walk_at "w"
        refine ⟨by decide +kernel, ?_⟩
        exact ⟨_, hD, by decide, s2.own hDn, upd_same⟩
    · rintro H2 ⟨s2, hD⟩
      walk_at "w"
      refine ⟨_, _, [nt 0 ++ ("+" : Str)], rfl, rfl, .inl (.of hD), by decide +kernel, ?_⟩
      exact k _ s2
/-! ### parse_number, parse_log -/
def sp_parse_number : Sp := fun vs H Q _ => ∃ n : Int, vs = [.str (nt n), .int 40] ∧ Sn n ∧ ∀ H', Same H H' → Q (.int n) H'
theorem ok_parse_number (D : Df K mg "parse_number" s_parse_number) (G : Gx K mg) : Cal P w K mg base CX0 1 "parse_number" sp_parse_number := by
  refine cal0 D sc_parse_number (fun _ _ _ _ _ _ us hl => match us, hl with | [_, _], _ => rfl) (fun vs H Q E h => ?_) (fun f cdv A outer s H vs Q E hr h => ?_)
  · obtain ⟨_, rfl, _⟩ := h
    rfl
  · obtain ⟨n, rfl, hn, k⟩ := h
    refine ⟨_, (pss_cons (ps_set (i := 2) sc_parse_number.nd rfl (Or.inl rfl) (pe_ifExp (pt_cmpR op_eq (pe_slice sl_str (pv 0) po_none (po_some pe_int)) pe_str (nomark _)) (pe_slice sl_str (pv 0) (po_some pe_int) po_none) (pv 0)))
      (pss_cons (ps_if (PW.pt (pw_or (pt_not (pt_chain op_le op_le pe_int (pe_callB call_len_str (by rfl) G.len (by decide +kernel) (pa_cons (pv 2) pa_nil)) (pv 1))) (pw_or1 (pt_not (pt_val (pe_callB (cr_all rfl) (by rfl) G.all (by decide +kernel) (pa_cons (by exact pe_lc (own := [("sign", 3)]) (by rfl) sc_parse_number.nd (pi_str (pv 2)) (blkOk_by (N := ["text", "most", "digits", "sign"]) (sc := defScope s_parse_number) (by decide +kernel)) (fun _ _ _ _ _ => (pg_name (i := 3) sc_parse_number.nd rfl (Or.inl rfl) (Or.inr rfl))) (fun _ _ _ _ _ => pts_nil) (fun _ _ _ _ _ => (pe_cmpR op_in_sign (pv 3) (pe_gs (by rfl) G.DIGITS) rfl))) pa_nil))))))) (pss_one (ps_ret pe_non)) pss_nil)
      (pss_cons (ps_if (PW.pt (pw_and (pt_cmpR op_eq (pe_ix ix_str (pv 2) pe_int (fun _ _ => rfl)) pe_str (nomark _)) (pw_and1 (pt_cmpR op_ne (pv 0) pe_str (nomark _))))) (pss_one (ps_ret pe_non)) pss_nil)
      (pss_one (ps_ret (pe_ifExp (pt_cmpR op_ne (pv 2) (pv 0) (nomark _)) (pe_op op_sub pe_int (pe_callTy call_int_str (by rfl) G.int (by decide +kernel) (pa_cons (pv 2) pa_nil))) (pe_callTy call_int_str (by rfl) G.int (by decide +kernel) (pa_cons (pv 2) pa_nil)))))))), ?_⟩
    obtain ⟨d1, d2, d3, d4, d5, d6, c0, d7, d8⟩ := dig_ok hn
    obtain ⟨o1, o2⟩ := nt_ok hn
    have z5 : (nt n).length ≤ sizeLine := Nat.le_trans o1 (by decide)
    walk_at "w"
    refine ⟨z5, ?_⟩
    walk_at "w"
    have e0 : decide (V.str (cutS (nt n) none (some 1)) = V.str ("-" : Str)) = decide (n < 0) := by
      rw [← d1, Bool.eq_iff_iff]
      simp
    rw [e0]
    have z6 : (digF n).length ≤ sizeLine := Nat.le_trans d3 (by decide)
    have z7 : (digF n).length ≤ 640 := Nat.le_trans d3 (by decide)
    have dsz : (digF n).cps.size = (digF n).length := rfl
    have ac : atI (digF n).cps.toList 0 = some c0 := atI_nat (j := 0) d7
    have e1 : (!decide (V.str (digF n) = V.str (nt n))) = decide (n < 0) := by
      have : decide (V.str (digF n) = V.str (nt n)) = decide (digF n = nt n) := by rw [Bool.eq_iff_iff]; simp
      rw [this, d6]
      by_cases h : n < 0 <;> simp [h]
    by_cases lt : n < 0
    · rw [decide_eq_true lt] at e1 ⊢
      have ed : digF n = cutS (nt n) (some 1) none := if_pos lt
      walk_at "w"
      refine ⟨z5, ?_⟩
      rw [← ed]
      walk_at "w"
      generalize hdg : digF n = dg at *
      refine ⟨z6, ?_⟩
      walk_at "w"
      refine iteDT (by omega) ?_
      walk_at "w"
      refine iteDT' (by omega) ?_
      walk_at "w"
      intro Dn hDn
      refine lc_it (walk_str (z := dg)) (fun j H2 => Same H H2 ∧ H2 Dn = some (.lst ((List.replicate j true).map V.bl))) ?_ ?_ ?_ ?_
      · exact ⟨.new hDn, upd_same⟩
      · intros; trivial
      · rintro j x H2 H2' hj ⟨s2, hD⟩ ⟨rfl, c, hc, rfl⟩
        walk_at "w"
        have hm : c ∈ ("0123456789" : Str).cps.toList := by
          have := (List.all_eq_true.mp d4) c (by rw [Array.mem_toList_iff]; exact Array.mem_of_getElem? hc)
          exact of_decide_eq_true this
        rw [decide_eq_true hm]
        refine ⟨_, hD, small1000 (by simp; omega), s2.own hDn, ?_⟩
        rw [upd_same, List.replicate_succ']
        simp
      · rintro H2 ⟨s2, hD⟩
        walk_at "w"
        have ea : (List.replicate (dg).cps.size true).all id = true := by simp
        rw [ea]
        walk_at "w"
        by_cases hz : (⟨#[c0]⟩ : Str) = "0"
        · refine iteDT (congrArg V.str hz) ?_
          walk_at "w"
          refine iteDT' (congrArg V.str (d8 hz)) ?_
          walk_at "w"
          rw [e1]
          walk_at "w"
          refine ⟨_, _, rfl, d5, z7, ?_⟩
          walk_at "w"
          have en : 0 - nAbs n = n := by unfold nAbs; split <;> omega
          show Q (V.int (0 - nAbs n)) _
          rw [en]
          exact k _ s2
        · refine iteDF (fun z => hz (V.str.inj z)) ?_
          walk_at "w"
          rw [e1]
          walk_at "w"
          refine ⟨_, _, rfl, d5, z7, ?_⟩
          walk_at "w"
          have en : 0 - nAbs n = n := by unfold nAbs; split <;> omega
          show Q (V.int (0 - nAbs n)) _
          rw [en]
          exact k _ s2
    · rw [decide_eq_false lt] at e1 ⊢
      have ed : digF n = nt n := if_neg lt
      walk_at "w"
      rw [ed] at d2 d3 d4 d5 d7 z6 z7 ac e1 dsz
      refine ⟨z6, ?_⟩
      walk_at "w"
      refine iteDT (by omega) ?_
      walk_at "w"
      refine iteDT' (by omega) ?_
      walk_at "w"
      intro Dn hDn
      refine lc_it (walk_str (z := nt n)) (fun j H2 => Same H H2 ∧ H2 Dn = some (.lst ((List.replicate j true).map V.bl))) ?_ ?_ ?_ ?_
      · exact ⟨.new hDn, upd_same⟩
      · intros; trivial
      · rintro j x H2 H2' hj ⟨s2, hD⟩ ⟨rfl, c, hc, rfl⟩
        walk_at "w"
        have hm : c ∈ ("0123456789" : Str).cps.toList := by
          have := (List.all_eq_true.mp d4) c (by rw [Array.mem_toList_iff]; exact Array.mem_of_getElem? hc)
          exact of_decide_eq_true this
        rw [decide_eq_true hm]
        refine ⟨_, hD, small1000 (by simp; omega), s2.own hDn, ?_⟩
        rw [upd_same, List.replicate_succ']
        simp
      · rintro H2 ⟨s2, hD⟩
        walk_at "w"
        have ea : (List.replicate (nt n).cps.size true).all id = true := by simp
        rw [ea]
        walk_at "w"
        by_cases hz : (⟨#[c0]⟩ : Str) = "0"
        · refine iteDT (congrArg V.str hz) ?_
          walk_at "w"
          refine iteDT' (congrArg V.str (d8 hz)) ?_
          walk_at "w"
          rw [e1]
          walk_at "w"
          refine ⟨_, _, rfl, d5, z7, ?_⟩
          walk_at "w"
          have en : nAbs n = n := by unfold nAbs; split <;> omega
          show Q (V.int (nAbs n)) _
          rw [en]
          exact k _ s2
        · refine iteDF (fun z => hz (V.str.inj z)) ?_
          walk_at "w"
          rw [e1]
          walk_at "w"
          refine ⟨_, _, rfl, d5, z7, ?_⟩
          walk_at "w"
          have en : nAbs n = n := by unfold nAbs; split <;> omega
          show Q (V.int (nAbs n)) _
          rw [en]
          exact k _ s2
end
end K8
set_option maxHeartbeats 4000000
namespace K8
open PySem PySem.Spec PyProof.Rows L2
set_option hygiene false in
local macro_rules | `(tactic| walk_at "w") => `(tactic| (repeat (first | refine ⟨_, rfl, ?_⟩ | refine ⟨_, _, rfl, rfl, ?_⟩ | refine ⟨rfl, ?_⟩ | refine ⟨_, _, rfl, ?_⟩ | refine ⟨_, _, rfl, .of upd_same, rfl, ?_⟩ | refine ⟨_, _, rfl, .of (by assumption), rfl, ?_⟩ | refine ⟨_, _, rfl, .of (by assumption), fun q hq => ?_⟩ | refine ⟨_, _, rfl, .of (by assumption), ?_⟩ | refine ⟨_, _, rfl, .inr (.of (by assumption)), ?_⟩ | refine ⟨_, _, rfl, .inl (.of (by assumption)), ?_⟩ | refine ⟨_, _, _, _, rfl, rfl, .of (by assumption), atI_nat (j := 0) rfl, ?_⟩ | refine ⟨_, _, _, _, rfl, rfl, .of (by assumption), atI_nat (j := 1) rfl, ?_⟩ | refine ⟨_, _, _, _, rfl, rfl, .of (by assumption), atI_nat (j := 2) rfl, ?_⟩ | refine ⟨fun z => absurd z.1 (show ¬ (1 : Nat) = 0 by decide), fun _ q hq => ?_⟩ | refine ⟨fun z => absurd z.1 (show ¬ (2 : Nat) = 0 by decide), fun _ q hq => ?_⟩ | refine ⟨sz1, fun q hq => ?_⟩ | refine ⟨sz2, fun q hq => ?_⟩ | refine ⟨sz3, fun q hq => ?_⟩ | refine ⟨sz0, fun q hq => ?_⟩ | refine ⟨_, _, _, rfl, rfl, (by assumption), (by assumption), ?_⟩ | refine ⟨.inl ⟨rfl, _, .of (by assumption)⟩, ?_⟩ | refine ⟨_, _, rfl, .inl ⟨.of (by assumption), fun q hq => ?_⟩⟩ | refine ⟨⟨_, .of (by assumption)⟩, ?_⟩ | refine ⟨⟨_, rfl⟩, ?_⟩ | refine iteT ?_ | refine iteF ?_)))
section
variable {P : Program} {w : World} {K : PySem.W.Frag} {mg : Str → Option Value} {base : Heap}
/-! ### parse_log -/
def sp_parse_log : Sp := fun vs H Q _ => vs = [.str lt0] ∧ ∀ (H' : Hp) (o : V), Same H H' → Td H' o (.tuple [.tuple [.int 0, .bool true]]) → Q o H'
theorem lt0_split : Txt.split lt0 (" " : Str) = [lt0] := by decide +kernel
theorem lt0_cut : cutS lt0 none (some (-1)) = nt 0 := by decide +kernel
theorem lt0_last : atI lt0.cps.toList (-1) = some 43 := by decide +kernel
theorem ok_parse_log (D : Df K mg "parse_log" s_parse_log) (G : Gx K mg) (c_parse_number : Cal P w K mg base CX0 1 "parse_number" sp_parse_number) : Cal P w K mg base CX0 2 "parse_log" sp_parse_log := by
  refine cal0 D sc_parse_log (fun _ _ _ _ _ _ us hl => match us, hl with | [_], _ => rfl) (fun vs H Q E h => ?_) (fun f cdv A outer s H vs Q E hr h => ?_)
  · obtain ⟨rfl, _⟩ := h
    rfl
  · obtain ⟨rfl, k⟩ := h
    refine ⟨_, (pss_cons (ps_if (pt_not (pt_val (pe_callB call_isi (by rfl) G.isinstance (by decide +kernel) (pa_cons (pv 0) (pa_cons (pe_bltn (v := .ty "str") (u := .type "str") (by rfl) G.str (by decide +kernel) rfl) pa_nil))))) (pss_one ps_never) pss_nil)
      (pss_cons (ps_set (i := 1) sc_parse_log.nd rfl (Or.inl rfl) (pe_lst pa_nil))
      (pss_cons (ps_for PassesOwn.never rfl (pi_enum (by rfl) G.enumerate (pa_cons (pe_ifExp (pt_cmpR op_ne (pv 0) pe_str (nomark _)) (pe_split (pv 0) pe_str) (pe_lst pa_nil)) pa_nil)) (pg_tup (n := 2) rfl (pgs_cons (pg_name (i := 2) sc_parse_log.nd rfl (Or.inl rfl)) (pgs_cons (pg_name (i := 3) sc_parse_log.nd rfl (Or.inl rfl)) pgs_nil))) (pss_cons (ps_set (i := 4) sc_parse_log.nd rfl (Or.inl rfl) (pe_d c_parse_number hr (by decide) (by rfl) (pa_cons (pe_slice sl_str (pv 3) po_none (po_some (pe_un un_neg pe_int))) (pa_cons (pe_gi (by rfl) G.LONG) pa_nil))))
      (pss_cons (ps_if (PW.pt (pw_or (pt_cmpR op_isN (pv 4) pe_non (nomark _)) (pw_or1 (pt_cmpR op_notIn_sign (pe_ix ix_str (pv 3) (pe_un un_neg pe_int) (fun _ _ => rfl)) pe_str rfl)))) (pss_one ps_never) pss_nil)
      (pss_one (ps_expr (pe_bm PySem.F.plainAttrs_list PySem.F.slot_list_append PySem.F.type_list_append mt_append (pv 1) (pa_cons (pe_tup (pa_cons (pv 4) (pa_cons (pe_cmpR op_eq (pe_ix ix_str (pv 3) (pe_un un_neg pe_int) (fun _ _ => rfl)) pe_str (nomark _)) pa_nil))) pa_nil)))))))
      (pss_cons (ps_if (pt_cmpR op_gt (pe_callB call_len_seq (by rfl) G.len (by decide +kernel) (pa_cons (pv 1) pa_nil)) (pe_gi (by rfl) G.MAX_LOG) (nomark _)) (pss_one ps_never) pss_nil)
      (pss_one (ps_ret (pe_callTy call_tuple_of (by rfl) G.tuple (by decide +kernel) (pa_cons (pv 1) pa_nil)))))))), ?_⟩
    refine ⟨_, rfl, _, _, _, _, true, rfl, .ty _, .base (.str _), kit_ty (by decide +kernel), ?_⟩
    walk_at "w"
    refine ⟨by decide +kernel, ?_⟩
    rw [lt0_split]
    walk_at "w"
    intro L hL
    generalize q = qf at *
    have hqn : H qf = none := hq
    refine ⟨_, _, rfl, .of upd_same, ?_⟩
    have hq1 : L2.upd (L2.upd H qf (.lst [])) L (.lst ([lt0].map V.str)) qf = some (.lst []) := (upd_ne (ne_of_none upd_same hL)).trans upd_same
    have s1 : Same H (L2.upd (L2.upd H qf (.lst [])) L (.lst ([lt0].map V.str))) := (L2.Same.new hq).upd hL
    have hne : L ≠ qf := fun z => by rw [z] at hL; rw [upd_same] at hL; cases hL
    have hL1 : L2.upd (L2.upd H qf (.lst [])) L (.lst ([lt0].map V.str)) L = some (.lst [.str lt0]) := upd_same
    generalize L2.upd (L2.upd H qf (.lst [])) L (.lst ([lt0].map V.str)) = H1 at *
    refine for_it (walk_enum (xs := [.str lt0])) (fun i σ H' => Same H H' ∧ (∃ b c d, σ = [some (.str lt0), some (.ref qf), b, c, d]) ∧ H' L = some (.lst [.str lt0]) ∧ ∃ ys : List V, H' qf = some (.lst ys) ∧ ys.length = i ∧ Tds H' ys (List.replicate i (.tuple [.int 0, .bool true]))) ?_ ?_ ?_ ?_
    · exact ⟨s1, ⟨_, _, _, rfl⟩, hL1, [], hq1, rfl, .nil⟩
    · rintro i σ H' hi ⟨_, _, h, _⟩
      exact .of h
    · rintro i x σ H' H2 hi ⟨sm, ⟨b, c, d, rfl⟩, hL2, ys, hq2, hyl, ty⟩ ⟨T, x1, x2, rfl, hT, rfl, e1, e2⟩
      have hi0 : i = 0 := by have : i < 1 := hi; omega
      subst hi0
      cases e1
      cases e2
      have s3 : Same H' (L2.upd H' T (.tup [.int ((0 : Nat) : Int), .str lt0])) := .new hT
      have z5 : lt0.length ≤ sizeLine := by decide +kernel
      have a5 := lt0_last
      walk_at "w"
      refine ⟨z5, ?_⟩
      rw [lt0_cut]
      walk_at "w"
      refine ⟨by decide, fun H4 s4 => ?_⟩
      have s34 := s3.trans s4
      have hq4 := s34 _ _ hq2
      walk_at "w"
      have ed : (⟨#[43]⟩ : Str) = "+" := rfl
      rw [ed]
      have s45 : ∀ o, Same H4 (L2.upd H4 q o) := fun o => .new hq
      have s35 := fun o => s34.trans (s45 o)
      have hq5 := fun o => s35 o _ _ hq2
      refine ⟨_, _, _, rfl, rfl, hq5 _, by rw [hyl]; decide, ?_⟩
      exact ⟨(sm.trans (s35 _)).own hqn, ⟨_, _, _, rfl⟩, (upd_ne hne).trans (s35 _ _ _ hL2), _, upd_same, by simp [hyl], ((ty.same (s35 _)).mono (.lst (hq5 _))).snoc ((Td.of2 upd_same (.int _) (.bl _)).mono (.lst (hq5 _)))⟩
    · rintro σ H' ⟨sm, ⟨b, c, d, rfl⟩, hL2, ys, hq2, hyl, ty⟩
      have hyl2 : ys.length = 1 := hyl
      walk_at "w"
      refine iteDF (by omega) ?_
      walk_at "w"
      exact k _ _ (sm.upd (by assumption)) ((ty.same (.new (by assumption))).tup upd_same)
end
end K8
set_option maxHeartbeats 4000000
namespace K8
open PySem PySem.Spec PyProof.Rows L2
set_option hygiene false in
local macro_rules | `(tactic| walk_at "w") => `(tactic| (repeat (first | refine ⟨_, rfl, ?_⟩ | refine ⟨_, _, rfl, rfl, ?_⟩ | refine ⟨rfl, ?_⟩ | refine ⟨_, _, rfl, ?_⟩ | refine ⟨_, _, rfl, .of upd_same, rfl, ?_⟩ | refine ⟨_, _, rfl, .of (by assumption), rfl, ?_⟩ | refine ⟨_, _, rfl, .of (by assumption), fun q hq => ?_⟩ | refine ⟨_, _, rfl, .of (by assumption), ?_⟩ | refine ⟨_, _, rfl, .inr (.of (by assumption)), ?_⟩ | refine ⟨_, _, rfl, .inl (.of (by assumption)), ?_⟩ | refine ⟨_, _, _, _, rfl, rfl, .of (by assumption), atI_nat (j := 0) rfl, ?_⟩ | refine ⟨_, _, _, _, rfl, rfl, .of (by assumption), atI_nat (j := 1) rfl, ?_⟩ | refine ⟨_, _, _, _, rfl, rfl, .of (by assumption), atI_nat (j := 2) rfl, ?_⟩ | refine ⟨fun z => absurd z.1 (show ¬ (1 : Nat) = 0 by decide), fun _ q hq => ?_⟩ | refine ⟨fun z => absurd z.1 (show ¬ (2 : Nat) = 0 by decide), fun _ q hq => ?_⟩ | refine ⟨sz1, fun q hq => ?_⟩ | refine ⟨sz2, fun q hq => ?_⟩ | refine ⟨sz3, fun q hq => ?_⟩ | refine ⟨sz0, fun q hq => ?_⟩ | refine ⟨_, _, _, rfl, rfl, (by assumption), (by assumption), ?_⟩ | refine ⟨.inl ⟨rfl, _, .of (by assumption)⟩, ?_⟩ | refine ⟨_, _, rfl, .inl ⟨.of (by assumption), fun q hq => ?_⟩⟩ | refine ⟨⟨_, .of (by assumption)⟩, ?_⟩ | refine ⟨⟨_, rfl⟩, ?_⟩ | refine iteT ?_ | refine iteF ?_)))
section
variable {P : Program} {w : World} {K : PySem.W.Frag} {mg : Str → Option Value} {base : Heap}
/-! ### merged, in_order -/
def mergeN : Nat → List Int → List Int → List Int
  | _, [], ys => ys
  | _, x :: xs, [] => x :: xs
  | 0, x :: xs, y :: ys => (x :: xs) ++ (y :: ys)
  | n + 1, x :: xs, y :: ys => if y < x then y :: mergeN n (x :: xs) ys else x :: mergeN n xs (if x = y then ys else y :: ys)
def mergeF (xs ys : List Int) : List Int := mergeN (xs.length + ys.length) xs ys
theorem mergeN_nil (n : Nat) (xs : List Int) : mergeN n xs [] = xs := by cases xs <;> simp [mergeN]
theorem mergeN_nil2 (n : Nat) (ys : List Int) : mergeN n [] ys = ys := by simp [mergeN]
def intV (ns : List Int) : List V := ns.map V.int
theorem intV_len (ns : List Int) : (intV ns).length = ns.length := by simp [intV]
theorem intV_at {ns : List Int} {i : Nat} {n : Int} (h : ns[i]? = some n) : (intV ns)[i]? = some (.int n) := by unfold intV; rw [List.getElem?_map, h]; rfl
theorem intV_snoc (ns : List Int) (n : Int) : intV ns ++ [.int n] = intV (ns ++ [n]) := by simp [intV]
theorem drop_at {α : Type} {xs : List α} {i : Nat} {x : α} (h : xs[i]? = some x) : xs.drop i = x :: xs.drop (i + 1) := by
  obtain ⟨h1, h2⟩ := List.getElem?_eq_some_iff.mp h
  rw [List.drop_eq_getElem_cons h1, h2]
theorem cutV_from (xs : List V) (k : Nat) (h : k ≤ xs.length) : cutV xs (some (k : Int)) none = xs.drop k := by
  unfold cutV
  rw [HT.sIx_nat, HT.sIx_none, Nat.min_eq_left h, List.take_of_length_le (by simp)]
def sp_merged : Sp := fun vs H Q _ => ∃ (a b : Addr) (xs ys : List Int), vs = [.ref a, .ref b] ∧ H a = some (.lst (intV xs)) ∧ H b = some (.lst (intV ys)) ∧ xs.length + ys.length ≤ 1000 ∧ ∀ (H' : Hp) (p : Addr), Same H H' → H p = none → H' p = some (.lst (intV (mergeF xs ys))) → Q (.ref p) H'
theorem ok_merged (D : Df K mg "merged" s_merged) (G : Gx K mg) : Cal P w K mg base CX0 1 "merged" sp_merged := by
  refine cal0 D sc_merged (fun _ _ _ _ _ _ us hl => match us, hl with | [_, _], _ => rfl) (fun vs H Q E h => ?_) (fun f cdv A outer s H vs Q E hr h => ?_)
  · obtain ⟨_, _, _, _, rfl, _⟩ := h
    rfl
  · obtain ⟨a, b, xs, ys, rfl, ha, hb, hl, k⟩ := h
    refine ⟨_, (pss_cons (ps_set (i := 2) sc_merged.nd rfl (Or.inl rfl) (pe_lst pa_nil))
      (pss_cons (ps_asg (pe_tup (pa_cons pe_int (pa_cons pe_int pa_nil))) (pg_tup (n := 2) rfl (pgs_cons (pg_name (i := 3) sc_merged.nd rfl (Or.inl rfl)) (pgs_cons (pg_name (i := 4) sc_merged.nd rfl (Or.inl rfl)) pgs_nil))))
      (pss_cons (ps_while PassesOwn.never (PW.pt (pw_and (pt_cmpR op_lt (pv 3) (pe_callB call_len_seq (by rfl) G.len (by decide +kernel) (pa_cons (pv 0) pa_nil)) (nomark _)) (pw_and1 (pt_cmpR op_lt (pv 4) (pe_callB call_len_seq (by rfl) G.len (by decide +kernel) (pa_cons (pv 1) pa_nil)) (nomark _))))) (pss_one (ps_if (pt_cmpR op_lt (pe_ix ix_list (pv 1) (pv 4) (fun _ _ => rfl)) (pe_ix ix_list (pv 0) (pv 3) (fun _ _ => rfl)) (nomark _)) (pss_cons (ps_expr (pe_bm PySem.F.plainAttrs_list PySem.F.slot_list_append PySem.F.type_list_append mt_append (pv 2) (pa_cons (pe_ix ix_list (pv 1) (pv 4) (fun _ _ => rfl)) pa_nil)))
      (pss_one (ps_aug (i := 4) sc_merged.nd rfl (Or.inl rfl) pe_int ip_add))) (pss_cons (ps_aug (i := 4) sc_merged.nd rfl (Or.inl rfl) (pe_callTy call_int1 (by rfl) G.int (by decide +kernel) (pa_cons (pe_cmpR op_eq (pe_ix ix_list (pv 0) (pv 3) (fun _ _ => rfl)) (pe_ix ix_list (pv 1) (pv 4) (fun _ _ => rfl)) (nomark _)) pa_nil)) ip_add)
      (pss_cons (ps_expr (pe_bm PySem.F.plainAttrs_list PySem.F.slot_list_append PySem.F.type_list_append mt_append (pv 2) (pa_cons (pe_ix ix_list (pv 0) (pv 3) (fun _ _ => rfl)) pa_nil)))
      (pss_one (ps_aug (i := 3) sc_merged.nd rfl (Or.inl rfl) pe_int ip_add)))))))
      (pss_one (ps_ret (pe_op op_cat (pe_op op_cat (pv 2) (pe_slice sl_list (pv 0) (po_some (pv 3)) po_none)) (pe_slice sl_list (pv 1) (po_some (pv 4)) po_none))))))), ?_⟩
    walk_at "w"
    rename_i qf hqf
    have hqf2 : L2.upd (L2.upd H qf (.lst [])) q (.tup [.int 0, .int 0]) qf = some (.lst (intV [])) := (upd_ne (ne_of_none upd_same hq)).trans upd_same
    have s1 : Same H (L2.upd (L2.upd H qf (.lst [])) q (.tup [.int 0, .int 0])) := (L2.Same.new hqf).upd hq
    generalize L2.upd (L2.upd H qf (.lst [])) q (.tup [.int 0, .int 0]) = H1 at *
    refine ⟨fun m σ H' => Same H H' ∧ ∃ (l r n : Nat) (fs : List Int), σ = [some (.ref a), some (.ref b), some (.ref qf), some (.int l), some (.int r)] ∧ H' qf = some (.lst (intV fs)) ∧ m = (xs.length - l) + (ys.length - r) ∧ l ≤ xs.length ∧ r ≤ ys.length ∧ m ≤ n ∧ fs ++ mergeN n (xs.drop l) (ys.drop r) = mergeF xs ys ∧ fs.length ≤ l + r, ?_, ?_⟩
    · exact ⟨xs.length + ys.length, s1, 0, 0, xs.length + ys.length, [], rfl, hqf2, by omega, by omega, by omega, by omega, rfl, by simp⟩
    · rintro m σ H2 ⟨s2, l, r, n, fs, rfl, hf, hm, hl1, hr1, hn, inv, hfl⟩
      have ha2 := s2 _ _ ha
      have hb2 := s2 _ _ hb
      have lx := intV_len xs
      have ly := intV_len ys
      have lf := intV_len fs
      walk_at "w"
      by_cases c1 : l < xs.length
      · refine iteDT (by omega) ?_
        walk_at "w"
        by_cases c2 : r < ys.length
        · refine iteDT (by omega) ⟨_, fun _ _ h => h, ?_⟩
          have x1 : xs[l]? = some xs[l] := List.getElem?_eq_getElem c1
          have y1 : ys[r]? = some ys[r] := List.getElem?_eq_getElem c2
          generalize xs[l] = x at x1
          generalize ys[r] = y at y1
          have ax : atI (intV xs) (l : Int) = some (.int x) := atI_nat (intV_at x1)
          have ay : atI (intV ys) (r : Int) = some (.int y) := atI_nat (intV_at y1)
          rw [drop_at x1, drop_at y1] at inv
          obtain ⟨n', rfl⟩ : ∃ n', n = n' + 1 := ⟨n - 1, by omega⟩
          have hz : (intV fs).length < sizeLine := small1000 (by omega)
          walk_at "w"
          refine ⟨_, _, _, _, rfl, rfl, .of hb2, ay, ?_⟩
          walk_at "w"
          refine ⟨_, _, _, _, rfl, rfl, .of ha2, ax, ?_⟩
          walk_at "w"
          by_cases lt : y < x
          · rw [decide_eq_true lt]
            walk_at "w"
            refine ⟨_, _, _, _, rfl, rfl, .of hb2, ay, ?_⟩
            walk_at "w"
            refine ⟨_, ?_, s2.own hqf, l, r + 1, n', fs ++ [y], rfl, ?_, rfl, by omega, by omega, by omega, ?_, by simp; omega⟩
            · omega
            · rw [upd_same, intV_snoc]
            · rw [← inv, List.append_assoc]
              congr 1
              rw [mergeN, if_pos lt, drop_at x1]
              rfl
          · rw [decide_eq_false lt]
            walk_at "w"
            refine ⟨_, _, _, _, rfl, rfl, .of ha2, ax, ?_⟩
            walk_at "w"
            refine ⟨_, _, _, _, rfl, rfl, .of hb2, ay, ?_⟩
            walk_at "w"
            refine .inr ⟨_, rfl, ?_⟩
            have e9 : (if decide (V.int x = V.int y) = true then (1 : Int) else 0) = ((if x = y then 1 else 0 : Nat) : Int) := by
              by_cases h : x = y
              · simp [h]
              · simp [h]
            rw [e9]
            walk_at "w"
            refine ⟨_, _, _, _, rfl, rfl, .of ha2, ax, ?_⟩
            walk_at "w"
            refine ⟨_, ?_, s2.own hqf, l + 1, r + (if x = y then 1 else 0), n', fs ++ [x], rfl, ?_, rfl, by omega, ?_, ?_, ?_, ?_⟩
            · omega
            · rw [upd_same, intV_snoc]
            · split <;> omega
            · split <;> omega
            · rw [← inv, List.append_assoc]
              congr 1
              rw [mergeN, if_neg lt]
              by_cases h : x = y
              · rw [if_pos h, if_pos h]
                rfl
              · rw [if_neg h, if_neg h]
                show [x] ++ mergeN n' (xs.drop (l + 1)) (ys.drop r) = _
                rw [drop_at y1]
                rfl
            · simp; split <;> omega
        · refine iteDF (by omega) ?_
          have e1 := cutV_from (intV xs) l (by omega)
          have e2 := cutV_from (intV ys) r (by omega)
          walk_at "w"
          rw [e1]
          have sz := sizeLine_eq
          have hf3 : L2.upd H2 q (.lst (List.drop l (intV xs))) qf = some (.lst (intV fs)) := (upd_ne (ne_of_none hf hq)).trans hf
          have hb3 : L2.upd H2 q (.lst (List.drop l (intV xs))) b = some (.lst (intV ys)) := (upd_ne (ne_of_none hb2 hq)).trans hb2
          have s3 : Same H (L2.upd H2 q (.lst (List.drop l (intV xs)))) := s2.upd hq
          refine ⟨_, _, _, _, rfl, rfl, hf3, upd_same, by rw [List.length_drop]; omega, fun p3 hp3 => ?_⟩
          have hb4 := (upd_ne (o := .lst (intV fs ++ List.drop l (intV xs))) (ne_of_none hb3 hp3)).trans hb3
          have s4 : Same H (L2.upd (L2.upd H2 q (.lst (List.drop l (intV xs)))) p3 (.lst (intV fs ++ List.drop l (intV xs)))) := s3.upd hp3
          have hp4 : L2.upd (L2.upd H2 q (.lst (List.drop l (intV xs)))) p3 (.lst (intV fs ++ List.drop l (intV xs))) p3 = some (.lst (intV fs ++ List.drop l (intV xs))) := upd_same
          generalize L2.upd (L2.upd H2 q (.lst (List.drop l (intV xs)))) p3 (.lst (intV fs ++ List.drop l (intV xs))) = H4 at *
          walk_at "w"
          rw [e2]
          refine ⟨_, _, _, _, rfl, rfl, (upd_ne (ne_of_none hp4 (by assumption))).trans hp4, upd_same, by rw [List.length_append, List.length_drop, List.length_drop]; omega, fun p5 hp5 => ?_⟩
          refine k _ _ ((s4.upd (by assumption)).upd hp5) (L2.Same.free (s4.upd (by assumption)) hp5) ?_
          rw [upd_same, ← inv]
          have emp : mergeN n (xs.drop l) (ys.drop r) = xs.drop l ++ ys.drop r := by
            rw [show ys.drop r = [] from List.drop_eq_nil_of_le (by omega), mergeN_nil, List.append_nil]
          rw [emp]
          unfold intV
          rw [List.map_append, List.map_append, List.map_drop, List.map_drop, List.append_assoc]
      · refine iteDF (by omega) ?_
        have e1 := cutV_from (intV xs) l (by omega)
        have e2 := cutV_from (intV ys) r (by omega)
        walk_at "w"
        rw [e1]
        have sz := sizeLine_eq
        have hf3 : L2.upd H2 q (.lst (List.drop l (intV xs))) qf = some (.lst (intV fs)) := (upd_ne (ne_of_none hf hq)).trans hf
        have hb3 : L2.upd H2 q (.lst (List.drop l (intV xs))) b = some (.lst (intV ys)) := (upd_ne (ne_of_none hb2 hq)).trans hb2
        have s3 : Same H (L2.upd H2 q (.lst (List.drop l (intV xs)))) := s2.upd hq
        refine ⟨_, _, _, _, rfl, rfl, hf3, upd_same, by rw [List.length_drop]; omega, fun p3 hp3 => ?_⟩
        have hb4 := (upd_ne (o := .lst (intV fs ++ List.drop l (intV xs))) (ne_of_none hb3 hp3)).trans hb3
        have s4 : Same H (L2.upd (L2.upd H2 q (.lst (List.drop l (intV xs)))) p3 (.lst (intV fs ++ List.drop l (intV xs)))) := s3.upd hp3
        have hp4 : L2.upd (L2.upd H2 q (.lst (List.drop l (intV xs)))) p3 (.lst (intV fs ++ List.drop l (intV xs))) p3 = some (.lst (intV fs ++ List.drop l (intV xs))) := upd_same
        generalize L2.upd (L2.upd H2 q (.lst (List.drop l (intV xs)))) p3 (.lst (intV fs ++ List.drop l (intV xs))) = H4 at *
        walk_at "w"
        rw [e2]
        refine ⟨_, _, _, _, rfl, rfl, (upd_ne (ne_of_none hp4 (by assumption))).trans hp4, upd_same, by rw [List.length_append, List.length_drop, List.length_drop]; omega, fun p5 hp5 => ?_⟩
        refine k _ _ ((s4.upd (by assumption)).upd hp5) (L2.Same.free (s4.upd (by assumption)) hp5) ?_
        rw [upd_same, ← inv]
        have emp : mergeN n (xs.drop l) (ys.drop r) = xs.drop l ++ ys.drop r := by
          rw [show xs.drop l = [] from List.drop_eq_nil_of_le (by omega), mergeN_nil2, List.nil_append]
        rw [emp]
        unfold intV
        rw [List.map_append, List.map_append, List.map_drop, List.map_drop, List.append_assoc]
end
end K8
set_option maxHeartbeats 4000000
namespace K8
open PySem PySem.Spec PyProof.Rows L2
set_option hygiene false in
local macro_rules | `(tactic| walk_at "w") => `(tactic| (repeat (first | refine ⟨_, rfl, ?_⟩ | refine ⟨_, _, rfl, rfl, ?_⟩ | refine ⟨rfl, ?_⟩ | refine ⟨_, _, rfl, ?_⟩ | refine ⟨_, _, rfl, .of upd_same, rfl, ?_⟩ | refine ⟨_, _, rfl, .of (by assumption), rfl, ?_⟩ | refine ⟨_, _, rfl, .of (by assumption), fun q hq => ?_⟩ | refine ⟨_, _, rfl, .of (by assumption), ?_⟩ | refine ⟨_, _, rfl, .inr (.of (by assumption)), ?_⟩ | refine ⟨_, _, rfl, .inl (.of (by assumption)), ?_⟩ | refine ⟨_, _, _, _, rfl, rfl, .of (by assumption), atI_nat (j := 0) rfl, ?_⟩ | refine ⟨_, _, _, _, rfl, rfl, .of (by assumption), atI_nat (j := 1) rfl, ?_⟩ | refine ⟨_, _, _, _, rfl, rfl, .of (by assumption), atI_nat (j := 2) rfl, ?_⟩ | refine ⟨fun z => absurd z.1 (show ¬ (1 : Nat) = 0 by decide), fun _ q hq => ?_⟩ | refine ⟨fun z => absurd z.1 (show ¬ (2 : Nat) = 0 by decide), fun _ q hq => ?_⟩ | refine ⟨sz1, fun q hq => ?_⟩ | refine ⟨sz2, fun q hq => ?_⟩ | refine ⟨sz3, fun q hq => ?_⟩ | refine ⟨sz0, fun q hq => ?_⟩ | refine ⟨_, _, _, rfl, rfl, (by assumption), (by assumption), ?_⟩ | refine ⟨.inl ⟨rfl, _, .of (by assumption)⟩, ?_⟩ | refine ⟨_, _, rfl, .inl ⟨.of (by assumption), fun q hq => ?_⟩⟩ | refine ⟨⟨_, .of (by assumption)⟩, ?_⟩ | refine ⟨⟨_, rfl⟩, ?_⟩ | refine iteT ?_ | refine iteF ?_)))
section
variable {P : Program} {w : World} {K : PySem.W.Frag} {mg : Str → Option Value} {base : Heap}
/-! ### in_order -/
def stepP (ps : List (List Int)) : List (List Int) := List.zipWith mergeF (ps.take (ps.length / 2)) ((ps.take (2 * (ps.length / 2))).drop (ps.length / 2)) ++ ps.drop (2 * (ps.length / 2))
def mks : List Int := (List.range 13).map fun (i : Nat) => 6 - (i : Int)
def srt : List Int := (List.range 13).map fun (i : Nat) => -6 + (i : Int)
def Pk : Nat → List (List Int)
  | 0 => mks.map fun i => [i]
  | k + 1 => stepP (Pk k)
theorem cutV_mid (xs : List V) (i j : Nat) (h : j ≤ xs.length) : cutV xs (some (i : Int)) (some (j : Int)) = (xs.take j).drop i := by
  unfold cutV
  rw [HT.sIx_nat, HT.sIx_nat, Nat.min_eq_left h]
  by_cases hi : i ≤ xs.length
  · rw [Nat.min_eq_left hi, List.drop_take]
  · rw [Nat.min_eq_right (by omega), List.drop_length, List.take_nil, List.drop_eq_nil_of_le (by simp; omega)]
theorem cutV_to (xs : List V) (j : Nat) (h : j ≤ xs.length) : cutV xs none (some (j : Int)) = xs.take j := by
  unfold cutV
  rw [HT.sIx_nat, HT.sIx_none, Nat.min_eq_left h, List.drop_zero, Nat.sub_zero]
theorem Pk_len : (Pk 0).length = 13 ∧ (Pk 1).length = 7 ∧ (Pk 2).length = 4 ∧ (Pk 3).length = 2 ∧ (Pk 4).length = 1 := by decide +kernel
theorem Pk_end : Pk 4 = [srt] := by decide +kernel
theorem Pk_small : ∀ k, k < 5 → ∀ l ∈ Pk k, l.length ≤ 13 := by decide +kernel
/-- lists of ints -/
structure Pts (H : Hp) (xs : List V) (ps : List (List Int)) : Prop where
  len : xs.length = ps.length
  all : ∀ (i : Nat) (x : V) (l : List Int), xs[i]? = some x → ps[i]? = some l → ∃ a, x = .ref a ∧ H a = some (.lst (intV l))
theorem Pts.of {H H' : Hp} {q : Addr} {xs : List V} {ps : List (List Int)} (h : Pts H xs ps) (k : ∀ b l, b ≠ q → H b = some (.lst l) → H' b = some (.lst l)) (n : ∀ (i : Nat) (x : V), xs[i]? = some x → x ≠ .ref q) : Pts H' xs ps := ⟨h.len, fun i x l a b => by
  obtain ⟨p, e, hp⟩ := h.all i x l a b
  exact ⟨p, e, k _ _ (fun z => n i x a (by rw [e, z])) hp⟩⟩
theorem Pts.snoc {H : Hp} {xs : List V} {ps : List (List Int)} {p : Addr} {l : List Int} (h : Pts H xs ps) (hp : H p = some (.lst (intV l))) : Pts H (xs ++ [.ref p]) (ps ++ [l]) := ⟨by simp [h.len], fun i x m a b => by
  rcases get_snoc a with a | ⟨rfl, rfl⟩
  · rw [List.getElem?_append_left (by have := (List.getElem?_eq_some_iff.mp a).1; rw [h.len] at this; exact this)] at b
    exact h.all i x m a b
  · rw [h.len, List.getElem?_append_right (Nat.le_refl _)] at b
    simp at b
    exact ⟨p, rfl, b ▸ hp⟩⟩
theorem Pts.drop {H : Hp} {xs : List V} {ps : List (List Int)} (n : Nat) (h : Pts H xs ps) : Pts H (xs.drop n) (ps.drop n) := ⟨by simp [h.len], fun i x d a b => by
  rw [List.getElem?_drop] at a b
  exact h.all _ x d a b⟩
theorem Pts.take {H : Hp} {xs : List V} {ps : List (List Int)} (n : Nat) (h : Pts H xs ps) : Pts H (xs.take n) (ps.take n) := ⟨by simp [h.len], fun i x d a b => by
  rw [List.getElem?_take] at a b
  split at a
  · rename_i hi
    rw [if_pos hi] at b
    exact h.all _ x d a b
  · cases a⟩
theorem Pts.app {H : Hp} {xs ys : List V} {ds es : List (List Int)} (h : Pts H xs ds) (h' : Pts H ys es) : Pts H (xs ++ ys) (ds ++ es) := ⟨by simp [h.len, h'.len], fun i x d a b => by
  by_cases lt : i < xs.length
  · rw [List.getElem?_append_left lt] at a
    rw [List.getElem?_append_left (h.len ▸ lt)] at b
    exact h.all _ x d a b
  · rw [List.getElem?_append_right (by omega)] at a
    rw [List.getElem?_append_right (by have := h.len; omega)] at b
    rw [h.len] at a
    exact h'.all _ x d a b⟩
/-- the list at q takes another item; the items are older than it, or not it -/
theorem Pts.own {H : Hp} {q : Addr} {xs : List V} {ps : List (List Int)} {o : HO} (h : Pts H xs ps) (n : ∀ (i : Nat) (x : V), xs[i]? = some x → x ≠ .ref q) : Pts (L2.upd H q o) xs ps := h.of (fun b l ne e => (upd_ne ne).trans e) n
theorem ref_ne {xs : List V} {p q : Addr} (n : ∀ (i : Nat) (x : V), xs[i]? = some x → x ≠ .ref q) (h : p ≠ q) : ∀ (i : Nat) (x : V), (xs ++ [V.ref p])[i]? = some x → x ≠ .ref q := fun i x a => by
  rcases get_snoc a with a | ⟨_, rfl⟩
  · exact n i x a
  · exact fun z => h (by cases z; rfl)
theorem Pts.same {H H' : Hp} {xs : List V} {ps : List (List Int)} (s : Same H H') (h : Pts H xs ps) : Pts H' xs ps := ⟨h.len, fun i x l a b => by
  obtain ⟨p, e, hp⟩ := h.all i x l a b
  exact ⟨p, e, s _ _ hp⟩⟩
def sp_in_order : Sp := fun vs H Q _ => ∃ (a : Addr), vs = [.ref a] ∧ H a = some (.lst (intV mks)) ∧ ∀ (H' : Hp) (p : Addr), Same H H' → H' p = some (.tup (intV srt)) → Q (.ref p) H'
theorem ok_in_order (D : Df K mg "in_order" s_in_order) (G : Gx K mg) (c_merged : Cal P w K mg base CX0 1 "merged" sp_merged) : Cal P w K mg base CX0 2 "in_order" sp_in_order := by
  refine cal0 D sc_in_order (fun _ _ _ _ _ _ us hl => match us, hl with | [_], _ => rfl) (fun vs H Q E h => ?_) (fun f cdv A outer s H vs Q E hr h => ?_)
  · obtain ⟨_, rfl, _⟩ := h
    rfl
  · obtain ⟨a, rfl, ha, k⟩ := h
    refine ⟨_, (pss_cons (ps_setLc (i := 1) (own := [("row", 2)]) (by rfl) sc_in_order.nd rfl rfl (sw_true rfl rfl rfl (by decide +kernel)) (pi_list (pv 0)) (blkOk_by (N := ["rows", "parts", "row", "half", "rest", "one", "other"]) (sc := defScope s_in_order) (by decide +kernel)) (fun _ _ _ _ _ => (pg_name (i := 2) sc_in_order.nd rfl (Or.inl rfl) (Or.inr rfl))) (fun _ _ _ _ _ => pts_nil) (fun _ _ _ _ _ => (pe_lst (pa_cons (pv 2) pa_nil))))
      (pss_cons (ps_while PassesOwn.never (pt_cmpR op_gt (pe_callB call_len_seq (by rfl) G.len (by decide +kernel) (pa_cons (pv 1) pa_nil)) pe_int (nomark _)) (pss_cons (ps_set (i := 3) sc_in_order.nd rfl (Or.inl rfl) (pe_op op_fdivNN (pe_callB call_len_seq (by rfl) G.len (by decide +kernel) (pa_cons (pv 1) pa_nil)) pe_int))
      (pss_cons (ps_set (i := 4) sc_in_order.nd rfl (Or.inl rfl) (pe_slice sl_list (pv 1) (po_some (pe_op op_mul pe_int (pv 3))) po_none))
      (pss_one (ps_set (i := 1) sc_in_order.nd rfl (Or.inl rfl) (pe_op op_cat (by exact pe_lc (own := [("one", 5), ("other", 6)]) (by rfl) sc_in_order.nd (pi_zip (by rfl) G.zip (pa_cons (pe_slice sl_list (pv 1) po_none (po_some (pv 3))) (pa_cons (pe_slice sl_list (pv 1) (po_some (pv 3)) (po_some (pe_op op_mul pe_int (pv 3)))) pa_nil))) (blkOk_by (N := ["rows", "parts", "row", "half", "rest", "one", "other"]) (sc := defScope s_in_order) (by decide +kernel)) (fun _ _ _ _ _ => (pg_tupB (n := 2) rfl (pgs_cons (pg_name (i := 5) sc_in_order.nd rfl (Or.inl rfl) (Or.inr rfl)) (pgs_cons (pg_name (i := 6) sc_in_order.nd rfl (Or.inl rfl) (Or.inr rfl)) pgs_nil)))) (fun _ _ _ _ _ => pts_nil) (fun _ _ _ _ _ => (pe_d c_merged hr (by decide) (by rfl) (pa_cons (pv 5) (pa_cons (pv 6) pa_nil))))) (pv 4)))))))
      (pss_one (ps_ret (pe_ifExp (pt_cmpR (op_neD hr.units) (pv 1) (pe_lst pa_nil) (nomark _)) (pe_callTy call_tuple_of (by rfl) G.tuple (by decide +kernel) (pa_cons (pe_ix ix_list (pv 1) pe_int (fun _ _ => rfl)) pa_nil)) (pe_tup pa_nil)))))), ?_⟩
    walk_at "w"
    intro D1 hD1
    refine lc_list (xs := intV mks) (fun j H2 => Same H H2 ∧ ∃ xs : List V, H2 D1 = some (.lst xs) ∧ xs.length = j ∧ (∀ (i : Nat) (x : V), xs[i]? = some x → x ≠ .ref D1) ∧ Pts H2 xs ((mks.take j).map fun i => [i])) ?_ ?_ ?_ ?_
    · exact ⟨.new hD1, [], upd_same, rfl, (fun i x a => by simp at a), ⟨rfl, fun i x l a b => by simp at a⟩⟩
    · rintro j H2 hj ⟨s2, _⟩
      exact .of (s2 _ _ ha)
    · rintro j x H2 hx ⟨s2, xs, hD, hxl, hne, pt⟩
      have hj := (List.getElem?_eq_some_iff.mp hx).1
      rw [intV_len] at hj
      unfold intV at hx
      rw [List.getElem?_map] at hx
      obtain ⟨n, hn, rfl⟩ := Option.map_eq_some_iff.mp hx
      have h13 : mks.length = 13 := rfl
      walk_at "w"
      have s3 : Same H2 (L2.upd H2 q (.lst [.int n])) := .new hq
      have hD3 := s3 _ _ hD
      have hqD : q ≠ D1 := (ne_of_none hD hq).symm
      refine ⟨_, hD3, small1000 (by omega), (s2.trans s3).own hD1, xs ++ [.ref q], upd_same, by simp [hxl], ref_ne hne hqD, ?_⟩
      rw [take_snoc hn, List.map_append]
      refine Pts.own ?_ (ref_ne hne hqD)
      exact (pt.same s3).snoc upd_same
    · rintro H2 ⟨s2, xs, hD, hxl, hne, pt⟩
      walk_at "w"
      rw [show (mks.take (intV mks).length) = mks from by rw [intV_len, List.take_length]] at pt
      refine ⟨fun m σ H' => Same H H' ∧ ∃ (n : Nat) (pa : Addr) (xs : List V) (b c d e f : Option V), n < 5 ∧ m = 4 - n ∧ σ = [some (.ref a), some (.ref pa), b, c, d, e, f] ∧ H' pa = some (.lst xs) ∧ Pts H' xs (Pk n), ?_, ?_⟩
      · exact ⟨4, s2, 0, D1, xs, _, _, _, _, none, by decide, rfl, rfl, hD, pt⟩
      · rintro m σ H3 ⟨s3, n, pa, xs, b, c, d, e, f, hn, rfl, rfl, hpa, pt⟩
        obtain ⟨p0, p1, p2, p3, p4⟩ := Pk_len
        have hlen := pt.len
        walk_at "w"
        by_cases n4 : n < 4
        · have hgt : 1 < (Pk n).length := by
            match n, n4 with
            | 0, _ => omega
            | 1, _ => omega
            | 2, _ => omega
            | 3, _ => omega
          have hx13 : (Pk n).length ≤ 13 := by
            match n, n4 with
            | 0, _ => omega
            | 1, _ => omega
            | 2, _ => omega
            | 3, _ => omega
          refine iteDT (by omega) ⟨_, fun _ _ h => h, ?_⟩
          walk_at "w"
          refine ⟨⟨by decide, by decide⟩, ?_⟩
          walk_at "w"
          refine ⟨.inl ⟨by decide, by decide⟩, ?_⟩
          walk_at "w"
          generalize q = qr at *
          have c1 : cutV xs (some (2 * ((xs.length / 2 : Nat) : Int))) none = xs.drop (2 * (xs.length / 2)) := cutV_from xs (2 * (xs.length / 2)) (by omega)
          have c2 : cutV xs none (some ((xs.length / 2 : Nat) : Int)) = xs.take (xs.length / 2) := cutV_to xs _ (by omega)
          have c3 : cutV xs (some ((xs.length / 2 : Nat) : Int)) (some (2 * ((xs.length / 2 : Nat) : Int))) = (xs.take (2 * (xs.length / 2))).drop (xs.length / 2) := cutV_mid xs _ (2 * (xs.length / 2)) (by omega)
          rw [c1]
          have hpa4 := (upd_ne (o := .lst (xs.drop (2 * (xs.length / 2)))) (ne_of_none hpa hq)).trans hpa
          have hr4 : L2.upd H3 qr (.lst (xs.drop (2 * (xs.length / 2)))) qr = some (.lst (xs.drop (2 * (xs.length / 2)))) := upd_same
          have s4 : Same H3 (L2.upd H3 qr (.lst (xs.drop (2 * (xs.length / 2))))) := .new hq
          generalize L2.upd H3 qr (.lst (xs.drop (2 * (xs.length / 2)))) = H4 at *
          walk_at "w"
          rw [c2]
          generalize q = qa at *
          have hqa := hq
          have hpa5 := (upd_ne (o := .lst (xs.take (xs.length / 2))) (ne_of_none hpa4 hqa)).trans hpa4
          have ha5 : L2.upd H4 qa (.lst (xs.take (xs.length / 2))) qa = some (.lst (xs.take (xs.length / 2))) := upd_same
          have s5 : Same H4 (L2.upd H4 qa (.lst (xs.take (xs.length / 2)))) := .new hqa
          generalize L2.upd H4 qa (.lst (xs.take (xs.length / 2))) = H5 at *
          walk_at "w"
          refine ⟨.inl ⟨by decide, by decide⟩, ?_⟩
          walk_at "w"
          rw [c3]
          generalize q = qb at *
          have hqb := hq
          have ha6 := (upd_ne (o := .lst ((xs.take (2 * (xs.length / 2))).drop (xs.length / 2))) (ne_of_none ha5 hqb)).trans ha5
          have hb6 : L2.upd H5 qb (.lst ((xs.take (2 * (xs.length / 2))).drop (xs.length / 2))) qb = some (.lst ((xs.take (2 * (xs.length / 2))).drop (xs.length / 2))) := upd_same
          have s6 : Same H5 (L2.upd H5 qb (.lst ((xs.take (2 * (xs.length / 2))).drop (xs.length / 2)))) := .new hqb
          generalize L2.upd H5 qb (.lst ((xs.take (2 * (xs.length / 2))).drop (xs.length / 2))) = H6 at *
          have s36 := (s4.trans s5).trans s6
          have pt6 := pt.same s36
          have hr6 := s6 _ _ (s5 _ _ hr4)
          have pA := pt6.take (xs.length / 2)
          have pB := (pt6.take (2 * (xs.length / 2))).drop (xs.length / 2)
          have pR := pt6.drop (2 * (xs.length / 2))
          have lA : (xs.take (xs.length / 2)).length = xs.length / 2 := by rw [List.length_take]; omega
          have lB : ((xs.take (2 * (xs.length / 2))).drop (xs.length / 2)).length = xs.length / 2 := by rw [List.length_drop, List.length_take]; omega
          have hstep : Pk (n + 1) = List.zipWith mergeF ((Pk n).take (xs.length / 2)) (((Pk n).take (2 * (xs.length / 2))).drop (xs.length / 2)) ++ (Pk n).drop (2 * (xs.length / 2)) := by
            show stepP (Pk n) = _
            unfold stepP
            rw [← hlen]
          have sm := Pk_small n hn
          have smA : ∀ l ∈ (Pk n).take (xs.length / 2), l.length ≤ 13 := fun l hl => sm l (List.mem_of_mem_take hl)
          have smB : ∀ l ∈ ((Pk n).take (2 * (xs.length / 2))).drop (xs.length / 2), l.length ≤ 13 := fun l hl => sm l (List.mem_of_mem_take (List.mem_of_mem_drop hl))
          generalize (Pk n).take (xs.length / 2) = as at *
          generalize ((Pk n).take (2 * (xs.length / 2))).drop (xs.length / 2) = bs at *
          generalize (xs.take (xs.length / 2)) = xa at *
          generalize ((xs.take (2 * (xs.length / 2))).drop (xs.length / 2)) = xb at *
          walk_at "w"
          refine ⟨_, _, _, _, rfl, .of ha6, .of hb6, ?_⟩
          intro D2 hD2
          refine lc_it (walk_zip (xs := xa) (ys := xb) (n := xa.length) (by omega)) (fun j H7 => Same H6 H7 ∧ ∃ zs : List V, H7 D2 = some (.lst zs) ∧ zs.length = j ∧ (∀ (i : Nat) (x : V), zs[i]? = some x → x ≠ .ref D2) ∧ Pts H7 zs ((List.zipWith mergeF as bs).take j)) ?_ ?_ ?_ ?_
          · exact ⟨.new hD2, [], upd_same, rfl, (fun i x a => by simp at a), ⟨rfl, fun i x l a b => by simp at a⟩⟩
          · rintro j H7 hj ⟨s7, _⟩
            exact ⟨.of (s7 _ _ ha6), .of (s7 _ _ hb6)⟩
          · rintro j x H7 H8 hj ⟨s7, zs, hD7, hzl, hne7, pz⟩ ⟨T, x1, x2, rfl, hT, rfl, e1, e2⟩
            obtain ⟨p1, rfl, h1⟩ : ∃ p, x1 = .ref p ∧ ∃ l, as[j]? = some l ∧ H6 p = some (.lst (intV l)) := by
              have hja : j < as.length := by rw [← pA.len]; exact hj
              obtain ⟨p, e, hp⟩ := pA.all j x1 _ e1 (List.getElem?_eq_getElem hja)
              exact ⟨p, e, _, List.getElem?_eq_getElem hja, hp⟩
            obtain ⟨p2, rfl, h2⟩ : ∃ p, x2 = .ref p ∧ ∃ l, bs[j]? = some l ∧ H6 p = some (.lst (intV l)) := by
              have hjb : j < bs.length := by rw [← pB.len, lB]; omega
              obtain ⟨p, e, hp⟩ := pB.all j x2 _ e2 (List.getElem?_eq_getElem hjb)
              exact ⟨p, e, _, List.getElem?_eq_getElem hjb, hp⟩
            obtain ⟨l1, g1, h1⟩ := h1
            obtain ⟨l2, g2, h2⟩ := h2
            have s8 : Same H7 (L2.upd H7 T (.tup [.ref p1, .ref p2])) := .new hT
            walk_at "w"
            have z1 := smA l1 (List.mem_of_getElem? g1)
            have z2 := smB l2 (List.mem_of_getElem? g2)
            refine ⟨_, _, l1, l2, rfl, s8 _ _ (s7 _ _ h1), s8 _ _ (s7 _ _ h2), by omega, fun H9 p9 s9 hn9 hp9 => ?_⟩
            have hD9 := s9 _ _ (s8 _ _ hD7)
            have hne9 : p9 ≠ D2 := (ne_of_none (s8 _ _ hD7) hn9).symm
            have hzj : (List.zipWith mergeF as bs)[j]? = some (mergeF l1 l2) := by
              rw [List.getElem?_zipWith, g1, g2]
            refine ⟨zs, hD9, small1000 (by omega), ((s7.trans s8).trans s9).own hD2, zs ++ [.ref p9], upd_same, by simp [hzl], ref_ne hne7 hne9, ?_⟩
            rw [take_snoc hzj]
            exact Pts.own (((pz.same s8).same s9).snoc hp9) (ref_ne hne7 hne9)
          · rintro H7 ⟨s7, zs, hD7, hzl, hne7, pz⟩
            have s37 := s36.trans s7
            have hr7 := s7 _ _ hr6
            have sz := sizeLine_eq
            walk_at "w"
            refine ⟨_, _, _, _, rfl, rfl, hD7, hr7, by rw [List.length_drop]; omega, fun p8 hp8 => ?_⟩
            walk_at "w"
            refine ⟨4 - (n + 1), by omega, (s3.trans s37).upd hp8, n + 1, p8, zs ++ xs.drop (2 * (xs.length / 2)), _, _, _, _, _, by omega, rfl, rfl, upd_same, ?_⟩
            rw [hstep]
            have full : (List.zipWith mergeF as bs).take xa.length = List.zipWith mergeF as bs := by
              rw [List.take_of_length_le]
              rw [List.length_zipWith]
              have := pA.len
              omega
            rw [full] at pz
            exact (pz.app (pR.same s7)).same (.new hp8)
        · have n5 : n = 4 := by omega
          subst n5
          refine iteDF (by omega) ?_
          walk_at "w"
          rw [Pk_end] at pt
          have hx1 := pt.len
          have s4 : Same H3 (L2.upd H3 q (.lst [])) := .new hq
          have pt4 := pt.same s4
          obtain ⟨x0, hx0⟩ : ∃ x0, xs = [x0] := by
            match xs, hx1 with
            | [x0], _ => exact ⟨x0, rfl⟩
          subst hx0
          obtain ⟨p0, rfl, hp0⟩ := pt4.all 0 x0 srt rfl rfl
          have hsrt : Tds (L2.upd H3 q (.lst [])) (intV srt) (srt.map .int) := .ofInts srt
          refine ⟨.list [.list (srt.map .int)], .list [], .lst (.of (s4 _ _ hpa)) (.cons (hsrt.dpl hp0) .nil), .lst (.of upd_same) .nil, rfl, rfl, ?_⟩
          have hpa4 := s4 _ _ hpa
          walk_at "w"
          exact k _ _ ((s3.trans s4).upd (by assumption)) upd_same
end
end K8
set_option maxHeartbeats 4000000
namespace K8
open PySem PySem.Spec PyProof.Rows L2
set_option hygiene false in
local macro_rules | `(tactic| walk_at "w") => `(tactic| (repeat (first | refine ⟨_, rfl, ?_⟩ | refine ⟨_, _, rfl, rfl, ?_⟩ | refine ⟨rfl, ?_⟩ | refine ⟨_, _, rfl, ?_⟩ | refine ⟨_, _, rfl, .of upd_same, rfl, ?_⟩ | refine ⟨_, _, rfl, .of (by assumption), rfl, ?_⟩ | refine ⟨_, _, rfl, .of (by assumption), fun q hq => ?_⟩ | refine ⟨_, _, rfl, .of (by assumption), ?_⟩ | refine ⟨_, _, rfl, .inr (.of (by assumption)), ?_⟩ | refine ⟨_, _, rfl, .inl (.of (by assumption)), ?_⟩ | refine ⟨_, _, _, _, rfl, rfl, .of (by assumption), atI_nat (j := 0) rfl, ?_⟩ | refine ⟨_, _, _, _, rfl, rfl, .of (by assumption), atI_nat (j := 1) rfl, ?_⟩ | refine ⟨_, _, _, _, rfl, rfl, .of (by assumption), atI_nat (j := 2) rfl, ?_⟩ | refine ⟨fun z => absurd z.1 (show ¬ (1 : Nat) = 0 by decide), fun _ q hq => ?_⟩ | refine ⟨fun z => absurd z.1 (show ¬ (2 : Nat) = 0 by decide), fun _ q hq => ?_⟩ | refine ⟨sz1, fun q hq => ?_⟩ | refine ⟨sz2, fun q hq => ?_⟩ | refine ⟨sz3, fun q hq => ?_⟩ | refine ⟨sz0, fun q hq => ?_⟩ | refine ⟨_, _, _, rfl, rfl, (by assumption), (by assumption), ?_⟩ | refine ⟨.inl ⟨rfl, _, .of (by assumption)⟩, ?_⟩ | refine ⟨_, _, rfl, .inl ⟨.of (by assumption), fun q hq => ?_⟩⟩ | refine ⟨⟨_, .of (by assumption)⟩, ?_⟩ | refine ⟨⟨_, rfl⟩, ?_⟩ | refine ⟨.inl ⟨rfl, _, .of upd_same⟩, ?_⟩ | refine iteT ?_ | refine iteF ?_)))
section
variable {P : Program} {w : World} {K : PySem.W.Frag} {mg : Str → Option Value} {base : Heap}
/-! ### stretches, one_of, joined, fits -/
def stt : List Rg := ⟨none, some (-7)⟩ :: srt.map (fun m => ⟨some m, some m⟩) ++ [⟨some 7, none⟩]
def fF (i : Nat) : List Rg := if i = 0 then [] else ⟨none, some (-7)⟩ :: (srt.take i).map fun m => ⟨some m, some m⟩
def lowF (i : Nat) : OI := if i = 0 then none else some (-6 + (i : Int))
def logD : PyData := .tuple [.tuple [.int 0, .bool true]]
theorem srt_at {i : Nat} {m : Int} (h : srt[i]? = some m) : i < 13 ∧ m = -6 + (i : Int) := by
  unfold srt at h
  rw [List.getElem?_map] at h
  obtain ⟨k, hk, rfl⟩ := Option.map_eq_some_iff.mp h
  obtain ⟨h1, h2⟩ := List.getElem?_eq_some_iff.mp hk
  simp at h1 h2
  subst h2
  exact ⟨h1, rfl⟩
def sp_stretches : Sp := fun vs H Q _ => ∃ v : V, vs = [v] ∧ Td H v logD ∧ ∀ (H' : Hp) (p : Addr) (xs : List V), Same H H' → H' p = some (.lst xs) → Tds H' xs (stt.map Rg.d) → Q (.ref p) H'
theorem ok_stretches (D : Df K mg "stretches" s_stretches) (G : Gx K mg) (c_in_order : Cal P w K mg base CX0 2 "in_order" sp_in_order) : Cal P w K mg base CX0 3 "stretches" sp_stretches := by
  refine cal0 D sc_stretches (fun _ _ _ _ _ _ us hl => match us, hl with | [_], _ => rfl) (fun vs H Q E h => ?_) (fun f cdv A outer s H vs Q E hr h => ?_)
  · obtain ⟨_, rfl, _⟩ := h
    rfl
  · obtain ⟨v, rfl, hv, k⟩ := h
    refine ⟨_, (pss_cons (ps_set (i := 1) sc_stretches.nd rfl (Or.inl rfl) (pe_lst pa_nil))
      (pss_cons (ps_for PassesOwn.never rfl (pi_tup (pv 0)) (pg_tup (n := 2) rfl (pgs_cons (pg_name (i := 2) sc_stretches.nd rfl (Or.inr rfl)) (pgs_cons (pg_name (i := 3) sc_stretches.nd rfl (Or.inl rfl)) pgs_nil))) (pss_one (ps_expr (pe_bm PySem.F.plainAttrs_list PySem.F.slot_list_extend PySem.F.type_list_extend mt_extend (pv 1) (pa_cons (by exact pe_lc (own := [("far", 4)]) (by rfl) sc_stretches.nd (pi_range2 (by rfl) G.range (pa_cons (pe_op op_sub pe_int (pe_gi (by rfl) G.MAX_BOUND)) (pa_cons (pe_op op_add (pe_gi (by rfl) G.MAX_BOUND) pe_int) pa_nil))) (blkOk_by (N := ["log", "marks", "number", "taken", "far", "found", "low", "mark"]) (sc := defScope s_stretches) (by decide +kernel)) (fun _ _ _ _ _ => (pg_name (i := 4) sc_stretches.nd rfl (Or.inl rfl) (Or.inr rfl))) (fun _ _ _ _ _ => pts_nil) (fun _ _ _ _ _ => (pe_op op_sub (pv 2) (pv 4)))) pa_nil)))))
      (pss_cons (ps_set (i := 5) sc_stretches.nd rfl (Or.inl rfl) (pe_lst pa_nil))
      (pss_cons (ps_set (i := 6) sc_stretches.nd rfl (Or.inl rfl) pe_non)
      (pss_cons (ps_for PassesOwn.never rfl (pi_tup (pe_d c_in_order hr (by decide) (by rfl) (pa_cons (pv 1) pa_nil))) (pg_name (i := 7) sc_stretches.nd rfl (Or.inl rfl)) (pss_cons (ps_if (PW.pt (pw_or (pt_cmpR op_isN (pv 6) pe_non (nomark _)) (pw_or1 (pt_cmpR op_lt (pv 6) (pv 7) (nomark _))))) (pss_one (ps_expr (pe_bm PySem.F.plainAttrs_list PySem.F.slot_list_append PySem.F.type_list_append mt_append (pv 5) (pa_cons (pe_tup (pa_cons (pv 6) (pa_cons (pe_op op_sub (pv 7) pe_int) pa_nil))) pa_nil)))) pss_nil)
      (pss_cons (ps_expr (pe_bm PySem.F.plainAttrs_list PySem.F.slot_list_append PySem.F.type_list_append mt_append (pv 5) (pa_cons (pe_tup (pa_cons (pv 7) (pa_cons (pv 7) pa_nil))) pa_nil)))
      (pss_one (ps_set (i := 6) sc_stretches.nd rfl (Or.inl rfl) (pe_op op_add (pv 7) pe_int))))))
      (pss_one (ps_ret (pe_op op_cat (pv 5) (pe_lst (pa_cons (pe_tup (pa_cons (pv 6) (pa_cons pe_non pa_nil))) pa_nil)))))))))), ?_⟩
    obtain ⟨pl, xp, rfl, hpl, txp⟩ := hv.tup1
    walk_at "w"
    generalize q = qm at *
    have hqm := hq
    have s1 : Same H (L2.upd H qm (.lst [])) := .new hqm
    refine ⟨⟨_, .of (s1 _ _ hpl)⟩, ?_⟩
    refine for_tup (xs := [xp]) (fun i σ H' => Same H H' ∧ (∃ (a b c d e f : Option V), σ = [some (.ref pl), some (.ref qm), a, b, c, d, e, f]) ∧ H' qm = some (.lst (intV (if i = 0 then [] else mks)))) ?_ ?_ ?_ ?_
    · exact ⟨s1, ⟨_, _, _, _, _, _, rfl⟩, upd_same⟩
    · rintro i σ H' hi ⟨sm, _⟩
      exact .of (sm _ _ hpl)
    · rintro i x σ H' hx ⟨sm, ⟨a, b, c, d, e, f, rfl⟩, hm⟩
      match i with
      | 0 =>
        cases hx
        obtain ⟨pp, x1, x2, rfl, hpp, t1, t2⟩ := (txp.same sm).tup2
        cases t1.intE
        cases t2.blE
        walk_at "w"
        refine ⟨⟨by decide, by decide, by decide, by decide⟩, ?_⟩
        intro D2 hD2
        refine lc_range (fun j H2 => Same H' H2 ∧ H2 D2 = some (.lst (intV (mks.take j)))) ?_ ?_ ?_
        · exact ⟨.new hD2, upd_same⟩
        · rintro j H2 hj ⟨s2, hD⟩
          have hj' : j < 13 := hj
          have hmk : mks[j]? = some (6 - (j : Int)) := by
            unfold mks
            rw [List.getElem?_map, List.getElem?_range hj']
            rfl
          walk_at "w"
          refine ⟨_, hD, small1000 (by rw [intV_len, List.length_take]; omega), s2.own hD2, ?_⟩
          rw [upd_same, take_snoc hmk, ← intV_snoc]
          have e : (0 : Int) - (0 - 6 + (j : Int)) = 6 - (j : Int) := by omega
          show some (HO.lst (intV (mks.take j) ++ [V.int (0 - (0 - 6 + (j : Int)))])) = _
          rw [e]
        · rintro H2 ⟨s2, hD⟩
          have hD2' : H2 D2 = some (.lst (intV mks)) := hD
          have hm2 : H2 qm = some (.lst []) := s2 _ _ hm
          walk_at "w"
          refine ⟨_, _, _, _, rfl, rfl, hm2, hD2', by decide +kernel, ?_⟩
          refine ⟨(sm.trans s2).own hqm, ⟨_, _, _, _, _, _, rfl⟩, upd_same⟩
    · rintro σ H' ⟨sm, ⟨a, b, c, d, e, f, rfl⟩, hm⟩
      have hm2 : H' qm = some (.lst (intV mks)) := hm
      walk_at "w"
      generalize q = qf at *
      have hqf := hq
      refine ⟨(upd_ne (ne_of_none hm hqf)).trans hm2, fun H2 p s2 hp => ?_⟩
      have sf : Same H' (L2.upd H' qf (.lst [])) := .new hqf
      have hqH : H qf = none := sm.free hqf
      have hf2 : H2 qf = some (.lst []) := s2 _ _ upd_same
      have s02 : Same H H2 := sm.trans (sf.trans s2)
      walk_at "w"
      refine for_tup (xs := intV srt) (fun i σ H3 => Same H H3 ∧ H3 p = some (.tup (intV srt)) ∧ (∃ (a b c d : Option V), σ = [some (.ref pl), some (.ref qm), a, b, c, some (.ref qf), some (oiV (lowF i)), d]) ∧ ∃ xs, H3 qf = some (.lst xs) ∧ Tds H3 xs ((fF i).map Rg.d)) ?_ ?_ ?_ ?_
      · exact ⟨s02, hp, ⟨_, _, _, _, rfl⟩, [], hf2, .nil⟩
      · rintro i σ H3 hi ⟨_, h, _⟩
        exact .of h
      · rintro i x σ H3 hx ⟨s3, hp3, ⟨a, b, c, d, rfl⟩, xs, hf3, tx⟩
        unfold intV at hx
        rw [List.getElem?_map] at hx
        obtain ⟨m, hm9, rfl⟩ := Option.map_eq_some_iff.mp hx
        obtain ⟨hi, hme⟩ := srt_at hm9
        have hxl : xs.length ≤ 14 := by
          rw [tx.len, List.length_map]
          unfold fF
          split
          · exact Nat.zero_le _
          · simp
            omega
        have hpq : p ≠ qf := fun z => by rw [z, hf3] at hp3; cases hp3
        match i, hme with
        | 0, hme =>
          have e0 : m = -6 := by simpa using hme
          subst e0
          walk_at "w"
          have h1 := hq
          generalize q = q1 at *
          have hx0 : xs = [] := List.eq_nil_of_length_eq_zero tx.len
          subst hx0
          have hf4 : ∀ o, L2.upd H3 q1 o qf = some (.lst []) := fun o => (upd_ne (ne_of_none hf3 hq)).trans hf3
          have h1 := hq
          have s4 : ∀ o, Same H3 (L2.upd H3 q1 o) := fun o => .new h1
          refine ⟨_, _, _, rfl, rfl, hf4 _, by decide, ?_⟩
          walk_at "w"
          generalize q = q2 at *
          have h2 := hq
          refine ⟨_, _, _, rfl, rfl, (upd_ne (ne_of_none upd_same h2)).trans upd_same, small1000 (by simp), ?_⟩
          walk_at "w"
          have X := (upd_ne (o := .lst ([] ++ [V.ref q1])) hpq).trans (s4 (.tup [.non, .int (-6 - 1)]) _ _ hp3)
          have t1 : Tds (L2.upd H3 q1 (.tup [.non, .int (-6 - 1)])) ([] ++ [.ref q1]) ([] ++ [Rg.d ⟨none, some (-7)⟩]) := Tds.snoc .nil (Td.of2 upd_same .non (.int _))
          have t1' := t1.mono (.lst (o := .lst ([] ++ [.ref q1])) (hf4 _))
          refine ⟨(((s3.trans (s4 _)).own hqH).upd h2).own hqH, (upd_ne hpq).trans ((upd_ne (ne_of_none X h2)).trans X), ⟨_, _, _, _, rfl⟩, _, upd_same, ?_⟩
          exact ((t1'.same (.new h2)).snoc (Td.of2 (a := .int (-6)) (b := .int (-6)) upd_same (.int _) (.int _))).mono (.lst ((upd_ne (ne_of_none upd_same h2)).trans upd_same))
        | i + 1, hme =>
          have hno : ¬ (-6 + ((i + 1 : Nat) : Int) < m) := by omega
          have el : lowF (i + 1) = some (-6 + ((i + 1 : Nat) : Int)) := rfl
          rw [el]
          walk_at "w"
          refine iteDF hno ?_
          walk_at "w"
          generalize q = q1 at *
          have h1 := hq
          have s4 : ∀ o, Same H3 (L2.upd H3 q1 o) := fun o => .new h1
          refine ⟨_, _, _, rfl, rfl, s4 _ _ _ hf3, small1000 (by omega), ?_⟩
          walk_at "w"
          refine ⟨(s3.trans (s4 _)).own hqH, (upd_ne hpq).trans (s4 _ _ _ hp3), ⟨a, b, c, some (.int m), ?_⟩, _, upd_same, ?_⟩
          · have e2 : m + 1 = -6 + ((i + 1 + 1 : Nat) : Int) := by omega
            have e4 : lowF (i + 1 + 1) = some (m + 1) := by rw [e2]; rfl
            rw [e4]
            rfl
          · have e3 : fF (i + 1 + 1) = fF (i + 1) ++ [⟨some m, some m⟩] := by
              unfold fF
              rw [if_neg (by omega), if_neg (by omega), take_snoc hm9, List.map_append]
              rfl
            rw [e3, List.map_append]
            exact ((tx.same (s4 _)).snoc (Td.of2 (a := .int m) (b := .int m) upd_same (.int _) (.int _))).mono (.lst (s4 _ _ _ hf3))
      · rintro σ H3 ⟨s3, hp3, ⟨a, b, c, d, rfl⟩, xs, hf3, tx⟩
        have hxl := tx.len
        walk_at "w"
        rename_i q1 h1
        have s4 : ∀ o, Same H3 (L2.upd H3 q1 o) := fun o => .new h1
        have s5 : ∀ o', Same H3 (L2.upd (L2.upd H3 q1 (.tup [oiV (lowF (intV srt).length), V.non])) q o') := fun o' => (s4 _).upd hq
        refine ⟨_, _, _, _, rfl, rfl, s5 _ _ _ hf3, upd_same, ?_, fun p9 hp9 => ?_⟩
        · rw [hxl]
          show 14 + 1 ≤ sizeLine
          decide
        · refine k _ _ _ ((s3.trans (s5 _)).upd hp9) upd_same ?_
          have e : stt = fF 13 ++ [⟨some 7, none⟩] := rfl
          have e2 : (intV srt).length = 13 := rfl
          rw [e2] at tx
          rw [e, List.map_append]
          refine Tds.same (.new hp9) ?_
          exact Tds.snoc (tx.same (s5 _)) (Td.up (Td.of2 (a := .int 7) (b := .none) upd_same (.int _) .non) hq)
end
end K8
set_option maxHeartbeats 4000000
namespace K8
open PySem PySem.Spec PyProof.Rows L2
set_option hygiene false in
local macro_rules | `(tactic| walk_at "w") => `(tactic| (repeat (first | refine ⟨_, rfl, ?_⟩ | refine ⟨_, _, rfl, rfl, ?_⟩ | refine ⟨rfl, ?_⟩ | refine ⟨_, _, rfl, ?_⟩ | refine ⟨_, _, rfl, .of upd_same, rfl, ?_⟩ | refine ⟨_, _, rfl, .of (by assumption), rfl, ?_⟩ | refine ⟨_, _, rfl, .of (by assumption), fun q hq => ?_⟩ | refine ⟨_, _, rfl, .of (by assumption), ?_⟩ | refine ⟨_, _, rfl, .inr (.of (by assumption)), ?_⟩ | refine ⟨_, _, rfl, .inl (.of (by assumption)), ?_⟩ | refine ⟨_, _, _, _, rfl, rfl, .of (by assumption), atI_nat (j := 0) rfl, ?_⟩ | refine ⟨_, _, _, _, rfl, rfl, .of (by assumption), atI_nat (j := 1) rfl, ?_⟩ | refine ⟨_, _, _, _, rfl, rfl, .of (by assumption), atI_nat (j := 2) rfl, ?_⟩ | refine ⟨fun z => absurd z.1 (show ¬ (1 : Nat) = 0 by decide), fun _ q hq => ?_⟩ | refine ⟨fun z => absurd z.1 (show ¬ (2 : Nat) = 0 by decide), fun _ q hq => ?_⟩ | refine ⟨sz1, fun q hq => ?_⟩ | refine ⟨sz2, fun q hq => ?_⟩ | refine ⟨sz3, fun q hq => ?_⟩ | refine ⟨sz0, fun q hq => ?_⟩ | refine ⟨_, _, _, rfl, rfl, (by assumption), (by assumption), ?_⟩ | refine ⟨.inl ⟨rfl, _, .of (by assumption)⟩, ?_⟩ | refine ⟨_, _, rfl, .inl ⟨.of (by assumption), fun q hq => ?_⟩⟩ | refine ⟨⟨_, .of (by assumption)⟩, ?_⟩ | refine ⟨⟨_, rfl⟩, ?_⟩ | refine ⟨.inl ⟨rfl, _, .of upd_same⟩, ?_⟩ | refine iteT ?_ | refine iteF ?_)))
section
variable {P : Program} {w : World} {K : PySem.W.Frag} {mg : Str → Option Value} {base : Heap}
/-! ### one_of, joined, fits -/
def oneF (r : Rg) : Int := match r.lo with
  | some l => l
  | none => r.hi.getD 0
def sp_one_of : Sp := fun vs H Q _ => ∃ (v : V) (r : Rg), vs = [v] ∧ Td H v r.d ∧ Q (.int (oneF r)) H
theorem ok_one_of (D : Df K mg "one_of" s_one_of) (G : Gx K mg) : Cal P w K mg base CX0 1 "one_of" sp_one_of := by
  refine cal0 D sc_one_of (fun _ _ _ _ _ _ us hl => match us, hl with | [_], _ => rfl) (fun vs H Q E h => ?_) (fun f cdv A outer s H vs Q E hr h => ?_)
  · obtain ⟨_, _, rfl, _⟩ := h
    rfl
  · obtain ⟨v, ⟨lo, hi⟩, rfl, hv, k⟩ := h
    refine ⟨_, (pss_cons (ps_asg (pv 0) (pg_tup (n := 2) rfl (pgs_cons (pg_name (i := 1) sc_one_of.nd rfl (Or.inl rfl)) (pgs_cons (pg_name (i := 2) sc_one_of.nd rfl (Or.inl rfl)) pgs_nil))))
      (pss_cons (ps_if (pt_cmpR op_notN (pv 1) pe_non (nomark _)) (pss_one (ps_ret (pv 1))) pss_nil)
      (pss_one (ps_ret (pe_ifExp (pt_cmpR op_isN (pv 2) pe_non (nomark _)) pe_int (pv 2)))))), ?_⟩
    obtain ⟨p, x, y, rfl, hp, hx, hy⟩ := hv.tup2
    cases hx.oiE
    cases hy.oiE
    cases lo with
    | some l =>
      walk_at "w"
      exact k
    | none =>
      cases hi with
      | none =>
        walk_at "w"
        exact k
      | some h =>
        walk_at "w"
        exact k
/-- neighbours put together -/
def joinS (acc : List Rg) (r : Rg) : List Rg := match acc.getLast? with
  | none => [r]
  | some p => if p.hi.map (fun h => h + 1) = r.lo then acc.dropLast ++ [⟨p.lo, r.hi⟩] else acc ++ [r]
def joinL (l : List Rg) : List Rg := l.foldl joinS []
theorem joinL_snoc (l : List Rg) (r : Rg) : joinL (l ++ [r]) = joinS (joinL l) r := by simp [joinL]
theorem joinS_snoc (acc : List Rg) (p r : Rg) : joinS (acc ++ [p]) r = if p.hi.map (fun h => h + 1) = r.lo then acc ++ [⟨p.lo, r.hi⟩] else (acc ++ [p]) ++ [r] := by
  simp [joinS]
theorem joinS_last (acc : List Rg) (r : Rg) : ∃ acc' p, joinS acc r = acc' ++ [p] ∧ p.hi = r.hi := by
  rcases List.eq_nil_or_concat acc with rfl | ⟨as, p, rfl⟩
  · exact ⟨[], r, rfl, rfl⟩
  · rw [List.concat_eq_append, joinS_snoc]
    split
    · exact ⟨_, _, rfl, rfl⟩
    · exact ⟨_, _, rfl, rfl⟩
theorem revInd {α : Type} {p : List α → Prop} (h0 : p []) (hs : ∀ l a, p l → p (l ++ [a])) (l : List α) : p l := by
  have h : ∀ m : List α, p m.reverse := by
    intro m
    induction m with
    | nil => exact h0
    | cons a m ih => rw [List.reverse_cons]; exact hs _ _ ih
  have h2 := h l.reverse
  rwa [List.reverse_reverse] at h2
theorem joinL_len : ∀ l : List Rg, (joinL l).length ≤ l.length := by
  refine revInd (Nat.le_refl _) fun l r ih => ?_
  · rw [joinL_snoc]
    rcases List.eq_nil_or_concat (joinL l) with e | ⟨as, p, e⟩
    · rw [e]
      simp [joinS]
    · rw [List.concat_eq_append] at e
      rw [e, joinS_snoc]
      rw [e] at ih
      split <;> simp at * <;> omega
theorem joinL_ok : ∀ l : List Rg, (∀ r ∈ l, RgS r) → ∀ r ∈ joinL l, RgS r := by
  refine revInd (fun _ r h => nomatch h) fun l r ih => ?_
  · intro h
    have ih2 := ih fun z hz => h z (List.mem_append_left _ hz)
    have hr := h r (by simp)
    rw [joinL_snoc]
    rcases List.eq_nil_or_concat (joinL l) with e | ⟨as, p, e⟩
    · rw [e]
      intro z hz
      simp [joinS] at hz
      exact hz ▸ hr
    · rw [List.concat_eq_append] at e
      rw [e, joinS_snoc]
      rw [e] at ih2
      split
      · exact mem_snoc (fun z hz => ih2 z (List.mem_append_left _ hz)) ⟨(ih2 p (by simp)).lo, hr.hi⟩
      · exact mem_snoc ih2 hr
/-- in order, open ends only without -/
structure InOrd (fs : List Rg) : Prop where
  lo : ∀ (i : Nat) (r : Rg), 0 < i → fs[i]? = some r → r.lo.isSome = true
  hi : ∀ (i : Nat) (r : Rg), i + 1 < fs.length → fs[i]? = some r → r.hi.isSome = true
def sp_joined : Sp := fun vs H Q _ => ∃ (a : Addr) (xs : List V) (fs : List Rg), vs = [.ref a] ∧ H a = some (.lst xs) ∧ Tds H xs (fs.map Rg.d) ∧ fs.length ≤ 100 ∧ InOrd fs ∧
  ∀ (H' : Hp) (o : V), Same H H' → Td H' o (.tuple ((joinL fs).map Rg.d)) → Q o H'
theorem ok_joined (D : Df K mg "joined" s_joined) (G : Gx K mg) : Cal P w K mg base CX0 1 "joined" sp_joined := by
  refine cal0 D sc_joined (fun _ _ _ _ _ _ us hl => match us, hl with | [_], _ => rfl) (fun vs H Q E h => ?_) (fun f cdv A outer s H vs Q E hr h => ?_)
  · obtain ⟨_, _, _, rfl, _⟩ := h
    rfl
  · obtain ⟨a, xs, fs, rfl, ha, tx, hfl, io, k⟩ := h
    refine ⟨_, (pss_cons (ps_set (i := 1) sc_joined.nd rfl (Or.inl rfl) (pe_tup pa_nil))
      (pss_cons (ps_for PassesOwn.never rfl (pi_list (pv 0)) (pg_tup (n := 2) rfl (pgs_cons (pg_name (i := 2) sc_joined.nd rfl (Or.inl rfl)) (pgs_cons (pg_name (i := 3) sc_joined.nd rfl (Or.inl rfl)) pgs_nil))) (pss_one (ps_if (PW.pt (pw_and (pt_cmpR (op_neD hr.units) (pv 1) (pe_tup pa_nil) (nomark _)) (pw_and1 (pt_cmpR op_eq (pe_op op_add (pe_ix ix_tup (pe_ix ix_tup (pv 1) (pe_un un_neg pe_int) (fun _ _ => rfl)) pe_int (fun _ _ => rfl)) pe_int) (pv 2) (nomark _))))) (pss_one (ps_set (i := 1) sc_joined.nd rfl (Or.inl rfl) (pe_op op_catA (pe_slice sl_tupA (pv 1) po_none (po_some (pe_un un_neg pe_int))) (pe_tup (pa_cons (pe_tup (pa_cons (pe_ix ix_tup (pe_ix ix_tup (pv 1) (pe_un un_neg pe_int) (fun _ _ => rfl)) pe_int (fun _ _ => rfl)) (pa_cons (pv 3) pa_nil))) pa_nil))))) (pss_one (ps_set (i := 1) sc_joined.nd rfl (Or.inl rfl) (pe_op op_catA (pv 1) (pe_tup (pa_cons (pe_tup (pa_cons (pv 2) (pa_cons (pv 3) pa_nil))) pa_nil))))))))
      (pss_one (ps_ret (pv 1))))), ?_⟩
    walk_at "w"
    have s1 : Same H (L2.upd H q (.tup [])) := .new hq
    refine ⟨⟨_, .of (s1 _ _ ha)⟩, ?_⟩
    refine for_list (xs := xs) (fun i σ H' => Same (L2.upd H q (.tup [])) H' ∧ ∃ (rv : V) (b c : Option V), σ = [some (.ref a), some rv, b, c] ∧ Td H' rv (.tuple ((joinL (fs.take i)).map Rg.d))) ?_ ?_ ?_ ?_
    · exact ⟨.refl _, _, _, _, rfl, .of0 upd_same⟩
    · rintro i σ H' hi ⟨sm, _⟩
      exact .of (sm _ _ (s1 _ _ ha))
    · rintro i x σ H' hx ⟨sm, rv, b, c, rfl, tr⟩
      have hi : i < fs.length := by
        have := (List.getElem?_eq_some_iff.mp hx).1
        rw [tx.len, List.length_map] at this
        exact this
      have hr9 : fs[i]? = some fs[i] := List.getElem?_eq_getElem hi
      have t9 := (tx.all i x _ hx (by rw [List.getElem?_map, hr9]; rfl)).same (s1.trans sm)
      have lo9 := fun h => io.lo i _ h hr9
      have js := joinL_snoc (fs.take i) fs[i]
      rw [← take_snoc hr9] at js
      have jl := joinL_len (fs.take i)
      rw [List.length_take] at jl
      generalize fs[i] = r at *
      obtain ⟨lo, hi9⟩ := r
      obtain ⟨pp, x1, x2, rfl, hpp, t1, t2⟩ := t9.tup2
      cases t1.oiE
      cases t2.oiE
      walk_at "w"
      refine ne_td (tr.up hq) (.of0 upd_same) (rgs_fl _) nil_fl (by decide) (by decide) ?_
      rw [eqv_nil]
      have s2 : Same H' (L2.upd H' q (.tup [])) := .new hq
      rcases List.eq_nil_or_concat (joinL (fs.take i)) with e0 | ⟨es, pr, e0⟩
      · have s5 := s2
        have hemp : ((joinL (fs.take i)).map Rg.d).isEmpty = true := by rw [e0]; rfl
        rw [hemp]
        walk_at "w"
        refine cat_td ((tr.same s5).same ((L2.Same.new (by assumption)).upd (by assumption))) (.of1 upd_same ((Td.of2 upd_same (Td.oi lo) (Td.oi hi9)).up (by assumption))) (by have z := sizeLine_eq; simp; omega) fun H6 o s6 t6 => ?_
        walk_at "w"
        refine ⟨sm.trans (s5.trans (((L2.Same.new (by assumption)).upd (by assumption)).trans s6)), o, _, _, rfl, ?_⟩
        rw [js, (show joinS (joinL (fs.take i)) ⟨lo, hi9⟩ = joinL (fs.take i) ++ [⟨lo, hi9⟩] by rw [e0]; rfl), List.map_append]
        exact t6
      · rw [List.concat_eq_append] at e0
        have hemp : ((joinL (fs.take i)).map Rg.d).isEmpty = false := by rw [e0, List.map_append]; simp
        rw [hemp]
        have hi0 : 0 < i := by
          cases i with
          | zero => simp [joinL] at e0
          | succ i => omega
        obtain ⟨h9, eh9⟩ : ∃ h, pr.hi = some h := by
          obtain ⟨i', rfl⟩ : ∃ i', i = i' + 1 := ⟨i - 1, by omega⟩
          have hp9 : fs[i']? = some fs[i'] := List.getElem?_eq_getElem (by omega)
          have hh := io.hi i' _ (by omega) hp9
          rw [take_snoc hp9, joinL_snoc] at e0
          obtain ⟨acc', p', e5, e6⟩ := joinS_last (joinL (fs.take i')) fs[i']
          rw [e5] at e0
          have e7 := List.append_inj_right' e0 rfl
          simp at e7
          rw [← e7, e6]
          exact Option.isSome_iff_exists.mp hh
        obtain ⟨l9, rfl⟩ := Option.isSome_iff_exists.mp (lo9 hi0)
        obtain ⟨plo, phi⟩ := pr
        simp only at eh9
        subst eh9
        rw [e0, List.map_append] at tr
        have tr2 := tr.same s2
        walk_at "w"
        refine ix_td tr2 (atI_last _ _) fun v9 t9' => ?_
        obtain ⟨p9, y1, y2, rfl, hp9', u1, u2⟩ := t9'.tup2
        cases u1.oiE
        cases u2.oiE
        walk_at "w"
        have s5 := s2
        rw [e0, joinS_snoc] at js
        by_cases hcon : h9 + 1 = l9
        · refine iteDT (congrArg V.int hcon) ?_
          rw [if_pos (by simp [hcon])] at js
          walk_at "w"
          dsimp only [tNoPart]
          refine sl_td tr2 fun H7 o7 s7 t7 => ?_
          simp only [List.map_cons, List.map_nil] at t7
          rw [cutP_init] at t7
          have tr7 := tr2.same s7
          have hp7 := s7 _ _ hp9'
          walk_at "w"
          refine ix_td tr7 (atI_last _ _) fun v9 t9' => ?_
          obtain ⟨p8, z1, z2, rfl, hp8', w1, w2⟩ := t9'.tup2
          cases w1.oiE
          walk_at "w"
          refine cat_td (t7.same ((L2.Same.new (by assumption)).upd (by assumption))) (.of1 upd_same ((Td.of2 upd_same (Td.oi plo) (Td.oi hi9)).up (by assumption))) (by have z := sizeLine_eq; rw [e0] at jl; simp at *; omega) fun H6 o s6 t6 => ?_
          walk_at "w"
          refine ⟨sm.trans (s2.trans (s7.trans (((L2.Same.new (by assumption)).upd (by assumption)).trans s6))), o, _, _, rfl, ?_⟩
          rw [js, List.map_append]
          exact t6
        · refine iteDF (fun z => hcon (V.int.inj z)) ?_
          rw [if_neg (by simp [hcon]), ← e0] at js
          rw [← List.map_append, ← e0] at tr
          walk_at "w"
          refine cat_td ((tr.same s5).same ((L2.Same.new (by assumption)).upd (by assumption))) (.of1 upd_same ((Td.of2 upd_same (Td.oi (some l9)) (Td.oi hi9)).up (by assumption))) (by have z := sizeLine_eq; simp; omega) fun H6 o s6 t6 => ?_
          walk_at "w"
          refine ⟨sm.trans (s5.trans (((L2.Same.new (by assumption)).upd (by assumption)).trans s6)), o, _, _, rfl, ?_⟩
          rw [js, List.map_append]
          exact t6
    · rintro σ H' ⟨sm, rv, b, c, rfl, tr⟩
      rw [tx.len, List.length_map, List.take_length] at tr
      walk_at "w"
      exact k _ _ (s1.trans sm) tr
/-! ### fits -/
theorem mem_fil {α : Type} {p : α → Bool} {l : List α} {a : α} (h : a ∈ l.filter p) : a ∈ l := (List.mem_filter.mp h).1
def fitB (R : Rec) (r : Rg) : Bool := PyData.eqv (.tuple ((walkF R (sd0 (oneF r)) [0]).1.map .bool)) (.tuple [.bool true])
def fitsF (R : Rec) : List Rg := joinL (stt.filter (fitB R))
theorem filter_ord (p : Rg → Bool) : InOrd (stt.filter p) := by
  have hsome : ∀ r ∈ stt, r ≠ ⟨none, some (-7)⟩ → r.lo.isSome = true := by
    intro r hr hne
    simp [stt] at hr
    rcases hr with rfl | ⟨a, _, rfl⟩ | rfl
    · exact absurd rfl hne
    · rfl
    · rfl
  have hsome2 : ∀ r ∈ stt, r ≠ ⟨some 7, none⟩ → r.hi.isSome = true := by
    intro r hr hne
    simp [stt] at hr
    rcases hr with rfl | ⟨a, _, rfl⟩ | rfl
    · rfl
    · rfl
    · exact absurd rfl hne
  have eC : stt = ⟨none, some (-7)⟩ :: stt.tail := rfl
  have eD : stt = stt.dropLast ++ [⟨some 7, none⟩] := rfl
  have nt : ∀ r ∈ stt.tail, r.lo.isSome = true := by
    intro r hr
    simp [stt] at hr
    rcases hr with ⟨a, _, rfl⟩ | rfl
    · rfl
    · rfl
  have nd : ∀ r ∈ stt.dropLast, r.hi.isSome = true := by
    intro r hr
    have e : stt.dropLast = ⟨none, some (-7)⟩ :: srt.map (fun m => ⟨some m, some m⟩) := rfl
    rw [e] at hr
    simp at hr
    rcases hr with rfl | ⟨a, _, rfl⟩
    · rfl
    · rfl
  refine ⟨fun i r hi h => ?_, fun i r hi h => ?_⟩
  · rw [eC, List.filter_cons] at h
    split at h
    · obtain ⟨i', rfl⟩ : ∃ i', i = i' + 1 := ⟨i - 1, by omega⟩
      rw [List.getElem?_cons_succ] at h
      exact nt r (mem_fil (List.mem_of_getElem? h))
    · exact nt r (mem_fil (List.mem_of_getElem? h))
  · rw [eD, List.filter_append] at h hi
    have hl : ([⟨some 7, none⟩] : List Rg).filter p = [] ∨ ([⟨some 7, none⟩] : List Rg).filter p = [⟨some 7, none⟩] := by
      by_cases hp : p ⟨some 7, none⟩ = true
      · right; simp [hp]
      · left; simp [hp]
    rcases hl with e | e
    · rw [e, List.append_nil] at h
      exact nd r (mem_fil (List.mem_of_getElem? h))
    · rw [e] at h hi
      rw [List.length_append] at hi
      rw [List.getElem?_append_left (by simp at hi; omega)] at h
      exact nd r (mem_fil (List.mem_of_getElem? h))
theorem stt_ok : ∀ r ∈ stt, RgS r := by
  intro r hr
  have h : ∀ r ∈ stt, (∀ i ∈ r.lo, Sn i) ∧ (∀ i ∈ r.hi, Sn i) := by
    intro r hr
    simp [stt] at hr
    rcases hr with rfl | ⟨a, ha, rfl⟩ | rfl
    · simp; decide
    · have : -6 ≤ a ∧ a ≤ 6 := by
        obtain ⟨j, hj, rfl⟩ := List.mem_iff_getElem.mp ha
        obtain ⟨h1, h2⟩ := srt_at (List.getElem?_eq_getElem hj)
        rw [h2]
        omega
      simp [Sn]
      omega
    · simp; decide
  obtain ⟨a, b⟩ := h r hr
  exact ⟨fun i e => a i e, fun i e => b i e⟩
theorem stt_len : stt.length = 15 := rfl
theorem fits_ok (R : Rec) : (∀ r ∈ fitsF R, RgS r) ∧ (fitsF R).length ≤ 100 := by
  refine ⟨joinL_ok _ fun r hr => stt_ok r (mem_fil hr), ?_⟩
  have h1 := joinL_len (stt.filter (fitB R))
  have h2 := List.length_filter_le (fitB R) stt
  rw [stt_len] at h2
  unfold fitsF
  omega
theorem filter_snoc {α : Type} (p : α → Bool) (l : List α) (a : α) : (l ++ [a]).filter p = if p a then l.filter p ++ [a] else l.filter p := by
  rw [List.filter_append]
  by_cases h : p a = true
  · simp [h]
  · simp [h]
theorem bools_fl (bs : List Bool) : Fl 1 (.tuple (bs.map .bool)) := .tup (n := 0) fun d hd => by
  obtain ⟨b, _, rfl⟩ := List.mem_map.mp hd
  exact .bool _ _
def sp_fits : Sp := fun vs H Q _ => ∃ (v t : V) (R : Rec), vs = [v, t] ∧ Td H v (recD R) ∧ RecOk R ∧ Td H t logD ∧ ∀ (H' : Hp) (o : V), Same H H' → Td H' o (.tuple ((fitsF R).map Rg.d)) → Q o H'
theorem ok_fits (D : Df K mg "fits" s_fits) (G : Gx K mg) (c_joined : Cal P w K mg base CX0 1 "joined" sp_joined) (c_stretches : Cal P w K mg base CX0 3 "stretches" sp_stretches) (c_answers : CalK P w K mg base CX0 6 "answers" 2 ["last"] sp_answers) (c_one_of : Cal P w K mg base CX0 1 "one_of" sp_one_of) : Cal P w K mg base CX0 7 "fits" sp_fits := by
  refine cal0 D sc_fits (fun _ _ _ _ _ _ us hl => match us, hl with | [_, _], _ => rfl) (fun vs H Q E h => ?_) (fun f cdv A outer s H vs Q E hr h => ?_)
  · obtain ⟨_, _, _, rfl, _⟩ := h
    rfl
  · obtain ⟨v, t, R, rfl, hv, ok, ht, k⟩ := h
    refine ⟨_, (pss_cons (ps_set (i := 2) sc_fits.nd rfl (Or.inr rfl) (pe_callTy call_tuple_of (by rfl) G.tuple (by decide +kernel) (pa_cons (by exact pe_lc (own := [("pair", 3)]) (by rfl) sc_fits.nd (pi_tup (pv 1)) (blkOk_by (N := ["receiver", "log", "numbers", "pair", "told", "own"]) (sc := defScope s_fits) (by decide +kernel)) (fun _ _ _ _ _ => (pg_name (i := 3) sc_fits.nd rfl (Or.inl rfl) (Or.inr rfl))) (fun _ _ _ _ _ => pts_nil) (fun _ _ _ _ _ => (pe_ix ix_tupB (pv 3) pe_int (fun _ _ => rfl)))) pa_nil)))
      (pss_cons (ps_set (i := 4) sc_fits.nd rfl (Or.inr rfl) (pe_callTy call_tuple_of (by rfl) G.tuple (by decide +kernel) (pa_cons (by exact pe_lc (own := [("pair", 3)]) (by rfl) sc_fits.nd (pi_tup (pv 1)) (blkOk_by (N := ["receiver", "log", "numbers", "pair", "told", "own"]) (sc := defScope s_fits) (by decide +kernel)) (fun _ _ _ _ _ => (pg_name (i := 3) sc_fits.nd rfl (Or.inl rfl) (Or.inr rfl))) (fun _ _ _ _ _ => pts_nil) (fun _ _ _ _ _ => (pe_ix ix_tupB (pv 3) pe_int (fun _ _ => rfl)))) pa_nil)))
      (pss_one (ps_ret (pe_d c_joined hr (by decide) (by rfl) (pa_cons (by exact pe_lc (own := [("own", 5)]) (by rfl) sc_fits.nd (pi_list (pe_d c_stretches hr (by decide) (by rfl) (pa_cons (pv 1) pa_nil))) (blkOk_by (N := ["receiver", "log", "numbers", "pair", "told", "own"]) (sc := defScope s_fits) (by decide +kernel)) (fun _ _ _ _ _ => (pg_name (i := 5) sc_fits.nd rfl (Or.inl rfl) (Or.inr rfl))) (fun _ _ _ _ _ => pts_one (pt_cmpR (op_eqDB hr.units) (pe_dK c_answers hr (by decide) (by rfl) (pa_cons (pv 0) (pa_cons (pv 2) pa_nil)) (pk_cons (pe_d c_one_of hr (by decide) (by rfl) (pa_cons (pv 5) pa_nil)) pk_nil)) (pv 4) (nomark _))) (fun _ _ _ _ _ => (pv 5))) pa_nil)))))), ?_⟩
    obtain ⟨pl, xp, rfl, hpl, txp⟩ := ht.tup1
    obtain ⟨pp, x1, x2, rfl, hpp, u1, u2⟩ := txp.tup2
    cases u1.intE
    cases u2.blE
    walk_at "w"
    intro D1 hD1
    refine lc_tup (xs := [.ref pp]) (fun j H2 => Same H H2 ∧ H2 D1 = some (.lst (intV (List.replicate j 0)))) ?_ ?_ ?_ ?_
    · exact ⟨.new hD1, upd_same⟩
    · rintro j H2 hj ⟨s2, _⟩
      exact .of (s2 _ _ hpl)
    · rintro j x H2 hx ⟨s2, hD⟩
      match j with
      | 0 =>
        cases hx
        have hpp2 := s2 _ _ hpp
        walk_at "w"
        exact ⟨_, hD, by decide, s2.own hD1, upd_same⟩
    · rintro H2 ⟨s2, hD⟩
      have hD' : H2 D1 = some (.lst [.int 0]) := hD
      walk_at "w"
      generalize q = qn at *
      have tn : Td (L2.upd H2 qn (.tup [.int 0])) (.ref qn) (.tuple ([0].map .int)) := .of1 upd_same (.int _)
      have s3 : Same H (L2.upd H2 qn (.tup [.int 0])) := s2.upd hq
      generalize L2.upd H2 qn (.tup [.int 0]) = H3 at *
      have hpl3 := s3 _ _ hpl
      walk_at "w"
      intro D2 hD2
      refine lc_tup (xs := [.ref pp]) (fun j H4 => Same H3 H4 ∧ H4 D2 = some (.lst ((List.replicate j true).map V.bl))) ?_ ?_ ?_ ?_
      · exact ⟨.new hD2, upd_same⟩
      · rintro j H4 hj ⟨s4, _⟩
        exact .of (s4 _ _ hpl3)
      · rintro j x H4 hx ⟨s4, hD4⟩
        match j with
        | 0 =>
          cases hx
          have hpp2 := s4 _ _ (s3 _ _ hpp)
          walk_at "w"
          exact ⟨_, hD4, by decide, s4.own hD2, upd_same⟩
      · rintro H4 ⟨s4, hD4⟩
        have hD4' : H4 D2 = some (.lst [.bl true]) := hD4
        walk_at "w"
        generalize q = qt at *
        have tt : Td (L2.upd H4 qt (.tup [.bl true])) (.ref qt) (.tuple [.bool true]) := .of1 upd_same (.bl _)
        have s5 : Same H3 (L2.upd H4 qt (.tup [.bl true])) := s4.upd hq
        generalize L2.upd H4 qt (.tup [.bl true]) = H5 at *
        walk_at "w"
        refine ⟨ht.same (s3.trans s5), fun H6 p xs s6 hp tx => ?_⟩
        walk_at "w"
        intro D3 hD3
        have s56 := s5.trans s6
        refine lc_list (xs := xs) (fun j H7 => Same H6 H7 ∧ ∃ ys : List V, H7 D3 = some (.lst ys) ∧ Tds H7 ys (((stt.take j).filter (fitB R)).map Rg.d)) ?_ ?_ ?_ ?_
        · exact ⟨.new hD3, [], upd_same, .nil⟩
        · rintro j H7 hj ⟨s7, _⟩
          exact .of (s7 _ _ hp)
        · rintro j x H7 hx ⟨s7, ys, hD7, ty⟩
          have hj : j < stt.length := by
            have := (List.getElem?_eq_some_iff.mp hx).1
            rw [tx.len, List.length_map] at this
            exact this
          have hr9 : stt[j]? = some stt[j] := List.getElem?_eq_getElem hj
          have t9 := (tx.all j x _ hx (by rw [List.getElem?_map, hr9]; rfl)).same s7
          have tk := take_snoc hr9
          have hyl : ys.length ≤ 15 := by
            rw [ty.len, List.length_map]
            have h2 := List.length_filter_le (fitB R) (stt.take j)
            rw [List.length_take, stt_len] at h2
            omega
          generalize stt[j] = r at *
          walk_at "w"
          refine ⟨_, r, rfl, t9, ?_⟩
          walk_at "w"
          refine ⟨_, _, R, [0], _, rfl, hv.same ((s3.trans s56).trans s7), ok, tn.same (s56.trans s7), by decide, fun H8 o s8 t8 => ?_⟩
          walk_at "w"
          refine eq_td t8 ((tt.same (s6.trans s7)).same s8) (bools_fl _) (bools_fl [true]) (by decide) (by decide) ?_
          refine ⟨_, rfl, ?_⟩
          have hD8 := s8 _ _ hD7
          rw [tk, filter_snoc]
          show if fitB R r = true then _ else _
          cases hb : fitB R r with
          | true =>
            refine iteT ?_
            walk_at "w"
            refine ⟨ys, hD8, small1000 (by omega), (s7.trans s8).own hD3, ys ++ [x], upd_same, ?_⟩
            rw [if_pos rfl, List.map_append]
            exact ((ty.same s8).snoc (t9.same s8)).mono (.lst hD8)
          | false =>
            refine iteF ?_
            refine ⟨s7.trans s8, ys, hD8, ?_⟩
            rw [if_neg (by simp)]
            exact ty.same s8
        · rintro H7 ⟨s7, ys, hD7, ty⟩
          rw [tx.len, List.length_map, List.take_length] at ty
          walk_at "w"
          refine ⟨_, _, stt.filter (fitB R), rfl, hD7, ty, ?_, filter_ord _, fun H8 o s8 t8 => ?_⟩
          · have h2 := List.length_filter_le (fitB R) stt
            rw [stt_len] at h2
            omega
          · exact k _ _ ((s3.trans s56).trans (s7.trans s8)) t8
end
end K8
set_option maxHeartbeats 4000000
namespace K8
open PySem PySem.Spec PyProof.Rows L2
/-! ### classes -/
abbrev cLf (K : PySem.W.Frag) : Addr := He.ga K "Leaf"
abbrev cRu (K : PySem.W.Frag) : Addr := He.ga K "Rules"
abbrev cDk (K : PySem.W.Frag) : Addr := He.ga K "Desk"
/-- the four kinds of inboxes -/
inductive Kd where | i | l | h | b deriving DecidableEq
def Kd.halts : Kd → Bool
  | .i => false | .l => false | .h => true | .b => true
def Kd.logs : Kd → Bool
  | .i => false | .l => true | .h => false | .b => true
def Kd.nm : Kd → Str
  | .i => "Inbox" | .l => "LoggedInbox" | .h => "HaltedInbox" | .b => "LoggedHaltedInbox"
abbrev Kd.C (K : PySem.W.Frag) (kd : Kd) : Addr := He.ga K kd.nm
abbrev xBu (K : PySem.W.Frag) : Value := .ref (He.ga K "Busy")
abbrev xHa (K : PySem.W.Frag) : Value := .ref (He.ga K "Halted")
abbrev xNu (K : PySem.W.Frag) : Value := .ref (He.ga K "NothingToUndo")
/-- what the classes are -/
structure Gk (K : PySem.W.Frag) (mg : Str → Option Value) : Prop where
  cl : ∀ c ∈ [cLf K, cRu K, cDk K, Kd.C K .i, Kd.C K .l, Kd.C K .h, Kd.C K .b], Cls K c
  nd : [cLf K, cRu K, cDk K, Kd.C K .i, Kd.C K .l, Kd.C K .h, Kd.C K .b].Nodup
  naL : ∀ f ∈ (["own_stand", "numbers", "refused"] : List Str), NoAttr K (cLf K) f
  naR : ∀ f ∈ (["held", "least"] : List Str), NoAttr K (cRu K) f
  naD : ∀ f ∈ (["inbox", "pairs"] : List Str), NoAttr K (cDk K) f
  naI : ∀ kd : Kd, ∀ f ∈ (["own_rules", "leaf", "past", "rows", "is_busy", "most"] : List Str), NoAttr K (kd.C K) f
theorem Gk.cI {K : PySem.W.Frag} {mg : Str → Option Value} (G : Gk K mg) (kd : Kd) : Cls K (kd.C K) := by cases kd <;> exact G.cl _ (by simp)
theorem Gk.lf {K : PySem.W.Frag} {mg : Str → Option Value} (G : Gk K mg) : Cls K (cLf K) := G.cl _ (by simp)
theorem Gk.ru {K : PySem.W.Frag} {mg : Str → Option Value} (G : Gk K mg) : Cls K (cRu K) := G.cl _ (by simp)
theorem Gk.dk {K : PySem.W.Frag} {mg : Str → Option Value} (G : Gk K mg) : Cls K (cDk K) := G.cl _ (by simp)
theorem Gk.neL {K : PySem.W.Frag} {mg : Str → Option Value} (G : Gk K mg) (kd : Kd) : kd.C K ≠ cLf K ∧ kd.C K ≠ cRu K ∧ kd.C K ≠ cDk K ∧ cDk K ≠ cLf K ∧ cDk K ≠ cRu K := by
  have h := G.nd
  simp only [List.nodup_cons, List.mem_cons, not_or] at h
  obtain ⟨⟨a1, a2, a3, a4, a5, a6, _⟩, ⟨b1, b2, b3, b4, b5, _⟩, ⟨c1, c2, c3, c4, _⟩, _⟩ := h
  cases kd <;> refine ⟨?_, ?_, ?_, ?_, ?_⟩ <;> (intro z; first | exact a3 z.symm | exact a4 z.symm | exact a5 z.symm | exact a6 z.symm | exact b2 z.symm | exact b3 z.symm | exact b4 z.symm | exact b5 z.symm | exact c1 z.symm | exact c2 z.symm | exact c3 z.symm | exact c4 z.symm | exact a2 z.symm | exact b1 z.symm)
/-! ### what is never changed -/
/-- tuples, leafs and rules -/
def fzO (K : PySem.W.Frag) : HO → Prop
  | .tup _ => True
  | .ins C _ _ => C = cLf K ∨ C = cRu K
  | _ => False
structure Fz (K : PySem.W.Frag) (H H' : Hp) : Prop where
  at_ : ∀ b o, fzO K o → H b = some o → H' b = some o
theorem Fz.of {K : PySem.W.Frag} {H H' : Hp} (s : Same H H') : Fz K H H' := ⟨fun b o _ h => s b o h⟩
theorem Fz.refl {K : PySem.W.Frag} {H : Hp} : Fz K H H := ⟨fun _ _ _ h => h⟩
theorem Fz.trans {K : PySem.W.Frag} {H H1 H2 : Hp} (a : Fz K H H1) (b : Fz K H1 H2) : Fz K H H2 := ⟨fun c o n h => b.at_ c o n (a.at_ c o n h)⟩
theorem Fz.tupK {K : PySem.W.Frag} {H H' : Hp} (f : Fz K H H') : TupK H H' := fun a xs h => f.at_ a _ trivial h
theorem Fz.own {K : PySem.W.Frag} {H : Hp} {a : Addr} {u o : HO} (h : H a = some u) (n : ¬ fzO K u) : Fz K H (L2.upd H a o) := ⟨fun b v f e => (upd_ne (fun z => by rw [z, h] at e; cases e; exact n f)).trans e⟩
theorem Fz.new {K : PySem.W.Frag} {H : Hp} {a : Addr} {o : HO} (h : H a = none) : Fz K H (L2.upd H a o) := .of (.new h)
/-- all but the object at a -/
structure Ka (a : Addr) (H H' : Hp) : Prop where
  at_ : ∀ b o, b ≠ a → H b = some o → H' b = some o
theorem Ka.of {a : Addr} {H H' : Hp} (s : Same H H') : Ka a H H' := ⟨fun b o _ h => s b o h⟩
theorem Ka.refl {a : Addr} {H : Hp} : Ka a H H := ⟨fun _ _ _ h => h⟩
theorem Ka.trans {a : Addr} {H H1 H2 : Hp} (x : Ka a H H1) (y : Ka a H1 H2) : Ka a H H2 := ⟨fun c o n h => y.at_ c o n (x.at_ c o n h)⟩
theorem Ka.own {a : Addr} {H : Hp} {o : HO} : Ka a H (L2.upd H a o) := ⟨fun _ _ n e => (upd_ne n).trans e⟩
theorem Ka.fz {K : PySem.W.Frag} {a : Addr} {H H' : Hp} {u : HO} (k : Ka a H H') (h : H a = some u) (n : ¬ fzO K u) : Fz K H H' := ⟨fun b o f e => k.at_ b o (fun z => by rw [z, h] at e; cases e; exact n f) e⟩
/-! ### leafs, rules, inboxes -/
structure Lf where
  sd : Sd
  nums : List Int
  ref : Nat
def lfFs (s n : V) (r : Nat) : List (Str × V) := [("own_stand", s), ("numbers", n), ("refused", .int r)]
structure LfR (K : PySem.W.Frag) (H : Hp) (v : V) (l : Lf) : Prop where
  ex : ∃ a dx s n, v = .ref a ∧ H a = some (.ins (cLf K) dx (lfFs s n l.ref)) ∧ Td H s l.sd.d ∧ Td H n (.tuple (l.nums.map .int))
theorem LfR.fz {K : PySem.W.Frag} {H H' : Hp} {v : V} {l : Lf} (h : LfR K H v l) (f : Fz K H H') : LfR K H' v l := by
  obtain ⟨a, dx, s, n, e, ha, hs, hn⟩ := h.ex
  exact ⟨a, dx, s, n, e, f.at_ _ _ (.inl rfl) ha, hs.mono f.tupK, hn.mono f.tupK⟩
structure Lfs (K : PySem.W.Frag) (H : Hp) (xs : List V) (ls : List Lf) : Prop where
  len : xs.length = ls.length
  all : ∀ (i : Nat) (x : V) (l : Lf), xs[i]? = some x → ls[i]? = some l → LfR K H x l
theorem Lfs.fz {K : PySem.W.Frag} {H H' : Hp} {xs : List V} {ls : List Lf} (h : Lfs K H xs ls) (f : Fz K H H') : Lfs K H' xs ls := ⟨h.len, fun i x l a b => (h.all i x l a b).fz f⟩
theorem Lfs.nil {K : PySem.W.Frag} {H : Hp} : Lfs K H [] [] := ⟨rfl, fun i x l a _ => by simp at a⟩
theorem Lfs.snoc {K : PySem.W.Frag} {H : Hp} {xs : List V} {ls : List Lf} {x : V} {l : Lf} (h : Lfs K H xs ls) (hx : LfR K H x l) : Lfs K H (xs ++ [x]) (ls ++ [l]) := ⟨by simp [h.len], fun i y m a b => by
  rcases get_snoc a with a | ⟨rfl, rfl⟩
  · rw [List.getElem?_append_left (by have := (List.getElem?_eq_some_iff.mp a).1; rw [h.len] at this; exact this)] at b
    exact h.all i y m a b
  · rw [h.len, List.getElem?_append_right (Nat.le_refl _)] at b
    simp at b
    exact b ▸ hx⟩
structure RuR (K : PySem.W.Frag) (H : Hp) (r : Addr) (R : Rec) (nl : Nat) : Prop where
  ex : ∃ dx hv lp ls, H r = some (.ins (cRu K) dx [("held", hv), ("least", .ref lp)]) ∧ Td H hv (recD R) ∧ H lp = some (.tup ls) ∧ ls.length = nl
  ok : RecOk R
  nl : nl ≤ 112
theorem RuR.fz {K : PySem.W.Frag} {H H' : Hp} {r : Addr} {R : Rec} {nl : Nat} (h : RuR K H r R nl) (f : Fz K H H') : RuR K H' r R nl := by
  obtain ⟨dx, hv, lp, ls, ha, hs, hn, hl⟩ := h.ex
  exact ⟨⟨dx, hv, lp, ls, f.at_ _ _ (.inr rfl) ha, hs.mono f.tupK, f.at_ _ _ trivial hn, hl⟩, h.ok, h.nl⟩
structure Ix where
  R : Rec
  nl : Nat
  leaf : Lf
  past : List Lf
  rows : List PyData
  busy : Bool
  mo : Option Nat
def moFs : Option Nat → List (Str × V)
  | none => []
  | some m => [("most", .int m)]
def ixFs (r l p w : Addr) (b : Bool) (mo : Option Nat) : List (Str × V) := ("own_rules", .ref r) :: ("leaf", .ref l) :: ("past", .ref p) :: ("rows", .ref w) :: ("is_busy", .bl b) :: moFs mo
structure IxR (K : PySem.W.Frag) (kd : Kd) (H : Hp) (a : Addr) (x : Ix) : Prop where
  ex : ∃ dx r l p w ps, H a = some (.ins (kd.C K) dx (ixFs r l p w x.busy x.mo)) ∧ RuR K H r x.R x.nl ∧ LfR K H (.ref l) x.leaf ∧ H p = some (.tup ps) ∧ Lfs K H ps x.past ∧ Td H (.ref w) (.tuple x.rows)
  mo : x.mo.isSome = kd.halts
  st : x.leaf.sd.st < x.R.length
  pst : ∀ l ∈ x.past, l.sd.st < x.R.length
structure Bd (m : Nat) (lo hi : Int) (x : Ix) : Prop where
  past : x.past.length ≤ m
  rows : x.rows.length ≤ m
  len : x.leaf.nums.length ≤ m ∧ x.leaf.ref ≤ m
  lens : ∀ l ∈ x.past, l.nums.length ≤ m ∧ l.ref ≤ m
  num : (lo ≤ x.leaf.sd.last ∧ x.leaf.sd.last ≤ hi) ∧ ∀ n ∈ x.leaf.nums, lo ≤ n ∧ n ≤ hi
  nums : ∀ l ∈ x.past, (lo ≤ l.sd.last ∧ l.sd.last ≤ hi) ∧ ∀ n ∈ l.nums, lo ≤ n ∧ n ≤ hi
theorem Bd.mono {m m' : Nat} {lo lo' hi hi' : Int} {x : Ix} (h : Bd m lo hi x) (a : m ≤ m') (b : lo' ≤ lo) (c : hi ≤ hi') : Bd m' lo' hi' x :=
  ⟨Nat.le_trans h.past a, Nat.le_trans h.rows a, ⟨Nat.le_trans h.len.1 a, Nat.le_trans h.len.2 a⟩, fun l hl => ⟨Nat.le_trans (h.lens l hl).1 a, Nat.le_trans (h.lens l hl).2 a⟩,
    ⟨⟨Int.le_trans b h.num.1.1, Int.le_trans h.num.1.2 c⟩, fun n hn => ⟨Int.le_trans b (h.num.2 n hn).1, Int.le_trans (h.num.2 n hn).2 c⟩⟩,
    fun l hl => ⟨⟨Int.le_trans b (h.nums l hl).1.1, Int.le_trans (h.nums l hl).1.2 c⟩, fun n hn => ⟨Int.le_trans b ((h.nums l hl).2 n hn).1, Int.le_trans ((h.nums l hl).2 n hn).2 c⟩⟩⟩
/-- bounds that all rules bear -/
abbrev Bs (x : Ix) : Prop := Bd 100 (-200) 200 x
theorem IxR.keep {K : PySem.W.Frag} {kd : Kd} {H H' : Hp} {a : Addr} {x : Ix} (h : IxR K kd H a x) (f : Fz K H H') (e : ∀ o, H a = some o → H' a = some o) : IxR K kd H' a x := by
  obtain ⟨dx, r, l, p, w, ps, ha, hr, hl, hp, hps, hw⟩ := h.ex
  exact ⟨⟨dx, r, l, p, w, ps, e _ ha, hr.fz f, hl.fz f, f.at_ _ _ trivial hp, hps.fz f, hw.mono f.tupK⟩, h.mo, h.st, h.pst⟩
theorem IxR.same {K : PySem.W.Frag} {kd : Kd} {H H' : Hp} {a : Addr} {x : Ix} (h : IxR K kd H a x) (s : Same H H') : IxR K kd H' a x := h.keep (.of s) fun o e => s _ _ e
end K8
set_option maxHeartbeats 4000000
namespace K8
open PySem PySem.Spec PyProof.Rows L2
section
variable (P : Program) (w : World) (K : PySem.W.Frag) (mg : Str → Option Value) (base : Heap)
/-- a property that lets nothing out -/
def Prp (k : Nat) (C : Addr) (f : Str) (sp : Sp) : Prop := ∃ p g fd ps, PropOf K C f p g ∧ FnOk P w K mg base CX0 k g fd ps sp ∧ Binds K fd ps [] ∧ Cls K C
/-- a class that is called, by its __init__ -/
def Mkr (k : Nat) (x : Str) (C : Addr) (sp : Sp) : Prop := ∃ f fd ps, Mk K C f ∧ FnOk P w K mg base CX0 k f fd ps sp ∧ mg x = some (.ref C) ∧ Binds K fd ps []
/-- a def of a class, as a property's getter or an __init__ -/
def Fd (f : Addr) (m qual : Str) (st : Stmt) : Prop := ∃ fd, Fun K m qual st f fd
/-- an own exception that takes what it is given -/
def ExcN (x : Str) : Prop := ∃ B newId initId bmB, ExcBaseFacts B newId initId bmB ∧ PySem.W.excIn K (He.ga K x) bmB newId = true ∧ mg x = some (.ref (He.ga K x)) ∧ PySem.W.keepIn K (.ref (He.ga K x)) = true ∧
  PySem.W.subIn K (.ref (He.ga K x)) (.type "BaseException") = some true ∧ PySem.W.typeIn K (.ref (He.ga K x)) = some (.type "type")
end
section
variable {P : Program} {w : World} {K : PySem.W.Frag} {mg : Str → Option Value} {base : Heap}
theorem prp0 {C p g : Addr} {f m qual : Str} {st : Stmt} {N ps : List Str} {k : Nat} {sp : Sp} (hp : PropOf K C f p g) (hc : Cls K C) (D : Fd K g m qual st) (S : FnScope N ps (defScope st)) (b : BindA m qual st ps) (len : ∀ vs H Q E, sp vs H Q E → vs.length = ps.length)
    (hbody : ∀ (f : Addr) (cdv : Value) (A : Around) (outer : List Env) (s : Shared) (H : Hp) (vs : List V) (Q : VK) (E : XK), Room k (A.deeper (envOfC qual (defScope st) s.heap.objs.size f cdv)) → sp vs H Q E →
      ∃ t, PSs (cxOf CX0 P w K mg base N qual (defScope st) f cdv A outer s H E).nox (defBody st) t ∧ t { nx := fun _ H' => Q .non H', rt := Q } (start N vs) H) : Prp P w K mg base (k + 1) C f sp := by
  obtain ⟨fd, F⟩ := D
  exact ⟨p, g, fd, ps, hp, F.ok S len (hbody g), F.binds b, hc⟩
theorem mkr0 {f C : Addr} {x m qual : Str} {st : Stmt} {N ps : List Str} {k : Nat} {sp : Sp} (hk : Mk K C f) (hm : mg x = some (.ref C)) (D : Fd K f m qual st) (S : FnScope N ps (defScope st)) (b : BindA m qual st ps) (len : ∀ vs H Q E, sp vs H Q E → vs.length = ps.length)
    (hbody : ∀ (f : Addr) (cdv : Value) (A : Around) (outer : List Env) (s : Shared) (H : Hp) (vs : List V) (Q : VK) (E : XK), Room k (A.deeper (envOfC qual (defScope st) s.heap.objs.size f cdv)) → sp vs H Q E →
      ∃ t, PSs (cxOf CX0 P w K mg base N qual (defScope st) f cdv A outer s H E).nox (defBody st) t ∧ t { nx := fun _ H' => Q .non H', rt := Q } (start N vs) H) : Mkr P w K mg base (k + 1) x C sp := by
  obtain ⟨fd, F⟩ := D
  exact ⟨f, fd, ps, hk, F.ok S len (hbody f), hm, F.binds b⟩
end
section
variable {X : Cx} {k j : Nat} {C : Addr} {x f : Str} {sp : Sp} {p pos : Pos} {e o : Expr} {es : List Expr} {ta : TE} {t : TA}
theorem pe_p (c : Prp X.prog X.w X.K X.mg X.base k C f sp) (hr : Room j X.A) (hk : k + 1 ≤ j) (he : PE X e ta) (hab : attributeBase e f X.env (eval e X.env) = eval e X.env := by rfl) : PE X (.Attribute e f pos) (tProp C sp [] E0 ta) := by
  obtain ⟨p, g, fd, ps, hp, F, b, cl⟩ := c
  exact pe_prop (ds := []) he cl hp F (hr.mono hk) b .nil pass0 hab
theorem pe_mk (c : Mkr X.prog X.w X.K X.mg X.base k x C sp) (hr : Room j X.A) (hk : k + 1 ≤ j) (hg : Gl X x) (ha : PA X (e :: es) t)
    (hdb : (x == ("__debug__" : Str)) = false := by decide) (he : starEach (e :: es) X.env = (false, eval e X.env) :: starEach es X.env := by rfl) (hpl : (backTo pos (starEach es X.env)).any (·.1) = false := by rfl) :
    PE X (.Call (.Name x p) (e :: es) [] pos) (tMake C sp [] E0 t) := by
  obtain ⟨f, fd, ps, hm, F, gm, b⟩ := c
  exact pe_make (ds := []) hm F (hr.mono hk) hg gm b .nil pass0 ha hdb he hpl
/-- X() -/
theorem pmk_0 {x : Str} {p pos : Pos} (c : ExcN X.K X.mg x) (hg : Gl X x) (hdb : (x == ("__debug__" : Str)) = false := by decide) : PMk X (.Call (.Name x p) [] [] pos) (fun _ H Q => Q (.ref (He.ga X.K x)) none H) := by
  obtain ⟨B, newId, initId, bmB, F, q, gm, kp, sb, ty⟩ := c
  intro pins s σ H Q I z
  refine wpAny_Call_Name_kw (ld_glob I hg gm ?_ hdb)
  refine PySem.W.callWith_K0 I.kIn kp ?_
  obtain ⟨bm, N, nm, qn, bs, hdct, sn, sub, ab, col, dd, k0, k1, k2, k3, k5, mN, hC, hN, hni, T⟩ := exc_obj I.kIn q
  exact wpAny_call_exc_subT F T hC hN hni (fun h' e hm => mk_of I hm (raises_own sb ty) z (I.hok.gone hm.new)) (Nat.zero_le _)
theorem ps_r0 {W : WX} {x : Str} {p pos rp : Pos} (c : ExcN X.K X.mg x) (hg : Gl X x) (hc : X.calm = true) (tk : Takes X W) (hdb : (x == ("__debug__" : Str)) = false := by decide) :
    PS X (.Raise (some (.Call (.Name x p) [] [] pos)) none rp) (fun _ σ H => W (.ref (He.ga X.K x)) none σ H) := ps_raise hc tk (pmk_0 c hg hdb)
/-- X(), its context told -/
theorem pmk_0N {x : Str} {p pos : Pos} (c : ExcN X.K X.mg x) (hg : Gl X x) (hdb : (x == ("__debug__" : Str)) = false := by decide) : L2N.PMk X (.Call (.Name x p) [] [] pos) (fun _ H Q => Q (.ref (He.ga X.K x)) none H) := by
  obtain ⟨B, newId, initId, bmB, F, q, gm, kp, sb, ty⟩ := c
  intro pins s σ H Q I z
  refine wpAny_Call_Name_kw (ld_glob I hg gm ?_ hdb)
  refine PySem.W.callWith_K0 I.kIn kp ?_
  obtain ⟨bm, N, nm, qn, bs, hdct, sn, sub, ab, col, dd, k0, k1, k2, k3, k5, mN, hC, hN, hni, T⟩ := exc_obj I.kIn q
  exact wpAny_call_exc_subT F T hC hN hni (fun h' e hm => L2N.mk_of I hm (raises_own sb ty) z (I.hok.gone hm.new)) (Nat.zero_le _)
theorem ps_r0N {W : WX} {x : Str} {p pos rp : Pos} (c : ExcN X.K X.mg x) (hg : Gl X x) (hc : X.calm = true) (tk : L2N.Takes X W) (hdb : (x == ("__debug__" : Str)) = false := by decide) :
    PS X (.Raise (some (.Call (.Name x p) [] [] pos)) none rp) (fun _ σ H => W (.ref (He.ga X.K x)) none σ H) := L2N.ps_raise hc tk (pmk_0N c hg hdb)
end
end K8
set_option maxHeartbeats 4000000
namespace K8
open PySem PySem.Spec PyProof.Rows L2
set_option hygiene false in
local macro_rules | `(tactic| walk_at "w") => `(tactic| (repeat (first | refine ⟨_, rfl, ?_⟩ | refine ⟨_, _, rfl, rfl, ?_⟩ | refine ⟨rfl, ?_⟩ | refine ⟨_, _, rfl, ?_⟩ | refine ⟨_, _, rfl, .of upd_same, rfl, ?_⟩ | refine ⟨_, _, rfl, .of (by assumption), rfl, ?_⟩ | refine ⟨_, _, rfl, .of (by assumption), fun q hq => ?_⟩ | refine ⟨_, _, rfl, .of (by assumption), ?_⟩ | refine ⟨_, _, rfl, .inr (.of (by assumption)), ?_⟩ | refine ⟨_, _, rfl, .inl (.of (by assumption)), ?_⟩ | refine ⟨_, _, _, _, rfl, rfl, .of (by assumption), atI_nat (j := 0) rfl, ?_⟩ | refine ⟨_, _, _, _, rfl, rfl, .of (by assumption), atI_nat (j := 1) rfl, ?_⟩ | refine ⟨_, _, _, _, rfl, rfl, .of (by assumption), atI_nat (j := 2) rfl, ?_⟩ | refine ⟨fun z => absurd z.1 (show ¬ (1 : Nat) = 0 by decide), fun _ q hq => ?_⟩ | refine ⟨fun z => absurd z.1 (show ¬ (2 : Nat) = 0 by decide), fun _ q hq => ?_⟩ | refine ⟨sz1, fun q hq => ?_⟩ | refine ⟨sz2, fun q hq => ?_⟩ | refine ⟨sz3, fun q hq => ?_⟩ | refine ⟨sz0, fun q hq => ?_⟩ | refine ⟨_, _, _, rfl, rfl, (by assumption), (by assumption), ?_⟩ | refine ⟨.inl ⟨rfl, _, .of (by assumption)⟩, ?_⟩ | refine ⟨_, _, rfl, .inl ⟨.of (by assumption), fun q hq => ?_⟩⟩ | refine ⟨⟨_, .of (by assumption)⟩, ?_⟩ | refine ⟨⟨_, rfl⟩, ?_⟩ | refine ⟨.inl ⟨rfl, _, .of upd_same⟩, ?_⟩ | refine ⟨_, _, _, _, _, rfl, (by assumption), (by assumption), (by assumption), (by rfl), ?_⟩ | refine ⟨_, _, _, _, rfl, upd_same, (by assumption), (by assumption), (by first | exact ixFs_len | exact (show (0 : Nat) < 1000 by decide) | exact (show (1 : Nat) < 1000 by decide) | exact (show (2 : Nat) < 1000 by decide) | exact (show (3 : Nat) < 1000 by decide) | exact (show (4 : Nat) < 1000 by decide) | exact (show (5 : Nat) < 1000 by decide) | exact (show (6 : Nat) < 1000 by decide)), ?_⟩ | refine ⟨_, _, _, _, rfl, (by assumption), (by assumption), (by assumption), (by first | exact ixFs_len | exact (show (0 : Nat) < 1000 by decide) | exact (show (1 : Nat) < 1000 by decide) | exact (show (2 : Nat) < 1000 by decide) | exact (show (3 : Nat) < 1000 by decide) | exact (show (4 : Nat) < 1000 by decide) | exact (show (5 : Nat) < 1000 by decide) | exact (show (6 : Nat) < 1000 by decide)), ?_⟩ | refine ⟨_, _, _, rfl, (by assumption), (by first | rfl | exact ixFs_no (by decide +kernel)), ?_⟩ | refine ⟨_, _, _, rfl, (by assumption), ?_⟩ | refine iteT ?_ | refine iteF ?_)))
section
variable {P : Program} {w : World} {K : PySem.W.Frag} {mg : Str → Option Value} {base : Heap}
/-! ### Leaf, properties -/
theorem ixFs_len {r l p w : Addr} {b : Bool} {mo : Option Nat} : (ixFs r l p w b mo).length < 1000 := by
  cases mo with
  | none => exact (show (5 : Nat) < 1000 by decide)
  | some m => exact (show (6 : Nat) < 1000 by decide)
def sp_Leaf (K : PySem.W.Frag) : Sp := fun vs H Q _ => ∃ (a dx : Addr) (C : Addr) (s n : V) (r : Nat), vs = [.ref a, s, n, .int r] ∧ H a = some (.ins C dx []) ∧ Cls K C ∧ (∀ f ∈ (["own_stand", "numbers", "refused"] : List Str), NoAttr K C f) ∧ Q .non (L2.upd H a (.ins C dx (lfFs s n r)))
theorem ok_Leaf {f : Addr} (hk : Mk K (cLf K) f) (hm : mg "Leaf" = some (.ref (cLf K))) (D : Fd K f "__init__" "Leaf.__init__" s_Leaf_init) (G : Gx K mg) : Mkr P w K mg base 1 "Leaf" (cLf K) (sp_Leaf K) := by
  refine mkr0 hk hm D sc_Leaf_init (fun _ _ _ _ _ _ us hl => match us, hl with | [_, _, _, _], _ => rfl) (fun vs H Q E h => ?_) (fun f cdv A outer s H vs Q E hr h => ?_)
  · obtain ⟨_, _, _, _, _, _, rfl, _⟩ := h
    rfl
  · obtain ⟨a, dx, C, sv, nv, r, rfl, ha, hc, na, k⟩ := h
    refine ⟨_, (pss_cons (ps_fld (pv 0) (pv 1) rfl)
      (pss_cons (ps_fld (pv 0) (pv 2) rfl)
      (pss_one (ps_fld (pv 0) (pv 3) rfl)))), ?_⟩
    have n1 := na "own_stand" (by simp)
    have n2 := na "numbers" (by simp)
    have n3 := na "refused" (by simp)
    walk_at "w"
    rw [upd_upd, upd_upd]
    exact k
/-- a property of the class at C, by its getter -/
def Pf (K : PySem.W.Frag) (C : Addr) (f qual : Str) (st : Stmt) : Prop := ∃ p g, PropOf K C f p g ∧ Fd K g f qual st
theorem Gk.na {mg : Str → Option Value} (G : Gk K mg) (kd : Kd) : NoAttr K (kd.C K) "own_rules" ∧ NoAttr K (kd.C K) "leaf" ∧ NoAttr K (kd.C K) "past" ∧ NoAttr K (kd.C K) "rows" ∧ NoAttr K (kd.C K) "is_busy" ∧ NoAttr K (kd.C K) "most" := by
  have h := G.naI kd
  exact ⟨h _ (by simp), h _ (by simp), h _ (by simp), h _ (by simp), h _ (by simp), h _ (by simp)⟩
theorem Gk.nl {mg : Str → Option Value} (G : Gk K mg) : NoAttr K (cLf K) "own_stand" ∧ NoAttr K (cLf K) "numbers" ∧ NoAttr K (cLf K) "refused" := ⟨G.naL _ (by simp), G.naL _ (by simp), G.naL _ (by simp)⟩
theorem Gk.nr {mg : Str → Option Value} (G : Gk K mg) : NoAttr K (cRu K) "held" ∧ NoAttr K (cRu K) "least" := ⟨G.naR _ (by simp), G.naR _ (by simp)⟩
theorem Gk.nk {mg : Str → Option Value} (G : Gk K mg) : NoAttr K (cDk K) "inbox" ∧ NoAttr K (cDk K) "pairs" := ⟨G.naD _ (by simp), G.naD _ (by simp)⟩
def sp_rules (K : PySem.W.Frag) (kd : Kd) : Sp := fun vs H Q _ => ∃ (a : Addr) (x : Ix), vs = [.ref a] ∧ IxR K kd H a x ∧ (∀ r, RuR K H r x.R x.nl → Q (.ref r) H)
theorem ok_rules (kd : Kd) (D : Pf K (kd.C K) "rules" "Inbox.rules" s_Inbox_rules) (G : Gx K mg) (Gk : Gk K mg) : Prp P w K mg base 1 (kd.C K) "rules" (sp_rules K kd) := by
  obtain ⟨pp, gg, hp, D⟩ := D
  refine prp0 hp (Gk.cI kd) D sc_Inbox_rules (fun _ _ _ _ _ _ us hl => match us, hl with | [_], _ => rfl) (fun vs H Q E h => ?_) (fun f cdv A outer s H vs Q E hr h => ?_)
  · obtain ⟨_, _, rfl, _⟩ := h
    rfl
  · obtain ⟨a, x, rfl, ix, k⟩ := h
    refine ⟨_, (pss_one (ps_ret (pe_fld (pv 0) rfl))), ?_⟩
    obtain ⟨dx, r, l, p, w, ps, ha, hru, hlf, hp, hps, hw⟩ := ix.ex
    obtain ⟨l', dl, sv, nv, el, hl, hs, hn⟩ := hlf.ex
    cases el
    obtain ⟨n1, n2, n3, n4, n5, n6⟩ := Gk.na kd
    obtain ⟨m1, m2, m3⟩ := Gk.nl
    have hC := Gk.cI kd
    have hL := Gk.lf
    walk_at "w"
    exact k _ hru
def sp_stand (K : PySem.W.Frag) (kd : Kd) : Sp := fun vs H Q _ => ∃ (a : Addr) (x : Ix), vs = [.ref a] ∧ IxR K kd H a x ∧ (∀ v, Td H v x.leaf.sd.d → Q v H)
theorem ok_stand (kd : Kd) (D : Pf K (kd.C K) "stand" "Inbox.stand" s_Inbox_stand) (G : Gx K mg) (Gk : Gk K mg) : Prp P w K mg base 1 (kd.C K) "stand" (sp_stand K kd) := by
  obtain ⟨pp, gg, hp, D⟩ := D
  refine prp0 hp (Gk.cI kd) D sc_Inbox_stand (fun _ _ _ _ _ _ us hl => match us, hl with | [_], _ => rfl) (fun vs H Q E h => ?_) (fun f cdv A outer s H vs Q E hr h => ?_)
  · obtain ⟨_, _, rfl, _⟩ := h
    rfl
  · obtain ⟨a, x, rfl, ix, k⟩ := h
    refine ⟨_, (pss_one (ps_ret (pe_fld (pe_fld (pv 0) rfl) rfl))), ?_⟩
    obtain ⟨dx, r, l, p, w, ps, ha, hru, hlf, hp, hps, hw⟩ := ix.ex
    obtain ⟨l', dl, sv, nv, el, hl, hs, hn⟩ := hlf.ex
    cases el
    obtain ⟨n1, n2, n3, n4, n5, n6⟩ := Gk.na kd
    obtain ⟨m1, m2, m3⟩ := Gk.nl
    have hC := Gk.cI kd
    have hL := Gk.lf
    walk_at "w"
    exact k _ hs
def sp_taken (K : PySem.W.Frag) (kd : Kd) : Sp := fun vs H Q _ => ∃ (a : Addr) (x : Ix), vs = [.ref a] ∧ IxR K kd H a x ∧ (∀ v, Td H v (.tuple (x.leaf.nums.map .int)) → Q v H)
theorem ok_taken (kd : Kd) (D : Pf K (kd.C K) "taken" "Inbox.taken" s_Inbox_taken) (G : Gx K mg) (Gk : Gk K mg) : Prp P w K mg base 1 (kd.C K) "taken" (sp_taken K kd) := by
  obtain ⟨pp, gg, hp, D⟩ := D
  refine prp0 hp (Gk.cI kd) D sc_Inbox_taken (fun _ _ _ _ _ _ us hl => match us, hl with | [_], _ => rfl) (fun vs H Q E h => ?_) (fun f cdv A outer s H vs Q E hr h => ?_)
  · obtain ⟨_, _, rfl, _⟩ := h
    rfl
  · obtain ⟨a, x, rfl, ix, k⟩ := h
    refine ⟨_, (pss_one (ps_ret (pe_fld (pe_fld (pv 0) rfl) rfl))), ?_⟩
    obtain ⟨dx, r, l, p, w, ps, ha, hru, hlf, hp, hps, hw⟩ := ix.ex
    obtain ⟨l', dl, sv, nv, el, hl, hs, hn⟩ := hlf.ex
    cases el
    obtain ⟨n1, n2, n3, n4, n5, n6⟩ := Gk.na kd
    obtain ⟨m1, m2, m3⟩ := Gk.nl
    have hC := Gk.cI kd
    have hL := Gk.lf
    walk_at "w"
    exact k _ hn
def sp_version (K : PySem.W.Frag) (kd : Kd) : Sp := fun vs H Q _ => ∃ (a : Addr) (x : Ix), vs = [.ref a] ∧ IxR K kd H a x ∧ (Q (.int x.past.length) H)
theorem ok_version (kd : Kd) (D : Pf K (kd.C K) "version" "Inbox.version" s_Inbox_version) (G : Gx K mg) (Gk : Gk K mg) : Prp P w K mg base 1 (kd.C K) "version" (sp_version K kd) := by
  obtain ⟨pp, gg, hp, D⟩ := D
  refine prp0 hp (Gk.cI kd) D sc_Inbox_version (fun _ _ _ _ _ _ us hl => match us, hl with | [_], _ => rfl) (fun vs H Q E h => ?_) (fun f cdv A outer s H vs Q E hr h => ?_)
  · obtain ⟨_, _, rfl, _⟩ := h
    rfl
  · obtain ⟨a, x, rfl, ix, k⟩ := h
    refine ⟨_, (pss_one (ps_ret (pe_callB call_len_seq (by rfl) G.len (by decide +kernel) (pa_cons (pe_fld (pv 0) rfl) pa_nil)))), ?_⟩
    obtain ⟨dx, r, l, p, w, ps, ha, hru, hlf, hp, hps, hw⟩ := ix.ex
    obtain ⟨l', dl, sv, nv, el, hl, hs, hn⟩ := hlf.ex
    cases el
    obtain ⟨n1, n2, n3, n4, n5, n6⟩ := Gk.na kd
    obtain ⟨m1, m2, m3⟩ := Gk.nl
    have hC := Gk.cI kd
    have hL := Gk.lf
    walk_at "w"
    rw [hps.len]
    exact k
def sp_last (K : PySem.W.Frag) (kd : Kd) : Sp := fun vs H Q _ => ∃ (a : Addr) (x : Ix), vs = [.ref a] ∧ IxR K kd H a x ∧ (Q (.int x.leaf.sd.last) H)
theorem ok_last (kd : Kd) (D : Pf K (kd.C K) "last" "Inbox.last" s_Inbox_last) (G : Gx K mg) (Gk : Gk K mg) : Prp P w K mg base 1 (kd.C K) "last" (sp_last K kd) := by
  obtain ⟨pp, gg, hp, D⟩ := D
  refine prp0 hp (Gk.cI kd) D sc_Inbox_last (fun _ _ _ _ _ _ us hl => match us, hl with | [_], _ => rfl) (fun vs H Q E h => ?_) (fun f cdv A outer s H vs Q E hr h => ?_)
  · obtain ⟨_, _, rfl, _⟩ := h
    rfl
  · obtain ⟨a, x, rfl, ix, k⟩ := h
    refine ⟨_, (pss_one (ps_ret (pe_ix ix_tup (pe_fld (pe_fld (pv 0) rfl) rfl) pe_int (fun _ _ => rfl)))), ?_⟩
    obtain ⟨dx, r, l, p, w, ps, ha, hru, hlf, hp, hps, hw⟩ := ix.ex
    obtain ⟨l', dl, sv, nv, el, hl, hs, hn⟩ := hlf.ex
    cases el
    obtain ⟨n1, n2, n3, n4, n5, n6⟩ := Gk.na kd
    obtain ⟨m1, m2, m3⟩ := Gk.nl
    have hC := Gk.cI kd
    have hL := Gk.lf
    obtain ⟨p3, x3, y3, z3, rfl, hp3, t1, t2, t3⟩ := hs.tup3
    cases t2.intE
    walk_at "w"
    exact k
def sp_log (K : PySem.W.Frag) (kd : Kd) : Sp := fun vs H Q _ => ∃ (a : Addr) (x : Ix), vs = [.ref a] ∧ IxR K kd H a x ∧ (∀ v, Td H v (.tuple x.rows) → Q v H)
theorem ok_log (kd : Kd) (D : Pf K (kd.C K) "log" "LoggedInbox.log" s_LoggedInbox_log) (G : Gx K mg) (Gk : Gk K mg) : Prp P w K mg base 1 (kd.C K) "log" (sp_log K kd) := by
  obtain ⟨pp, gg, hp, D⟩ := D
  refine prp0 hp (Gk.cI kd) D sc_LoggedInbox_log (fun _ _ _ _ _ _ us hl => match us, hl with | [_], _ => rfl) (fun vs H Q E h => ?_) (fun f cdv A outer s H vs Q E hr h => ?_)
  · obtain ⟨_, _, rfl, _⟩ := h
    rfl
  · obtain ⟨a, x, rfl, ix, k⟩ := h
    refine ⟨_, (pss_one (ps_ret (pe_fld (pv 0) rfl))), ?_⟩
    obtain ⟨dx, r, l, p, w, ps, ha, hru, hlf, hp, hps, hw⟩ := ix.ex
    obtain ⟨l', dl, sv, nv, el, hl, hs, hn⟩ := hlf.ex
    cases el
    obtain ⟨n1, n2, n3, n4, n5, n6⟩ := Gk.na kd
    obtain ⟨m1, m2, m3⟩ := Gk.nl
    have hC := Gk.cI kd
    have hL := Gk.lf
    walk_at "w"
    exact k _ hw
def sp_receiver (K : PySem.W.Frag) : Sp := fun vs H Q _ => ∃ (a : Addr) (R : Rec) (nl : Nat), vs = [.ref a] ∧ RuR K H a R nl ∧ ∀ v, Td H v (recD R) → Q v H
theorem ok_receiver (D : Pf K (cRu K) "receiver" "Rules.receiver" s_Rules_receiver) (G : Gx K mg) (Gk : Gk K mg) : Prp P w K mg base 1 (cRu K) "receiver" (sp_receiver K) := by
  obtain ⟨pp, gg, hp, D⟩ := D
  refine prp0 hp Gk.ru D sc_Rules_receiver (fun _ _ _ _ _ _ us hl => match us, hl with | [_], _ => rfl) (fun vs H Q E h => ?_) (fun f cdv A outer s H vs Q E hr h => ?_)
  · obtain ⟨_, _, _, rfl, _⟩ := h
    rfl
  · obtain ⟨a, R, nl, rfl, ru, k⟩ := h
    refine ⟨_, (pss_one (ps_ret (pe_fld (pv 0) rfl))), ?_⟩
    obtain ⟨dx, hv, lp, ls, ha, hs, hn, hl⟩ := ru.ex
    obtain ⟨n1, n2⟩ := Gk.nr
    have hC := Gk.ru
    walk_at "w"
    exact k _ hs
end
end K8
set_option maxHeartbeats 4000000
namespace K8
open PySem PySem.Spec PyProof.Rows L2
set_option hygiene false in
local macro_rules | `(tactic| walk_at "w") => `(tactic| (repeat (first | refine ⟨_, rfl, ?_⟩ | refine ⟨_, _, rfl, rfl, ?_⟩ | refine ⟨rfl, ?_⟩ | refine ⟨_, _, rfl, ?_⟩ | refine ⟨_, _, rfl, .of upd_same, rfl, ?_⟩ | refine ⟨_, _, rfl, .of (by assumption), rfl, ?_⟩ | refine ⟨_, _, rfl, .of (by assumption), fun q hq => ?_⟩ | refine ⟨_, _, rfl, .of (by assumption), ?_⟩ | refine ⟨_, _, rfl, .inr (.of (by assumption)), ?_⟩ | refine ⟨_, _, rfl, .inl (.of (by assumption)), ?_⟩ | refine ⟨_, _, _, _, rfl, rfl, .of (by assumption), atI_nat (j := 0) rfl, ?_⟩ | refine ⟨_, _, _, _, rfl, rfl, .of (by assumption), atI_nat (j := 1) rfl, ?_⟩ | refine ⟨_, _, _, _, rfl, rfl, .of (by assumption), atI_nat (j := 2) rfl, ?_⟩ | refine ⟨fun z => absurd z.1 (show ¬ (1 : Nat) = 0 by decide), fun _ q hq => ?_⟩ | refine ⟨fun z => absurd z.1 (show ¬ (2 : Nat) = 0 by decide), fun _ q hq => ?_⟩ | refine ⟨sz1, fun q hq => ?_⟩ | refine ⟨sz2, fun q hq => ?_⟩ | refine ⟨sz3, fun q hq => ?_⟩ | refine ⟨sz0, fun q hq => ?_⟩ | refine ⟨_, _, _, rfl, rfl, (by assumption), (by assumption), ?_⟩ | refine ⟨.inl ⟨rfl, _, .of (by assumption)⟩, ?_⟩ | refine ⟨_, _, rfl, .inl ⟨.of (by assumption), fun q hq => ?_⟩⟩ | refine ⟨⟨_, .of (by assumption)⟩, ?_⟩ | refine ⟨⟨_, rfl⟩, ?_⟩ | refine ⟨.inl ⟨rfl, _, .of upd_same⟩, ?_⟩ | refine ⟨_, _, _, _, _, rfl, (by assumption), (by assumption), (by assumption), (by rfl), ?_⟩ | refine ⟨_, _, _, _, rfl, upd_same, (by assumption), (by assumption), (by first | exact ixFs_len | exact (show (0 : Nat) < 1000 by decide) | exact (show (1 : Nat) < 1000 by decide) | exact (show (2 : Nat) < 1000 by decide) | exact (show (3 : Nat) < 1000 by decide) | exact (show (4 : Nat) < 1000 by decide) | exact (show (5 : Nat) < 1000 by decide) | exact (show (6 : Nat) < 1000 by decide)), ?_⟩ | refine ⟨_, _, _, _, rfl, (by assumption), (by assumption), (by assumption), (by first | exact ixFs_len | exact (show (0 : Nat) < 1000 by decide) | exact (show (1 : Nat) < 1000 by decide) | exact (show (2 : Nat) < 1000 by decide) | exact (show (3 : Nat) < 1000 by decide) | exact (show (4 : Nat) < 1000 by decide) | exact (show (5 : Nat) < 1000 by decide) | exact (show (6 : Nat) < 1000 by decide)), ?_⟩ | refine ⟨_, _, _, rfl, (by assumption), (by first | rfl | exact ixFs_no (by decide +kernel)), ?_⟩ | refine iteT ?_ | refine iteF ?_)))
section
variable {P : Program} {w : World} {K : PySem.W.Frag} {mg : Str → Option Value} {base : Heap}
/-! ### methods of an inbox -/
theorem ixFs_no {r l p w : Addr} {b : Bool} {mo : Option Nat} {m : Str} (h : (["own_rules", "leaf", "past", "rows", "is_busy", "most"] : List Str).all (fun y => !(m == y)) = true) : (ixFs r l p w b mo).lookup m = none := by
  simp only [List.all_cons, List.all_nil, Bool.and_true, Bool.and_eq_true, Bool.not_eq_true'] at h
  obtain ⟨h1, h2, h3, h4, h5, h6⟩ := h
  unfold ixFs
  cases mo with
  | none => simp only [moFs, List.lookup_cons, h1, h2, h3, h4, h5, List.lookup_nil]
  | some m => simp only [moFs, List.lookup_cons, h1, h2, h3, h4, h5, h6, List.lookup_nil]
theorem boolQ {b c : Bool} {Q : VK} {H : Hp} (h : b = c) (k : Q (.bl c) H) : Q (.bl b) H := h ▸ k
def isOpenF (x : Ix) : Bool := match x.mo with
  | none => true
  | some m => decide (x.leaf.ref < m)
def noteF (kd : Kd) (x : Ix) (d : PyData) : Ix := if kd.logs then { x with rows := x.rows ++ [d] } else x
def hear1 (x : Ix) (n : Int) : Bool × Ix := ((hearF x.R x.leaf.sd n).1, { x with past := x.past ++ [x.leaf], leaf := if (hearF x.R x.leaf.sd n).1 then ⟨(hearF x.R x.leaf.sd n).2, x.leaf.nums ++ [n], 0⟩ else ⟨(hearF x.R x.leaf.sd n).2, x.leaf.nums, x.leaf.ref + 1⟩ })
theorem ix_leaf {K : PySem.W.Frag} {H H' : Hp} {l dl : Addr} {sv nv : V} {lf : Lf} (f : Fz K H H') (hl : H l = some (.ins (cLf K) dl (lfFs sv nv lf.ref))) (hs : Td H sv lf.sd.d) (hn : Td H nv (.tuple (lf.nums.map .int))) : LfR K H' (.ref l) lf := LfR.fz ⟨l, dl, sv, nv, rfl, hl, hs, hn⟩ f
def sp_require_idle (K : PySem.W.Frag) (kd : Kd) : Sp := fun vs H Q E => ∃ (a : Addr) (x : Ix), vs = [.ref a] ∧ IxR K kd H a x ∧ if x.busy = true then E (xBu K) none H else Q .non H
theorem ok_require_idle (kd : Kd) (D : Md K (kd.C K) "require_idle" "Inbox.require_idle" s_Inbox_require_idle) (G : Gx K mg) (Gk : Gk K mg) (x_Busy : ExcN K mg "Busy") : Met P w K mg base (L2N.CX P w) 1 (kd.C K) "require_idle" (sp_require_idle K kd) := by
  refine metN D sc_Inbox_require_idle (fun _ _ _ _ _ _ us hl => match us, hl with | [_], _ => rfl) (fun vs H Q E h => ?_) (fun f cdv A outer s H vs Q E hr h => ?_)
  · obtain ⟨_, _, rfl, _⟩ := h
    rfl
  · obtain ⟨a, x, rfl, ix, k⟩ := h
    refine ⟨_, (pss_one (ps_if (pt_val (pe_fld (pv 0) rfl)) (pss_one (ps_r0N x_Busy (by rfl) rfl (L2N.takes_of rfl rfl rfl rfl))) pss_nil)), ?_⟩
    obtain ⟨dx, r, l, p, w, ps, ha, hru, hlf, hp, hps, hw⟩ := ix.ex
    obtain ⟨l', dl, sv, nv, el, hl, hs, hn⟩ := hlf.ex
    cases el
    obtain ⟨n1, n2, n3, n4, n5, n6⟩ := Gk.na kd
    obtain ⟨m1, m2, m3⟩ := Gk.nl
    have hC := Gk.cI kd
    have hL := Gk.lf
    have hpl := hps.len
    walk_at "w"
    cases hb : x.busy with
    | true =>
      rw [hb] at k
      walk_at "w"
      exact k
    | false =>
      rw [hb] at k
      walk_at "w"
      exact k
def sp_require_room (K : PySem.W.Frag) (kd : Kd) : Sp := fun vs H Q _ => ∃ (a : Addr) (x : Ix) (m : Nat), vs = [.ref a, .int m] ∧ IxR K kd H a x ∧ x.past.length + m ≤ 60 ∧ Q .non H
theorem ok_require_room (kd : Kd) (D : Md K (kd.C K) "require_room" "Inbox.require_room" s_Inbox_require_room) (G : Gx K mg) (Gk : Gk K mg) : Met P w K mg base CX0 1 (kd.C K) "require_room" (sp_require_room K kd) := by
  refine met0 D sc_Inbox_require_room (fun _ _ _ _ _ _ us hl => match us, hl with | [_, _], _ => rfl) (fun vs H Q E h => ?_) (fun f cdv A outer s H vs Q E hr h => ?_)
  · obtain ⟨_, _, _, rfl, _⟩ := h
    rfl
  · obtain ⟨a, x, m, rfl, ix, hm, k⟩ := h
    refine ⟨_, (pss_one (ps_if (pt_cmpR op_gt (pe_op op_add (pe_callB call_len_seq (by rfl) G.len (by decide +kernel) (pa_cons (pe_fld (pv 0) rfl) pa_nil)) (pv 1)) (pe_gi (by rfl) G.MAX_DEEDS) (nomark _)) (pss_one ps_never) pss_nil)), ?_⟩
    obtain ⟨dx, r, l, p, w, ps, ha, hru, hlf, hp, hps, hw⟩ := ix.ex
    obtain ⟨l', dl, sv, nv, el, hl, hs, hn⟩ := hlf.ex
    cases el
    obtain ⟨n1, n2, n3, n4, n5, n6⟩ := Gk.na kd
    obtain ⟨m1, m2, m3⟩ := Gk.nl
    have hC := Gk.cI kd
    have hL := Gk.lf
    have hpl := hps.len
    walk_at "w"
    refine iteDF (by omega) ?_
    walk_at "w"
    exact k
def sp_is_open (K : PySem.W.Frag) (kd : Kd) : Sp := fun vs H Q _ => ∃ (a : Addr) (x : Ix), vs = [.ref a] ∧ IxR K kd H a x ∧ Q (.bl (isOpenF x)) H
theorem ok_is_open0 (kd : Kd) (hk : kd.halts = false) (D : Md K (kd.C K) "is_open" "Inbox.is_open" s_Inbox_is_open) (G : Gx K mg) (Gk : Gk K mg) : Met P w K mg base CX0 1 (kd.C K) "is_open" (sp_is_open K kd) := by
  refine met0 D sc_Inbox_is_open (fun _ _ _ _ _ _ us hl => match us, hl with | [_], _ => rfl) (fun vs H Q E h => ?_) (fun f cdv A outer s H vs Q E hr h => ?_)
  · obtain ⟨_, _, rfl, _⟩ := h
    rfl
  · obtain ⟨a, x, rfl, ix, k⟩ := h
    refine ⟨_, (pss_one (ps_ret pe_bl)), ?_⟩
    walk_at "w"
    have : isOpenF x = true := by
      have := ix.mo
      rw [hk] at this
      unfold isOpenF
      cases hm : x.mo with
      | none => rfl
      | some m => rw [hm] at this; cases this
    rw [this] at k
    exact k
theorem ok_is_open1 (kd : Kd) (hk : kd.halts = true) (D : Md K (kd.C K) "is_open" "HaltedInbox.is_open" s_HaltedInbox_is_open) (G : Gx K mg) (Gk : Gk K mg) : Met P w K mg base CX0 1 (kd.C K) "is_open" (sp_is_open K kd) := by
  refine met0 D sc_HaltedInbox_is_open (fun _ _ _ _ _ _ us hl => match us, hl with | [_], _ => rfl) (fun vs H Q E h => ?_) (fun f cdv A outer s H vs Q E hr h => ?_)
  · obtain ⟨_, _, rfl, _⟩ := h
    rfl
  · obtain ⟨a, x, rfl, ix, k⟩ := h
    refine ⟨_, (pss_one (ps_ret (pe_cmpR op_lt (pe_fld (pe_fld (pv 0) rfl) rfl) (pe_fld (pv 0) rfl) (nomark _)))), ?_⟩
    obtain ⟨m, hm⟩ : ∃ m, x.mo = some m := by
      have := ix.mo
      rw [hk] at this
      exact Option.isSome_iff_exists.mp this
    have e : isOpenF x = decide (x.leaf.ref < m) := by unfold isOpenF; rw [hm]
    rw [e] at k
    obtain ⟨dx, r, l, p, w, ps, ha, hru, hlf, hp, hps, hw⟩ := ix.ex
    obtain ⟨l', dl, sv, nv, el, hl, hs, hn⟩ := hlf.ex
    cases el
    obtain ⟨n1, n2, n3, n4, n5, n6⟩ := Gk.na kd
    obtain ⟨m1, m2, m3⟩ := Gk.nl
    have hC := Gk.cI kd
    have hL := Gk.lf
    have hpl := hps.len
    rw [hm] at ha
    walk_at "w"
    exact boolQ (by simp) k
def sp_require_open (K : PySem.W.Frag) (kd : Kd) : Sp := fun vs H Q E => ∃ (a : Addr) (x : Ix), vs = [.ref a] ∧ IxR K kd H a x ∧ if isOpenF x = true then Q .non H else E (xHa K) none H
theorem ok_require_open (kd : Kd) (D : Md K (kd.C K) "require_open" "Inbox.require_open" s_Inbox_require_open) (G : Gx K mg) (Gk : Gk K mg) (m_is_open : Met P w K mg base CX0 1 (kd.C K) "is_open" (sp_is_open K kd)) (x_Halted : ExcN K mg "Halted") : Met P w K mg base (L2N.CX P w) 2 (kd.C K) "require_open" (sp_require_open K kd) := by
  refine metN D sc_Inbox_require_open (fun _ _ _ _ _ _ us hl => match us, hl with | [_], _ => rfl) (fun vs H Q E h => ?_) (fun f cdv A outer s H vs Q E hr h => ?_)
  · obtain ⟨_, _, rfl, _⟩ := h
    rfl
  · obtain ⟨a, x, rfl, ix, k⟩ := h
    refine ⟨_, (pss_one (ps_if (pt_not (pt_val (pe_mX0 m_is_open hr (by decide) atN (pv 0)))) (pss_one (ps_r0N x_Halted (by rfl) rfl (L2N.takes_of rfl rfl rfl rfl))) pss_nil)), ?_⟩
    obtain ⟨dx, r, l, p, w, ps, ha, hru, hlf, hp, hps, hw⟩ := ix.ex
    obtain ⟨l', dl, sv, nv, el, hl, hs, hn⟩ := hlf.ex
    cases el
    obtain ⟨n1, n2, n3, n4, n5, n6⟩ := Gk.na kd
    obtain ⟨m1, m2, m3⟩ := Gk.nl
    have hC := Gk.cI kd
    have hL := Gk.lf
    have hpl := hps.len
    walk_at "w"
    refine ⟨a, x, rfl, ix, ?_⟩
    cases ho : isOpenF x with
    | true =>
      rw [ho] at k
      walk_at "w"
      exact k
    | false =>
      rw [ho] at k
      walk_at "w"
      exact k
def sp_note (K : PySem.W.Frag) (kd : Kd) : Sp := fun vs H Q _ => ∃ (a : Addr) (x : Ix) (v : V) (d : PyData), vs = [.ref a, v] ∧ IxR K kd H a x ∧ Td H v d ∧ x.rows.length ≤ 1000 ∧ ∀ H', Ka a H H' → IxR K kd H' a (noteF kd x d) → Q .non H'
theorem ok_note0 (kd : Kd) (hk : kd.logs = false) (D : Md K (kd.C K) "note" "Inbox.note" s_Inbox_note) (G : Gx K mg) (Gk : Gk K mg) : Met P w K mg base CX0 1 (kd.C K) "note" (sp_note K kd) := by
  refine met0 D sc_Inbox_note (fun _ _ _ _ _ _ us hl => match us, hl with | [_, _], _ => rfl) (fun vs H Q E h => ?_) (fun f cdv A outer s H vs Q E hr h => ?_)
  · obtain ⟨_, _, _, _, rfl, _⟩ := h
    rfl
  · obtain ⟨a, x, v, d, rfl, ix, td, hl, k⟩ := h
    refine ⟨_, pss_one ps_pass, ?_⟩
    refine k _ .refl ?_
    unfold noteF
    rw [hk]
    exact ix
theorem ok_note1 (kd : Kd) (hk : kd.logs = true) (D : Md K (kd.C K) "note" "LoggedInbox.note" s_LoggedInbox_note) (G : Gx K mg) (Gk : Gk K mg) : Met P w K mg base CX0 1 (kd.C K) "note" (sp_note K kd) := by
  refine met0 D sc_LoggedInbox_note (fun _ _ _ _ _ _ us hl => match us, hl with | [_, _], _ => rfl) (fun vs H Q E h => ?_) (fun f cdv A outer s H vs Q E hr h => ?_)
  · obtain ⟨_, _, _, _, rfl, _⟩ := h
    rfl
  · obtain ⟨a, x, v, d, rfl, ix, td, hlr, k⟩ := h
    refine ⟨_, (pss_one (ps_fld (pv 0) (pe_op op_catA (pe_fld (pv 0) rfl) (pe_tup (pa_cons (pv 1) pa_nil))) rfl)), ?_⟩
    obtain ⟨dx, r, l, p, w, ps, ha, hru, hlf, hp, hps, hw⟩ := ix.ex
    obtain ⟨l', dl, sv, nv, el, hl, hs, hn⟩ := hlf.ex
    cases el
    obtain ⟨n1, n2, n3, n4, n5, n6⟩ := Gk.na kd
    obtain ⟨m1, m2, m3⟩ := Gk.nl
    have hC := Gk.cI kd
    have hL := Gk.lf
    have hpl := hps.len
    walk_at "w"
    refine cat_td (hw.same (.new (by assumption))) (.of1 upd_same (td.same (.new (by assumption)))) (by have z := sizeLine_eq; simp; omega) fun H2 o s2 t2 => ?_
    have s12 := (L2.Same.new (by assumption)).trans s2
    have ha2 := s12 _ _ ha
    obtain ⟨po, xo, rfl, hpo, txo⟩ := t2.tds
    walk_at "w"
    have nf : ¬ fzO K (.ins (kd.C K) dx (ixFs r l p w x.busy x.mo)) := fun z => z.elim (Gk.neL kd).1 (Gk.neL kd).2.1
    have fz2 : Fz K H2 (L2.upd H2 a (.ins (kd.C K) dx (ixFs r l p po x.busy x.mo))) := .own ha2 nf
    have fz := (Fz.of (K := K) s12).trans fz2
    refine k _ ((Ka.of s12).trans .own) ?_
    unfold noteF
    rw [hk]
    exact ⟨⟨dx, r, l, p, po, ps, upd_same, hru.fz fz, ix_leaf fz hl hs hn, fz.at_ _ _ trivial hp, hps.fz fz, t2.mono fz2.tupK⟩, ix.mo, ix.st, ix.pst⟩
end
end K8
set_option maxHeartbeats 4000000
namespace K8
open PySem PySem.Spec PyProof.Rows L2
set_option hygiene false in
local macro_rules | `(tactic| walk_at "w") => `(tactic| (repeat (first | refine ⟨_, rfl, ?_⟩ | refine ⟨_, _, rfl, rfl, ?_⟩ | refine ⟨rfl, ?_⟩ | refine ⟨_, _, rfl, ?_⟩ | refine ⟨_, _, rfl, .of upd_same, rfl, ?_⟩ | refine ⟨_, _, rfl, .of (by assumption), rfl, ?_⟩ | refine ⟨_, _, rfl, .of (by assumption), fun q hq => ?_⟩ | refine ⟨_, _, rfl, .of (by assumption), ?_⟩ | refine ⟨_, _, rfl, .inr (.of (by assumption)), ?_⟩ | refine ⟨_, _, rfl, .inl (.of (by assumption)), ?_⟩ | refine ⟨_, _, _, _, rfl, rfl, .of (by assumption), atI_nat (j := 0) rfl, ?_⟩ | refine ⟨_, _, _, _, rfl, rfl, .of (by assumption), atI_nat (j := 1) rfl, ?_⟩ | refine ⟨_, _, _, _, rfl, rfl, .of (by assumption), atI_nat (j := 2) rfl, ?_⟩ | refine ⟨fun z => absurd z.1 (show ¬ (1 : Nat) = 0 by decide), fun _ q hq => ?_⟩ | refine ⟨fun z => absurd z.1 (show ¬ (2 : Nat) = 0 by decide), fun _ q hq => ?_⟩ | refine ⟨sz1, fun q hq => ?_⟩ | refine ⟨sz2, fun q hq => ?_⟩ | refine ⟨sz3, fun q hq => ?_⟩ | refine ⟨sz0, fun q hq => ?_⟩ | refine ⟨_, _, _, rfl, rfl, (by assumption), (by assumption), ?_⟩ | refine ⟨.inl ⟨rfl, _, .of (by assumption)⟩, ?_⟩ | refine ⟨_, _, rfl, .inl ⟨.of (by assumption), fun q hq => ?_⟩⟩ | refine ⟨⟨_, .of (by assumption)⟩, ?_⟩ | refine ⟨⟨_, rfl⟩, ?_⟩ | refine ⟨.inl ⟨rfl, _, .of upd_same⟩, ?_⟩ | refine ⟨_, _, _, _, _, rfl, (by assumption), (by assumption), (by assumption), (by rfl), ?_⟩ | refine ⟨_, _, _, _, rfl, upd_same, (by assumption), (by assumption), (by first | exact ixFs_len | exact (show (0 : Nat) < 1000 by decide) | exact (show (1 : Nat) < 1000 by decide) | exact (show (2 : Nat) < 1000 by decide) | exact (show (3 : Nat) < 1000 by decide) | exact (show (4 : Nat) < 1000 by decide) | exact (show (5 : Nat) < 1000 by decide) | exact (show (6 : Nat) < 1000 by decide)), ?_⟩ | refine ⟨_, _, _, _, rfl, (by assumption), (by assumption), (by assumption), (by first | exact ixFs_len | exact (show (0 : Nat) < 1000 by decide) | exact (show (1 : Nat) < 1000 by decide) | exact (show (2 : Nat) < 1000 by decide) | exact (show (3 : Nat) < 1000 by decide) | exact (show (4 : Nat) < 1000 by decide) | exact (show (5 : Nat) < 1000 by decide) | exact (show (6 : Nat) < 1000 by decide)), ?_⟩ | refine ⟨_, _, _, rfl, (by assumption), (by first | rfl | exact ixFs_no (by decide +kernel)), ?_⟩ | refine ⟨_, _, _, rfl, (by assumption), ?_⟩ | refine iteT ?_ | refine iteF ?_)))
section
variable {P : Program} {w : World} {K : PySem.W.Frag} {mg : Str → Option Value} {base : Heap}
/-! ### hear_one -/
theorem Fz.tp {K : PySem.W.Frag} {H H' : Hp} (f : Fz K H H') {a : Addr} {xs : List V} (h : H a = some (.tup xs)) : H' a = some (.tup xs) := f.at_ a _ trivial h
theorem Fz.lf_ {K : PySem.W.Frag} {H H' : Hp} (f : Fz K H H') {a dx : Addr} {fs : List (Str × V)} (h : H a = some (.ins (cLf K) dx fs)) : H' a = some (.ins (cLf K) dx fs) := f.at_ a _ (Or.inl rfl) h
theorem cat_any {H : Hp} {p q : Addr} {xs ys : List V} {Q : VK} (hp : H p = some (.tup xs)) (hq : H q = some (.tup ys)) (hl : xs.length + ys.length ≤ sizeLine) (k : ∀ H' o, Same H H' → H' o = some (.tup (xs ++ ys)) → Q (.ref o) H') : rCatA K (.ref p) (.ref q) H Q := by
  refine ⟨p, q, xs, ys, rfl, rfl, .of hp, .of hq, hl, fun e => ?_, fun _ e => ?_, fun _ _ r hr => k _ _ (.new hr) upd_same⟩
  · subst e
    exact k _ _ (.refl _) hq
  · subst e
    exact k _ _ (.refl _) (by rw [List.append_nil]; exact hp)
theorem made_same {H : Hp} {x dx : Addr} {o o1 o2 : HO} (hx : H x = none) (hd : H dx = none) : Same H (L2.upd (L2.upd (L2.upd H dx o) x o1) x o2) := fun b u e => by
  rw [upd_ne (ne_of_none e hx), upd_ne (ne_of_none e hx), upd_ne (ne_of_none e hd)]
  exact e
theorem put_past {r l p w p' : Addr} {b : Bool} {mo : Option Nat} : putF "past" (.ref p') (ixFs r l p w b mo) = ixFs r l p' w b mo := rfl
theorem put_leaf {r l p w p' : Addr} {b : Bool} {mo : Option Nat} : putF "leaf" (.ref p') (ixFs r l p w b mo) = ixFs r p' p w b mo := rfl
theorem put_rows {r l p w p' : Addr} {b : Bool} {mo : Option Nat} : putF "rows" (.ref p') (ixFs r l p w b mo) = ixFs r l p p' b mo := rfl
theorem put_busy {r l p w : Addr} {b b' : Bool} {mo : Option Nat} : putF "is_busy" (.bl b') (ixFs r l p w b mo) = ixFs r l p w b' mo := rfl
def sp_hear_one (K : PySem.W.Frag) (kd : Kd) : Sp := fun vs H Q E => ∃ (a : Addr) (x : Ix) (n : Int), vs = [.ref a, .int n] ∧ IxR K kd H a x ∧ x.past.length ≤ 1000 ∧ x.leaf.nums.length ≤ 1000 ∧
  if isOpenF x = true then (∀ H', Ka a H H' → IxR K kd H' a (hear1 x n).2 → Q (.bl (hear1 x n).1) H') else E (xHa K) none H
theorem ok_hear_one (kd : Kd) (D : Md K (kd.C K) "hear_one" "Inbox.hear_one" s_Inbox_hear_one) (G : Gx K mg) (Gk : Gk K mg) (m_require_open : Met P w K mg base (L2N.CX P w) 2 (kd.C K) "require_open" (sp_require_open K kd))
    (c_hear : Cal P w K mg base CX0 4 "hear" sp_hear) (p_receiver : Prp P w K mg base 1 (cRu K) "receiver" (sp_receiver K)) (k_Leaf : Mkr P w K mg base 1 "Leaf" (cLf K) (sp_Leaf K)) : Met P w K mg base (L2N.CX P w) 5 (kd.C K) "hear_one" (sp_hear_one K kd) := by
  refine metN D sc_Inbox_hear_one (fun _ _ _ _ _ _ us hl => match us, hl with | [_, _], _ => rfl) (fun vs H Q E h => ?_) (fun f cdv A outer s H vs Q E hr h => ?_)
  · obtain ⟨_, _, _, rfl, _⟩ := h
    rfl
  · obtain ⟨a, x, n, rfl, ix, hpl0, hnl0, k⟩ := h
    refine ⟨_, (pss_cons (ps_expr (pe_mX0 m_require_open hr (by decide) (fun σ => atNX σ) (pv 0)))
      (pss_cons (ps_asg (pe_d c_hear hr (by decide) (by rfl) (pa_cons (pe_p p_receiver hr (by decide) (pe_fld (pv 0) rfl)) (pa_cons (pe_fld (pe_fld (pv 0) rfl) rfl) (pa_cons (pv 1) pa_nil)))) (pg_tup (n := 2) rfl (pgs_cons (pg_name (i := 2) sc_Inbox_hear_one.nd rfl (Or.inl rfl)) (pgs_cons (pg_name (i := 3) sc_Inbox_hear_one.nd rfl (Or.inl rfl)) pgs_nil))))
      (pss_cons (ps_fld (pv 0) (pe_op op_catA (pe_fld (pv 0) rfl) (pe_tup (pa_cons (pe_fld (pv 0) rfl) pa_nil))) rfl)
      (pss_cons (ps_if (pt_val (pv 2)) (pss_one (ps_fld (pv 0) (pe_mk k_Leaf hr (by decide) (by rfl) (pa_cons (pv 3) (pa_cons (pe_op op_catA (pe_fld (pe_fld (pv 0) rfl) rfl) (pe_tup (pa_cons (pv 1) pa_nil))) (pa_cons pe_int pa_nil)))) rfl)) (pss_one (ps_fld (pv 0) (pe_mk k_Leaf hr (by decide) (by rfl) (pa_cons (pv 3) (pa_cons (pe_fld (pe_fld (pv 0) rfl) rfl) (pa_cons (pe_op op_add (pe_fld (pe_fld (pv 0) rfl) rfl) pe_int) pa_nil)))) rfl)))
      (pss_one (ps_ret (pv 2))))))), ?_⟩
    obtain ⟨dx, r, l, p, w, ps, ha, hru, hlf, hp, hps, hw⟩ := ix.ex
    obtain ⟨l', dl, sv, nv, el, hl, hs, hn⟩ := hlf.ex
    cases el
    obtain ⟨n1, n2, n3, n4, n5, n6⟩ := Gk.na kd
    obtain ⟨m1, m2, m3⟩ := Gk.nl
    have hC := Gk.cI kd
    have hL := Gk.lf
    have hpl := hps.len
    walk_at "w"
    refine ⟨a, x, rfl, ix, ?_⟩
    cases ho : isOpenF x with
    | false =>
      rw [ho] at k
      exact k
    | true =>
      rw [ho] at k
      refine iteT ?_
      have k' := k
      rw [if_pos rfl] at k'
      obtain ⟨dr, hv, lp, ls, hr1, hhv, hlp, hll⟩ := hru.ex
      have hst := ix.st
      walk_at "w"
      intro v tv
      walk_at "w"
      refine ⟨_, _, x.R, x.leaf.sd, n, rfl, tv, hs, hst, fun H1 o s1 t1 => ?_⟩
      obtain ⟨po, xa, xb, rfl, hpo, ta, tb⟩ := t1.tup2
      cases ta.blE
      have ha1 := s1 _ _ ha
      have hp1 := s1 _ _ hp
      have sz := sizeLine_eq
      walk_at "w"
      refine cat_any ((L2.Same.new (by assumption)) _ _ hp1) upd_same (by simp; omega) fun H2 p2 s2 hp2 => ?_
      have s02 : Same H H2 := s1.trans ((L2.Same.new (by assumption)).trans s2)
      have s12 : Same H1 H2 := (L2.Same.new (by assumption)).trans s2
      have ha2 := s02 _ _ ha
      walk_at "w"
      have nf : ¬ fzO K (.ins (kd.C K) dx (ixFs r l p w x.busy x.mo)) := fun z => z.elim (Gk.neL kd).1 (Gk.neL kd).2.1
      have fz3 : Fz K H2 (L2.upd H2 a (.ins (kd.C K) dx (ixFs r l p2 w x.busy x.mo))) := .own ha2 nf
      have ka3 : Ka a H2 (L2.upd H2 a (.ins (kd.C K) dx (ixFs r l p2 w x.busy x.mo))) := .own
      have ha3 : L2.upd H2 a (.ins (kd.C K) dx (ixFs r l p2 w x.busy x.mo)) a = some (.ins (kd.C K) dx (ixFs r l p2 w x.busy x.mo)) := upd_same
      rw [put_past]
      have fz03 : Fz K H (L2.upd H2 a (.ins (kd.C K) dx (ixFs r l p2 w x.busy x.mo))) := (Fz.of s02).trans fz3
      have ka03 : Ka a H (L2.upd H2 a (.ins (kd.C K) dx (ixFs r l p2 w x.busy x.mo))) := (Ka.of s02).trans ka3
      have hp3 := fz3.tp hp2
      have tb3 := (tb.same s12).mono fz3.tupK
      generalize L2.upd H2 a (.ins (kd.C K) dx (ixFs r l p2 w x.busy x.mo)) = H3 at *
      have hl3 := fz03.lf_ hl
      have lf3 : LfR K H3 (.ref l) x.leaf := ix_leaf fz03 hl hs hn
      have hps3 := (hps.fz fz03).snoc lf3
      have hn3 := hn.mono fz03.tupK
      have hst2 := hearF_st hru.ok (s := x.leaf.sd) (n := n) hst
      have pst2 : ∀ l ∈ x.past ++ [x.leaf], l.sd.st < x.R.length := mem_snoc ix.pst hst
      cases et : (hearF x.R x.leaf.sd n).1 with
      | true =>
        have eh : hear1 x n = (true, { x with past := x.past ++ [x.leaf], leaf := ⟨(hearF x.R x.leaf.sd n).2, x.leaf.nums ++ [n], 0⟩ }) := by unfold hear1; rw [et]; rfl
        rw [eh] at k'
        walk_at "w"
        refine cat_td (hn3.same (.new (by assumption))) (.of1 upd_same (.int _)) (by simp; omega) fun H8 o8 s8 t8 => ?_
        have s38 : Same H3 H8 := (L2.Same.new (by assumption)).trans s8
        have tn8 : Td H8 o8 (.tuple ((x.leaf.nums ++ [n]).map .int)) := by rw [List.map_append]; exact t8
        walk_at "w"
        intro x9 d9 hx9 hd9 ne9
        refine ⟨_, _, _, _, _, _, rfl, upd_same, hL, Gk.naL, rfl, ?_⟩
        have ms := made_same (o := .own x9) (o1 := .ins (cLf K) d9 []) (o2 := .ins (cLf K) d9 (lfFs xb o8 0)) hx9 hd9
        have s34 := s38.trans ms
        have hx4 : L2.upd (L2.upd (L2.upd H8 d9 (.own x9)) x9 (.ins (cLf K) d9 [])) x9 (.ins (cLf K) d9 (lfFs xb o8 0)) x9 = some (.ins (cLf K) d9 (lfFs xb o8 0)) := upd_same
        have tn4 := tn8.same ms
        generalize L2.upd (L2.upd (L2.upd H8 d9 (.own x9)) x9 (.ins (cLf K) d9 [])) x9 (.ins (cLf K) d9 (lfFs xb o8 0)) = H4 at *
        have ha4 := s34 _ _ ha3
        have lf9 : LfR K H4 (.ref x9) ⟨(hearF x.R x.leaf.sd n).2, x.leaf.nums ++ [n], 0⟩ := ⟨x9, d9, xb, _, rfl, hx4, tb3.same s34, tn4⟩
        have nf' : ∀ q, ¬ fzO K (.ins (kd.C K) dx (ixFs r q p2 w x.busy x.mo)) := fun q z => z.elim (Gk.neL kd).1 (Gk.neL kd).2.1
        have fz45 : Fz K H4 (L2.upd H4 a (.ins (kd.C K) dx (ixFs r x9 p2 w x.busy x.mo))) := .own ha4 (nf' _)
        have fz05 := fz03.trans ((Fz.of (K := K) s34).trans fz45)
        have fz35 := (Fz.of (K := K) s34).trans fz45
        walk_at "w"
        rw [put_leaf]
        walk_at "w"
        refine k' _ (ka03.trans ((Ka.of s34).trans .own)) ?_
        exact ⟨⟨dx, r, x9, p2, w, _, upd_same, hru.fz fz05, LfR.fz lf9 fz45, fz35.tp hp3, hps3.fz fz35, hw.mono fz05.tupK⟩, ix.mo, hst2, pst2⟩
      | false =>
        have eh : hear1 x n = (false, { x with past := x.past ++ [x.leaf], leaf := ⟨(hearF x.R x.leaf.sd n).2, x.leaf.nums, x.leaf.ref + 1⟩ }) := by unfold hear1; rw [et]; rfl
        rw [eh] at k'
        walk_at "w"
        intro x9 d9 hx9 hd9 ne9
        have s38 : Same H3 H3 := .refl _
        have tn8 := hn3
        refine ⟨_, _, _, _, _, x.leaf.ref + 1, rfl, upd_same, hL, Gk.naL, rfl, ?_⟩
        have ms := made_same (o := .own x9) (o1 := .ins (cLf K) d9 []) (o2 := .ins (cLf K) d9 (lfFs xb nv (x.leaf.ref + 1))) hx9 hd9
        have s34 := s38.trans ms
        have hx4 : L2.upd (L2.upd (L2.upd H3 d9 (.own x9)) x9 (.ins (cLf K) d9 [])) x9 (.ins (cLf K) d9 (lfFs xb nv (x.leaf.ref + 1))) x9 = some (.ins (cLf K) d9 (lfFs xb nv (x.leaf.ref + 1))) := upd_same
        have tn4 := tn8.same ms
        generalize L2.upd (L2.upd (L2.upd H3 d9 (.own x9)) x9 (.ins (cLf K) d9 [])) x9 (.ins (cLf K) d9 (lfFs xb nv (x.leaf.ref + 1))) = H4 at *
        have ha4 := s34 _ _ ha3
        have lf9 : LfR K H4 (.ref x9) ⟨(hearF x.R x.leaf.sd n).2, x.leaf.nums, (x.leaf.ref + 1)⟩ := ⟨x9, d9, xb, _, rfl, hx4, tb3.same s34, tn4⟩
        have nf' : ∀ q, ¬ fzO K (.ins (kd.C K) dx (ixFs r q p2 w x.busy x.mo)) := fun q z => z.elim (Gk.neL kd).1 (Gk.neL kd).2.1
        have fz45 : Fz K H4 (L2.upd H4 a (.ins (kd.C K) dx (ixFs r x9 p2 w x.busy x.mo))) := .own ha4 (nf' _)
        have fz05 := fz03.trans ((Fz.of (K := K) s34).trans fz45)
        have fz35 := (Fz.of (K := K) s34).trans fz45
        walk_at "w"
        rw [put_leaf]
        walk_at "w"
        refine k' _ (ka03.trans ((Ka.of s34).trans .own)) ?_
        exact ⟨⟨dx, r, x9, p2, w, _, upd_same, hru.fz fz05, LfR.fz lf9 fz45, fz35.tp hp3, hps3.fz fz35, hw.mono fz05.tupK⟩, ix.mo, hst2, pst2⟩
end
end K8
set_option maxHeartbeats 4000000
namespace K8
open PySem PySem.Spec PyProof.Rows L2
set_option hygiene false in
local macro_rules | `(tactic| walk_at "w") => `(tactic| (repeat (first | refine ⟨_, rfl, ?_⟩ | refine ⟨_, _, rfl, rfl, ?_⟩ | refine ⟨rfl, ?_⟩ | refine ⟨_, _, rfl, ?_⟩ | refine ⟨_, _, rfl, .of upd_same, rfl, ?_⟩ | refine ⟨_, _, rfl, .of (by assumption), rfl, ?_⟩ | refine ⟨_, _, rfl, .of (by assumption), fun q hq => ?_⟩ | refine ⟨_, _, rfl, .of (by assumption), ?_⟩ | refine ⟨_, _, rfl, .inr (.of (by assumption)), ?_⟩ | refine ⟨_, _, rfl, .inl (.of (by assumption)), ?_⟩ | refine ⟨_, _, _, _, rfl, rfl, .of (by assumption), atI_nat (j := 0) rfl, ?_⟩ | refine ⟨_, _, _, _, rfl, rfl, .of (by assumption), atI_nat (j := 1) rfl, ?_⟩ | refine ⟨_, _, _, _, rfl, rfl, .of (by assumption), atI_nat (j := 2) rfl, ?_⟩ | refine ⟨fun z => absurd z.1 (show ¬ (1 : Nat) = 0 by decide), fun _ q hq => ?_⟩ | refine ⟨fun z => absurd z.1 (show ¬ (2 : Nat) = 0 by decide), fun _ q hq => ?_⟩ | refine ⟨sz1, fun q hq => ?_⟩ | refine ⟨sz2, fun q hq => ?_⟩ | refine ⟨sz3, fun q hq => ?_⟩ | refine ⟨sz0, fun q hq => ?_⟩ | refine ⟨_, _, _, rfl, rfl, (by assumption), (by assumption), ?_⟩ | refine ⟨.inl ⟨rfl, _, .of (by assumption)⟩, ?_⟩ | refine ⟨_, _, rfl, .inl ⟨.of (by assumption), fun q hq => ?_⟩⟩ | refine ⟨⟨_, .of (by assumption)⟩, ?_⟩ | refine ⟨⟨_, rfl⟩, ?_⟩ | refine ⟨.inl ⟨rfl, _, .of upd_same⟩, ?_⟩ | refine ⟨_, _, _, _, _, rfl, (by assumption), (by assumption), (by assumption), (by rfl), ?_⟩ | refine ⟨_, _, _, _, rfl, upd_same, (by assumption), (by assumption), (by first | exact ixFs_len | exact (show (0 : Nat) < 1000 by decide) | exact (show (1 : Nat) < 1000 by decide) | exact (show (2 : Nat) < 1000 by decide) | exact (show (3 : Nat) < 1000 by decide) | exact (show (4 : Nat) < 1000 by decide) | exact (show (5 : Nat) < 1000 by decide) | exact (show (6 : Nat) < 1000 by decide)), ?_⟩ | refine ⟨_, _, _, _, rfl, (by assumption), (by assumption), (by assumption), (by first | exact ixFs_len | exact (show (0 : Nat) < 1000 by decide) | exact (show (1 : Nat) < 1000 by decide) | exact (show (2 : Nat) < 1000 by decide) | exact (show (3 : Nat) < 1000 by decide) | exact (show (4 : Nat) < 1000 by decide) | exact (show (5 : Nat) < 1000 by decide) | exact (show (6 : Nat) < 1000 by decide)), ?_⟩ | refine ⟨_, _, _, rfl, (by assumption), (by first | rfl | exact ixFs_no (by decide +kernel)), ?_⟩ | refine ⟨_, _, _, rfl, (by assumption), ?_⟩ | refine iteT ?_ | refine iteF ?_)))
/-! ### a tuple of any things == () -/
def rEq0 (K : PySem.W.Frag) : R2 := fun x y H Q => ∃ a b xs, x = .ref a ∧ y = .ref b ∧ SqT K H a xs ∧ SqT K H b [] ∧ Q (.bl xs.isEmpty) H
theorem op_eq0 {X : Cx} (hu : X.A.units < cLine) : OpR X (compareOp .Eq) (rEq0 X.K) := by
  intro pins s σ H x y v u Q I rx ry z
  obtain ⟨a, b, xs, rfl, rfl, ta, tb, q⟩ := z
  cases rx
  cases ry
  obtain ⟨ua, ra, pa, _⟩ := I.tuple ta
  obtain ⟨ub, rb, pb, _⟩ := I.tuple tb
  cases rb
  refine SeqAt.eq_tupleAt (e := fun _ => true) pa pb hu (fun j _ h2 => absurd h2 (Nat.not_lt_zero j)) ⟨.bl xs.isEmpty, H, I, ?_, q⟩
  show Value.bool _ = Value.bool _
  congr 1
  have hl := ra.length
  cases xs with
  | nil =>
    cases ra
    rfl
  | cons y ys =>
    cases ra with
    | cons r1 r2 => simp
section
variable {P : Program} {w : World} {K : PySem.W.Frag} {mg : Str → Option Value} {base : Heap}
/-! ### require_number, __call__, undo -/
def sp_require_number : Sp := fun vs H Q _ => ∃ n : Int, vs = [.int n] ∧ Q .non H
theorem ok_require_number (D : Df K mg "require_number" s_require_number) (G : Gx K mg) (c_is_integer : Cal P w K mg base CX0 1 "is_integer" sp_is_integer) : Cal P w K mg base CX0 2 "require_number" sp_require_number := by
  refine cal0 D sc_require_number (fun _ _ _ _ _ _ us hl => match us, hl with | [_], _ => rfl) (fun vs H Q E h => ?_) (fun f cdv A outer s H vs Q E hr h => ?_)
  · obtain ⟨_, rfl, _⟩ := h
    rfl
  · obtain ⟨n, rfl, k⟩ := h
    refine ⟨_, (pss_one (ps_if (pt_not (pt_val (pe_d c_is_integer hr (by decide) (by rfl) (pa_cons (pv 0) pa_nil)))) (pss_one ps_never) pss_nil)), ?_⟩
    walk_at "w"
    exact k
def hearD (n : Int) (t : Bool) : PyData := .tuple [.str "hear", .int n, .bool t]
def undoD (k : Nat) : PyData := .tuple [.str "undo", .int k]
def callF (kd : Kd) (x : Ix) (n : Int) : Bool × Ix := ((hear1 x n).1, noteF kd (hear1 x n).2 (hearD n (hear1 x n).1))
def sp_call (K : PySem.W.Frag) (kd : Kd) : Sp := fun vs H Q E => ∃ (a : Addr) (x : Ix) (n : Int), vs = [.ref a, .int n] ∧ IxR K kd H a x ∧ x.past.length + 1 ≤ 60 ∧ x.leaf.nums.length ≤ 1000 ∧ x.rows.length ≤ 1000 ∧
  if x.busy = true then E (xBu K) none H else if isOpenF x = true then (∀ H', Ka a H H' → IxR K kd H' a (callF kd x n).2 → Q (.bl (callF kd x n).1) H') else E (xHa K) none H
theorem ok_call (kd : Kd) (D : Md K (kd.C K) "__call__" "Inbox.__call__" s_Inbox_call) (G : Gx K mg) (Gk : Gk K mg) (m_require_idle : Met P w K mg base (L2N.CX P w) 1 (kd.C K) "require_idle" (sp_require_idle K kd)) (m_require_open : Met P w K mg base (L2N.CX P w) 2 (kd.C K) "require_open" (sp_require_open K kd))
    (m_require_room : Met P w K mg base CX0 1 (kd.C K) "require_room" (sp_require_room K kd)) (m_hear_one : Met P w K mg base (L2N.CX P w) 5 (kd.C K) "hear_one" (sp_hear_one K kd)) (m_note : Met P w K mg base CX0 1 (kd.C K) "note" (sp_note K kd)) (c_require_number : Cal P w K mg base CX0 2 "require_number" sp_require_number) :
    Met P w K mg base (L2N.CX P w) 6 (kd.C K) "__call__" (sp_call K kd) := by
  refine metN D sc_Inbox_call (fun _ _ _ _ _ _ us hl => match us, hl with | [_, _], _ => rfl) (fun vs H Q E h => ?_) (fun f cdv A outer s H vs Q E hr h => ?_)
  · obtain ⟨_, _, _, rfl, _⟩ := h
    rfl
  · obtain ⟨a, x, n, rfl, ix, hpl0, hnl0, hrl0, k⟩ := h
    refine ⟨_, (pss_cons (ps_expr (pe_mX0 m_require_idle hr (by decide) (fun σ => atNX σ) (pv 0)))
      (pss_cons (ps_expr (pe_d c_require_number hr (by decide) (by rfl) (pa_cons (pv 1) pa_nil)))
      (pss_cons (ps_expr (pe_mX0 m_require_open hr (by decide) (fun σ => atNX σ) (pv 0)))
      (pss_cons (ps_expr (pe_mX m_require_room hr (by decide) atN (pv 0) (pa_cons pe_int pa_nil)))
      (pss_cons (ps_set (i := 2) sc_Inbox_call.nd rfl (Or.inl rfl) (pe_mX m_hear_one hr (by decide) (fun σ => atNX σ) (pv 0) (pa_cons (pv 1) pa_nil)))
      (pss_cons (ps_expr (pe_mX m_note hr (by decide) atN (pv 0) (pa_cons (pe_tup (pa_cons pe_str (pa_cons (pv 1) (pa_cons (pv 2) pa_nil)))) pa_nil)))
      (pss_one (ps_ret (pv 2))))))))), ?_⟩
    obtain ⟨dx, r, l, p, w, ps, ha, hru, hlf, hp, hps, hw⟩ := ix.ex
    obtain ⟨l', dl, sv, nv, el, hl, hs, hn⟩ := hlf.ex
    cases el
    obtain ⟨n1, n2, n3, n4, n5, n6⟩ := Gk.na kd
    obtain ⟨m1, m2, m3⟩ := Gk.nl
    have hC := Gk.cI kd
    have hL := Gk.lf
    have hpl := hps.len
    walk_at "w"
    refine ⟨a, x, rfl, ix, ?_⟩
    cases hb : x.busy with
    | true =>
      rw [hb] at k
      exact k
    | false =>
      rw [hb] at k
      refine iteF ?_
      have k1 := k
      rw [if_neg (by simp)] at k1
      walk_at "w"
      refine ⟨a, x, rfl, ix, ?_⟩
      cases ho : isOpenF x with
      | false =>
        rw [ho] at k1
        exact k1
      | true =>
        rw [ho] at k1
        refine iteT ?_
        rw [if_pos rfl] at k1
        walk_at "w"
        refine ⟨hpl0, ?_⟩
        walk_at "w"
        refine ⟨by omega, hnl0, ?_⟩
        rw [ho]
        refine iteT fun H1 ka1 ix1 => ?_
        obtain ⟨dx1, r1, l1, p1, w1, ps1, ha1, _⟩ := ix1.ex
        walk_at "w"
        refine ⟨a, _, _, hearD n (hear1 x n).1, rfl, ix1.same (.new (by assumption)), .of3 upd_same (.str _) (.int _) (.bl _), hrl0, fun H2 ka2 ix2 => ?_⟩
        walk_at "w"
        exact k1 _ ((ka1.trans (.of (.new (by assumption)))).trans ka2) ix2
theorem sIx_m1 {α : Type} (xs : List α) (x : α) : HT.sIx (xs ++ [x]).length (xs ++ [x]).length (some (-1)) = xs.length := by
  show (if (-1 : Int) < 0 then ((-1 : Int) + ((xs ++ [x]).length : Int)).toNat else min (-1 : Int).toNat (xs ++ [x]).length) = _
  rw [if_pos (by decide)]
  simp
  omega
theorem cutV_init (xs : List V) (x : V) : cutV (xs ++ [x]) none (some (-1)) = xs := cutP_init xs x
theorem Lfs.unsnoc {H : Hp} {xs : List V} {ls : List Lf} {l : Lf} (h : Lfs K H xs (ls ++ [l])) : ∃ ys v, xs = ys ++ [v] ∧ Lfs K H ys ls ∧ LfR K H v l := by
  rcases List.eq_nil_or_concat xs with e | ⟨ys, v, e⟩
  · rw [e] at h
    have := h.len
    simp at this
  · rw [List.concat_eq_append] at e
    subst e
    have hl : ys.length = ls.length := by
      have := h.len
      simp at this
      exact this
    refine ⟨ys, v, rfl, ⟨hl, fun i x m a b => h.all i x m ?_ ?_⟩, h.all ys.length v l (by simp) (by rw [hl]; simp)⟩
    · rw [List.getElem?_append_left (List.getElem?_eq_some_iff.mp a).1]; exact a
    · rw [List.getElem?_append_left (List.getElem?_eq_some_iff.mp b).1]; exact b
def undoF (kd : Kd) (x : Ix) (l : Lf) (ls : List Lf) : Ix := noteF kd { x with past := ls, leaf := l } (undoD ls.length)
def sp_undo (K : PySem.W.Frag) (kd : Kd) : Sp := fun vs H Q E => ∃ (a : Addr) (x : Ix), vs = [.ref a] ∧ IxR K kd H a x ∧ x.past.length ≤ 1000 ∧ x.rows.length ≤ 1000 ∧
  if x.busy = true then E (xBu K) none H else (x.past = [] → ∀ H', Same H H' → E (xNu K) none H') ∧ ∀ ls l, x.past = ls ++ [l] → ∀ H', Ka a H H' → IxR K kd H' a (undoF kd x l ls) → Q (.int ls.length) H'
theorem ok_undo (kd : Kd) (D : Md K (kd.C K) "undo" "Inbox.undo" s_Inbox_undo) (G : Gx K mg) (Gk : Gk K mg) (m_require_idle : Met P w K mg base (L2N.CX P w) 1 (kd.C K) "require_idle" (sp_require_idle K kd)) (m_note : Met P w K mg base CX0 1 (kd.C K) "note" (sp_note K kd)) (x_NothingToUndo : ExcN K mg "NothingToUndo") :
    Met P w K mg base (L2N.CX P w) 2 (kd.C K) "undo" (sp_undo K kd) := by
  refine metN D sc_Inbox_undo (fun _ _ _ _ _ _ us hl => match us, hl with | [_], _ => rfl) (fun vs H Q E h => ?_) (fun f cdv A outer s H vs Q E hr h => ?_)
  · obtain ⟨_, _, rfl, _⟩ := h
    rfl
  · obtain ⟨a, x, rfl, ix, hpl0, hrl0, k⟩ := h
    refine ⟨_, (pss_cons (ps_expr (pe_mX0 m_require_idle hr (by decide) (fun σ => atNX σ) (pv 0)))
      (pss_cons (ps_if (pt_cmpR (op_eq0 hr.units0) (pe_fld (pv 0) rfl) (pe_tup pa_nil) (nomark _)) (pss_one (ps_r0N x_NothingToUndo (by rfl) rfl (L2N.takes_of rfl rfl rfl rfl))) pss_nil)
      (pss_cons (ps_fld (pv 0) (pe_ix ix_tup (pe_fld (pv 0) rfl) (pe_un un_neg pe_int) (fun _ _ => rfl)) rfl)
      (pss_cons (ps_fld (pv 0) (pe_slice sl_tupA (pe_fld (pv 0) rfl) po_none (po_some (pe_un un_neg pe_int))) rfl)
      (pss_cons (ps_expr (pe_mX m_note hr (by decide) atN (pv 0) (pa_cons (pe_tup (pa_cons pe_str (pa_cons (pe_callB call_len_seq (by rfl) G.len (by decide +kernel) (pa_cons (pe_fld (pv 0) rfl) pa_nil)) pa_nil))) pa_nil)))
      (pss_one (ps_ret (pe_callB call_len_seq (by rfl) G.len (by decide +kernel) (pa_cons (pe_fld (pv 0) rfl) pa_nil))))))))), ?_⟩
    obtain ⟨dx, r, l, p, w, ps, ha, hru, hlf, hp, hps, hw⟩ := ix.ex
    obtain ⟨l', dl, sv, nv, el, hl, hs, hn⟩ := hlf.ex
    cases el
    obtain ⟨n1, n2, n3, n4, n5, n6⟩ := Gk.na kd
    obtain ⟨m1, m2, m3⟩ := Gk.nl
    have hC := Gk.cI kd
    have hL := Gk.lf
    have hpl := hps.len
    walk_at "w"
    refine ⟨a, x, rfl, ix, ?_⟩
    cases hb : x.busy with
    | true =>
      rw [hb] at k
      exact k
    | false =>
      rw [hb] at k
      refine iteF ?_
      rw [if_neg (by simp)] at k
      obtain ⟨k0, k1⟩ := k
      walk_at "w"
      have s1 : Same H (L2.upd H q (.tup [])) := .new hq
      refine ⟨_, _, ps, rfl, rfl, .of (s1 _ _ hp), .of upd_same, ?_⟩
      rcases List.eq_nil_or_concat x.past with e | ⟨ls, lf, e⟩
      · rw [e] at hps
        have : ps = [] := List.eq_nil_of_length_eq_zero hps.len
        subst this
        walk_at "w"
        exact k0 e _ s1
      · rw [List.concat_eq_append] at e
        rw [e] at hps hpl
        obtain ⟨ps', v, rfl, hps', hv⟩ := hps.unsnoc
        have he : (ps' ++ [v]).isEmpty = false := by simp
        rw [he]
        have k2 := k1 ls lf e
        have hpl2 := hps'.len
        obtain ⟨vl, vdx, vs_, vn, rfl, hvl, hvs, hvn⟩ := hv.ex
        have ha1 := s1 _ _ ha
        have hp1 := s1 _ _ hp
        have pst : ∀ l ∈ ls ++ [lf], l.sd.st < x.R.length := by rw [← e]; exact ix.pst
        generalize L2.upd H q (.tup []) = H1 at *
        walk_at "w"
        refine ⟨_, _, _, _, rfl, rfl, .of hp1, atI_last _ _, ?_⟩
        walk_at "w"
        rw [put_leaf]
        have nf : ∀ l p b, ¬ fzO K (.ins (kd.C K) dx (ixFs r l p w b x.mo)) := fun l p b z => z.elim (Gk.neL kd).1 (Gk.neL kd).2.1
        have fz12 : Fz K H1 (L2.upd H1 a (.ins (kd.C K) dx (ixFs r vl p w x.busy x.mo))) := .own ha1 (nf _ _ _)
        have ka12 : Ka a H1 (L2.upd H1 a (.ins (kd.C K) dx (ixFs r vl p w x.busy x.mo))) := .own
        have ha2 : L2.upd H1 a (.ins (kd.C K) dx (ixFs r vl p w x.busy x.mo)) a = some (.ins (kd.C K) dx (ixFs r vl p w x.busy x.mo)) := upd_same
        generalize L2.upd H1 a (.ins (kd.C K) dx (ixFs r vl p w x.busy x.mo)) = H2 at *
        have hp2 := fz12.tp hp1
        walk_at "w"
        refine ⟨fun z => absurd z.2 (by rw [sIx_m1, List.length_append]; show ¬ (ps'.length = ps'.length + 1); omega), fun _ p3 hp3 => ?_⟩
        rw [cutV_init]
        have s23 : Same H2 (L2.upd H2 p3 (.tup ps')) := .new hp3
        have ha3 := s23 _ _ ha2
        have hp33 : L2.upd H2 p3 (.tup ps') p3 = some (.tup ps') := upd_same
        generalize L2.upd H2 p3 (.tup ps') = H3 at *
        walk_at "w"
        rw [put_past]
        have fz34 : Fz K H3 (L2.upd H3 a (.ins (kd.C K) dx (ixFs r vl p3 w x.busy x.mo))) := .own ha3 (nf _ _ _)
        have ka34 : Ka a H3 (L2.upd H3 a (.ins (kd.C K) dx (ixFs r vl p3 w x.busy x.mo))) := .own
        have ha4 : L2.upd H3 a (.ins (kd.C K) dx (ixFs r vl p3 w x.busy x.mo)) a = some (.ins (kd.C K) dx (ixFs r vl p3 w x.busy x.mo)) := upd_same
        generalize L2.upd H3 a (.ins (kd.C K) dx (ixFs r vl p3 w x.busy x.mo)) = H4 at *
        have hp4 := fz34.tp hp33
        have fz14 := fz12.trans ((Fz.of (K := K) s23).trans fz34)
        have fz04 := (Fz.of (K := K) s1).trans fz14
        have ka04 : Ka a H H4 := (Ka.of s1).trans (ka12.trans ((Ka.of s23).trans ka34))
        have ix4 : IxR K kd H4 a { x with past := ls, leaf := lf } := ⟨⟨dx, r, vl, p3, w, ps', ha4, hru.fz fz04, LfR.fz hv fz04, hp4, hps'.fz fz04, hw.mono fz04.tupK⟩, ix.mo, pst _ (by simp), fun l hl => pst l (List.mem_append_left _ hl)⟩
        walk_at "w"
        refine ⟨a, _, _, undoD ls.length, rfl, ix4.same (.new (by assumption)), .of2 upd_same (.str _) (by rw [hpl2]; exact .int _), hrl0, fun H5 ka5 ix5 => ?_⟩
        obtain ⟨dx5, r5, l5, p5, w5, ps5, ha5, _, _, hp5, hps5, _⟩ := ix5.ex
        have e5 : (undoF kd x lf ls).past = ls := by unfold undoF noteF; split <;> rfl
        have hl5 := hps5.len
        walk_at "w"
        have e6 : ps5.length = ls.length := hl5.trans (congrArg List.length e5)
        show Q (.int ps5.length) _
        rw [e6]
        exact k2 _ ((ka04.trans (.of (.new (by assumption)))).trans ka5) ix5
end
end K8
set_option maxHeartbeats 4000000
namespace K8
open PySem PySem.Spec PyProof.Rows L2
set_option hygiene false in
local macro_rules | `(tactic| walk_at "w") => `(tactic| (repeat (first | refine ⟨_, rfl, ?_⟩ | refine ⟨_, _, rfl, rfl, ?_⟩ | refine ⟨rfl, ?_⟩ | refine ⟨_, _, rfl, ?_⟩ | refine ⟨_, _, rfl, .of upd_same, rfl, ?_⟩ | refine ⟨_, _, rfl, .of (by assumption), rfl, ?_⟩ | refine ⟨_, _, rfl, .of (by assumption), fun q hq => ?_⟩ | refine ⟨_, _, rfl, .of (by assumption), ?_⟩ | refine ⟨_, _, rfl, .inr (.of (by assumption)), ?_⟩ | refine ⟨_, _, rfl, .inl (.of (by assumption)), ?_⟩ | refine ⟨_, _, _, _, rfl, rfl, .of (by assumption), atI_nat (j := 0) rfl, ?_⟩ | refine ⟨_, _, _, _, rfl, rfl, .of (by assumption), atI_nat (j := 1) rfl, ?_⟩ | refine ⟨_, _, _, _, rfl, rfl, .of (by assumption), atI_nat (j := 2) rfl, ?_⟩ | refine ⟨fun z => absurd z.1 (show ¬ (1 : Nat) = 0 by decide), fun _ q hq => ?_⟩ | refine ⟨fun z => absurd z.1 (show ¬ (2 : Nat) = 0 by decide), fun _ q hq => ?_⟩ | refine ⟨sz1, fun q hq => ?_⟩ | refine ⟨sz2, fun q hq => ?_⟩ | refine ⟨sz3, fun q hq => ?_⟩ | refine ⟨sz0, fun q hq => ?_⟩ | refine ⟨_, _, _, rfl, rfl, (by assumption), (by assumption), ?_⟩ | refine ⟨.inl ⟨rfl, _, .of (by assumption)⟩, ?_⟩ | refine ⟨_, _, rfl, .inl ⟨.of (by assumption), fun q hq => ?_⟩⟩ | refine ⟨⟨_, .of (by assumption)⟩, ?_⟩ | refine ⟨⟨_, rfl⟩, ?_⟩ | refine ⟨.inl ⟨rfl, _, .of upd_same⟩, ?_⟩ | refine ⟨_, _, _, _, _, rfl, (by assumption), (by assumption), (by assumption), (by rfl), ?_⟩ | refine ⟨_, _, _, _, rfl, upd_same, (by assumption), (by assumption), (by first | exact ixFs_len | exact (show (0 : Nat) < 1000 by decide) | exact (show (1 : Nat) < 1000 by decide) | exact (show (2 : Nat) < 1000 by decide) | exact (show (3 : Nat) < 1000 by decide) | exact (show (4 : Nat) < 1000 by decide) | exact (show (5 : Nat) < 1000 by decide) | exact (show (6 : Nat) < 1000 by decide)), ?_⟩ | refine ⟨_, _, _, _, rfl, (by assumption), (by assumption), (by assumption), (by first | exact ixFs_len | exact (show (0 : Nat) < 1000 by decide) | exact (show (1 : Nat) < 1000 by decide) | exact (show (2 : Nat) < 1000 by decide) | exact (show (3 : Nat) < 1000 by decide) | exact (show (4 : Nat) < 1000 by decide) | exact (show (5 : Nat) < 1000 by decide) | exact (show (6 : Nat) < 1000 by decide)), ?_⟩ | refine ⟨_, _, _, rfl, (by assumption), (by first | rfl | exact ixFs_no (by decide +kernel)), ?_⟩ | refine ⟨_, _, _, rfl, (by assumption), ?_⟩ | refine iteT ?_ | refine iteF ?_)))
section
variable {P : Program} {w : World} {K : PySem.W.Frag} {mg : Str → Option Value} {base : Heap}
/-! ### __contains__, __len__, __str__, restart -/
def wouldF (x : Ix) (n : Int) : Bool := isOpenF x && (hearF x.R x.leaf.sd n).1
def sp_contains (K : PySem.W.Frag) (kd : Kd) : Sp := fun vs H Q _ => ∃ (a : Addr) (x : Ix) (n : Int), vs = [.ref a, .int n] ∧ IxR K kd H a x ∧ ∀ H', Same H H' → Q (.bl (wouldF x n)) H'
theorem ok_contains (kd : Kd) (D : Md K (kd.C K) "__contains__" "Inbox.__contains__" s_Inbox_contains) (G : Gx K mg) (Gk : Gk K mg) (c_is_integer : Cal P w K mg base CX0 1 "is_integer" sp_is_integer) (m_is_open : Met P w K mg base CX0 1 (kd.C K) "is_open" (sp_is_open K kd))
    (c_hear : Cal P w K mg base CX0 4 "hear" sp_hear) (p_receiver : Prp P w K mg base 1 (cRu K) "receiver" (sp_receiver K)) : Met P w K mg base CX0 5 (kd.C K) "__contains__" (sp_contains K kd) := by
  refine met0 D sc_Inbox_contains (fun _ _ _ _ _ _ us hl => match us, hl with | [_, _], _ => rfl) (fun vs H Q E h => ?_) (fun f cdv A outer s H vs Q E hr h => ?_)
  · obtain ⟨_, _, _, rfl, _⟩ := h
    rfl
  · obtain ⟨a, x, n, rfl, ix, k⟩ := h
    refine ⟨_, (pss_one (ps_ret (pe_and (pe_d c_is_integer hr (by decide) (by rfl) (pa_cons (pv 1) pa_nil)) (pe_and (pe_mX0 m_is_open hr (by decide) atN (pv 0)) (pe_one (pe_ix ix_tup (pe_d c_hear hr (by decide) (by rfl) (pa_cons (pe_p p_receiver hr (by decide) (pe_fld (pv 0) rfl)) (pa_cons (pe_fld (pe_fld (pv 0) rfl) rfl) (pa_cons (pv 1) pa_nil)))) pe_int (fun _ _ => rfl))))))), ?_⟩
    obtain ⟨dx, r, l, p, w, ps, ha, hru, hlf, hp, hps, hw⟩ := ix.ex
    obtain ⟨l', dl, sv, nv, el, hl, hs, hn⟩ := hlf.ex
    cases el
    obtain ⟨n1, n2, n3, n4, n5, n6⟩ := Gk.na kd
    obtain ⟨m1, m2, m3⟩ := Gk.nl
    have hC := Gk.cI kd
    have hL := Gk.lf
    have hpl := hps.len
    obtain ⟨dr, hv, lp, ls, hr1, hhv, hlp, hll⟩ := hru.ex
    walk_at "w"
    refine ⟨a, x, rfl, ix, ?_⟩
    cases ho : isOpenF x with
    | false =>
      have e : wouldF x n = false := by unfold wouldF; rw [ho]; rfl
      rw [e] at k
      walk_at "w"
      exact k _ (.refl _)
    | true =>
      have e : wouldF x n = (hearF x.R x.leaf.sd n).1 := by unfold wouldF; rw [ho]; rfl
      rw [e] at k
      walk_at "w"
      intro v tv
      walk_at "w"
      refine ⟨_, _, x.R, x.leaf.sd, n, rfl, tv, hs, ix.st, fun H1 o s1 t1 => ?_⟩
      obtain ⟨po, xa, xb, rfl, hpo, ta, tb⟩ := t1.tup2
      cases ta.blE
      walk_at "w"
      exact k _ s1
def sp_len (K : PySem.W.Frag) (kd : Kd) : Sp := fun vs H Q _ => ∃ (a : Addr) (x : Ix), vs = [.ref a] ∧ IxR K kd H a x ∧ Q (.int x.leaf.nums.length) H
theorem ok_len (kd : Kd) (D : Md K (kd.C K) "__len__" "Inbox.__len__" s_Inbox_len) (G : Gx K mg) (Gk : Gk K mg) : Met P w K mg base CX0 1 (kd.C K) "__len__" (sp_len K kd) := by
  refine met0 D sc_Inbox_len (fun _ _ _ _ _ _ us hl => match us, hl with | [_], _ => rfl) (fun vs H Q E h => ?_) (fun f cdv A outer s H vs Q E hr h => ?_)
  · obtain ⟨_, _, rfl, _⟩ := h
    rfl
  · obtain ⟨a, x, rfl, ix, k⟩ := h
    refine ⟨_, (pss_one (ps_ret (pe_callB call_len_seq (by rfl) G.len (by decide +kernel) (pa_cons (pe_fld (pe_fld (pv 0) rfl) rfl) pa_nil)))), ?_⟩
    obtain ⟨dx, r, l, p, w, ps, ha, hru, hlf, hp, hps, hw⟩ := ix.ex
    obtain ⟨l', dl, sv, nv, el, hl, hs, hn⟩ := hlf.ex
    cases el
    obtain ⟨n1, n2, n3, n4, n5, n6⟩ := Gk.na kd
    obtain ⟨m1, m2, m3⟩ := Gk.nl
    have hC := Gk.cI kd
    have hL := Gk.lf
    have hpl := hps.len
    obtain ⟨pn, xn, rfl, hpn, txn⟩ := hn.tds
    have e : xn.length = x.leaf.nums.length := by rw [txn.len, List.length_map]
    walk_at "w"
    show Q (.int xn.length) H
    rw [e]
    exact k
def sp_rlen (K : PySem.W.Frag) : Sp := fun vs H Q _ => ∃ (a : Addr) (R : Rec) (nl : Nat), vs = [.ref a] ∧ RuR K H a R nl ∧ Q (.int nl) H
theorem ok_rlen (D : Md K (cRu K) "__len__" "Rules.__len__" s_Rules_len) (G : Gx K mg) (Gk : Gk K mg) : Met P w K mg base CX0 1 (cRu K) "__len__" (sp_rlen K) := by
  refine met0 D sc_Rules_len (fun _ _ _ _ _ _ us hl => match us, hl with | [_], _ => rfl) (fun vs H Q E h => ?_) (fun f cdv A outer s H vs Q E hr h => ?_)
  · obtain ⟨_, _, _, rfl, _⟩ := h
    rfl
  · obtain ⟨a, R, nl, rfl, ru, k⟩ := h
    refine ⟨_, (pss_one (ps_ret (pe_callB call_len_seq (by rfl) G.len (by decide +kernel) (pa_cons (pe_fld (pv 0) rfl) pa_nil)))), ?_⟩
    obtain ⟨dx, hv, lp, ls, ha, hs, hn, hl⟩ := ru.ex
    obtain ⟨n1, n2⟩ := Gk.nr
    have hC := Gk.ru
    walk_at "w"
    show Q (.int ls.length) H
    rw [hl]
    exact k
def strF (x : Ix) : Str := ((((((Str.empty ++ ("last " : Str)) ++ nt x.leaf.sd.last) ++ (", " : Str)) ++ nt x.leaf.nums.length) ++ (" taken, " : Str)) ++ nt x.past.length) ++ (" deeds" : Str)
theorem sN {n : Nat} (h : n ≤ 200) : Sn (n : Int) := ⟨by omega, by omega⟩
theorem app_lt {a b : Str} {m n : Nat} (ha : a.length ≤ m) (hb : b.length ≤ n) (h : m + n ≤ sizeLine := by decide) : (a ++ b).length ≤ sizeLine := Nat.le_trans (app_le ha hb) h
theorem strF_len {x : Ix} (hb : Sn x.leaf.sd.last) (hl : x.leaf.nums.length ≤ 200) (hp : x.past.length ≤ 200) : (strF x).length ≤ 100 := by
  have h1 := (nt_ok hb).1
  have h2 := (nt_ok (sN hl)).1
  have h3 := (nt_ok (sN hp)).1
  have a := app_le (app_le (app_le (app_le (app_le (app_le (app_le (a := Str.empty) (b := ("last " : Str)) (m := 0) (n := 5) (by decide) (by decide)) h1) (b := (", " : Str)) (n := 2) (by decide)) h2) (b := (" taken, " : Str)) (n := 8) (by decide)) h3) (b := (" deeds" : Str)) (n := 6) (by decide)
  exact Nat.le_trans a (by decide)
def sp_str (K : PySem.W.Frag) (kd : Kd) : Sp := fun vs H Q _ => ∃ (a : Addr) (x : Ix), vs = [.ref a] ∧ IxR K kd H a x ∧ Sn x.leaf.sd.last ∧ x.leaf.nums.length ≤ 200 ∧ x.past.length ≤ 200 ∧ Q (.str (strF x)) H
theorem ok_str (kd : Kd) (D : Md K (kd.C K) "__str__" "Inbox.__str__" s_Inbox_str) (G : Gx K mg) (Gk : Gk K mg) : Met P w K mg base CX0 1 (kd.C K) "__str__" (sp_str K kd) := by
  refine met0 D sc_Inbox_str (fun _ _ _ _ _ _ us hl => match us, hl with | [_], _ => rfl) (fun vs H Q E h => ?_) (fun f cdv A outer s H vs Q E hr h => ?_)
  · obtain ⟨_, _, rfl, _⟩ := h
    rfl
  · obtain ⟨a, x, rfl, ix, hbs, hl1, hl2, k⟩ := h
    refine ⟨_, (pss_one (ps_ret (pe_joined (.cons pe_str (.cons (pe_fmt (pe_ix ix_tup (pe_fld (pe_fld (pv 0) rfl) rfl) pe_int (fun _ _ => rfl))) (.cons pe_str (.cons (pe_fmt (pe_callB call_len_seq (by rfl) G.len (by decide +kernel) (pa_cons (pe_fld (pe_fld (pv 0) rfl) rfl) pa_nil))) (.cons pe_str (.cons (pe_fmt (pe_callB call_len_seq (by rfl) G.len (by decide +kernel) (pa_cons (pe_fld (pv 0) rfl) pa_nil))) (.cons pe_str .nil)))))))))), ?_⟩
    obtain ⟨dx, r, l, p, w, ps, ha, hru, hlf, hp, hps, hw⟩ := ix.ex
    obtain ⟨l', dl, sv, nv, el, hl, hs, hn⟩ := hlf.ex
    cases el
    obtain ⟨n1, n2, n3, n4, n5, n6⟩ := Gk.na kd
    obtain ⟨m1, m2, m3⟩ := Gk.nl
    have hC := Gk.cI kd
    have hL := Gk.lf
    have hpl := hps.len
    obtain ⟨pn, xn, rfl, hpn, txn⟩ := hn.tds
    have e : xn.length = x.leaf.nums.length := by rw [txn.len, List.length_map]
    obtain ⟨p3, x3, y3, z3, rfl, hp3, t1, t2, t3⟩ := hs.tup3
    cases t2.intE
    have g1 := (nt_ok hbs).1
    have g2 := (nt_ok (sN hl1)).1
    have g3 := (nt_ok (sN hl2)).1
    have b0 : (Str.empty ++ ("last " : Str)).length ≤ 5 := by decide
    have b1 := app_le b0 g1
    have b2 := app_le b1 (b := (", " : Str)) (n := 2) (by decide)
    have b3 := app_le b2 g2
    have b4 := app_le b3 (b := (" taken, " : Str)) (n := 8) (by decide)
    have b5 := app_le b4 g3
    have b6 := app_le b5 (b := (" deeds" : Str)) (n := 6) (by decide)
    refine ⟨_, rfl, Nat.le_trans b0 (by decide), ?_⟩
    walk_at "w"
    refine .inr ⟨_, rfl, log_ok hbs, ?_⟩
    refine ⟨_, rfl, Nat.le_trans b1 (by decide), ?_⟩
    refine ⟨_, rfl, Nat.le_trans b2 (by decide), ?_⟩
    walk_at "w"
    rw [e]
    refine .inr ⟨_, rfl, log_ok (sN hl1), ?_⟩
    refine ⟨_, rfl, Nat.le_trans b3 (by decide), ?_⟩
    refine ⟨_, rfl, Nat.le_trans b4 (by decide), ?_⟩
    walk_at "w"
    rw [hpl]
    refine .inr ⟨_, rfl, log_ok (sN hl2), ?_⟩
    refine ⟨_, rfl, Nat.le_trans b5 (by decide), ?_⟩
    refine ⟨_, rfl, Nat.le_trans b6 (by decide), ?_⟩
    exact k
def sp_restart (K : PySem.W.Frag) (kd : Kd) : Sp := fun vs H Q E => ∃ (a : Addr) (x : Ix) (n : Int), vs = [.ref a, .int n] ∧ IxR K kd H a x ∧ x.busy = true ∧ E (xBu K) none H
theorem ok_restart (kd : Kd) (D : Md K (kd.C K) "restart" "Inbox.restart" s_Inbox_restart) (G : Gx K mg) (Gk : Gk K mg) (m_require_idle : Met P w K mg base (L2N.CX P w) 1 (kd.C K) "require_idle" (sp_require_idle K kd)) : Met P w K mg base (L2N.CX P w) 2 (kd.C K) "restart" (sp_restart K kd) := by
  refine metN D sc_Inbox_restart (fun _ _ _ _ _ _ us hl => match us, hl with | [_, _], _ => rfl) (fun vs H Q E h => ?_) (fun f cdv A outer s H vs Q E hr h => ?_)
  · obtain ⟨_, _, _, rfl, _⟩ := h
    rfl
  · obtain ⟨a, x, n, rfl, ix, hb, k⟩ := h
    refine ⟨_, pss_cons (ps_expr (pe_mX0 m_require_idle hr (by decide) (fun σ => atNX σ) (pv 0))) pss_never, ?_⟩
    obtain ⟨dx, r, l, p, w, ps, ha, hru, hlf, hp, hps, hw⟩ := ix.ex
    obtain ⟨l', dl, sv, nv, el, hl, hs, hn⟩ := hlf.ex
    cases el
    obtain ⟨n1, n2, n3, n4, n5, n6⟩ := Gk.na kd
    obtain ⟨m1, m2, m3⟩ := Gk.nl
    have hC := Gk.cI kd
    have hL := Gk.lf
    have hpl := hps.len
    walk_at "w"
    refine ⟨a, x, rfl, ix, ?_⟩
    rw [hb]
    exact iteT k
end
end K8
set_option maxHeartbeats 4000000
namespace K8
open PySem PySem.Spec PyProof.Rows L2 NdefX
/-! ### an __init__ whose first row is super().__init__(..) -/
/-- the def F at f, its __class__ the class at D; fB: what __init__ behind D is, seen from the class at C -/
structure SupF (P : Program) (K : PySem.W.Frag) (mg : Str → Option Value) (F : NF) (f c D C fB : Addr) : Prop where
  lk : ∃ oc od sl doc pm ctv, K.lookup f = some ⟨oc, od, .func (F.fd doc pm ctv), sl⟩
  cd : PySem.W.codeIn K (.ref F.c) F.qual = true
  file : ∃ occ vs file tf, K.lookup F.c = some occ ∧ occ.data = .fields vs ∧ vs[2]? = some (.str file tf) ∧ ((P.main.file : Str) == file) = true
  cell : ∃ ccl cld csl, K.lookup c = some ⟨ccl, cld, .cell (some (.ref D)), csl⟩
  cl : F.cl = [(("__class__" : Str), c)]
  cls : ∃ cdD, PySem.W.clsIn K D = some cdD
  clC : ∃ cdC, PySem.W.clsIn K C = some cdC ∧ PySem.W.alongIn K "__init__" ((cdC.mro.dropWhile (· != .ref D)).drop 1) = some (some (.ref fB))
  sub : PySem.W.mroIn K C (.ref D) = some true
  top : (P.main.scope.names.lookup ("super" : Str)).isSome = false
  nog : mg "super" = none
  opq : PySem.W.nsIn K cStatics "thirdparty.any" = some none
  fnB : PySem.W.fnIn K fB = true
  tyB : PySem.W.typeIn K (.ref fB) = some (.type "function")
  par : ∃ ar, (F.params.posonlyargs ++ F.params.args).head? = some ar ∧ ar.arg = ("self" : Str)
theorem SupF.cells {P : Program} {w : World} {K : PySem.W.Frag} {mg : Str → Option Value} {base : Heap} {F : NF} {f c D C fB : Addr} {A : Around} {outer : List Env} {s : Shared} {H : Hp} (S : SupF P K mg F f c D C fB) (e0 : Env0 P w K mg base A outer s H) :
    CellsAt F.cl ["__class__"] [some (.ref D)] s.heap H := by
  obtain ⟨ccl, cld, csl, hc⟩ := S.cell
  have hb := e0.bs _ _ (e0.mod.kin _ _ hc)
  have ic : s.heap.IsCell c (some (.ref D)) := ⟨_, hb.1, rfl⟩
  rw [S.cl]
  have look : ∀ y d, ([(("__class__" : Str), c)] : List (Str × Addr)).lookup y = some d → d = c := fun y d h => by
    rw [List.lookup_cons] at h
    split at h
    · exact (Option.some.inj h).symm
    · cases h
  refine ⟨rfl, fun y d h => ?_, fun x y d h1 h2 => ?_, fun i y h => ?_⟩
  · rw [look y d h]
    exact ⟨hb.2, _, ic⟩
  · have key : ∀ z, ([(("__class__" : Str), c)] : List (Str × Addr)).lookup z = some d → z = ("__class__" : Str) := fun z h => by
      rw [List.lookup_cons] at h
      split at h
      · rename_i he
        exact eq_of_beq he
      · cases h
    rw [key x h1, key y h2]
  · match i with
    | 0 =>
      cases h
      exact ⟨c, rfl, fun v hv => by cases hv; exact ⟨.ref D, rfl, ic⟩⟩
theorem fn_super {P : Program} {w : World} {K : PySem.W.Frag} {mg : Str → Option Value} {base : Heap} {F : NF} {f c D fB : Addr} {CC : Addr → Prop} {N ps : List Str} {k : Nat} {sp spB : Sp} {fdB : FuncData} {psB : List Str} {e : Expr} {es : List Expr} {rest : List Stmt} {p0 p1 p2 p3 p4 : Pos}
    (SF : ∀ C, CC C → SupF P K mg F f c D C fB) (hcl : ∀ C, CC C → Cls K C) (S : NScope N ps ["__class__"] F.scope) (len : ∀ vs H Q E, sp vs H Q E → vs.length = ps.length)
    (hself : N[0]? = some ("self" : Str)) (hps : ps[0]? = some ("self" : Str)) (hks : F.scope.names.lookup ("super" : Str) = some .globalImplicit) (hkc : F.scope.names.lookup ("__class__" : Str) = some .free) (hka : F.scope.names.lookup ("self" : Str) = some .local)
    (hb : F.body = .Expr (.Call (.Attribute (.Call (.Name "super" p0) [] [] p1) "__init__" p2) (e :: es) [] p3) p4 :: rest)
    (FB : FnOk P w K mg base CX0 k fB fdB psB spB) (bB : Binds K fdB psB [])
    (hbody : ∀ (A : Around) (outer : List Env) (s : Shared) (H : Hp) (vs : List V) (Q : VK) (E : XK), Room k (A.deeper (envF F f s.heap.objs.size)) → sp vs H Q E → ∃ C, CC C ∧ ∃ (x dx : Addr) (fs : List (Str × V)), vs[0]? = some (.ref x) ∧ H x = some (.ins C dx fs) ∧
      ∃ (ta : TA) (tr : TS), PA (ncx CX0 P w K mg base N F f A outer s H E).nox (e :: es) ta ∧ PSs (ncx CX0 P w K mg base N F f A outer s H E).nox rest tr ∧
        ta (startF N vs [some (.ref D)]) H fun us H1 => spB (.ref x :: us) H1 (fun _ H2 => tr { nx := fun _ H' => Q .non H', rt := Q } (startF N vs [some (.ref D)]) H2) E0)
    {pl : Addr → Sem Bool} (hev : ∀ L, eval (.Call (.Attribute (.Call (.Name "super" p0) [] [] p1) "__init__" p2) (e :: es) [] p3) (envF F f L) = (do
      let ov ← attributeBase (.Call (.Name "super" p0) [] [] p1) "__init__" (envF F f L) (eval (.Call (.Name "super" p0) [] [] p1) (envF F f L))
      standAt p2.atName
      let (g, first) ← holding [ov] (getMethod ov "__init__" (pl L))
      callWith p3 g first (backTo p3 (starEach (e :: es) (envF F f L))) []))
    (hst : ∀ L, starEach (e :: es) (envF F f L) = (false, eval e (envF F f L)) :: starEach es (envF F f L)) (hpl : ∀ L, (backTo p3 (starEach es (envF F f L))).any (·.1) = false)
    (hin : ∀ L, interactive (envF F f L) = false) (hsw : ∀ L, swapsWith (.Call (.Attribute (.Call (.Name "super" p0) [] [] p1) "__init__" p2) (e :: es) [] p3) none p4.line (envF F f L) = pure false)
    (hbb : ∀ (doc pm ctv : Value) (us : List Value), us.length = ps.length → bindArgs (F.fd doc pm ctv) ⟨us, []⟩ = pure (ps.zip us)) :
    ∀ C, CC C → ∃ fd, FnOk P w K mg base CX0 (k + 1) f fd ps sp ∧ Binds K fd ps [] := by
  intro C0 hC0
  obtain ⟨oc, od, sl, doc, pm, ctv, lk⟩ := (SF C0 hC0).lk
  refine ⟨F.fd doc pm ctv, ⟨len, fun A outer s H args us vs Q E hr e0 hbd r hsp => ?_⟩, .all (hbb doc pm ctv)⟩
  have KX : K.In s.heap := e0.mod.kin.keeps fun b o z => (e0.bs b o z).1
  have lim : s.heap.NoLimit := e0.mod.nolimit.keeps fun b o z => (e0.bs b o z).1
  refine codeAny_call_function hr.depth (KX _ _ lk) rfl S.co S.gen rfl (PySem.W.codeRec_of KX (SF C0 hC0).cd) (hbd _ _ _ _ ?_)
  refine wpAny_newFunctionEnv S.nocell (fun ⟨n, _⟩ hy => S.par n (List.of_mem_zip hy).1) (fun h1 hns hsb => ⟨lim.fresh _ hsb, ?_⟩) S.kind
  show codeAny _ _ (.func F.body (envF F f s.heap.objs.size)) _ _
  have kp : ∀ b o, s.heap.get? b = some o → h1.get? b = some o := fun b o z => hsb.extBut b o (Nat.ne_of_lt (Heap.lt_size z)) (Heap.get?_push_of_some _ z)
  obtain ⟨C, hC, x, dx, fs, hv0, hx, ta, tr, pa, pss, q⟩ := hbody A outer s H vs Q E (hr.deeper _) hsp
  have T := SF C hC
  have cells := T.cells e0
  have hlen := len _ _ _ _ hsp
  have I0 : Inv (ncx CX0 P w K mg base N F f A outer s H E) [] (startF N vs [some (.ref D)]) H { s with heap := h1, toks := s.toks + (ps.zip us).length } := inv_startN S hr.hd e0 hlen r cells hns kp
  have I := I0.wish (fun _ _ => False)
  rw [hb]
  refine PySem.ks_codeAny_funcAt ?_
  obtain ⟨ar, har, har2⟩ := T.par
  obtain ⟨occ, vsc, file, tf, hcode, hcdata, hvs2, hfile⟩ := T.file
  obtain ⟨cdD, hcdD⟩ := T.cls
  obtain ⟨cdC, hcdC, hal⟩ := T.clC
  obtain ⟨ccl, cld, csl, hcell⟩ := T.cell
  have up1 : ∀ b o, K.lookup b = some o → h1.get? b = some o := fun b o z => kp _ _ (KX _ _ z)
  have hvx : vs[0]? = some (.ref x) := hv0
  refine PySem.ks_wpAt_execs_cons (PySem.ks_wpAt_Expr_any (PySem.ks_wpAt_MethodCall (pl := pl s.heap.objs.size) ?_ (hev _)) (hin _) (hsw _))
  refine PySem.ks_wpAt_super_base hks hkc (by decide) rfl (up1 _ _ lk) rfl har rfl (up1 _ _ hcode) hcdata hvs2 hfile T.top ?_
  have X1 : K.In h1 := KX.keeps kp
  have ox := ins_get I.hok hx
  obtain ⟨mA, O, _⟩ := ox
  obtain ⟨od2, J, _⟩ := O.look
  have bk : ∀ b o, base.get? b = some o → h1.get? b = some o := fun b o z => kp _ _ (e0.bs b o z).1
  obtain ⟨mb, hmb1, hmb2⟩ := e0.mod.blt
  have hboot : bootBuiltins "super" = some (.type "super") := by decide +kernel
  have hm : (ps.zip us).reverse.lookup ar.arg = some (.ref x) := by
    rw [har2]
    obtain ⟨u0, hu0, ru0⟩ := r.get hvx
    cases ru0
    have nd : ps.Nodup := by
      have z := S.nd.sublist (List.take_sublist (ps.length + 1) N)
      rw [show ps.length + 1 = ps.length + (["__class__"] : List Str).length from rfl, S.pre] at z
      exact (List.nodup_append.mp z).1
    exact zip_look nd hps hu0
  refine PySem.W.ks_loadName_global S.kind hks (Calls.loadGlobal_builtin (e0.mod.glob.keeps bk) T.nog (hmb1.keeps bk) ((hmb2 _ (by decide)).trans hboot) ⟨rfl, ?_⟩)
  refine wpAny_loadName_free S.kind hkc (c := c) (by show F.cl.lookup _ = _; rw [T.cl]; rfl) ⟨_, up1 _ _ hcell, rfl⟩ ?_
  refine wpAny_loadName_local S.kind (by rw [har2]; exact hka) hns hm ?_
  obtain ⟨oD, hD1, hD2⟩ : ∃ oD, h1.get? D = some oD ∧ oD.data = .cls cdD := by
    unfold PySem.W.clsIn at hcdD
    split at hcdD
    · rename_i ho
      cases hcdD
      exact ⟨_, up1 _ _ ho, rfl⟩
    · cases hcdD
  refine PySem.ks_wpAny_isType_cls hD1 hD2 ⟨rfl, ?_⟩
  refine PySem.ks_wpAny_call_super hD1 hD2 J.at_ J.cls (fun cc z => ?_) (PySem.W.looks_mroIn X1 T.sub) (fun h2 hso k2 => ?_)
  · have no := J.no
    unfold PySem.W.notCls at no
    rw [z] at no
    exact Bool.noConfusion no
  have X2 : K.In h2 := X1.keeps k2
  obtain ⟨oB, hoB, hoBc⟩ : ∃ oB, h2.get? fB = some oB ∧ oB.cls = .type "function" := by
    have ht : (K.lookup fB).map (·.cls) = some (.type "function") := T.tyB
    cases z : K.lookup fB with
    | none => rw [z] at ht; cases ht
    | some o => rw [z] at ht; exact ⟨o, X2 _ _ z, Option.some.inj ht⟩
  refine PySem.ks_wpAny_getMethod_super (l₀ := cdC.mro) hso (PySem.W.looks_opaque X2 T.opq) (fun A' Q' E' s' kk qq => wpAny_bind ((PySem.W.looks_clsIn X2 hcdC) A' _ E' s' kk (wpAny_pure qq))) rfl X2 hal hoB hoBc (PySem.W.ks_ne X1 J hcdC) (by decide) ?_
  have up2 : ∀ b o, h1.get? b = some o → (h2.push { cls := .type "method", data := .fields #[.ref fB, .ref x] }).get? b = some o := fun b o z => Heap.get?_push_of_some _ (k2 b o z)
  have I2 : Inv (ncx CX0 P w K mg base N F f A outer s H E).nox [] (startF N vs [some (.ref D)]) H { heap := h2.push { cls := .type "method", data := .fields #[.ref fB, .ref x] }, gens := s.gens, drawn := s.drawn, toks := s.toks + (ps.zip us).length + 1, os := s.os } := I.kept (t' := s.toks + (ps.zip us).length + 1) up2
  have hq : (h2.push { cls := .type "method", data := .fields #[.ref fB, .ref x] }).get? h2.objs.size = some (PySem.W.methodObj (.ref fB) (.ref x)) := Heap.get?_push_size _ rfl
  have Im : Inv (ncx CX0 P w K mg base N F f A outer s H E).nox [] (startF N vs [some (.ref D)]) H { heap := h2, gens := s.gens, drawn := s.drawn, toks := s.toks + (ps.zip us).length, os := s.os } := I.kept (t' := s.toks + (ps.zip us).length) k2
  have I3 : Inv (ncx CX0 P w K mg base N F f A outer s H E).nox [(h2.objs.size, PySem.W.methodObj (.ref fB) (.ref x))] (startF N vs [some (.ref D)]) H { heap := h2.push { cls := .type "method", data := .fields #[.ref fB, .ref x] }, gens := s.gens, drawn := s.drawn, toks := s.toks + (ps.zip us).length + 1, os := s.os } := I2.pins_of fun p hp => by
    rw [List.mem_singleton.mp hp]
    exact ⟨hq, Im.hok.fresh (Nat.le_refl _), fun z => Nat.lt_irrefl _ (by have := Im.lt; rw [← z] at this; exact this), Im.nofs (Nat.le_refl _), fun v z => nomatch z⟩
  have hplain : ((backTo p3 (starEach (e :: es) (envF F f s.heap.objs.size))).any (·.1) || ([] : List (Option Str × Sem Value)).any (·.1.isNone)) = false := by
    rw [hst]
    show ((false || (backTo p3 (starEach es (envF F f s.heap.objs.size))).any (·.1)) || false) = false
    rw [hpl]
    rfl
  refine PySem.W.callWith_of (P := PySem.W.MethP K h2.objs.size fB (.ref x)) hplain (PySem.W.keeps_M T.fnB) ?_
  rw [hst]
  refine PySem.Calls.evalArgs_plain ?_
  show wpAny _ _ (spliced (backTo p3 ((false, eval e (envF F f s.heap.objs.size)) :: starEach es (envF F f s.heap.objs.size)))) _ _ _
  rw [← hst]
  refine wpAny_mono (pa.run p3 _ _ _ _ _ I3 q) (fun us2 s2 z => ?_) fun _ _ z => z.elim
  obtain ⟨vs2, H2, J2, r2, q2⟩ := z
  have hq2 := (J2.pin _ (List.mem_append_right _ List.mem_cons_self)).1
  refine ⟨⟨hq2, J2.kIn⟩, ?_⟩
  have hl2 : (Value.ref x :: us2).length = psB.length := by
    have z := FB.len _ _ _ _ q2
    rw [← z]
    show us2.length + 1 = vs2.length + 1
    rw [r2.length]
  have bb := bB s2 (Value.ref x :: us2) J2.kIn (by rw [List.append_nil]; exact hl2)
  rw [List.append_nil] at bb
  refine wpAny_call (codeAny_mono (PySem.ks_codeAny_call_bound hq2 (FB.run _ _ s2 H2 ⟨Value.ref x :: us2, []⟩ (Value.ref x :: us2) (V.ref x :: vs2) _ E0 (hr.deeper _) J2.env0 bb (.cons rfl r2) q2)) fun rr s3 z => ?_)
  cases rr with
  | error ee => exact z.elim
  | ok fl =>
    cases fl with
    | next => exact z.elim
    | brk => exact z.elim
    | cont => exact z.elim
    | ret uu =>
      obtain ⟨v3, H3, J3, r3, q3⟩ := J2.after z
      refine PySem.wpAt_of_wpAny (wpAny_mono (pss.run _ s3 _ H3 _ J3 q3) (fun fl2 s4 z4 => ?_) fun _ _ z => z.elim)
      cases fl2 with
      | ret u4 =>
        obtain ⟨v4, σ4, H4, J4, r4, q4⟩ := z4
        exact ⟨v4, H4, J4.os, J4.bare, J4.base, J4.hok, r4, q4⟩
      | next =>
        obtain ⟨σ4, H4, J4, q4⟩ := z4
        exact ⟨.non, H4, J4.os, J4.bare, J4.base, J4.hok, rfl, q4⟩
      | brk =>
        obtain ⟨_, _, _, q4⟩ := z4
        exact q4.elim
      | cont =>
        obtain ⟨_, _, _, q4⟩ := z4
        exact q4.elim
end K8
set_option maxHeartbeats 4000000
namespace K8
open PySem PySem.Spec PyProof.Rows L2
set_option hygiene false in
local macro_rules | `(tactic| walk_at "w") => `(tactic| (repeat (first | refine ⟨_, rfl, ?_⟩ | refine ⟨_, _, rfl, rfl, ?_⟩ | refine ⟨rfl, ?_⟩ | refine ⟨_, _, rfl, ?_⟩ | refine ⟨_, _, rfl, .of upd_same, rfl, ?_⟩ | refine ⟨_, _, rfl, .of (by assumption), rfl, ?_⟩ | refine ⟨_, _, rfl, .of (by assumption), fun q hq => ?_⟩ | refine ⟨_, _, rfl, .of (by assumption), ?_⟩ | refine ⟨_, _, rfl, .inr (.of (by assumption)), ?_⟩ | refine ⟨_, _, rfl, .inl (.of (by assumption)), ?_⟩ | refine ⟨_, _, _, _, rfl, rfl, .of (by assumption), atI_nat (j := 0) rfl, ?_⟩ | refine ⟨_, _, _, _, rfl, rfl, .of (by assumption), atI_nat (j := 1) rfl, ?_⟩ | refine ⟨_, _, _, _, rfl, rfl, .of (by assumption), atI_nat (j := 2) rfl, ?_⟩ | refine ⟨fun z => absurd z.1 (show ¬ (1 : Nat) = 0 by decide), fun _ q hq => ?_⟩ | refine ⟨fun z => absurd z.1 (show ¬ (2 : Nat) = 0 by decide), fun _ q hq => ?_⟩ | refine ⟨sz1, fun q hq => ?_⟩ | refine ⟨sz2, fun q hq => ?_⟩ | refine ⟨sz3, fun q hq => ?_⟩ | refine ⟨sz0, fun q hq => ?_⟩ | refine ⟨_, _, _, rfl, rfl, (by assumption), (by assumption), ?_⟩ | refine ⟨.inl ⟨rfl, _, .of (by assumption)⟩, ?_⟩ | refine ⟨_, _, rfl, .inl ⟨.of (by assumption), fun q hq => ?_⟩⟩ | refine ⟨⟨_, .of (by assumption)⟩, ?_⟩ | refine ⟨⟨_, rfl⟩, ?_⟩ | refine ⟨.inl ⟨rfl, _, .of upd_same⟩, ?_⟩ | refine ⟨_, _, _, _, _, rfl, (by assumption), (by assumption), (by assumption), (by rfl), ?_⟩ | refine ⟨_, _, _, _, rfl, upd_same, (by assumption), (by assumption), (by first | exact ixFs_len | exact (show (0 : Nat) < 1000 by decide) | exact (show (1 : Nat) < 1000 by decide) | exact (show (2 : Nat) < 1000 by decide) | exact (show (3 : Nat) < 1000 by decide) | exact (show (4 : Nat) < 1000 by decide) | exact (show (5 : Nat) < 1000 by decide) | exact (show (6 : Nat) < 1000 by decide)), ?_⟩ | refine ⟨_, _, _, _, rfl, (by assumption), (by assumption), (by assumption), (by first | exact ixFs_len | exact (show (0 : Nat) < 1000 by decide) | exact (show (1 : Nat) < 1000 by decide) | exact (show (2 : Nat) < 1000 by decide) | exact (show (3 : Nat) < 1000 by decide) | exact (show (4 : Nat) < 1000 by decide) | exact (show (5 : Nat) < 1000 by decide) | exact (show (6 : Nat) < 1000 by decide)), ?_⟩ | refine ⟨_, _, _, rfl, (by assumption), (by first | rfl | exact ixFs_no (by decide +kernel)), ?_⟩ | refine ⟨_, _, _, rfl, (by assumption), ?_⟩ | refine iteT ?_ | refine iteF ?_)))
section
variable {P : Program} {w : World} {K : PySem.W.Frag} {mg : Str → Option Value} {base : Heap}
/-! ### __init__ of Rules, Inbox, Desk -/
/-- an __init__ at f -/
def Ini (P : Program) (w : World) (K : PySem.W.Frag) (mg : Str → Option Value) (base : Heap) (k : Nat) (f : Addr) (sp : Sp) : Prop := ∃ fd ps, FnOk P w K mg base CX0 k f fd ps sp ∧ Binds K fd ps []
theorem Ini.mkr {k : Nat} {f C : Addr} {x : Str} {sp : Sp} (i : Ini P w K mg base k f sp) (hk : Mk K C f) (hm : mg x = some (.ref C)) : Mkr P w K mg base k x C sp := by
  obtain ⟨fd, ps, F, b⟩ := i
  exact ⟨f, fd, ps, hk, F, hm, b⟩
theorem ini0 {f : Addr} {m qual : Str} {st : Stmt} {N ps : List Str} {k : Nat} {sp : Sp} (D : Fd K f m qual st) (S : FnScope N ps (defScope st)) (b : BindA m qual st ps) (len : ∀ vs H Q E, sp vs H Q E → vs.length = ps.length)
    (hbody : ∀ (f : Addr) (cdv : Value) (A : Around) (outer : List Env) (s : Shared) (H : Hp) (vs : List V) (Q : VK) (E : XK), Room k (A.deeper (envOfC qual (defScope st) s.heap.objs.size f cdv)) → sp vs H Q E →
      ∃ t, PSs (cxOf CX0 P w K mg base N qual (defScope st) f cdv A outer s H E).nox (defBody st) t ∧ t { nx := fun _ H' => Q .non H', rt := Q } (start N vs) H) : Ini P w K mg base (k + 1) f sp := by
  obtain ⟨fd, F⟩ := D
  exact ⟨fd, ps, F.ok S len (hbody f), F.binds b⟩
def sp_Rules (K : PySem.W.Frag) : Sp := fun vs H Q _ => ∃ (a dx : Addr) (v : V) (R : Rec), vs = [.ref a, v] ∧ H a = some (.ins (cRu K) dx []) ∧ Td H v (recD R) ∧ RecOk R ∧ ∀ H' nl, Ka a H H' → RuR K H' a R nl → Q .non H'
theorem ok_Rules {f : Addr} (D : Fd K f "__init__" "Rules.__init__" s_Rules_init) (G : Gx K mg) (Gk : Gk K mg) (c_receiver_error : Cal P w K mg base CX0 6 "receiver_error" sp_receiver_error) (c_form_of : Cal P w K mg base CX0 6 "form_of" sp_form_of) : Ini P w K mg base 7 f (sp_Rules K) := by
  refine ini0 D sc_Rules_init (fun _ _ _ _ _ _ us hl => match us, hl with | [_, _], _ => rfl) (fun vs H Q E h => ?_) (fun f cdv A outer s H vs Q E hr h => ?_)
  · obtain ⟨_, _, _, _, rfl, _⟩ := h
    rfl
  · obtain ⟨a, dx, v, R, rfl, ha, hv, ok, k⟩ := h
    refine ⟨_, (pss_cons (ps_set (i := 2) sc_Rules_init.nd rfl (Or.inl rfl) (pe_d c_receiver_error hr (by decide) (by rfl) (pa_cons (pv 1) pa_nil)))
      (pss_cons (ps_if (pt_cmpR op_notN (pv 2) pe_non (nomark _)) (pss_one ps_never) pss_nil)
      (pss_cons (ps_fld (pv 0) (pv 1) rfl)
      (pss_one (ps_fld (pv 0) (pe_d c_form_of hr (by decide) (by rfl) (pa_cons (pv 1) pa_nil)) rfl))))), ?_⟩
    obtain ⟨n1, n2⟩ := Gk.nr
    have hC := Gk.ru
    walk_at "w"
    refine ⟨_, R, rfl, hv, ok, fun H1 s1 => ?_⟩
    have ha1 := s1 _ _ ha
    walk_at "w"
    have tk1 : TupK H1 (L2.upd H1 a (.ins (cRu K) dx (putF "held" v []))) := TupK.own (.refl _) ha1 fun _ z => by cases z
    refine ⟨_, R, rfl, (hv.same s1).mono tk1, ok, fun H2 p xs s2 hp hl => ?_⟩
    have ha2 := s2 _ _ upd_same
    walk_at "w"
    have nf : ∀ fs, ¬ (fun o : HO => ∃ ys, o = .tup ys) (.ins (cRu K) dx fs) := fun fs ⟨ys, z⟩ => by cases z
    have tk3 : TupK H2 (L2.upd H2 a (.ins (cRu K) dx (putF "least" (.ref p) (putF "held" v [])))) := TupK.own (.refl _) ha2 fun _ z => by cases z
    refine k _ xs.length ((((Ka.of s1).trans .own).trans (.of s2)).trans .own) ⟨⟨dx, v, p, xs, upd_same, (((hv.same s1).mono tk1).same s2).mono tk3, tk3 _ _ hp, rfl⟩, ok, hl⟩
theorem after {H : Hp} {a p : Addr} {u o : HO} (hp : L2.upd H a u p = none) : L2.upd (L2.upd H a u) p o a = some u := (upd_ne (ne_of_none upd_same hp)).trans upd_same
theorem Fz.own2 {H : Hp} {a : Addr} {u o : HO} (n : ¬ fzO K u) : Fz K (L2.upd H a u) (L2.upd (L2.upd H a u) a o) := .own upd_same n
/-- what an inbox is when Inbox.__init__ is done -/
def ixNew (R : Rec) (nl : Nat) (n : Int) (mo : Option Nat) : Ix := ⟨R, nl, ⟨sd0 n, [], 0⟩, [], [], false, mo⟩
def IxE (K : PySem.W.Frag) (kd : Kd) (H : Hp) (a : Addr) (x : Ix) : Prop := ∃ dx r l p w ps, H a = some (.ins (kd.C K) dx (ixFs r l p w x.busy x.mo)) ∧ RuR K H r x.R x.nl ∧ LfR K H (.ref l) x.leaf ∧ H p = some (.tup ps) ∧ Lfs K H ps x.past ∧ Td H (.ref w) (.tuple x.rows)
def sp_Inbox (K : PySem.W.Frag) (kd : Kd) : Sp := fun vs H Q _ => ∃ (a dx r : Addr) (R : Rec) (nl : Nat) (n : Int), vs = [.ref a, .ref r, .int n] ∧ H a = some (.ins (kd.C K) dx []) ∧ RuR K H r R nl ∧ ∀ H', Ka a H H' → IxE K kd H' a (ixNew R nl n none) → Q .non H'
theorem ok_Inbox {f : Addr} (D : Fd K f "__init__" "Inbox.__init__" s_Inbox_init) (G : Gx K mg) (Gk : Gk K mg) (c_require_number : Cal P w K mg base CX0 2 "require_number" sp_require_number) (c_beginning : Cal P w K mg base CX0 1 "beginning" sp_beginning) (k_Leaf : Mkr P w K mg base 1 "Leaf" (cLf K) (sp_Leaf K)) :
    Ini P w K mg base 3 f (fun vs H Q E => ∃ kd, sp_Inbox K kd vs H Q E) := by
  refine ini0 D sc_Inbox_init (fun _ _ _ _ _ _ us hl => match us, hl with | [_, _, _], _ => rfl) (fun vs H Q E h => ?_) (fun f cdv A outer s H vs Q E hr h => ?_)
  · obtain ⟨_, _, _, _, _, _, _, rfl, _⟩ := h
    rfl
  · obtain ⟨kd, a, dx, r, R, nl, n, rfl, ha, hru, k⟩ := h
    refine ⟨_, (pss_cons (ps_expr (pe_d c_require_number hr (by decide) (by rfl) (pa_cons (pv 2) pa_nil)))
      (pss_cons (ps_fld (pv 0) (pv 1) rfl)
      (pss_cons (ps_fld (pv 0) (pe_mk k_Leaf hr (by decide) (by rfl) (pa_cons (pe_d c_beginning hr (by decide) (by rfl) (pa_cons (pv 2) pa_nil)) (pa_cons (pe_tup pa_nil) (pa_cons pe_int pa_nil)))) rfl)
      (pss_cons (ps_fld (pv 0) (pe_tup pa_nil) rfl)
      (pss_cons (ps_fld (pv 0) (pe_tup pa_nil) rfl)
      (pss_one (ps_fld (pv 0) pe_bl rfl))))))), ?_⟩
    obtain ⟨n1, n2, n3, n4, n5, n6⟩ := Gk.na kd
    have hC := Gk.cI kd
    have hL := Gk.lf
    walk_at "w"
    have nf : ∀ fs, ¬ fzO K (.ins (kd.C K) dx fs) := fun fs z => z.elim (Gk.neL kd).1 (Gk.neL kd).2.1
    have fz1 : Fz K H (L2.upd H a (.ins (kd.C K) dx [("own_rules", .ref r)])) := .own ha (nf _)
    have ka1 : Ka a H (L2.upd H a (.ins (kd.C K) dx [("own_rules", .ref r)])) := .own
    have ha1 : L2.upd H a (.ins (kd.C K) dx [("own_rules", .ref r)]) a = some (.ins (kd.C K) dx [("own_rules", .ref r)]) := upd_same
    show ∀ (H' : Hp) (o : V), Same (L2.upd H a (.ins (kd.C K) dx [("own_rules", .ref r)])) H' → _
    generalize L2.upd H a (.ins (kd.C K) dx [("own_rules", .ref r)]) = H1 at *
    intro H2 ov s2 tv
    walk_at "w"
    generalize q = qn at *
    have tn3 : Td (L2.upd H2 qn (.tup [])) (.ref qn) (.tuple (([] : List Int).map .int)) := .of0 upd_same
    have s3 : Same H1 (L2.upd H2 qn (.tup [])) := s2.upd hq
    have tv3 := tv.same (.new (o := .tup []) hq)
    generalize L2.upd H2 qn (.tup []) = H3 at *
    walk_at "w"
    intro x9 d9 hx9 hd9 ne9
    refine ⟨_, _, _, _, _, 0, rfl, upd_same, hL, Gk.naL, rfl, ?_⟩
    have ms := made_same (o := .own x9) (o1 := .ins (cLf K) d9 []) (o2 := .ins (cLf K) d9 (lfFs ov (.ref qn) 0)) hx9 hd9
    have hx4 : L2.upd (L2.upd (L2.upd H3 d9 (.own x9)) x9 (.ins (cLf K) d9 [])) x9 (.ins (cLf K) d9 (lfFs ov (.ref qn) 0)) x9 = some (.ins (cLf K) d9 (lfFs ov (.ref qn) 0)) := upd_same
    have s14 := s3.trans ms
    have tn4 := tn3.same ms
    have tv4 := tv3.same ms
    generalize L2.upd (L2.upd (L2.upd H3 d9 (.own x9)) x9 (.ins (cLf K) d9 [])) x9 (.ins (cLf K) d9 (lfFs ov (.ref qn) 0)) = H4 at *
    have lf4 : LfR K H4 (.ref x9) ⟨sd0 n, [], 0⟩ := ⟨x9, d9, ov, .ref qn, rfl, hx4, tv4, tn4⟩
    have ha4 := s14 _ _ ha1
    walk_at "w"
    generalize q = qp at *
    have hqp := hq
    refine ⟨_, _, _, _, rfl, (upd_ne (ne_of_none upd_same hqp)).trans upd_same, hC, n3, (show (2 : Nat) < 1000 by decide), ?_⟩
    walk_at "w"
    generalize q = qr at *
    have hqr := hq
    refine ⟨_, _, _, _, rfl, (upd_ne (ne_of_none upd_same hqr)).trans upd_same, hC, n4, (show (3 : Nat) < 1000 by decide), ?_⟩
    walk_at "w"
    have fA := Fz.own (K := K) (o := .ins (kd.C K) dx (putF "leaf" (.ref x9) [("own_rules", .ref r)])) ha4 (nf _)
    have fB := fA.trans (.new (o := .tup []) hqp)
    have haB := after (o := .tup []) hqp
    have fC := Fz.own (K := K) (o := .ins (kd.C K) dx (putF "past" (.ref qp) (putF "leaf" (.ref x9) [("own_rules", .ref r)]))) haB (nf _)
    have fD := Fz.new (K := K) (o := .tup []) hqr
    have haD := after (o := .tup []) hqr
    have fE := Fz.own (K := K) (o := .ins (kd.C K) dx (putF "rows" (.ref qr) (putF "past" (.ref qp) (putF "leaf" (.ref x9) [("own_rules", .ref r)])))) haD (nf _)
    have fF := fE.trans (Fz.own2 (o := .ins (kd.C K) dx (putF "is_busy" (.bl false) (putF "rows" (.ref qr) (putF "past" (.ref qp) (putF "leaf" (.ref x9) [("own_rules", .ref r)]))))) (nf _))
    have f4 := (((fB.trans fC).trans fD).trans fF)
    have f0 := (fz1.trans (Fz.of (K := K) s14)).trans f4
    refine k _ (((ka1.trans (Ka.of s14)).trans (((((Ka.own).trans (Ka.of (.new hqp))).trans .own).trans (Ka.of (.new hqr))).trans .own)).trans .own) ?_
    refine ⟨dx, r, x9, qp, qr, [], upd_same, hru.fz f0, lf4.fz f4, ?_, .nil, ?_⟩
    · exact ((fC.trans fD).trans fF).tp upd_same
    · exact Td.mono fF.tupK (.of0 upd_same)
end
end K8
set_option maxHeartbeats 4000000
namespace K8
open PySem PySem.Spec PyProof.Rows L2 NdefX
set_option hygiene false in
local macro_rules | `(tactic| walk_at "w") => `(tactic| (repeat (first | refine ⟨_, rfl, ?_⟩ | refine ⟨_, _, rfl, rfl, ?_⟩ | refine ⟨rfl, ?_⟩ | refine ⟨_, _, rfl, ?_⟩ | refine ⟨_, _, rfl, .of upd_same, rfl, ?_⟩ | refine ⟨_, _, rfl, .of (by assumption), rfl, ?_⟩ | refine ⟨_, _, rfl, .of (by assumption), fun q hq => ?_⟩ | refine ⟨_, _, rfl, .of (by assumption), ?_⟩ | refine ⟨_, _, rfl, .inr (.of (by assumption)), ?_⟩ | refine ⟨_, _, rfl, .inl (.of (by assumption)), ?_⟩ | refine ⟨_, _, _, _, rfl, rfl, .of (by assumption), atI_nat (j := 0) rfl, ?_⟩ | refine ⟨_, _, _, _, rfl, rfl, .of (by assumption), atI_nat (j := 1) rfl, ?_⟩ | refine ⟨_, _, _, _, rfl, rfl, .of (by assumption), atI_nat (j := 2) rfl, ?_⟩ | refine ⟨fun z => absurd z.1 (show ¬ (1 : Nat) = 0 by decide), fun _ q hq => ?_⟩ | refine ⟨fun z => absurd z.1 (show ¬ (2 : Nat) = 0 by decide), fun _ q hq => ?_⟩ | refine ⟨sz1, fun q hq => ?_⟩ | refine ⟨sz2, fun q hq => ?_⟩ | refine ⟨sz3, fun q hq => ?_⟩ | refine ⟨sz0, fun q hq => ?_⟩ | refine ⟨_, _, _, rfl, rfl, (by assumption), (by assumption), ?_⟩ | refine ⟨.inl ⟨rfl, _, .of (by assumption)⟩, ?_⟩ | refine ⟨_, _, rfl, .inl ⟨.of (by assumption), fun q hq => ?_⟩⟩ | refine ⟨⟨_, .of (by assumption)⟩, ?_⟩ | refine ⟨⟨_, rfl⟩, ?_⟩ | refine ⟨.inl ⟨rfl, _, .of upd_same⟩, ?_⟩ | refine ⟨_, _, _, _, _, rfl, (by assumption), (by assumption), (by assumption), (by rfl), ?_⟩ | refine ⟨_, _, _, _, rfl, upd_same, (by assumption), (by assumption), (by first | exact ixFs_len | exact (show (0 : Nat) < 1000 by decide) | exact (show (1 : Nat) < 1000 by decide) | exact (show (2 : Nat) < 1000 by decide) | exact (show (3 : Nat) < 1000 by decide) | exact (show (4 : Nat) < 1000 by decide) | exact (show (5 : Nat) < 1000 by decide) | exact (show (6 : Nat) < 1000 by decide)), ?_⟩ | refine ⟨_, _, _, _, rfl, (by assumption), (by assumption), (by assumption), (by first | exact ixFs_len | exact (show (0 : Nat) < 1000 by decide) | exact (show (1 : Nat) < 1000 by decide) | exact (show (2 : Nat) < 1000 by decide) | exact (show (3 : Nat) < 1000 by decide) | exact (show (4 : Nat) < 1000 by decide) | exact (show (5 : Nat) < 1000 by decide) | exact (show (6 : Nat) < 1000 by decide)), ?_⟩ | refine ⟨_, _, _, rfl, (by assumption), (by first | rfl | exact ixFs_no (by decide +kernel)), ?_⟩ | refine ⟨_, _, _, rfl, (by assumption), ?_⟩ | refine iteT ?_ | refine iteF ?_)))
section
variable {P : Program} {w : World} {K : PySem.W.Frag} {mg : Str → Option Value} {base : Heap}
end
/-! ### C.m(o, ..), C a class by its name -/
section
variable {X : Cx} {k j : Nat} {C g : Addr} {mc : Value} {x m : Str} {sp : Sp} {p pos apos : Pos} {e : Expr} {es : List Expr} {t : TA}
theorem pe_clsM {pl : Sem Bool} (c : Ini X.prog X.w X.K X.mg X.base k g sp) (r : ClX.CRead X.K C mc) (v : ClX.CVal X.K C mc m (.ref g) (.ref g)) (kp : PySem.W.keepIn X.K (.ref g) = true) (hr : Room j X.A) (hk : k ≤ j) (hg : Gl X x) (gm : X.mg x = some (.ref C)) (ha : PA X (e :: es) t)
    (hst : starEach (e :: es) X.env = (false, eval e X.env) :: starEach es X.env := by rfl) (hpl : (backTo pos (starEach es X.env)).any (·.1) = false := by rfl) (hd : (x == ("__debug__" : Str)) = false := by decide)
    (ht : eval (.Call (.Attribute (.Name x p) m apos) (e :: es) [] pos) X.env = (do
      let ov ← eval (.Name x p) X.env
      standAt apos.atName
      let (f, first) ← holding [ov] (getMethod ov m pl)
      callWith pos f first (backTo pos (starEach (e :: es) X.env)) (backToKw pos (keywordEach [] X.env))) := by rfl) :
    PE X (.Call (.Attribute (.Name x p) m apos) (e :: es) [] pos) (tC0 sp t) := by
  obtain ⟨fd, ps, F, b⟩ := c
  refine ⟨fun pins s σ H Q I z => ?_⟩
  refine PySem.W.methodCall_KW (pl := pl) (ld_glob I hg gm ?_ hd) ht
  refine PySem.W.method_cls I.kIn r.ga (ClX.getcval_ok I r v fun s1 I1 => ?_)
  refine PySem.W.callWith_K (first := []) (h₀ := X.base) I.ok.mod.kin kp (thn (ha.run pos pins s1 σ H _ I1 z) fun us s2 ⟨vs, H2, I2, rr, q2⟩ => ⟨I2.kIn, ?_⟩) hst hpl
  exact run_fnS (E := EN) (us := us) (vs := vs) F (hr.mono hk) b (atN σ) I2 rr q2
end
section
variable {P : Program} {w : World} {K : PySem.W.Frag} {mg : Str → Option Value} {base : Heap}
/-! ### the other __init__s -/
def nfI (qual : Str) (st : Stmt) (c cc : Addr) : NF := ⟨"__init__", qual, defArgs st, defBody st, defScope st, [(("__class__" : Str), c)], cc⟩
def sp_Logged (K : PySem.W.Frag) : Sp := fun vs H Q _ => sp_Inbox K .l vs H Q E0
theorem ok_Logged {f c cc fB : Addr} (SF : SupF P K mg (nfI "LoggedInbox.__init__" s_LoggedInbox_init c cc) f c (Kd.C K .l) (Kd.C K .l) fB) (G : Gx K mg) (Gk : Gk K mg) (FB : Ini P w K mg base 3 fB (fun vs H Q E => ∃ kd, sp_Inbox K kd vs H Q E)) : Ini P w K mg base 4 f (sp_Logged K) := by
  obtain ⟨fdB, psB, FB, bB⟩ := FB
  obtain ⟨fd, F, b⟩ := fn_super (k := 3) (f := f) (c := c) (D := Kd.C K .l) (fB := fB) (N := ["self", "rules", "last", "__class__"]) (ps := ["self", "rules", "last"]) (sp := sp_Logged K) (CC := fun C => C = Kd.C K .l) (F := nfI "LoggedInbox.__init__" s_LoggedInbox_init c cc) (rest := []) (pl := fun _ => _)
    (fun C hC => by subst hC; exact SF) (fun C hC => by subst hC; exact Gk.cI .l) (show NScope _ _ _ (defScope s_LoggedInbox_init) from nscope_by (by decide +kernel)) (fun vs H Q E h => by obtain ⟨_, _, _, _, _, _, rfl, _⟩ := h; rfl) rfl rfl rfl rfl rfl rfl FB bB
    (fun A outer s H vs Q E hr h => by
      obtain ⟨a, dx, r, R, nl, n, rfl, ha, hru, k⟩ := h
      refine ⟨_, rfl, a, dx, [], rfl, ha, _, _, pa_cons (pv 1) (pa_cons (pv 2) pa_nil), pss_nil, ?_⟩
      walk_at "w"
      exact ⟨.l, a, dx, r, R, nl, n, rfl, ha, hru, k⟩)
    (fun L => by rfl) (fun L => by rfl) (fun L => by rfl) (fun L => by rfl) (fun L => by rfl) (fun doc pm ctv us hl => match us, hl with | [_, _, _], _ => rfl) _ rfl
  exact ⟨fd, _, F, b⟩
def sp_Halted (K : PySem.W.Frag) (kd : Kd) : Sp := fun vs H Q _ => ∃ (a dx r : Addr) (R : Rec) (nl : Nat) (n : Int) (m : Nat), vs = [.ref a, .ref r, .int n, .int m] ∧ H a = some (.ins (kd.C K) dx []) ∧ RuR K H r R nl ∧ 1 ≤ m ∧ m ≤ 9 ∧ ∀ H', Ka a H H' → IxE K kd H' a (ixNew R nl n (some m)) → Q .non H'
theorem ok_Halted {f c cc fB : Addr} (SF : ∀ kd : Kd, kd.halts = true → SupF P K mg (nfI "HaltedInbox.__init__" s_HaltedInbox_init c cc) f c (Kd.C K .h) (kd.C K) fB) (G : Gx K mg) (Gk : Gk K mg) (c_is_integer : Cal P w K mg base CX0 1 "is_integer" sp_is_integer) (FB : Ini P w K mg base 3 fB (fun vs H Q E => ∃ kd, sp_Inbox K kd vs H Q E)) :
    Ini P w K mg base 4 f (fun vs H Q E => ∃ kd : Kd, kd.halts = true ∧ sp_Halted K kd vs H Q E) := by
  obtain ⟨fdB, psB, FB, bB⟩ := FB
  obtain ⟨fd, F, b⟩ := fn_super (k := 3) (f := f) (c := c) (D := Kd.C K .h) (fB := fB) (N := ["self", "rules", "last", "limit", "__class__"]) (ps := ["self", "rules", "last", "limit"]) (sp := fun vs H Q E => ∃ kd : Kd, kd.halts = true ∧ sp_Halted K kd vs H Q E) (CC := fun C => ∃ kd : Kd, kd.halts = true ∧ C = kd.C K) (F := nfI "HaltedInbox.__init__" s_HaltedInbox_init c cc) (rest := (defBody s_HaltedInbox_init).tail) (pl := fun _ => _)
    (fun C hC => by obtain ⟨kd, hk, rfl⟩ := hC; exact SF kd hk) (fun C hC => by obtain ⟨kd, hk, rfl⟩ := hC; exact Gk.cI kd) (show NScope _ _ _ (defScope s_HaltedInbox_init) from nscope_by (by decide +kernel)) (fun vs H Q E h => by obtain ⟨_, _, _, _, _, _, _, _, _, rfl, _⟩ := h; rfl) rfl rfl rfl rfl rfl rfl FB bB
    (fun A outer s H vs Q E hr h => by
      obtain ⟨kd, hk, a, dx, r, R, nl, n, m, rfl, ha, hru, m1, m2, k⟩ := h
      refine ⟨_, ⟨kd, hk, rfl⟩, a, dx, [], rfl, ha, _, _, pa_cons (pv 1) (pa_cons (pv 2) pa_nil), pss_cons (ps_if (PW.pt (pw_or (pt_not (pt_val (pe_d c_is_integer hr (by decide) (by rfl) (pa_cons (pv 3) pa_nil)))) (pw_or1 (pt_not (pt_chain op_le op_le pe_int (pv 3) (pe_gi (by rfl) G.MOST_LIMIT)))))) (pss_one ps_never) pss_nil) (pss_one (ps_fld (pv 0) (pv 3) rfl)), ?_⟩
      walk_at "w"
      refine ⟨kd, a, dx, r, R, nl, n, rfl, ha, hru, fun H1 ka1 ix1 => ?_⟩
      obtain ⟨dx1, r1, l1, p1, w1, ps1, ha1, hru1, hlf1, hp1, hps1, hw1⟩ := ix1
      obtain ⟨n1, n2, n3, n4, n5, n6⟩ := Gk.na kd
      have hC := Gk.cI kd
      walk_at "w"
      refine iteDT (by omega) ?_
      walk_at "w"
      refine iteDT' (by omega) ?_
      walk_at "w"
      have nf : ∀ fs, ¬ fzO K (.ins (kd.C K) dx1 fs) := fun fs z => z.elim (Gk.neL kd).1 (Gk.neL kd).2.1
      have fz := Fz.own (K := K) (o := .ins (kd.C K) dx1 (ixFs r1 l1 p1 w1 false (some m))) ha1 (nf _)
      exact k _ (ka1.trans .own) ⟨dx1, r1, l1, p1, w1, ps1, upd_same, hru1.fz fz, hlf1.fz fz, fz.tp hp1, hps1.fz fz, hw1.mono fz.tupK⟩)
    (fun L => by rfl) (fun L => by rfl) (fun L => by rfl) (fun L => by rfl) (fun L => by rfl) (fun doc pm ctv us hl => match us, hl with | [_, _, _, _], _ => rfl) _ ⟨.h, rfl, rfl⟩
  exact ⟨fd, _, F, b⟩
theorem ok_LoggedHalted {f g : Addr} {mc : Value} (D : Fd K f "__init__" "LoggedHaltedInbox.__init__" s_LoggedHaltedInbox_init) (G : Gx K mg) (Gk : Gk K mg) (i_Halted : Ini P w K mg base 4 g (fun vs H Q E => ∃ kd : Kd, kd.halts = true ∧ sp_Halted K kd vs H Q E))
    (r : ClX.CRead K (Kd.C K .h) mc) (v : ClX.CVal K (Kd.C K .h) mc "__init__" (.ref g) (.ref g)) (kp : PySem.W.keepIn K (.ref g) = true) (gm : mg "HaltedInbox" = some (.ref (Kd.C K .h))) : Ini P w K mg base 5 f (sp_Halted K .b) := by
  refine ini0 D sc_LoggedHaltedInbox_init (fun _ _ _ _ _ _ us hl => match us, hl with | [_, _, _, _], _ => rfl) (fun vs H Q E h => ?_) (fun f cdv A outer s H vs Q E hr h => ?_)
  · obtain ⟨_, _, _, _, _, _, _, rfl, _⟩ := h
    rfl
  · obtain ⟨a, dx, r1, R, nl, n, m, rfl, ha, hru, m1, m2, k⟩ := h
    refine ⟨_, (pss_one (ps_expr (pe_clsM i_Halted r v kp hr (by decide) (by rfl) gm (pa_cons (pv 0) (pa_cons (pv 1) (pa_cons (pv 2) (pa_cons (pv 3) pa_nil))))))), ?_⟩
    walk_at "w"
    exact ⟨.b, rfl, a, dx, r1, R, nl, n, m, rfl, ha, hru, m1, m2, k⟩
/-! ### Desk.__init__ -/
structure DkR (K : PySem.W.Frag) (H : Hp) (d a : Addr) (n : Nat) : Prop where
  ex : ∃ dx p ps, H d = some (.ins (cDk K) dx [("inbox", .ref a), ("pairs", .ref p)]) ∧ H p = some (.tup ps) ∧ ps.length = n
def sp_Desk (K : PySem.W.Frag) : Sp := fun vs H Q _ => ∃ (d dx a : Addr), vs = [.ref d, .ref a] ∧ H d = some (.ins (cDk K) dx []) ∧ ∀ H', Ka d H H' → DkR K H' d a 0 → Q .non H'
theorem ok_Desk {f : Addr} (D : Fd K f "__init__" "Desk.__init__" s_Desk_init) (G : Gx K mg) (Gk : Gk K mg) : Ini P w K mg base 1 f (sp_Desk K) := by
  refine ini0 D sc_Desk_init (fun _ _ _ _ _ _ us hl => match us, hl with | [_, _], _ => rfl) (fun vs H Q E h => ?_) (fun f cdv A outer s H vs Q E hr h => ?_)
  · obtain ⟨_, _, _, rfl, _⟩ := h
    rfl
  · obtain ⟨d, dx, a, rfl, hd, k⟩ := h
    refine ⟨_, (pss_cons (ps_fld (pv 0) (pv 1) rfl)
      (pss_one (ps_fld (pv 0) (pe_tup pa_nil) rfl))), ?_⟩
    obtain ⟨n1, n2⟩ := Gk.nk
    have hC := Gk.dk
    walk_at "w"
    refine ⟨_, _, _, _, rfl, after hq, hC, n2, (show (1 : Nat) < 1000 by decide), ?_⟩
    have hne : q ≠ d := (ne_of_none upd_same hq).symm
    exact k _ ((Ka.own.trans (.of (.new hq))).trans .own) ⟨dx, q, [], upd_same, (upd_ne hne).trans upd_same, rfl⟩
end
end K8
set_option maxHeartbeats 4000000
namespace K8
open PySem PySem.Spec PyProof.Rows L2
/-! ### own instances: o(x), len(o), x in o, str(o) -/
section
variable {X : Cx} {CX : CXT} {k j : Nat} {C f : Addr} {fd : FuncData} {ps : List Str} {m : Str} {sp : Sp} {E : L2.St → XK} {p pos : Pos} {e o fe : Expr} {es : List Expr} {ta tf : TE} {t : TA}
theorem run_at {A' : Around} {pins : List (Addr × Obj)} {σ : L2.St} {H : Hp} {s : Shared} {Q : VK} {us : List Value} {vs : List V} (F : FnOk X.prog X.w X.K X.mg X.base CX k f fd ps sp) (hr : Room k A') (hfr : A'.frames = X.A.frames) (hb : Binds X.K fd ps []) (hx : PassesAt CX X σ (E σ))
    (I : Inv X pins σ H s) (r : Vals vs us) (h : sp vs H Q (E σ)) : wpAny (model X.prog X.w) A' (call (.ref f) us) (EP X pins σ Q) X.xe s := by
  have hl : us.length = ps.length := by rw [← r.length]; exact F.len _ _ _ _ h
  have b := hb s us I.kIn (by rw [List.append_nil]; exact hl)
  rw [List.append_nil] at b
  have e0 : Env0 X.prog X.w X.K X.mg X.base A' X.stack s H := by
    have e := I.env0
    exact ⟨by rw [hfr]; exact e.frames, e.mod, e.bs, e.bsz, e.funs, e.frf, e.hok, e.bare⟩
  refine wpAny_call (codeAny_mono (F.run A' X.stack s H ⟨us, []⟩ us vs Q (E σ) hr e0 b r h) fun r s' hq => ?_)
  cases r with
  | error e => exact hx pins H s e s' I hq
  | ok fl =>
    cases fl with
    | ret u => exact I.after hq
    | next => exact False.elim hq
    | brk => exact False.elim hq
    | cont => exact False.elim hq
/-- a call of an instance -/
theorem pe_co (c : Met X.prog X.w X.K X.mg X.base CX k C "__call__" sp) (fi : ∀ f, Meth X.K C "__call__" f → PySem.W.fnIn X.K f = true) (hr : Room j X.A) (hk : k ≤ j) (hx : ∀ σ, PassesAt CX X σ (E σ)) (hf : PE X fe tf) (ha : PA X (e :: es) t)
    (ht : eval (.Call fe (e :: es) [] pos) X.env = (do callWith pos (← eval fe X.env) [] (backTo pos (starEach (e :: es) X.env)) (backToKw pos (keywordEach [] X.env))) := by rfl)
    (he : starEach (e :: es) X.env = (false, eval e X.env) :: starEach es X.env := by rfl) (hpl : (backTo pos (starEach es X.env)).any (·.1) = false := by rfl) :
    PE X (.Call fe (e :: es) [] pos) (fun σ H Q => tf σ H fun y H1 => ∃ a, y = V.ref a ∧ t σ H1 fun vs H2 => (∃ dx fs, H2 a = some (.ins C dx fs)) ∧ sp (V.ref a :: vs) H2 Q (E σ)) := by
  obtain ⟨f, fd, ps, F, cl, hm, b⟩ := c
  refine ⟨fun pins s σ H Q I h => ?_⟩
  refine Call_ (thn (hf.run pins s σ H _ I h) fun u s1 ⟨y, H1, I1, ry, a, ey, q⟩ => ?_) ht
  subst ey
  obtain rfl : u = Value.ref a := ry
  refine StX.callO_with (thn (ha.run pos pins s1 σ H1 _ I1 q) fun us s2 ⟨vs, H2, I2, r, ⟨dx, fs, hi⟩, q2⟩ => ?_) he hpl
  obtain ⟨mA, O, _⟩ := ins_get I2.hok hi
  obtain ⟨od, J, _⟩ := O.look
  refine ⟨⟨C, _, _, J, rfl⟩, wpAny_call (PySem.W.kco_code I2.kIn J rfl hm.at_ hm.fn (fi f hm) ?_)⟩
  have r2 : Vals (V.ref a :: vs) (Value.ref a :: us) := .cons rfl r
  have hl : (Value.ref a :: us).length = ps.length := by rw [← r2.length]; exact F.len _ _ _ _ q2
  have b2 := b s2 (Value.ref a :: us) I2.kIn (by rw [List.append_nil]; exact hl)
  rw [List.append_nil] at b2
  refine codeAny_mono (F.run X.A X.stack s2 H2 ⟨.ref a :: us, []⟩ (.ref a :: us) (V.ref a :: vs) Q (E σ) (hr.mono hk) I2.env0 b2 r2 q2) fun r s' hq => ?_
  cases r with
  | error e => exact hx σ pins H2 s2 e s' I2 hq
  | ok fl =>
    cases fl with
    | ret u => exact I2.after hq
    | next => exact False.elim hq
    | brk => exact False.elim hq
    | cont => exact False.elim hq
/-- o.f(e, ..), f a field that holds an instance -/
theorem pe_cof {fn : Str} {apos : Pos} {pl : Sem Bool} (c : Met X.prog X.w X.K X.mg X.base CX k C "__call__" sp) (fi : ∀ f, Meth X.K C "__call__" f → PySem.W.fnIn X.K f = true) (hr : Room j X.A) (hk : k ≤ j) (hx : ∀ σ, PassesAt CX X σ (E σ)) (ho : PE X o ta) (ha : PA X (e :: es) t)
    (he : starEach (e :: es) X.env = (false, eval e X.env) :: starEach es X.env := by rfl) (hpl : (backTo pos (starEach es X.env)).any (·.1) = false := by rfl)
    (ht : eval (.Call (.Attribute o fn apos) (e :: es) [] pos) X.env = (do
      let ov ← eval o X.env
      standAt apos.atName
      let (f, first) ← holding [ov] (getMethod ov fn pl)
      callWith pos f first (backTo pos (starEach (e :: es) X.env)) (backToKw pos (keywordEach [] X.env))) := by rfl) :
    PE X (.Call (.Attribute o fn apos) (e :: es) [] pos) (fun σ H Q => ta σ H fun y H1 => ∃ d D dd fs a, y = V.ref d ∧ H1 d = some (.ins D dd fs) ∧ Cls X.K D ∧ NoAttr X.K D fn ∧ fs.lookup fn = some (.ref a) ∧ t σ H1 fun vs H2 => (∃ dx fs, H2 a = some (.ins C dx fs)) ∧ sp (V.ref a :: vs) H2 Q (E σ)) := by
  obtain ⟨f, fd, ps, F, cl, hm, b⟩ := c
  refine ⟨fun pins s σ H Q I h => ?_⟩
  refine PySem.W.methodCall_KW (pl := pl) (thn (ho.run pins s σ H _ I h) fun u s1 ⟨y, H1, I1, ry, d, D, dd, fs, a, ey, hd, cD, nD, lk, q⟩ => ?_) ht
  subst ey
  obtain rfl : u = Value.ref d := ry
  obtain ⟨mA, O, rr, _, _, _⟩ := ins_get I1.hok hd
  obtain ⟨od, J, _⟩ := O.look
  refine PySem.W.method_usual (r := none) I1.kIn J (PySem.W.plainGet_of (cD.get fn)).1 (PySem.W.plainGet_of (cD.get fn)).2 nD rfl ?_
  refine getattr_ok I1 hd cD nD lk fun u s2 I2 ru => ?_
  obtain rfl : u = Value.ref a := ru
  refine StX.callO_with (thn (ha.run pos pins s2 σ H1 _ I2 q) fun us s3 ⟨vs, H2, I3, r, ⟨dx, fs, hi⟩, q2⟩ => ?_) he hpl
  obtain ⟨mA, O, _⟩ := ins_get I3.hok hi
  obtain ⟨od, J, _⟩ := O.look
  refine ⟨⟨C, _, _, J, rfl⟩, wpAny_call (PySem.W.kco_code I3.kIn J rfl hm.at_ hm.fn (fi f hm) ?_)⟩
  have r2 : Vals (V.ref a :: vs) (Value.ref a :: us) := .cons rfl r
  have hl : (Value.ref a :: us).length = ps.length := by rw [← r2.length]; exact F.len _ _ _ _ q2
  have b2 := b s3 (Value.ref a :: us) I3.kIn (by rw [List.append_nil]; exact hl)
  rw [List.append_nil] at b2
  refine codeAny_mono (F.run X.A X.stack s3 H2 ⟨.ref a :: us, []⟩ (.ref a :: us) (V.ref a :: vs) Q (E σ) (hr.mono hk) I3.env0 b2 r2 q2) fun r s' hq => ?_
  cases r with
  | error e => exact hx σ pins H2 s3 e s' I3 hq
  | ok fl =>
    cases fl with
    | ret u => exact I3.after hq
    | next => exact False.elim hq
    | brk => exact False.elim hq
    | cont => exact False.elim hq
def rLenO (C : Addr) (sp : Sp) : List V → Hp → VK → Prop := fun xs H Q => ∃ a dx fs, xs = [.ref a] ∧ H a = some (.ins C dx fs) ∧ sp [.ref a] H (fun v H' => ∃ n : Nat, v = .int n ∧ n < 2 ^ 62 ∧ Q (.int n) H') E0
theorem call_len_own (c : Met X.prog X.w X.K X.mg X.base CX0 k C "__len__" sp) (hr : Room j X.A) (hk : k + 1 ≤ j) : CallR X (.builtin "len") (rLenO C sp) := by
  obtain ⟨f, fd, ps, F, cl, hm, b⟩ := c
  intro pins s σ H xs us Q I r h
  obtain ⟨a, dx, fs, rfl, ha, q⟩ := h
  obtain ⟨u, rfl, ru⟩ := r.one
  obtain rfl : u = Value.ref a := ru
  obtain ⟨mA, O, _⟩ := ins_get I.hok ha
  obtain ⟨od, J, _⟩ := O.look
  obtain ⟨m, hF⟩ := I.fr
  refine PySem.W.len_K hF I.ok.mod.kin J hm.at_ hm.fn (wpAny_mono (run_at (E := EN) (us := [.ref a]) (vs := [.ref a]) F (hr.mono hk).in1 rfl b (atN σ) I (.cons rfl .nil) q) (fun v s' hv => ?_) fun _ _ z => z)
  obtain ⟨v', H', I', rv, n, rfl, hn, q'⟩ := hv
  obtain ⟨t, rfl⟩ := (show ∃ t, v = Value.int n t from rv)
  exact ⟨⟨by omega, by omega⟩, .int n, H', I'.tok _, ⟨_, rfl⟩, q'⟩
def rStrO (C : Addr) (sp : Sp) : List V → Hp → VK → Prop := fun xs H Q => ∃ a dx fs, xs = [.ref a] ∧ H a = some (.ins C dx fs) ∧ sp [.ref a] H (fun v H' => ∃ x : Str, v = .str x ∧ Q (.str x) H') E0
theorem call_str_own (c : Met X.prog X.w X.K X.mg X.base CX0 k C "__str__" sp) (hr : Room j X.A) (hk : k + 2 ≤ j) : CallR X (.type "str") (rStrO C sp) := by
  obtain ⟨f, fd, ps, F, cl, hm, b⟩ := c
  intro pins s σ H xs us Q I r h
  obtain ⟨a, dx, fs, rfl, ha, q⟩ := h
  obtain ⟨u, rfl, ru⟩ := r.one
  obtain rfl : u = Value.ref a := ru
  obtain ⟨mA, O, _⟩ := ins_get I.hok ha
  obtain ⟨od, J, _⟩ := O.look
  have hr2 : Room k X.A.in1.in1 := (hr.mono hk).in1.in1
  refine PySem.W.kso_call (by have := hr2.un; omega) I.kIn J hm.at_ hm.fn (wpAny_mono (run_at (E := EN) (us := [.ref a]) (vs := [.ref a]) F hr2 rfl b (atN σ) I (.cons rfl .nil) q) (fun v s' hv => ?_) fun _ _ z => z)
  obtain ⟨v', H', I', rv, x, rfl, q'⟩ := hv
  obtain ⟨t, rfl⟩ := (show ∃ t, v = Value.str x t from rv)
  exact ⟨.str x, H', I', ⟨_, rfl⟩, q'⟩
def rInO (C : Addr) (sp : Sp) : R2 := fun x y H Q => ∃ a dx fs, y = .ref a ∧ H a = some (.ins C dx fs) ∧ sp [.ref a, x] H (fun v H' => ∃ b : Bool, v = .bl b ∧ Q (.bl b) H') E0
theorem op_in_own (c : Met X.prog X.w X.K X.mg X.base CX0 k C "__contains__" sp) (hr : Room j X.A) (hk : k ≤ j) : OpR X (compareOp .In) (rInO C sp) := by
  obtain ⟨f, fd, ps, F, cl, hm, b⟩ := c
  intro pins s σ H x y v u Q I rx ry h
  obtain ⟨a, dx, fs, rfl, ha, q⟩ := h
  obtain rfl : u = Value.ref a := ry
  obtain ⟨mA, O, _⟩ := ins_get I.hok ha
  obtain ⟨od, J, _⟩ := O.look
  obtain ⟨m, hF⟩ := I.fr
  refine PySem.W.in_K hF I.ok.mod.kin J hm.at_ hm.fn (wpAny_mono (run_at (E := EN) (us := [.ref a, v]) (vs := [.ref a, x]) F (hr.mono hk) rfl b (atN σ) I (.cons rfl (.cons rx .nil)) q) (fun w s' hw => ?_) fun _ _ z => z)
  obtain ⟨v', H', I', rv, bb, rfl, q'⟩ := hw
  obtain rfl : w = Value.bool bb := rv
  exact wpAny_truthy_bool ⟨.bl bb, H', I', rfl, q'⟩
end
end K8
set_option maxHeartbeats 4000000
namespace K8
open PySem PySem.Spec PySem.Calls PyProof.Rows L2
/-! ### word, *pieces = a list -/
section
variable {prog : Program} {w : World} {A : Around} {E : Value → Shared → Prop} {s : Shared}
theorem star_items {l : Addr} {u : Value} {us : List Value} {Q : List Value → Shared → Prop} (hl : s.heap.IsList l (u :: us).toArray) (hh : A.handled = none) (hz : us.length + 1 ≤ 16384)
    (h : ∀ (h' : Heap) (tk : Nat), (∀ b o, s.heap.get? b = some o → h'.get? b = some o) → Q [u, .ref h'.objs.size] { s with heap := h'.push { cls := .type "list", data := .seq us.toArray 0 }, toks := tk }) : wpAny (model prog w) A (unpackItems (.ref l) 2 (some 1)) Q E s := by
  have hlt : l ≠ s.heap.objs.size := by obtain ⟨o, ho, _⟩ := hl; exact Nat.ne_of_lt (Heap.lt_size ho)
  unfold unpackItems
  refine wpAny_bind ?_
  unfold notIterableAtAll
  refine wpAny_bind (wpAny_specialOf hl.typeIs slot_list_iter.lookup ?_)
  refine wpAny_pure ?_
  simp only [Bool.false_eq_true, if_false]
  refine wpAny_bind (wpAny_holding (wpAny_pyIter_list hl ?_))
  refine wpAny_bind (wpAny_holding (PySem.W.kun_draw hlt 1 0 _ _ ⟨_, Heap.get?_push_size _ rfl, rfl, rfl⟩ (hl.push _) (by simp) fun h₁ hit₁ hs₁ => ?_))
  have hl₁ : h₁.IsList l (u :: us).toArray := (hl.push _).extBut hs₁.extBut hlt
  rw [Nat.zero_add] at hit₁
  have hit₁' := hit₁
  obtain ⟨oi, hoi, _⟩ := hit₁'
  have hl₁' := hl₁
  obtain ⟨ol, hol, _⟩ := hl₁'
  rw [List.drop_zero]
  show wpAny _ _ (if (1 : Nat) < 1 then _ else _) _ _ _
  rw [if_neg (by omega)]
  refine wpAny_bind (wpAny_holding (PySem.W.kun_collect (s := { s with heap := h₁ }) (T := "list_iterator") (.inr (.inr (.inl rfl))) (Walks.list (A := A.in1) hh s.heap.objs.size l hlt (u :: us).toArray) (fun j u st => st.1.typeIs) (k := 1) (by simp) ⟨hit₁, hl₁⟩ (Heap.lt_size hoi) (Heap.lt_size hol) (fun h₂ tk hk => ?_) (by simp [sizeLine_eq]; omega)))
  show wpAny _ _ (if us.length < 2 - 1 - 1 then _ else _) _ _ _
  rw [if_neg (by omega)]
  have he : ∀ b o, s.heap.get? b = some o → h₂.get? b = some o := fun b o e => hk b o (Nat.ne_of_lt (Heap.lt_size e)) (hs₁.extBut b o (Nat.ne_of_lt (Heap.lt_size e)) (Heap.get?_push_of_some _ e))
  have htk : us.take (us.length - 0) = us := by rw [Nat.sub_zero]; exact List.take_length
  have hdr : us.drop (us.length - 0) = [] := by rw [Nat.sub_zero]; exact List.drop_length
  show wpAny _ _ (newList (us.take (us.length - 0)) >>= fun d => pure ([u] ++ [d] ++ us.drop (us.length - 0))) _ _ _
  rw [htk, hdr]
  exact wpAny_bind (wpAny_newList (wpAny_pure (h h₂ tk he)) (by rw [sizeLine_eq]; omega))
end
/-- a, *b = a list -/
def gStar1 (t : TGs) : TG := fun v σ H Q => ∃ a x xs, v = .ref a ∧ H a = some (.lst (x :: xs)) ∧ xs.length + 1 ≤ 16384 ∧ ∀ q, H q = none → t [x, .ref q] σ (L2.upd H q (.lst xs)) Q
section
variable {X : Cx} {pos p : Pos}
theorem pgs_star {e : Expr} {t : TG} (h1 : PG X e t) (hs : (assignEach [.Starred e p] X.env).map (·.2) = [assign e X.env] := by rfl) : PGs X [.Starred e p] (gCons t gNil) := by
  refine ⟨fun pins s σ H vs us Q I r h => ?_⟩
  obtain ⟨v, vr, e1, h⟩ := h
  subst e1
  cases r with
  | cons r rr =>
    rw [hs]
    refine assignInOrder_cons (thn (h1.run pins s σ H _ _ _ I r h) fun _ s1 ⟨σ1, H1, I1, e2, q1⟩ => ?_)
    subst e2
    cases rr
    exact assignInOrder_nil ⟨σ1, H1, I1, q1⟩
theorem pg_star1 {e1 e2 : Expr} {k : Nat} {t : TGs} (hc : X.calm = true) (h : PGs X [e1, .Starred e2 p] t) (hn : (assignEach [e1, .Starred e2 p] X.env).length = 2 := by rfl) (hst : (assignEach [e1, .Starred e2 p] X.env).findIdx? (·.1) = some 1 := by rfl) :
    PG X (.Tuple [e1, .Starred e2 p] k pos) (gStar1 t) := by
  refine ⟨fun pins s σ H v u Q I r hw => ?_⟩
  obtain ⟨a, x, xs, e1, hq, hl, hw⟩ := hw
  subst e1
  cases r
  obtain ⟨z, its, n, r, e⟩ := I.hok a _ hq
  cases r with
  | cons r rr =>
    rename_i ux us
    have hil : s.heap.IsList a (ux :: us).toArray := ⟨_, e, rfl, n, rfl⟩
    rw [PyProof.Rows.assign_Tuple]
    refine wpAny_bind (wpAny_standAt ?_)
    unfold unpack
    rw [hn, hst]
    refine wpAny_bind (wpAny_holding (star_items hil (I.ok.hd hc) (by rw [← rr.length]; exact hl) fun h' tk k => ?_))
    have I1 : Inv X pins σ H { s with heap := h', toks := tk } := I.kept k
    have hf : H h'.objs.size = none := I1.hok.fresh (Nat.le_refl _)
    have I2 : Inv X pins σ (L2.upd H h'.objs.size (.lst xs)) { s with heap := h'.push { cls := .type "list", data := .seq us.toArray 0 }, toks := tk } :=
      I1.laid (t' := tk) (fun b u e => Heap.get?_push_of_some _ e) (Nat.le_refl _) ⟨by rw [sizeLine_eq]; omega, us, 0, rr, Heap.get?_push_size _ rfl⟩
    exact h.run pins _ σ _ [x, .ref h'.objs.size] [ux, .ref h'.objs.size] Q I2 (.cons r (.cons rfl .nil)) (hw _ hf)
end
end K8
set_option maxHeartbeats 4000000
namespace K8
open PySem PySem.Spec PyProof.Rows L2
set_option hygiene false in
local macro_rules | `(tactic| walk_at "w") => `(tactic| (repeat (first | refine ⟨_, rfl, ?_⟩ | refine ⟨_, _, rfl, rfl, ?_⟩ | refine ⟨rfl, ?_⟩ | refine ⟨_, _, rfl, ?_⟩ | refine ⟨_, _, rfl, .of upd_same, rfl, ?_⟩ | refine ⟨_, _, rfl, .of (by assumption), rfl, ?_⟩ | refine ⟨_, _, rfl, .of (by assumption), fun q hq => ?_⟩ | refine ⟨_, _, rfl, .of (by assumption), ?_⟩ | refine ⟨_, _, rfl, .inr (.of (by assumption)), ?_⟩ | refine ⟨_, _, rfl, .inl (.of (by assumption)), ?_⟩ | refine ⟨_, _, _, _, rfl, rfl, .of (by assumption), atI_nat (j := 0) rfl, ?_⟩ | refine ⟨_, _, _, _, rfl, rfl, .of (by assumption), atI_nat (j := 1) rfl, ?_⟩ | refine ⟨_, _, _, _, rfl, rfl, .of (by assumption), atI_nat (j := 2) rfl, ?_⟩ | refine ⟨fun z => absurd z.1 (show ¬ (1 : Nat) = 0 by decide), fun _ q hq => ?_⟩ | refine ⟨fun z => absurd z.1 (show ¬ (2 : Nat) = 0 by decide), fun _ q hq => ?_⟩ | refine ⟨sz1, fun q hq => ?_⟩ | refine ⟨sz2, fun q hq => ?_⟩ | refine ⟨sz3, fun q hq => ?_⟩ | refine ⟨sz0, fun q hq => ?_⟩ | refine ⟨_, _, _, rfl, rfl, (by assumption), (by assumption), ?_⟩ | refine ⟨.inl ⟨rfl, _, .of (by assumption)⟩, ?_⟩ | refine ⟨_, _, rfl, .inl ⟨.of (by assumption), fun q hq => ?_⟩⟩ | refine ⟨⟨_, .of (by assumption)⟩, ?_⟩ | refine ⟨⟨_, rfl⟩, ?_⟩ | refine ⟨.inl ⟨rfl, _, .of upd_same⟩, ?_⟩ | refine ⟨_, _, _, _, _, rfl, (by assumption), (by assumption), (by assumption), (by rfl), ?_⟩ | refine ⟨_, _, _, _, rfl, upd_same, (by assumption), (by assumption), (by first | exact ixFs_len | exact (show (0 : Nat) < 1000 by decide) | exact (show (1 : Nat) < 1000 by decide) | exact (show (2 : Nat) < 1000 by decide) | exact (show (3 : Nat) < 1000 by decide) | exact (show (4 : Nat) < 1000 by decide) | exact (show (5 : Nat) < 1000 by decide) | exact (show (6 : Nat) < 1000 by decide)), ?_⟩ | refine ⟨_, _, _, _, rfl, (by assumption), (by assumption), (by assumption), (by first | exact ixFs_len | exact (show (0 : Nat) < 1000 by decide) | exact (show (1 : Nat) < 1000 by decide) | exact (show (2 : Nat) < 1000 by decide) | exact (show (3 : Nat) < 1000 by decide) | exact (show (4 : Nat) < 1000 by decide) | exact (show (5 : Nat) < 1000 by decide) | exact (show (6 : Nat) < 1000 by decide)), ?_⟩ | refine ⟨_, _, _, rfl, (by assumption), (by first | rfl | exact ixFs_no (by decide +kernel)), ?_⟩ | refine ⟨_, _, _, rfl, (by assumption), ?_⟩ | refine iteT ?_ | refine iteF ?_)))
/-! ### what a desk is told -/
inductive Cmd where
  | hear (n : Int) | restart (n : Int) | undo | last | taken | form | would (n : Int) | fits
inductive Ec where | bu | ha | nu
def Ec.nm : Ec → Str
  | .bu => "Busy" | .ha => "Halted" | .nu => "NothingToUndo"
abbrev Ec.val (K : PySem.W.Frag) (e : Ec) : Value := .ref (He.ga K e.nm)
inductive Res where
  | ok (s : Str) (x : Ix)
  | er (e : Ec)
def ynT (b : Bool) : Str := if b then "yes" else "no"
def takenT (ns : List Int) : Str := if ns.length = 0 then "-" else Txt.join (" " : Str) (ns.map nt)
def runC (kd : Kd) (x : Ix) : Cmd → Res
  | .hear n => if x.busy = true then .er .bu else if isOpenF x = true then .ok (ynT (callF kd x n).1) (callF kd x n).2 else .er .ha
  | .restart _ => .er .bu
  | .undo => if x.busy = true then .er .bu else match x.past.getLast? with
    | none => .er .nu
    | some l => .ok (("version " : Str) ++ (toString ((x.past.dropLast.length : Nat) : Int) : String)) (undoF kd x l x.past.dropLast)
  | .last => .ok (nt x.leaf.sd.last) x
  | .taken => .ok (takenT x.leaf.nums) x
  | .form => .ok (toString ((x.nl : Nat) : Int) : String) x
  | .would n => .ok (ynT (wouldF x n)) x
  | .fits => .ok (rst (fitsF x.R)) x
/-- bounds a desk needs -/
structure Bq (x : Ix) : Prop where
  bd : Bs x
  room : x.past.length + 1 ≤ 60
def CmdOk (x : Ix) : Cmd → Prop
  | .hear n => Sn n
  | .restart n => Sn n ∧ x.busy = true
  | .would n => Sn n
  | _ => True
/-- the end of a deed -/
def ResP (K : PySem.W.Frag) (kd : Kd) (a : Addr) (r : Res) (H : Hp) (Q : VK) (E : XK) : Prop := match r with
  | .ok s x' => ∀ H', Ka a H H' → IxR K kd H' a x' → Q (.str s) H'
  | .er e => ∀ H', Same H H' → E (e.val K) none H'
section
variable {P : Program} {w : World} {K : PySem.W.Frag} {mg : Str → Option Value} {base : Heap}
theorem ResP.okS {kd : Kd} {a : Addr} {s : Str} {x : Ix} {H H' : Hp} {Q : VK} {E : XK} (k : ResP K kd a (.ok s x) H Q E) (ix : IxR K kd H a x) (h : Same H H') : Q (.str s) H' := k H' (.of h) (ix.same h)
def sp_yes_or_no : Sp := fun vs H Q _ => ∃ b : Bool, vs = [.bl b] ∧ Q (.str (ynT b)) H
theorem ok_yes_or_no (D : Df K mg "yes_or_no" s_yes_or_no) (G : Gx K mg) : Cal P w K mg base CX0 1 "yes_or_no" sp_yes_or_no := by
  refine cal0 D sc_yes_or_no (fun _ _ _ _ _ _ us hl => match us, hl with | [_], _ => rfl) (fun vs H Q E h => ?_) (fun f cdv A outer s H vs Q E hr h => ?_)
  · obtain ⟨_, rfl, _⟩ := h
    rfl
  · obtain ⟨b, rfl, k⟩ := h
    refine ⟨_, (pss_one (ps_ret (pe_ifExp (pt_val (pv 0)) pe_str pe_str))), ?_⟩
    cases b
    · walk_at "w"
      exact k
    · walk_at "w"
      exact k
def sp_do_deed (K : PySem.W.Frag) (kd : Kd) : Sp := fun vs H Q E => ∃ (d a : Addr) (m : Nat) (x : Ix) (n : Int) (c : Bool), vs = [.ref d, .str (if c then "hear" else "restart"), .int n] ∧ DkR K H d a m ∧ IxR K kd H a x ∧ Bq x ∧ CmdOk x (if c then .hear n else .restart n) ∧ ResP K kd a (runC kd x (if c then .hear n else .restart n)) H Q E
theorem ok_do_deed (kd : Kd) (D : Md K (cDk K) "do_deed" "Desk.do_deed" s_Desk_do_deed) (G : Gx K mg) (Gk : Gk K mg) (c_yes_or_no : Cal P w K mg base CX0 1 "yes_or_no" sp_yes_or_no) (m_call : Met P w K mg base (L2N.CX P w) 6 (kd.C K) "__call__" (sp_call K kd))
    (fi : ∀ f, Meth K (kd.C K) "__call__" f → PySem.W.fnIn K f = true) (m_restart : Met P w K mg base (L2N.CX P w) 2 (kd.C K) "restart" (sp_restart K kd)) : Met P w K mg base (L2N.CX P w) 7 (cDk K) "do_deed" (sp_do_deed K kd) := by
  refine metN D sc_Desk_do_deed (fun _ _ _ _ _ _ us hl => match us, hl with | [_, _, _], _ => rfl) (fun vs H Q E h => ?_) (fun f cdv A outer s H vs Q E hr h => ?_)
  · obtain ⟨_, _, _, _, _, _, rfl, _⟩ := h
    rfl
  · obtain ⟨d, a, m, x, n, c, rfl, dk, ix, bq, co, k⟩ := h
    refine ⟨_, pss_cons (ps_if (pt_cmpR op_eq (pv 1) pe_str (nomark _)) (pss_one (ps_ret (pe_d c_yes_or_no hr (by decide) (by rfl) (pa_cons (pe_cof m_call fi hr (by decide) (fun σ => atNX σ) (pv 0) (pa_cons (pv 2) pa_nil)) pa_nil)))) pss_nil) (pss_cons (ps_expr (pe_mX m_restart hr (by decide) (fun σ => atNX σ) (pe_fld (pv 0) rfl) (pa_cons (pv 2) pa_nil))) pss_never), ?_⟩
    obtain ⟨ddx, pp, pps, hd, hpp, hpl⟩ := dk.ex
    obtain ⟨n1, n2⟩ := Gk.nk
    have hC := Gk.dk
    obtain ⟨dx, r, l, p, w, ps, ha, hru, hlf, hp, hps, hw⟩ := ix.ex
    have b1 := bq.bd.len.1
    have b2 := bq.bd.rows
    cases c with
    | true =>
      walk_at "w"
      refine ⟨⟨dx, _, ha⟩, a, x, n, rfl, ix, bq.room, by omega, by omega, ?_⟩
      unfold runC at k
      simp only [if_true] at k
      cases hb : x.busy with
      | true =>
        rw [hb] at k
        exact k _ (.refl _)
      | false =>
        rw [hb] at k
        refine iteF ?_
        rw [if_neg (by simp)] at k
        cases ho : isOpenF x with
        | true =>
          rw [ho] at k
          refine iteT fun H1 ka ix1 => ?_
          walk_at "w"
          exact k _ ka ix1
        | false =>
          rw [ho] at k
          refine iteF ?_
          rw [if_neg (by simp)] at k
          exact k _ (.refl _)
    | false =>
      walk_at "w"
      exact ⟨co.2, k _ (.refl _)⟩
def sp_told_by (K : PySem.W.Frag) (kd : Kd) : Sp := fun vs H Q E => ∃ (d a : Addr) (m : Nat) (x : Ix) (n : Int), vs = [.ref d, .str "would", .int n] ∧ DkR K H d a m ∧ IxR K kd H a x ∧ ResP K kd a (runC kd x (.would n)) H Q E
theorem ok_told_by (kd : Kd) (D : Md K (cDk K) "told_by" "Desk.told_by" s_Desk_told_by) (G : Gx K mg) (Gk : Gk K mg) (c_yes_or_no : Cal P w K mg base CX0 1 "yes_or_no" sp_yes_or_no) (m_contains : Met P w K mg base CX0 5 (kd.C K) "__contains__" (sp_contains K kd))
    (p_rules : Prp P w K mg base 1 (kd.C K) "rules" (sp_rules K kd)) (p_receiver : Prp P w K mg base 1 (cRu K) "receiver" (sp_receiver K)) : Met P w K mg base CX0 6 (cDk K) "told_by" (sp_told_by K kd) := by
  refine met0 D sc_Desk_told_by (fun _ _ _ _ _ _ us hl => match us, hl with | [_, _, _], _ => rfl) (fun vs H Q E h => ?_) (fun f cdv A outer s H vs Q E hr h => ?_)
  · obtain ⟨_, _, _, _, _, rfl, _⟩ := h
    rfl
  · obtain ⟨d, a, m, x, n, rfl, dk, ix, k⟩ := h
    refine ⟨_, pss_cons (ps_set (i := 3) sc_Desk_told_by.nd rfl (Or.inl rfl) (pe_p p_receiver hr (by decide) (pe_p p_rules hr (by decide) (pe_fld (pv 0) rfl)))) (pss_cons (ps_if (pt_cmpR op_eq (pv 1) pe_str (nomark _)) (pss_one (ps_ret (pe_d c_yes_or_no hr (by decide) (by rfl) (pa_cons (pe_cmpR (op_in_own m_contains hr (by decide)) (pv 2) (pe_fld (pv 0) rfl) rfl) pa_nil)))) pss_nil) pss_never), ?_⟩
    obtain ⟨ddx, pp, pps, hd, hpp, hpl⟩ := dk.ex
    obtain ⟨n1, n2⟩ := Gk.nk
    have hC := Gk.dk
    obtain ⟨dx, r, l, p, w, ps, ha, hru, hlf, hp, hps, hw⟩ := ix.ex
    walk_at "w"
    refine ⟨a, x, rfl, ix, fun r1 ru1 => ?_⟩
    obtain ⟨rdx, hv, lp, ls, hr1, hhv, hlp, hll⟩ := ru1.ex
    walk_at "w"
    intro v tv
    walk_at "w"
    intro H1 s1
    walk_at "w"
    exact k.okS ix s1
theorem nts_sum : ∀ {ns : List Int}, (∀ n ∈ ns, Sn n) → ((ns.map nt).map (·.length)).sum ≤ 5 * ns.length
  | [], _ => by simp
  | n :: ns, h => by
    have h1 := (nt_ok (h n (by simp))).1
    have h2 := nts_sum (ns := ns) fun m hm => h m (by simp [hm])
    simp only [List.map_cons, List.sum_cons, List.length_cons]
    omega
theorem nts_sum' {ns : List Int} (h : ∀ n ∈ ns, Sn n) (hl : ns.length ≤ 200) : ((ns.map nt).map (·.length)).sum + (ns.map nt).length * (" " : Str).length ≤ 16777216 := by
  have := nts_sum h
  have e : (" " : Str).length = 1 := rfl
  rw [e, List.length_map]
  omega
def sp_told_alone (K : PySem.W.Frag) (kd : Kd) : Sp := fun vs H Q E => ∃ (d a : Addr) (m : Nat) (x : Ix) (s : Str) (c : Cmd), vs = [.ref d, .str s] ∧ ((s = "undo" ∧ c = .undo) ∨ (s = "last" ∧ c = .last) ∨ (s = "taken" ∧ c = .taken) ∨ (s = "form" ∧ c = .form)) ∧ DkR K H d a m ∧ IxR K kd H a x ∧ Bq x ∧ ResP K kd a (runC kd x c) H Q E
theorem ok_told_alone (kd : Kd) (D : Md K (cDk K) "told_alone" "Desk.told_alone" s_Desk_told_alone) (G : Gx K mg) (Gk : Gk K mg) (c_number_text : Cal P w K mg base CX0 1 "number_text" sp_number_text) (m_undo : Met P w K mg base (L2N.CX P w) 2 (kd.C K) "undo" (sp_undo K kd)) (m_len : Met P w K mg base CX0 1 (kd.C K) "__len__" (sp_len K kd)) (m_rlen : Met P w K mg base CX0 1 (cRu K) "__len__" (sp_rlen K))
    (p_rules : Prp P w K mg base 1 (kd.C K) "rules" (sp_rules K kd)) (p_last : Prp P w K mg base 1 (kd.C K) "last" (sp_last K kd)) (p_taken : Prp P w K mg base 1 (kd.C K) "taken" (sp_taken K kd)) : Met P w K mg base (L2N.CX P w) 4 (cDk K) "told_alone" (sp_told_alone K kd) := by
  refine metN D sc_Desk_told_alone (fun _ _ _ _ _ _ us hl => match us, hl with | [_, _], _ => rfl) (fun vs H Q E h => ?_) (fun f cdv A outer s H vs Q E hr h => ?_)
  · obtain ⟨_, _, _, _, _, _, rfl, _⟩ := h
    rfl
  · obtain ⟨d, a, m, x, st, c, rfl, cc, dk, ix, bq, k⟩ := h
    refine ⟨_, pss_cons (ps_if (pt_cmpR op_eq (pv 1) pe_str (nomark _)) (pss_one (ps_ret (pe_op op_add_str pe_str (pe_callTy call_str_int (by rfl) G.str (by decide +kernel) (pa_cons (pe_mX0 m_undo hr (by decide) (fun σ => atNX σ) (pe_fld (pv 0) rfl)) pa_nil))))) pss_nil) (pss_cons (ps_if (pt_cmpR op_eq (pv 1) pe_str (nomark _)) (pss_one (ps_ret (pe_d c_number_text hr (by decide) (by rfl) (pa_cons (pe_p p_last hr (by decide) (pe_fld (pv 0) rfl)) pa_nil)))) pss_nil) (pss_cons (ps_if (pt_cmpR op_eq (pv 1) pe_str (nomark _)) (pss_one (ps_ret (pe_ifExp (pt_cmpR op_gt (pe_callB (call_len_own m_len hr (by decide)) (by rfl) G.len (by decide +kernel) (pa_cons (pe_fld (pv 0) rfl) pa_nil)) pe_int (nomark _)) (pe_join pe_str (by exact pe_lc (own := [("number", 2)]) (by rfl) sc_Desk_told_alone.nd (pi_tup (pe_p p_taken hr (by decide) (pe_fld (pv 0) rfl))) (blkOk_by (N := ["self", "word", "number"]) (sc := defScope s_Desk_told_alone) (by decide +kernel)) (fun _ _ _ _ _ => (pg_name (i := 2) sc_Desk_told_alone.nd rfl (Or.inl rfl) (Or.inr rfl))) (fun _ _ _ _ _ => pts_nil) (fun _ _ _ _ _ => (pe_d c_number_text hr (by decide) (by rfl) (pa_cons (pv 2) pa_nil))))) pe_str))) pss_nil)
      (pss_cons (ps_if (pt_cmpR op_eq (pv 1) pe_str (nomark _)) (pss_one (ps_ret (pe_callTy call_str_int (by rfl) G.str (by decide +kernel) (pa_cons (pe_callB (call_len_own m_rlen hr (by decide)) (by rfl) G.len (by decide +kernel) (pa_cons (pe_p p_rules hr (by decide) (pe_fld (pv 0) rfl)) pa_nil)) pa_nil)))) pss_nil) pss_never))), ?_⟩
    obtain ⟨ddx, pp, pps, hd, hpp, hpl⟩ := dk.ex
    obtain ⟨n1, n2⟩ := Gk.nk
    have hC := Gk.dk
    obtain ⟨dx, r, l, p, w, ps, ha, hru, hlf, hp, hps, hw⟩ := ix.ex
    have b1 := bq.bd.len.1
    have b2 := bq.bd.rows
    have b3 := bq.bd.num
    rcases cc with ⟨rfl, rfl⟩ | ⟨rfl, rfl⟩ | ⟨rfl, rfl⟩ | ⟨rfl, rfl⟩
    · walk_at "w"
      refine ⟨a, x, rfl, ix, by have := bq.room; omega, by omega, ?_⟩
      unfold runC at k
      dsimp only at k
      cases hb : x.busy with
      | true =>
        rw [hb] at k
        exact k _ (.refl _)
      | false =>
        rw [hb] at k
        refine iteF ⟨fun e H1 s1 => ?_, fun ls l e H1 ka ix1 => ?_⟩
        · rw [if_neg (by simp), e] at k
          exact k _ s1
        · rw [if_neg (by simp), e, List.getLast?_concat, List.dropLast_concat] at k
          walk_at "w"
          have el : ls.length ≤ 200 := by have h1 := bq.room; rw [e, List.length_append] at h1; omega
          refine ⟨log_ok (sN el), _, _, rfl, rfl, Nat.le_trans (Nat.add_le_add (show ("version " : Str).length ≤ 8 by decide) (nt_ok (sN el)).1) (by decide), ?_⟩
          exact k _ ka ix1
    · walk_at "w"
      refine ⟨a, x, rfl, ix, ?_⟩
      walk_at "w"
      exact ⟨b3.1, fun H1 s1 => k.okS ix s1⟩
    · walk_at "w"
      refine ⟨a, x, rfl, ix, ?_⟩
      refine ⟨_, rfl, by omega, ?_⟩
      walk_at "w"
      by_cases h0 : x.leaf.nums.length = 0
      · refine iteDF (by omega) ?_
        walk_at "w"
        have e : takenT x.leaf.nums = "-" := if_pos h0
        have k2 := k.okS ix (.refl _)
        rw [e] at k2
        exact k2
      · refine iteDT (by omega) ?_
        walk_at "w"
        refine ⟨a, x, rfl, ix, fun v tv => ?_⟩
        obtain ⟨pn, xn, rfl, hpn, txn⟩ := tv.tds
        walk_at "w"
        have hz := txn.len
        rw [List.length_map] at hz
        intro Dn hDn
        refine lc_tup (xs := xn) (fun j H2 => Same H H2 ∧ H2 Dn = some (.lst (((x.leaf.nums.take j).map nt).map V.str))) ?_ ?_ ?_ ?_
        · exact ⟨.new hDn, upd_same⟩
        · rintro j H2 hj ⟨s2, _⟩
          exact .of (s2 _ _ hpn)
        · rintro j y H2 hx ⟨s2, hD⟩
          have hj : j < x.leaf.nums.length := by
            have := (List.getElem?_eq_some_iff.mp hx).1
            rw [hz] at this
            exact this
          have hr9 : x.leaf.nums[j]? = some x.leaf.nums[j] := List.getElem?_eq_getElem hj
          have t9 := txn.all j y _ hx (by rw [List.getElem?_map, hr9]; rfl)
          cases t9.intE
          walk_at "w"
          refine ⟨b3.2 _ (List.getElem_mem hj), fun H3 s3 => ?_⟩
          refine ⟨_, s3 _ _ hD, small1000 (by simp; omega), (s2.trans s3).own hDn, ?_⟩
          rw [upd_same, take_snoc hr9, List.map_append, List.map_append]
          rfl
        · rintro H2 ⟨s2, hD⟩
          rw [hz, List.take_length] at hD
          walk_at "w"
          refine ⟨_, _, x.leaf.nums.map nt, rfl, rfl, .inl (.of hD), nts_sum' b3.2 (by omega), ?_⟩
          have e : takenT x.leaf.nums = Txt.join (" " : Str) (x.leaf.nums.map nt) := if_neg h0
          have k2 := k.okS ix s2
          rw [e] at k2
          exact k2
    · walk_at "w"
      refine ⟨a, x, rfl, ix, fun r1 ru1 => ?_⟩
      obtain ⟨rdx, hv, lp, ls, hr1, hhv, hlp, hll⟩ := ru1.ex
      walk_at "w"
      have hnl := ru1.nl
      exact ⟨by omega, _, rfl, log_ok (sN (by omega)), k.okS ix (.refl _)⟩
end
end K8
set_option maxHeartbeats 4000000
namespace K8
open PySem PySem.Spec PyProof.Rows L2
/-! ### answer -/
def Cmd.ws : Cmd → Str × List Str
  | .hear n => ("hear", [nt n])
  | .restart n => ("restart", [nt n])
  | .undo => ("undo", [])
  | .last => ("last", [])
  | .taken => ("taken", [])
  | .form => ("form", [])
  | .would n => ("would", [nt n])
  | .fits => ("fits", [lt0])
def Cmd.line : Cmd → Str
  | .hear n => ("hear " : Str) ++ nt n
  | .restart n => ("restart " : Str) ++ nt n
  | .undo => "undo"
  | .last => "last"
  | .taken => "taken"
  | .form => "form"
  | .would n => ("would " : Str) ++ nt n
  | .fits => ("fits " : Str) ++ lt0
theorem nt_blank {n : Int} (h : Sn n) : (32 : Nat) ∉ TL.tl (nt n) := byFin (p := fun n => (32 : Nat) ∉ TL.tl (nt n)) (by decide +kernel) h
theorem two_words {a : Str} {n : Int} (h : Sn n) (ha : (32 : Nat) ∉ TL.tl a) (hl : a.length ≤ 34) : Txt.split (Txt.join (" " : Str) [a, nt n]) (" " : Str) = [a, nt n] :=
  TL.split_join (s := 32) (S := []) (by rfl) (by decide +kernel) (by simp) (fun p hp => by
    rcases List.mem_cons.mp hp with rfl | hp
    · exact ha
    · rw [List.mem_singleton.mp hp]
      exact nt_blank h)
theorem len_app (a b : Str) : (a ++ b).length = a.length + b.length := by
  show (a.cps ++ b.cps).size = _
  rw [Array.size_append]
  rfl
theorem line_ok {x : Ix} {c : Cmd} (h : CmdOk x c) : Txt.split c.line (" " : Str) = c.ws.1 :: c.ws.2 ∧ c.line.length ≤ 40 := by
  have lw : ∀ (a b : Str) (n : Int), Sn n → b.length ≤ 20 → (b ++ nt n).length ≤ 40 := fun a b n hn hb => by
    rw [len_app]
    have := (nt_ok hn).1
    omega
  cases c with
  | hear n => exact ⟨two_words (a := "hear") h (by decide +kernel) (by decide +kernel), lw "hear" "hear " n h (by decide +kernel)⟩
  | restart n => exact ⟨two_words (a := "restart") h.1 (by decide +kernel) (by decide +kernel), lw "restart" "restart " n h.1 (by decide +kernel)⟩
  | would n => exact ⟨two_words (a := "would") h (by decide +kernel) (by decide +kernel), lw "would" "would " n h (by decide +kernel)⟩
  | undo => exact ⟨by decide +kernel, by decide +kernel⟩
  | last => exact ⟨by decide +kernel, by decide +kernel⟩
  | taken => exact ⟨by decide +kernel, by decide +kernel⟩
  | form => exact ⟨by decide +kernel, by decide +kernel⟩
  | fits => exact ⟨by decide +kernel, by decide +kernel⟩
end K8
set_option maxHeartbeats 4000000
namespace K8
open PySem PySem.Spec PyProof.Rows L2
/-! ### answer -/
theorem ws_ok {x : Ix} {c : Cmd} (h : CmdOk x c) : c.ws.2.length ≤ 1 ∧ (∀ w ∈ c.ws.2, PyData.canLayAll0 [PyData.str w] = true) ∧ inV (.str ("" : Str)) (c.ws.2.map V.str) = false := by
  cases c with
  | hear n => exact byFin (p := fun n => ([nt n] : List Str).length ≤ 1 ∧ (∀ w ∈ ([nt n] : List Str), PyData.canLayAll0 [PyData.str w] = true) ∧ inV (.str ("" : Str)) (([nt n] : List Str).map V.str) = false) (by decide +kernel) h
  | restart n => exact byFin (p := fun n => ([nt n] : List Str).length ≤ 1 ∧ (∀ w ∈ ([nt n] : List Str), PyData.canLayAll0 [PyData.str w] = true) ∧ inV (.str ("" : Str)) (([nt n] : List Str).map V.str) = false) (by decide +kernel) h.1
  | would n => exact byFin (p := fun n => ([nt n] : List Str).length ≤ 1 ∧ (∀ w ∈ ([nt n] : List Str), PyData.canLayAll0 [PyData.str w] = true) ∧ inV (.str ("" : Str)) (([nt n] : List Str).map V.str) = false) (by decide +kernel) h
  | undo => exact ⟨by decide +kernel, by decide +kernel, by decide +kernel⟩
  | last => exact ⟨by decide +kernel, by decide +kernel, by decide +kernel⟩
  | taken => exact ⟨by decide +kernel, by decide +kernel, by decide +kernel⟩
  | form => exact ⟨by decide +kernel, by decide +kernel, by decide +kernel⟩
  | fits => exact ⟨by decide +kernel, by decide +kernel, by decide +kernel⟩
end K8
set_option maxHeartbeats 4000000
namespace K8
open PySem PySem.Spec PyProof.Rows L2
set_option hygiene false in
local macro_rules | `(tactic| walk_at "w") => `(tactic| (repeat (first | refine ⟨_, rfl, ?_⟩ | refine ⟨_, _, rfl, rfl, ?_⟩ | refine ⟨rfl, ?_⟩ | refine ⟨_, _, rfl, ?_⟩ | refine ⟨_, _, rfl, .of upd_same, rfl, ?_⟩ | refine ⟨_, _, rfl, .of (by assumption), rfl, ?_⟩ | refine ⟨_, _, rfl, .of (by assumption), fun q hq => ?_⟩ | refine ⟨_, _, rfl, .of (by assumption), ?_⟩ | refine ⟨_, _, rfl, .inr (.of (by assumption)), ?_⟩ | refine ⟨_, _, rfl, .inl (.of (by assumption)), ?_⟩ | refine ⟨_, _, _, _, rfl, rfl, .of (by assumption), atI_nat (j := 0) rfl, ?_⟩ | refine ⟨_, _, _, _, rfl, rfl, .of (by assumption), atI_nat (j := 1) rfl, ?_⟩ | refine ⟨_, _, _, _, rfl, rfl, .of (by assumption), atI_nat (j := 2) rfl, ?_⟩ | refine ⟨fun z => absurd z.1 (show ¬ (1 : Nat) = 0 by decide), fun _ q hq => ?_⟩ | refine ⟨fun z => absurd z.1 (show ¬ (2 : Nat) = 0 by decide), fun _ q hq => ?_⟩ | refine ⟨sz1, fun q hq => ?_⟩ | refine ⟨sz2, fun q hq => ?_⟩ | refine ⟨sz3, fun q hq => ?_⟩ | refine ⟨sz0, fun q hq => ?_⟩ | refine ⟨_, _, _, rfl, rfl, (by assumption), (by assumption), ?_⟩ | refine ⟨.inl ⟨rfl, _, .of (by assumption)⟩, ?_⟩ | refine ⟨_, _, rfl, .inl ⟨.of (by assumption), fun q hq => ?_⟩⟩ | refine ⟨⟨_, .of (by assumption)⟩, ?_⟩ | refine ⟨⟨_, rfl⟩, ?_⟩ | refine ⟨.inl ⟨rfl, _, .of upd_same⟩, ?_⟩ | refine ⟨_, _, _, _, _, rfl, (by assumption), (by assumption), (by assumption), (by rfl), ?_⟩ | refine ⟨_, _, _, _, rfl, upd_same, (by assumption), (by assumption), (by first | exact ixFs_len | exact (show (0 : Nat) < 1000 by decide) | exact (show (1 : Nat) < 1000 by decide) | exact (show (2 : Nat) < 1000 by decide) | exact (show (3 : Nat) < 1000 by decide) | exact (show (4 : Nat) < 1000 by decide) | exact (show (5 : Nat) < 1000 by decide) | exact (show (6 : Nat) < 1000 by decide)), ?_⟩ | refine ⟨_, _, _, _, rfl, (by assumption), (by assumption), (by assumption), (by first | exact ixFs_len | exact (show (0 : Nat) < 1000 by decide) | exact (show (1 : Nat) < 1000 by decide) | exact (show (2 : Nat) < 1000 by decide) | exact (show (3 : Nat) < 1000 by decide) | exact (show (4 : Nat) < 1000 by decide) | exact (show (5 : Nat) < 1000 by decide) | exact (show (6 : Nat) < 1000 by decide)), ?_⟩ | refine ⟨_, _, _, rfl, (by assumption), (by first | rfl | exact ixFs_no (by decide +kernel)), ?_⟩ | refine ⟨_, _, _, rfl, (by assumption), ?_⟩ | refine iteT ?_ | refine iteF ?_)))
section
variable {P : Program} {w : World} {K : PySem.W.Frag} {mg : Str → Option Value} {base : Heap}
theorem ResP.mono {kd : Kd} {a : Addr} {r : Res} {H H' : Hp} {Q : VK} {E : XK} (k : ResP K kd a r H Q E) (s : Same H H') : ResP K kd a r H' Q E := by
  cases r with
  | ok t x => exact fun H2 ka ix => k H2 ((Ka.of s).trans ka) ix
  | er e => exact fun H2 s2 => k H2 (s.trans s2)
theorem _root_.K8.DkR.same {H H' : Hp} {d a : Addr} {n : Nat} (h : DkR K H d a n) (s : Same H H') : DkR K H' d a n := by
  obtain ⟨dx, p, ps, h1, h2, h3⟩ := h.ex
  exact ⟨dx, p, ps, s _ _ h1, s _ _ h2, h3⟩
theorem shp0 : SeqAt.shaped (.list []) = true := by decide +kernel
theorem shp1 {s : Str} (h : PyData.canLayAll0 [PyData.str s] = true) : SeqAt.shaped (.list [.str s]) = true := by
  unfold SeqAt.shaped
  rw [show (PyData.list [.str s]).canLay0 = true from h]
  rfl
theorem strs_dp {H : Hp} {p : Addr} {ws : List Str} (hp : H p = some (.lst (ws.map V.str))) : Dp K H (.ref p) (.list (ws.map .str)) := by
  refine .lst (.of hp) ?_
  clear hp
  induction ws with
  | nil => exact .nil
  | cons w ws ih => exact .cons (.str _) ih
theorem eq_strs {H : Hp} {p q : Addr} {ws : List Str} {Q : VK} (hp : H p = some (.lst (ws.map V.str))) (hq : H q = some (.lst [])) (hl : ws.length ≤ 1) (ho : ∀ w ∈ ws, PyData.canLayAll0 [PyData.str w] = true) (k : Q (.bl ws.isEmpty) H) : rEqD K (.ref p) (.ref q) H Q := by
  refine ⟨_, .list [], strs_dp hp, .lst (.of hq) .nil, ?_, shp0, ?_⟩
  · match ws, hl, ho with
    | [], _, _ => exact shp0
    | [w], _, ho => exact shp1 (ho w (by simp))
  · match ws, hl with
    | [], _ => exact k
    | [w], _ => exact k
theorem ne_strs {H : Hp} {p q : Addr} {ws : List Str} {Q : VK} (hp : H p = some (.lst (ws.map V.str))) (hq : H q = some (.lst [])) (hl : ws.length ≤ 1) (ho : ∀ w ∈ ws, PyData.canLayAll0 [PyData.str w] = true) (k : Q (.bl (!ws.isEmpty)) H) : rNeD K (.ref p) (.ref q) H Q := by
  refine ⟨_, .list [], strs_dp hp, .lst (.of hq) .nil, ?_, shp0, ?_⟩
  · match ws, hl, ho with
    | [], _, _ => exact shp0
    | [w], _, ho => exact shp1 (ho w (by simp))
  · match ws, hl with
    | [], _ => exact k
    | [w], _ => exact k
def sp_answer (K : PySem.W.Frag) (kd : Kd) : Sp := fun vs H Q E => ∃ (d a : Addr) (m : Nat) (x : Ix) (c : Cmd), vs = [.ref d, .str c.line] ∧ DkR K H d a m ∧ IxR K kd H a x ∧ Bq x ∧ CmdOk x c ∧ ResP K kd a (runC kd x c) H Q E
theorem ok_answer (kd : Kd) (D : Md K (cDk K) "answer" "Desk.answer" s_Desk_answer) (G : Gx K mg) (Gk : Gk K mg) (c_ranges_text : Cal P w K mg base CX0 4 "ranges_text" sp_ranges_text) (c_fits : Cal P w K mg base CX0 7 "fits" sp_fits) (c_parse_log : Cal P w K mg base CX0 2 "parse_log" sp_parse_log) (c_parse_number : Cal P w K mg base CX0 1 "parse_number" sp_parse_number)
    (m_do_deed : Met P w K mg base (L2N.CX P w) 7 (cDk K) "do_deed" (sp_do_deed K kd)) (m_told_by : Met P w K mg base CX0 6 (cDk K) "told_by" (sp_told_by K kd)) (m_told_alone : Met P w K mg base (L2N.CX P w) 4 (cDk K) "told_alone" (sp_told_alone K kd))
    (p_rules : Prp P w K mg base 1 (kd.C K) "rules" (sp_rules K kd)) (p_receiver : Prp P w K mg base 1 (cRu K) "receiver" (sp_receiver K)) : Met P w K mg base (L2N.CX P w) 8 (cDk K) "answer" (sp_answer K kd) := by
  refine metN D sc_Desk_answer (fun _ _ _ _ _ _ us hl => match us, hl with | [_, _], _ => rfl) (fun vs H Q E h => ?_) (fun f cdv A outer s H vs Q E hr h => ?_)
  · obtain ⟨_, _, _, _, _, rfl, _⟩ := h
    rfl
  · obtain ⟨d, a, m, x, c, rfl, dk, ix, bq, co, k⟩ := h
    refine ⟨_, (pss_cons (ps_asg (pe_split (pv 1) pe_str) (pg_star1 rfl (pgs_cons (pg_name (i := 2) sc_Desk_answer.nd rfl (Or.inl rfl)) (pgs_star (pg_name (i := 3) sc_Desk_answer.nd rfl (Or.inl rfl))))))
      (pss_cons (ps_if (pt_cmpR op_in_seq pe_str (pv 3) rfl) (pss_one (ps_ret pe_non)) pss_nil)
      (pss_cons (ps_if (PW.pt (pw_and (pt_cmpR op_eq (pv 2) pe_str (nomark _)) (pw_and1 (pt_cmpR (op_neD hr.units) (pv 3) (pe_lst pa_nil) (nomark _))))) (pss_one (ps_ret (pe_d c_ranges_text hr (by decide) (by rfl) (pa_cons (pe_d c_fits hr (by decide) (by rfl) (pa_cons (pe_p p_receiver hr (by decide) (pe_p p_rules hr (by decide) (pe_fld (pv 0) rfl))) (pa_cons (pe_d c_parse_log hr (by decide) (by rfl) (pa_cons (pe_join pe_str (pv 3)) pa_nil)) pa_nil))) pa_nil)))) pss_nil)
      (pss_cons (ps_if (PW.pt (pw_and (pt_cmpR op_in_seq (pv 2) (pe_glob (v := .ref _) (by rfl) G.ALONE rfl) rfl) (pw_and1 (pt_cmpR (op_eqD hr.units) (pv 3) (pe_lst pa_nil) (nomark _))))) (pss_one (ps_ret (pe_mX m_told_alone hr (by decide) (fun σ => atNX σ) (pv 0) (pa_cons (pv 2) pa_nil)))) pss_nil)
      (pss_cons (ps_if (PW.pt (pw_or (pt_cmpR op_notIn_seq (pv 2) (pe_glob (v := .ref _) (by rfl) G.NUMBERED rfl) rfl) (pw_or1 (pt_cmpR op_ne (pe_callB call_len_seq (by rfl) G.len (by decide +kernel) (pa_cons (pv 3) pa_nil)) pe_int (nomark _))))) (pss_one (ps_ret pe_non)) pss_nil)
      (pss_cons (ps_set (i := 4) sc_Desk_answer.nd rfl (Or.inl rfl) (pe_d c_parse_number hr (by decide) (by rfl) (pa_cons (pe_ix ix_list (pv 3) pe_int (fun _ _ => rfl)) (pa_cons (pe_gi (by rfl) G.LONG) pa_nil))))
      (pss_cons (ps_if (pt_cmpR op_isN (pv 4) pe_non (nomark _)) (pss_one (ps_ret pe_non)) pss_nil)
      (pss_one (ps_ret (pe_ifExp (pt_cmpR op_in_seq (pv 2) (pe_tup (pa_cons pe_str (pa_cons pe_str pa_nil))) rfl) (pe_mX m_do_deed hr (by decide) (fun σ => atNX σ) (pv 0) (pa_cons (pv 2) (pa_cons (pv 4) pa_nil))) (pe_mX m_told_by hr (by decide) atN (pv 0) (pa_cons (pv 2) (pa_cons (pv 4) pa_nil))))))))))))), ?_⟩
    obtain ⟨ddx, pp, pps, hd, hpp, hpl⟩ := dk.ex
    obtain ⟨n1, n2⟩ := Gk.nk
    have hC := Gk.dk
    obtain ⟨dx, r, l, p, w, ps, ha, hru, hlf, hp, hps, hw⟩ := ix.ex
    walk_at "w"
    obtain ⟨l1, l2⟩ := line_ok co
    obtain ⟨l3, l4, l5⟩ := ws_ok co
    refine ⟨by rw [sizeLine_eq]; omega, ?_⟩
    rw [l1]
    intro L hL
    refine ⟨_, _, _, rfl, upd_same, ?_, fun q hq => ?_⟩
    · show _ + 1 ≤ 16384
      rw [List.length_map]
      omega
    have hne : q ≠ L := (ne_of_none upd_same hq).symm
    have s1 : Same H (L2.upd (L2.upd H L (.lst (List.map V.str (c.ws.1 :: c.ws.2)))) q (.lst (List.map V.str c.ws.2))) := (L2.Same.new hL).upd hq
    have hq1 : L2.upd (L2.upd H L (.lst (List.map V.str (c.ws.1 :: c.ws.2)))) q (.lst (List.map V.str c.ws.2)) q = some (.lst (List.map V.str c.ws.2)) := upd_same
    generalize L2.upd (L2.upd H L (.lst (List.map V.str (c.ws.1 :: c.ws.2)))) q (.lst (List.map V.str c.ws.2)) = H1 at *
    generalize q = qp at *
    refine ⟨_, _, rfl, _, _, rfl, rfl, ?_⟩
    refine ⟨V.ref qp, rfl, ?_⟩
    refine ⟨_, _, rfl, .inl (.of hq1), rfl, by simp [flatV], ?_⟩
    rw [if_neg (by simp), l5]
    cases c with
    | fits =>
      dsimp only [Cmd.ws, Cmd.line] at hq1 l4 ⊢
      walk_at "w"
      have s2 : Same H1 (L2.upd H1 q (.lst [])) := .new hq
      refine ne_strs (ws := [lt0]) (s2 _ _ hq1) upd_same (by decide) l4 ?_
      have hq2 := s2 _ _ hq1
      have s3 := s1.trans s2
      have hd2 := s3 _ _ hd
      have ha2 := s3 _ _ ha
      have ix2 := ix.same s3
      have dk2 : DkR K (L2.upd H1 q (.lst [])) d a m := ⟨ddx, pp, pps, hd2, s3 _ _ hpp, hpl⟩
      generalize L2.upd H1 q (.lst []) = H2 at *
      walk_at "w"
      refine ⟨a, x, rfl, ix2, fun r1 ru1 => ?_⟩
      obtain ⟨rdx, hv, lp, ls, hr1, hhv, hlp, hll⟩ := ru1.ex
      walk_at "w"
      intro v tv
      walk_at "w"
      refine ⟨_, _, [lt0], rfl, rfl, .inl (.of hq2), by decide +kernel, ?_⟩
      rw [show Txt.join (" " : Str) [lt0] = lt0 from by decide +kernel]
      refine ⟨rfl, fun H3 o3 s23 t3 => ?_⟩
      refine ⟨v, o3, x.R, rfl, tv.same s23, ru1.ok, t3, fun H4 o4 s34 t4 => ?_⟩
      refine ⟨o4, _, rfl, t4, (fits_ok x.R).1, (fits_ok x.R).2, fun H5 s45 => ?_⟩
      exact k.okS ix (s3.trans (s23.trans (s34.trans s45)))
    | undo =>
      dsimp only [Cmd.ws, Cmd.line] at hq1 l4 ⊢
      walk_at "w"
      refine ⟨_, _, rfl, .inr (G.ALONEt _), rfl, by decide +kernel, ?_⟩
      rw [if_neg (by simp), show inV _ _ = true from by decide +kernel]
      walk_at "w"
      have s2 : Same H1 (L2.upd H1 q (.lst [])) := .new hq
      refine eq_strs (ws := []) (s2 _ _ hq1) upd_same (by decide) (by simp) ?_
      have s3 := s1.trans s2
      have hd2 := s3 _ _ hd
      have ha2 := s3 _ _ ha
      have ix2 := ix.same s3
      have dk2 : DkR K (L2.upd H1 q (.lst [])) d a m := ⟨ddx, pp, pps, hd2, s3 _ _ hpp, hpl⟩
      generalize L2.upd H1 q (.lst []) = H2 at *
      walk_at "w"
      exact ⟨d, a, m, x, _, .undo, rfl, by simp, dk2, ix2, bq, k.mono s3⟩
    | last =>
      dsimp only [Cmd.ws, Cmd.line] at hq1 l4 ⊢
      walk_at "w"
      refine ⟨_, _, rfl, .inr (G.ALONEt _), rfl, by decide +kernel, ?_⟩
      rw [if_neg (by simp), show inV _ _ = true from by decide +kernel]
      walk_at "w"
      have s2 : Same H1 (L2.upd H1 q (.lst [])) := .new hq
      refine eq_strs (ws := []) (s2 _ _ hq1) upd_same (by decide) (by simp) ?_
      have s3 := s1.trans s2
      have hd2 := s3 _ _ hd
      have ha2 := s3 _ _ ha
      have ix2 := ix.same s3
      have dk2 : DkR K (L2.upd H1 q (.lst [])) d a m := ⟨ddx, pp, pps, hd2, s3 _ _ hpp, hpl⟩
      generalize L2.upd H1 q (.lst []) = H2 at *
      walk_at "w"
      exact ⟨d, a, m, x, _, .last, rfl, by simp, dk2, ix2, bq, k.mono s3⟩
    | taken =>
      dsimp only [Cmd.ws, Cmd.line] at hq1 l4 ⊢
      walk_at "w"
      refine ⟨_, _, rfl, .inr (G.ALONEt _), rfl, by decide +kernel, ?_⟩
      rw [if_neg (by simp), show inV _ _ = true from by decide +kernel]
      walk_at "w"
      have s2 : Same H1 (L2.upd H1 q (.lst [])) := .new hq
      refine eq_strs (ws := []) (s2 _ _ hq1) upd_same (by decide) (by simp) ?_
      have s3 := s1.trans s2
      have hd2 := s3 _ _ hd
      have ha2 := s3 _ _ ha
      have ix2 := ix.same s3
      have dk2 : DkR K (L2.upd H1 q (.lst [])) d a m := ⟨ddx, pp, pps, hd2, s3 _ _ hpp, hpl⟩
      generalize L2.upd H1 q (.lst []) = H2 at *
      walk_at "w"
      exact ⟨d, a, m, x, _, .taken, rfl, by simp, dk2, ix2, bq, k.mono s3⟩
    | form =>
      dsimp only [Cmd.ws, Cmd.line] at hq1 l4 ⊢
      walk_at "w"
      refine ⟨_, _, rfl, .inr (G.ALONEt _), rfl, by decide +kernel, ?_⟩
      rw [if_neg (by simp), show inV _ _ = true from by decide +kernel]
      walk_at "w"
      have s2 : Same H1 (L2.upd H1 q (.lst [])) := .new hq
      refine eq_strs (ws := []) (s2 _ _ hq1) upd_same (by decide) (by simp) ?_
      have s3 := s1.trans s2
      have hd2 := s3 _ _ hd
      have ha2 := s3 _ _ ha
      have ix2 := ix.same s3
      have dk2 : DkR K (L2.upd H1 q (.lst [])) d a m := ⟨ddx, pp, pps, hd2, s3 _ _ hpp, hpl⟩
      generalize L2.upd H1 q (.lst []) = H2 at *
      walk_at "w"
      exact ⟨d, a, m, x, _, .form, rfl, by simp, dk2, ix2, bq, k.mono s3⟩
    | hear n =>
      dsimp only [Cmd.ws, Cmd.line] at hq1 l4 ⊢
      walk_at "w"
      refine ⟨_, _, rfl, .inr (G.ALONEt _), rfl, by decide +kernel, ?_⟩
      rw [if_neg (by simp), show inV _ _ = false from by decide +kernel]
      walk_at "w"
      refine ⟨_, _, rfl, .inr (G.NUMBEREDt _), rfl, by decide +kernel, ?_⟩
      rw [if_pos rfl, show inV _ _ = true from by decide +kernel]
      walk_at "w"
      refine ⟨co, fun H2 s2 => ?_⟩
      have s3 := s1.trans s2
      have dk2 : DkR K H2 d a m := ⟨ddx, pp, pps, s3 _ _ hd, s3 _ _ hpp, hpl⟩
      have hd2 := s3 _ _ hd
      have ix2 := ix.same s3
      walk_at "w"
      have s4 : Same H2 (L2.upd H2 q (.tup [.str "hear", .str "restart"])) := .new hq
      refine ⟨_, _, rfl, .inr (.of upd_same), rfl, by decide +kernel, ?_⟩
      rw [if_neg (by simp), show inV _ _ = true from by decide +kernel]
      have hd4 := s4 _ _ hd2
      walk_at "w"
      exact ⟨d, a, m, x, n, true, rfl, dk2.same s4, ix2.same s4, bq, co, k.mono (s3.trans s4)⟩
    | restart n =>
      dsimp only [Cmd.ws, Cmd.line] at hq1 l4 ⊢
      walk_at "w"
      refine ⟨_, _, rfl, .inr (G.ALONEt _), rfl, by decide +kernel, ?_⟩
      rw [if_neg (by simp), show inV _ _ = false from by decide +kernel]
      walk_at "w"
      refine ⟨_, _, rfl, .inr (G.NUMBEREDt _), rfl, by decide +kernel, ?_⟩
      rw [if_pos rfl, show inV _ _ = true from by decide +kernel]
      walk_at "w"
      refine ⟨co.1, fun H2 s2 => ?_⟩
      have s3 := s1.trans s2
      have dk2 : DkR K H2 d a m := ⟨ddx, pp, pps, s3 _ _ hd, s3 _ _ hpp, hpl⟩
      have hd2 := s3 _ _ hd
      have ix2 := ix.same s3
      walk_at "w"
      have s4 : Same H2 (L2.upd H2 q (.tup [.str "hear", .str "restart"])) := .new hq
      refine ⟨_, _, rfl, .inr (.of upd_same), rfl, by decide +kernel, ?_⟩
      rw [if_neg (by simp), show inV _ _ = true from by decide +kernel]
      have hd4 := s4 _ _ hd2
      walk_at "w"
      exact ⟨d, a, m, x, n, false, rfl, dk2.same s4, ix2.same s4, bq, co, k.mono (s3.trans s4)⟩
    | would n =>
      dsimp only [Cmd.ws, Cmd.line] at hq1 l4 ⊢
      walk_at "w"
      refine ⟨_, _, rfl, .inr (G.ALONEt _), rfl, by decide +kernel, ?_⟩
      rw [if_neg (by simp), show inV _ _ = false from by decide +kernel]
      walk_at "w"
      refine ⟨_, _, rfl, .inr (G.NUMBEREDt _), rfl, by decide +kernel, ?_⟩
      rw [if_pos rfl, show inV _ _ = true from by decide +kernel]
      walk_at "w"
      refine ⟨co, fun H2 s2 => ?_⟩
      have s3 := s1.trans s2
      have dk2 : DkR K H2 d a m := ⟨ddx, pp, pps, s3 _ _ hd, s3 _ _ hpp, hpl⟩
      have hd2 := s3 _ _ hd
      have ix2 := ix.same s3
      walk_at "w"
      have s4 : Same H2 (L2.upd H2 q (.tup [.str "hear", .str "restart"])) := .new hq
      refine ⟨_, _, rfl, .inr (.of upd_same), rfl, by decide +kernel, ?_⟩
      rw [if_neg (by simp), show inV _ _ = false from by decide +kernel]
      have hd4 := s4 _ _ hd2
      walk_at "w"
      exact ⟨d, a, m, x, n, rfl, dk2.same s4, ix2.same s4, k.mono (s3.trans s4)⟩
end
end K8
set_option maxHeartbeats 4000000
namespace K8
open PySem PySem.Spec PyProof.Rows L2
set_option hygiene false in
local macro_rules | `(tactic| walk_at "w") => `(tactic| (repeat (first | refine ⟨_, rfl, ?_⟩ | refine ⟨_, _, rfl, rfl, ?_⟩ | refine ⟨rfl, ?_⟩ | refine ⟨_, _, rfl, ?_⟩ | refine ⟨_, _, rfl, .of upd_same, rfl, ?_⟩ | refine ⟨_, _, rfl, .of (by assumption), rfl, ?_⟩ | refine ⟨_, _, rfl, .of (by assumption), fun q hq => ?_⟩ | refine ⟨_, _, rfl, .of (by assumption), ?_⟩ | refine ⟨_, _, rfl, .inr (.of (by assumption)), ?_⟩ | refine ⟨_, _, rfl, .inl (.of (by assumption)), ?_⟩ | refine ⟨_, _, _, _, rfl, rfl, .of (by assumption), atI_nat (j := 0) rfl, ?_⟩ | refine ⟨_, _, _, _, rfl, rfl, .of (by assumption), atI_nat (j := 1) rfl, ?_⟩ | refine ⟨_, _, _, _, rfl, rfl, .of (by assumption), atI_nat (j := 2) rfl, ?_⟩ | refine ⟨fun z => absurd z.1 (show ¬ (1 : Nat) = 0 by decide), fun _ q hq => ?_⟩ | refine ⟨fun z => absurd z.1 (show ¬ (2 : Nat) = 0 by decide), fun _ q hq => ?_⟩ | refine ⟨sz1, fun q hq => ?_⟩ | refine ⟨sz2, fun q hq => ?_⟩ | refine ⟨sz3, fun q hq => ?_⟩ | refine ⟨sz0, fun q hq => ?_⟩ | refine ⟨_, _, _, rfl, rfl, (by assumption), (by assumption), ?_⟩ | refine ⟨.inl ⟨rfl, _, .of (by assumption)⟩, ?_⟩ | refine ⟨_, _, rfl, .inl ⟨.of (by assumption), fun q hq => ?_⟩⟩ | refine ⟨⟨_, .of (by assumption)⟩, ?_⟩ | refine ⟨⟨_, rfl⟩, ?_⟩ | refine ⟨.inl ⟨rfl, _, .of upd_same⟩, ?_⟩ | refine ⟨_, _, _, _, _, rfl, (by assumption), (by assumption), (by assumption), (by rfl), ?_⟩ | refine ⟨_, _, _, _, rfl, upd_same, (by assumption), (by assumption), (by first | exact ixFs_len | exact (show (0 : Nat) < 1000 by decide) | exact (show (1 : Nat) < 1000 by decide) | exact (show (2 : Nat) < 1000 by decide) | exact (show (3 : Nat) < 1000 by decide) | exact (show (4 : Nat) < 1000 by decide) | exact (show (5 : Nat) < 1000 by decide) | exact (show (6 : Nat) < 1000 by decide)), ?_⟩ | refine ⟨_, _, _, _, rfl, (by assumption), (by assumption), (by assumption), (by first | exact ixFs_len | exact (show (0 : Nat) < 1000 by decide) | exact (show (1 : Nat) < 1000 by decide) | exact (show (2 : Nat) < 1000 by decide) | exact (show (3 : Nat) < 1000 by decide) | exact (show (4 : Nat) < 1000 by decide) | exact (show (5 : Nat) < 1000 by decide) | exact (show (6 : Nat) < 1000 by decide)), ?_⟩ | refine ⟨_, _, _, rfl, (by assumption), (by first | rfl | exact ixFs_no (by decide +kernel)), ?_⟩ | refine ⟨_, _, _, rfl, (by assumption), ?_⟩ | refine iteT ?_ | refine iteF ?_)))
/-! ### error_name as it is called within the suite: what it promises -/
section
variable (P : Program) (w : World) (K : PySem.W.Frag) (mg : Str → Option Value) (base : Heap)
structure FnE (k : Nat) (f : Addr) (fd : FuncData) : Prop where
  run : ∀ (A : Around) (outer : List Env) (s : Shared) (H : Hp) (args : Args) (Q : VK) (p : Addr × Obj) (e : Ec), L2H.RoomH k A → L2H.Hot1 A p → L2H.PinOk outer H s p → Zc (e.val K) none p.2 → Env0 P w K mg base A outer s H → BindsTo s fd args ((["error"] : List Str).zip [.ref p.1]) →
    (∀ H', Same H H' → Q (.str e.nm) H') → codeAny (model P w) A (.call (.ref f) args) (CR CX0 outer P w H s Q E0) s
def CalE (k : Nat) : Prop := ∃ f fd, FnE P w K mg base k f fd ∧ mg "error_name" = some (.ref f) ∧ PySem.W.keepIn K (.ref f) = true ∧ Binds K fd ["error"] []
end
theorem takes0N {X : Cx} : L2N.Takes X (fun _ _ _ _ => False) := fun _ _ x => by
  obtain ⟨_, _, _, _, _, _, _, _, _, _, _, _, _, _, _, _, z⟩ := x
  exact z.elim
section
variable {X : Cx} {k j : Nat} {a : Addr} {oe : Obj} {cls : Value} {d : Option Addr} {pn : List (Addr × Obj)} {q pos : Pos} {e : Expr} {t : TA}
theorem pe_callE (c : CalE X.prog X.w X.K X.mg X.base k) (hr : Room j X.A) (hk : k ≤ j) (hz : L2N.Zn cls d oe) (hf : ∃ vs, oe.data = .fields vs) (hg : Gl X "error_name") (ha : PA (X.suite a ((a, oe) :: pn)) [e] t)
    (he : starEach [e] X.env = (false, eval e X.env) :: starEach [] X.env := by rfl) (hpl : (backTo pos (starEach [] X.env)).any (·.1) = false := by rfl) :
    PE (X.suite a ((a, oe) :: pn)) (.Call (.Name "error_name" q) [e] [] pos) (fun σ H Q => t σ H fun vs H1 => vs = [.ref a] ∧ ∃ ec : Ec, cls = ec.val X.K ∧ d = none ∧ ∀ H', Same H1 H' → Q (.str ec.nm) H') := by
  obtain ⟨f, fd, F, hm, kp, b⟩ := c
  refine ⟨fun pins s σ H Q I h => ?_⟩
  refine wpAny_Call_Name_kw (ld_glob (X := X.suite a ((a, oe) :: pn)) I hg hm ?_ (by decide))
  refine PySem.W.callWith_K (h₀ := X.base) I.ok.mod.kin kp (thn (ha.run pos pins s σ H _ I h) fun us s1 ⟨vs, H1, I1, r, ev, ec, e1, e2, q1⟩ => ⟨I1.kIn, ?_⟩) he hpl
  subst ev e1 e2
  cases r with
  | cons r rr =>
    cases rr
    cases r
    have bb := b s1 [.ref a] I1.kIn rfl
    rw [List.append_nil] at bb
    have P1 := I1.pin (a, oe) (List.mem_append_left _ List.mem_cons_self)
    have hpin : L2H.PinOk X.stack H1 s1 (a, oe) := ⟨P1.1, P1.2.1, fun hm => (List.mem_cons.mp (I1.stkSub a hm)).elim P1.2.2.1 P1.2.2.2.1, P1.2.2.2.2⟩
    obtain ⟨fv, hv⟩ := hf
    have hot : L2H.Hot1 (X.suite a ((a, oe) :: pn)).A (a, oe) := ⟨rfl, fv, hv, hz.2.2 fv hv⟩
    refine wpAny_call (codeAny_mono (F.run (X.suite a ((a, oe) :: pn)).A X.stack s1 H1 ⟨[.ref a], []⟩ Q (a, oe) ec ⟨(hr.mono hk).dp, (hr.mono hk).un⟩ hot hpin hz.zc I1.env0 bb q1) fun r s' hq => ?_)
    cases r with
    | error e => exact False.elim hq
    | ok fl =>
      cases fl with
      | ret u => exact I1.after hq
      | next => exact False.elim hq
      | brk => exact False.elim hq
      | cont => exact False.elim hq
end
section
variable {P : Program} {w : World} {K : PySem.W.Frag} {mg : Str → Option Value} {base : Heap}
/-! ### answer_safely -/
def resT : Res → Str
  | .ok s _ => s
  | .er e => ("error " : Str) ++ e.nm
def resX (x : Ix) : Res → Ix
  | .ok _ x' => x'
  | .er _ => x
def sp_answer_safely (K : PySem.W.Frag) (kd : Kd) : Sp := fun vs H Q _ => ∃ (d a : Addr) (m : Nat) (x : Ix) (c : Cmd), vs = [.ref d, .str c.line] ∧ DkR K H d a m ∧ IxR K kd H a x ∧ Bq x ∧ CmdOk x c ∧ ∀ H', Ka a H H' → IxR K kd H' a (resX x (runC kd x c)) → Q (.str (resT (runC kd x c))) H'
def tsE (K : PySem.W.Frag) (a : Addr) (cls : Value) (d : Option Addr) : TS := tRet (tOp (fun x y H Q => ∃ i j, x = V.str i ∧ y = V.str j ∧ i.length + j.length ≤ sizeLine ∧ Q (.str (i ++ j)) H) (tC (.str "error ")) (fun σ H Q => tCons (tVar 3) tNil σ H fun vs H1 => vs = [.ref a] ∧ ∃ ec : Ec, cls = ec.val K ∧ d = none ∧ ∀ H', Same H1 H' → Q (.str ec.nm) H'))
theorem ok_answer_safely (kd : Kd) (D : Md K (cDk K) "answer_safely" "Desk.answer_safely" s_Desk_answer_safely) (G : Gx K mg) (Gk : Gk K mg) (gP : mg "PostError" = some (.ref (He.ga K "PostError"))) (gX : ∀ e : Ec, PySem.W.exmOne K (e.val K) (.ref (He.ga K "PostError")) = some true)
    (c_error_name : CalE P w K mg base 3) (m_answer : Met P w K mg base (L2N.CX P w) 8 (cDk K) "answer" (sp_answer K kd)) : Met P w K mg base CX0 9 (cDk K) "answer_safely" (sp_answer_safely K kd) := by
  refine met0 D sc_Desk_answer_safely (fun _ _ _ _ _ _ us hl => match us, hl with | [_, _], _ => rfl) (fun vs H Q E h => ?_) (fun f cdv A outer s H vs Q E hr h => ?_)
  · obtain ⟨_, _, _, _, _, rfl, _⟩ := h
    rfl
  · obtain ⟨d, a, m, x, c, rfl, dk, ix, bq, co, k⟩ := h
    refine ⟨_, pss_cons (L2N.ps_try_as (i := 3) (tb := fun W => tAsg (tM0' (cDk K) "answer" (sp_answer K kd) (WE W) (tVar 0) (tCons (tVar 1) tNil)) (gName 2)) (ts := fun a cls d => tsE K a cls d) (Wout := fun _ _ _ _ => False) rfl rfl sc_Desk_answer_safely.nd rfl rfl ⟨rfl, by decide, Or.inl gP⟩ takes0N
        (fun W pn xe tk _ => pss_one (ps_set (i := 2) sc_Desk_answer_safely.nd rfl (Or.inl rfl) (by exact (pe_mX m_answer hr (by decide) (fun σ => L2N.passAt tk σ) (pv 0) (pa_cons (pv 1) pa_nil)))))
        (fun a oe cls d pn hz hf => pss_one (ps_ret (by exact (pe_op op_add_str pe_str (pe_callE c_error_name hr (by decide) hz hf rfl (by exact (pa_cons (pv 3) pa_nil))))))))
      (pss_one (ps_ret (pe_ifExp (pt_cmpR op_isN (pv 2) pe_non (nomark _)) (pe_gs (by rfl) G.UNKNOWN) (pv 2)))), ?_⟩
    obtain ⟨ddx, pp, pps, hd, hpp, hpl⟩ := dk.ex
    obtain ⟨n1, n2⟩ := Gk.nk
    have hC := Gk.dk
    walk_at "w"
    refine ⟨d, a, m, x, c, rfl, dk, ix, bq, co, ?_⟩
    cases hres : runC kd x c with
    | ok t x1 =>
      rw [hres] at k
      intro H1 ka ix1
      walk_at "w"
      exact k _ ka ix1
    | er e =>
      rw [hres] at k
      intro H1 s1
      refine ⟨true, gX e, fun _ a0 ha0 => ?_, fun z => Bool.noConfusion z⟩
      walk_at "w"
      intro H2 s2
      refine ⟨_, _, rfl, rfl, (by cases e <;> decide), ?_⟩
      exact k _ (.of (s1.trans s2)) (ix.same (s1.trans s2))
end
end K8
set_option maxHeartbeats 4000000
namespace K8
open PySem PySem.Spec PyProof.Rows L2
set_option hygiene false in
local macro_rules | `(tactic| walk_at "w") => `(tactic| (repeat (first | refine ⟨_, rfl, ?_⟩ | refine ⟨_, _, rfl, rfl, ?_⟩ | refine ⟨rfl, ?_⟩ | refine ⟨_, _, rfl, ?_⟩ | refine ⟨_, _, rfl, .of upd_same, rfl, ?_⟩ | refine ⟨_, _, rfl, .of (by assumption), rfl, ?_⟩ | refine ⟨_, _, rfl, .of (by assumption), fun q hq => ?_⟩ | refine ⟨_, _, rfl, .of (by assumption), ?_⟩ | refine ⟨_, _, rfl, .inr (.of (by assumption)), ?_⟩ | refine ⟨_, _, rfl, .inl (.of (by assumption)), ?_⟩ | refine ⟨_, _, _, _, rfl, rfl, .of (by assumption), atI_nat (j := 0) rfl, ?_⟩ | refine ⟨_, _, _, _, rfl, rfl, .of (by assumption), atI_nat (j := 1) rfl, ?_⟩ | refine ⟨_, _, _, _, rfl, rfl, .of (by assumption), atI_nat (j := 2) rfl, ?_⟩ | refine ⟨fun z => absurd z.1 (show ¬ (1 : Nat) = 0 by decide), fun _ q hq => ?_⟩ | refine ⟨fun z => absurd z.1 (show ¬ (2 : Nat) = 0 by decide), fun _ q hq => ?_⟩ | refine ⟨sz1, fun q hq => ?_⟩ | refine ⟨sz2, fun q hq => ?_⟩ | refine ⟨sz3, fun q hq => ?_⟩ | refine ⟨sz0, fun q hq => ?_⟩ | refine ⟨_, _, _, rfl, rfl, (by assumption), (by assumption), ?_⟩ | refine ⟨.inl ⟨rfl, _, .of (by assumption)⟩, ?_⟩ | refine ⟨_, _, rfl, .inl ⟨.of (by assumption), fun q hq => ?_⟩⟩ | refine ⟨⟨_, .of (by assumption)⟩, ?_⟩ | refine ⟨⟨_, rfl⟩, ?_⟩ | refine ⟨.inl ⟨rfl, _, .of upd_same⟩, ?_⟩ | refine ⟨_, _, _, _, _, rfl, (by assumption), (by assumption), (by assumption), (by rfl), ?_⟩ | refine ⟨_, _, _, _, rfl, upd_same, (by assumption), (by assumption), (by first | exact ixFs_len | exact (show (0 : Nat) < 1000 by decide) | exact (show (1 : Nat) < 1000 by decide) | exact (show (2 : Nat) < 1000 by decide) | exact (show (3 : Nat) < 1000 by decide) | exact (show (4 : Nat) < 1000 by decide) | exact (show (5 : Nat) < 1000 by decide) | exact (show (6 : Nat) < 1000 by decide)), ?_⟩ | refine ⟨_, _, _, _, rfl, (by assumption), (by assumption), (by assumption), (by first | exact ixFs_len | exact (show (0 : Nat) < 1000 by decide) | exact (show (1 : Nat) < 1000 by decide) | exact (show (2 : Nat) < 1000 by decide) | exact (show (3 : Nat) < 1000 by decide) | exact (show (4 : Nat) < 1000 by decide) | exact (show (5 : Nat) < 1000 by decide) | exact (show (6 : Nat) < 1000 by decide)), ?_⟩ | refine ⟨_, _, _, rfl, (by assumption), (by first | rfl | exact ixFs_no (by decide +kernel)), ?_⟩ | refine ⟨_, _, _, rfl, (by assumption), ?_⟩ | refine iteT ?_ | refine iteF ?_)))
section
variable {P : Program} {w : World} {K : PySem.W.Frag} {mg : Str → Option Value} {base : Heap}
/-! ### say -/
/-- all but the objects at a list of places -/
structure Kas (L : List Addr) (H H' : Hp) : Prop where
  at_ : ∀ b o, b ∉ L → H b = some o → H' b = some o
theorem Kas.of {L : List Addr} {H H' : Hp} (s : Same H H') : Kas L H H' := ⟨fun b o _ h => s b o h⟩
theorem Kas.ka {L : List Addr} {a : Addr} {H H' : Hp} (s : Ka a H H') (h : a ∈ L) : Kas L H H' := ⟨fun b o n e => s.at_ b o (fun z => n (z ▸ h)) e⟩
theorem Kas.trans {L : List Addr} {H H1 H2 : Hp} (x : Kas L H H1) (y : Kas L H1 H2) : Kas L H H2 := ⟨fun c o n h => y.at_ c o n (x.at_ c o n h)⟩
def sp_say (K : PySem.W.Frag) (kd : Kd) : Sp := fun vs H Q _ => ∃ (d a : Addr) (m : Nat) (x : Ix) (c : Cmd), vs = [.ref d, .str c.line] ∧ DkR K H d a m ∧ m ≤ 20 ∧ IxR K kd H a x ∧ Bq x ∧ CmdOk x c ∧
  ∀ H', Kas [d, a] H H' → DkR K H' d a (min (m + 1) 20) → IxR K kd H' a (resX x (runC kd x c)) → Q (.str (resT (runC kd x c))) H'
theorem ok_say (kd : Kd) (D : Md K (cDk K) "say" "Desk.say" s_Desk_say) (G : Gx K mg) (Gk : Gk K mg) (m_answer_safely : Met P w K mg base CX0 9 (cDk K) "answer_safely" (sp_answer_safely K kd)) : Met P w K mg base CX0 10 (cDk K) "say" (sp_say K kd) := by
  refine met0 D sc_Desk_say (fun _ _ _ _ _ _ us hl => match us, hl with | [_, _], _ => rfl) (fun vs H Q E h => ?_) (fun f cdv A outer s H vs Q E hr h => ?_)
  · obtain ⟨_, _, _, _, _, rfl, _⟩ := h
    rfl
  · obtain ⟨d, a, m, x, c, rfl, dk, hm, ix, bq, co, k⟩ := h
    refine ⟨_, (pss_cons (ps_set (i := 2) sc_Desk_say.nd rfl (Or.inl rfl) (pe_callB call_isi (by rfl) G.isinstance (by decide +kernel) (pa_cons (pv 1) (pa_cons (pe_bltn (v := .ty "str") (u := .type "str") (by rfl) G.str (by decide +kernel) rfl) pa_nil))))
      (pss_cons (ps_set (i := 3) sc_Desk_say.nd rfl (Or.inl rfl) (pe_ifExp (pt_val (pv 2)) (pe_mX m_answer_safely hr (by decide) atN (pv 0) (pa_cons (pv 1) pa_nil)) (pe_gs (by rfl) G.UNKNOWN)))
      (pss_cons (ps_fld (pv 0) (pe_slice sl_tupA (pe_op op_catA (pe_fld (pv 0) rfl) (pe_tup (pa_cons (pe_tup (pa_cons (pe_ifExp (pt_val (pv 2)) (pv 1) pe_non) (pa_cons (pv 3) pa_nil))) pa_nil))) (po_some (pe_op op_sub pe_int (pe_gi (by rfl) G.KEPT))) po_none) rfl)
      (pss_one (ps_ret (pv 3)))))), ?_⟩
    obtain ⟨ddx, pp, pps, hd, hpp, hpl⟩ := dk.ex
    obtain ⟨n1, n2⟩ := Gk.nk
    have hC := Gk.dk
    obtain ⟨dx, r, l, p, w, ps, ha, hru, hlf, hp, hps, hw⟩ := ix.ex
    have hda : d ≠ a := fun z => by
      rw [z, ha] at hd
      exact (Gk.neL kd).2.2.1 (HO.ins.inj (Option.some.inj hd)).1
    have fits := (line_ok co).2
    walk_at "w"
    refine ⟨_, _, _, _, true, rfl, .ty _, .base (.str _), kit_ty (by decide +kernel), ?_⟩
    walk_at "w"
    refine ⟨d, a, m, x, c, rfl, ⟨ddx, pp, pps, hd, hpp, hpl⟩, ix, bq, co, fun H1 ka ix1 => ?_⟩
    have hd1 := ka.at_ _ _ hda hd
    have hpp1 : H1 pp = some (.tup pps) := (ka.fz (K := K) ha (fun z => z.elim (Gk.neL kd).1 (Gk.neL kd).2.1)).at_ _ _ trivial hpp
    walk_at "w"
    rename_i q1 hqn1
    generalize q = q2 at *
    have hqn2 := hq
    have s12 : Same H1 (L2.upd (L2.upd H1 q1 (.tup [V.str c.line, V.str (resT (runC kd x c))])) q2 (.tup [V.ref q1])) := (L2.Same.new hqn1).upd hqn2
    have hq2 : L2.upd (L2.upd H1 q1 (.tup [V.str c.line, V.str (resT (runC kd x c))])) q2 (.tup [V.ref q1]) q2 = some (.tup [V.ref q1]) := upd_same
    generalize L2.upd (L2.upd H1 q1 (.tup [V.str c.line, V.str (resT (runC kd x c))])) q2 (.tup [V.ref q1]) = H2 at *
    have hpp2 := s12 _ _ hpp1
    have nf : ∀ fs, ¬ fzO K (.ins (cDk K) ddx fs) := fun fs z => z.elim (Gk.neL kd).2.2.2.1 (Gk.neL kd).2.2.2.2
    refine ⟨pp, q2, pps, [.ref q1], rfl, rfl, .of hpp2, .of hq2, by rw [hpl]; show m + 1 ≤ sizeLine; rw [sizeLine_eq]; omega, fun e => ?_, fun _ e => absurd e (by simp), fun _ _ z hzn => ?_⟩
    · have hm0 : m = 0 := by rw [← hpl, e]; rfl
      have hxl : ([V.ref q1] : List V).length = m + 1 := by rw [hm0]; rfl
      have s13 := s12
      have hz := hq2
      generalize H2 = H3 at *
      have hw9 : HT.sIx ([V.ref q1]).length 0 (some (0 - 20)) = ([V.ref q1]).length - 20 := by
        show (if (0 - 20 : Int) < 0 then ((0 - 20 : Int) + (([V.ref q1]).length : Int)).toNat else min (0 - 20 : Int).toNat ([V.ref q1]).length) = _
        rw [if_pos (by decide)]
        omega
      
      dsimp only [tNoPart]
      walk_at "w"
      refine ⟨fun hw => ?_, fun hw y hy => ?_⟩
      · have h20 : m + 1 ≤ 20 := by
          have h1 := hw.1
          have h2 : HT.sIx ([V.ref q1]).length 0 (some (0 - 20)) = 0 := h1
          omega
        have s14 := s13
        have hy4 := hz
        have hd4 := s14 _ _ hd1
        dsimp only [tNoPart]
        walk_at "w"
        refine k _ ((Kas.ka (ka.trans (.of s14)) (by simp)).trans (.ka .own (by simp))) ?_ ?_
        · exact ⟨ddx, _, _, upd_same, (Fz.own (K := K) hd4 (nf _)).at_ _ _ trivial hy4, by rw [hxl]; omega⟩
        · exact (ix1.same s14).keep (Fz.own (K := K) hd4 (nf _)) fun o e => (upd_ne hda.symm).trans e
      · have h20 : ¬ m + 1 ≤ 20 := fun z => hw ⟨by show HT.sIx ([V.ref q1]).length 0 (some (0 - 20)) = 0; omega, rfl⟩
        have s14 := s13.upd (o := .tup (cutV ([V.ref q1]) (some (0 - 20)) none)) hy
        have hy4 : L2.upd H3 y (.tup (cutV ([V.ref q1]) (some (0 - 20)) none)) y = some (.tup (cutV ([V.ref q1]) (some (0 - 20)) none)) := upd_same
        have hcl : (cutV ([V.ref q1]) (some (0 - 20)) none).length = 20 := by
          unfold cutV
          rw [hw9]
          show List.length (List.take (([V.ref q1]).length - (([V.ref q1]).length - 20)) _) = 20
          rw [List.length_take, List.length_drop]
          omega
        generalize L2.upd H3 y (.tup (cutV ([V.ref q1]) (some (0 - 20)) none)) = H4 at *
        have hd4 := s14 _ _ hd1
        dsimp only [tNoPart]
        walk_at "w"
        refine k _ ((Kas.ka (ka.trans (.of s14)) (by simp)).trans (.ka .own (by simp))) ?_ ?_
        · exact ⟨ddx, _, _, upd_same, (Fz.own (K := K) hd4 (nf _)).at_ _ _ trivial hy4, by rw [hcl]; omega⟩
        · exact (ix1.same s14).keep (Fz.own (K := K) hd4 (nf _)) fun o e => (upd_ne hda.symm).trans e
    · have hxl : (pps ++ [V.ref q1]).length = m + 1 := by rw [List.length_append, hpl]; rfl
      have s13 := s12.upd (o := .tup (pps ++ [.ref q1])) hzn
      have hz : L2.upd H2 z (.tup (pps ++ [.ref q1])) z = some (.tup (pps ++ [.ref q1])) := upd_same
      generalize L2.upd H2 z (.tup (pps ++ [.ref q1])) = H3 at *
      have hw9 : HT.sIx (pps ++ [V.ref q1]).length 0 (some (0 - 20)) = (pps ++ [V.ref q1]).length - 20 := by
        show (if (0 - 20 : Int) < 0 then ((0 - 20 : Int) + ((pps ++ [V.ref q1]).length : Int)).toNat else min (0 - 20 : Int).toNat (pps ++ [V.ref q1]).length) = _
        rw [if_pos (by decide)]
        omega
      
      dsimp only [tNoPart]
      walk_at "w"
      refine ⟨fun hw => ?_, fun hw y hy => ?_⟩
      · have h20 : m + 1 ≤ 20 := by
          have h1 := hw.1
          have h2 : HT.sIx (pps ++ [V.ref q1]).length 0 (some (0 - 20)) = 0 := h1
          omega
        have s14 := s13
        have hy4 := hz
        have hd4 := s14 _ _ hd1
        dsimp only [tNoPart]
        walk_at "w"
        refine k _ ((Kas.ka (ka.trans (.of s14)) (by simp)).trans (.ka .own (by simp))) ?_ ?_
        · exact ⟨ddx, _, _, upd_same, (Fz.own (K := K) hd4 (nf _)).at_ _ _ trivial hy4, by rw [hxl]; omega⟩
        · exact (ix1.same s14).keep (Fz.own (K := K) hd4 (nf _)) fun o e => (upd_ne hda.symm).trans e
      · have h20 : ¬ m + 1 ≤ 20 := fun z => hw ⟨by show HT.sIx (pps ++ [V.ref q1]).length 0 (some (0 - 20)) = 0; omega, rfl⟩
        have s14 := s13.upd (o := .tup (cutV (pps ++ [V.ref q1]) (some (0 - 20)) none)) hy
        have hy4 : L2.upd H3 y (.tup (cutV (pps ++ [V.ref q1]) (some (0 - 20)) none)) y = some (.tup (cutV (pps ++ [V.ref q1]) (some (0 - 20)) none)) := upd_same
        have hcl : (cutV (pps ++ [V.ref q1]) (some (0 - 20)) none).length = 20 := by
          unfold cutV
          rw [hw9]
          show List.length (List.take ((pps ++ [V.ref q1]).length - ((pps ++ [V.ref q1]).length - 20)) _) = 20
          rw [List.length_take, List.length_drop]
          omega
        generalize L2.upd H3 y (.tup (cutV (pps ++ [V.ref q1]) (some (0 - 20)) none)) = H4 at *
        have hd4 := s14 _ _ hd1
        dsimp only [tNoPart]
        walk_at "w"
        refine k _ ((Kas.ka (ka.trans (.of s14)) (by simp)).trans (.ka .own (by simp))) ?_ ?_
        · exact ⟨ddx, _, _, upd_same, (Fz.own (K := K) hd4 (nf _)).at_ _ _ trivial hy4, by rw [hcl]; omega⟩
        · exact (ix1.same s14).keep (Fz.own (K := K) hd4 (nf _)) fun o e => (upd_ne hda.symm).trans e
end
end K8
set_option maxHeartbeats 4000000
namespace K8
open PySem PySem.Spec PyProof.Rows L2
set_option hygiene false in
local macro_rules | `(tactic| walk_at "w") => `(tactic| (repeat (first | refine ⟨_, rfl, ?_⟩ | refine ⟨_, _, rfl, rfl, ?_⟩ | refine ⟨rfl, ?_⟩ | refine ⟨_, _, rfl, ?_⟩ | refine ⟨_, _, rfl, .of upd_same, rfl, ?_⟩ | refine ⟨_, _, rfl, .of (by assumption), rfl, ?_⟩ | refine ⟨_, _, rfl, .of (by assumption), fun q hq => ?_⟩ | refine ⟨_, _, rfl, .of (by assumption), ?_⟩ | refine ⟨_, _, rfl, .inr (.of (by assumption)), ?_⟩ | refine ⟨_, _, rfl, .inl (.of (by assumption)), ?_⟩ | refine ⟨_, _, _, _, rfl, rfl, .of (by assumption), atI_nat (j := 0) rfl, ?_⟩ | refine ⟨_, _, _, _, rfl, rfl, .of (by assumption), atI_nat (j := 1) rfl, ?_⟩ | refine ⟨_, _, _, _, rfl, rfl, .of (by assumption), atI_nat (j := 2) rfl, ?_⟩ | refine ⟨fun z => absurd z.1 (show ¬ (1 : Nat) = 0 by decide), fun _ q hq => ?_⟩ | refine ⟨fun z => absurd z.1 (show ¬ (2 : Nat) = 0 by decide), fun _ q hq => ?_⟩ | refine ⟨sz1, fun q hq => ?_⟩ | refine ⟨sz2, fun q hq => ?_⟩ | refine ⟨sz3, fun q hq => ?_⟩ | refine ⟨sz0, fun q hq => ?_⟩ | refine ⟨_, _, _, rfl, rfl, (by assumption), (by assumption), ?_⟩ | refine ⟨.inl ⟨rfl, _, .of (by assumption)⟩, ?_⟩ | refine ⟨_, _, rfl, .inl ⟨.of (by assumption), fun q hq => ?_⟩⟩ | refine ⟨⟨_, .of (by assumption)⟩, ?_⟩ | refine ⟨⟨_, rfl⟩, ?_⟩ | refine ⟨.inl ⟨rfl, _, .of upd_same⟩, ?_⟩ | refine ⟨_, _, _, _, _, rfl, (by assumption), (by assumption), (by assumption), (by rfl), ?_⟩ | refine ⟨_, _, _, _, rfl, upd_same, (by assumption), (by assumption), (by first | exact ixFs_len | exact (show (0 : Nat) < 1000 by decide) | exact (show (1 : Nat) < 1000 by decide) | exact (show (2 : Nat) < 1000 by decide) | exact (show (3 : Nat) < 1000 by decide) | exact (show (4 : Nat) < 1000 by decide) | exact (show (5 : Nat) < 1000 by decide) | exact (show (6 : Nat) < 1000 by decide)), ?_⟩ | refine ⟨_, _, _, _, rfl, (by assumption), (by assumption), (by assumption), (by first | exact ixFs_len | exact (show (0 : Nat) < 1000 by decide) | exact (show (1 : Nat) < 1000 by decide) | exact (show (2 : Nat) < 1000 by decide) | exact (show (3 : Nat) < 1000 by decide) | exact (show (4 : Nat) < 1000 by decide) | exact (show (5 : Nat) < 1000 by decide) | exact (show (6 : Nat) < 1000 by decide)), ?_⟩ | refine ⟨_, _, _, rfl, (by assumption), (by first | rfl | exact ixFs_no (by decide +kernel)), ?_⟩ | refine ⟨_, _, _, rfl, (by assumption), ?_⟩ | refine iteT ?_ | refine iteF ?_)))
section
variable {P : Program} {w : World} {K : PySem.W.Frag} {mg : Str → Option Value} {base : Heap}
/-! ### the law's draws -/
abbrev bigM : Int := 2305843009213693951
/-- the spring at q -/
structure Spr (q : Addr) (H : Hp) : Prop where
  ex : ∃ g m c : Int, H q = some (.lst [.int g, .int m, .int c]) ∧ 0 ≤ g ∧ 0 ≤ m ∧ m < bigM ∧ 0 ≤ c
theorem _root_.L2.Same.none {H H' : Hp} {b : Addr} (s : Same H H') (h : H' b = none) : H b = none := by
  cases e : H b with
  | none => rfl
  | some o => rw [s _ _ e] at h; cases h
theorem fm_ok (x : Int) : 0 ≤ x.fmod bigM ∧ x.fmod bigM < bigM := ⟨Int.fmod_nonneg_of_pos _ (by decide), Int.fmod_lt_of_pos _ (by decide)⟩
theorem sqL_same {H H' : Hp} {p : Addr} {xs : List V} (h : SqL K H p xs) (s : Same H H') : SqL K H' p xs := by
  rcases h with (h | ⟨o, h⟩) | h
  · exact .inl (.inl (s _ _ h))
  · exact .inl (.inr ⟨o, s _ _ h⟩)
  · exact .inr h
def sp_spring (K : PySem.W.Frag) : Sp := fun vs H Q _ => ∃ (p : Addr) (ns : List Int), vs = [.ref p] ∧ SqL K H p (ns.map V.int) ∧ ∀ H' q, Same H H' → H q = none → Spr q H' → Q (.ref q) H'
theorem ok_spring (D : Df K mg "_law_spring" s_l_spring) (G : Gx K mg) : Cal P w K mg base CX0 1 "_law_spring" (sp_spring K) := by
  refine cal0 D sc_l_spring (fun _ _ _ _ _ _ us hl => match us, hl with | [_], _ => rfl) (fun vs H Q E h => ?_) (fun f cdv A outer s H vs Q E hr h => ?_)
  · obtain ⟨_, _, rfl, _⟩ := h
    rfl
  · obtain ⟨p, ns, rfl, hp, k⟩ := h
    refine ⟨_, (pss_cons (ps_asg (pe_tup (pa_cons pe_int (pa_cons pe_int pa_nil))) (pg_tup (n := 2) rfl (pgs_cons (pg_name (i := 1) sc_l_spring.nd rfl (Or.inl rfl)) (pgs_cons (pg_name (i := 2) sc_l_spring.nd rfl (Or.inl rfl)) pgs_nil))))
      (pss_cons (ps_for PassesOwn.never rfl (pi_list (pe_slice sl_list (pv 0) po_none (po_some pe_int))) (pg_name (i := 3) sc_l_spring.nd rfl (Or.inl rfl)) (pss_cons (ps_set (i := 4) sc_l_spring.nd rfl (Or.inl rfl) (pe_op op_add (pe_op op_add (pe_op op_mul pe_int (pe_callB call_abs (by rfl) G.abs (by decide +kernel) (pa_cons (pv 3) pa_nil))) (pe_callTy call_int1 (by rfl) G.int (by decide +kernel) (pa_cons (pe_cmpR op_lt (pv 3) pe_int (nomark _)) pa_nil))) pe_int))
      (pss_cons (ps_set (i := 2) sc_l_spring.nd rfl (Or.inl rfl) (pe_op op_modN (pe_callTy call_int1 (by rfl) G.int (by decide +kernel) (pa_cons (pe_op op_add (pe_op op_mul (pv 2) pe_int) (pv 4)) pa_nil)) pe_int))
      (pss_one (ps_if (pt_cmpR op_ge (pe_callB call_abs (by rfl) G.abs (by decide +kernel) (pa_cons (pv 3) pa_nil)) (pe_op op_pow pe_int pe_int) (nomark _)) (pss_one (ps_set (i := 1) sc_l_spring.nd rfl (Or.inl rfl) (pe_op op_add (pe_op op_mul (pv 1) pe_int) (pe_callB call_abs (by rfl) G.abs (by decide +kernel) (pa_cons (pv 3) pa_nil))))) pss_nil)))))
      (pss_one (ps_ret (pe_lst (pa_cons (pv 1) (pa_cons (pv 2) (pa_cons pe_int pa_nil)))))))), ?_⟩
    walk_at "w"
    have s1 : Same H (L2.upd H q (.tup [.int 0, .int 2925])) := .new hq
    generalize L2.upd H q (.tup [.int 0, .int 2925]) = H1 at *
    have hp1 : SqL K H1 p (ns.map V.int) := sqL_same hp s1
    refine ⟨p, _, rfl, hp1, fun p2 hp2 => ?_⟩
    have s2 : Same H (L2.upd H1 p2 (.lst (cutV (ns.map V.int) none (some 63)))) := s1.upd hp2
    have hc2 : L2.upd H1 p2 (.lst (cutV (ns.map V.int) none (some 63))) p2 = some (.lst (cutV (ns.map V.int) none (some 63))) := upd_same
    generalize L2.upd H1 p2 (.lst (cutV (ns.map V.int) none (some 63))) = H2 at *
    have hcut : cutV (ns.map V.int) none (some 63) = (ns.take 63).map V.int := by
      unfold cutV
      show ((ns.map V.int).drop 0).take (HT.sIx (ns.map V.int).length (ns.map V.int).length (some ((63 : Nat) : Int)) - 0) = _
      rw [HT.sIx_nat, List.drop_zero, Nat.sub_zero, List.length_map, ← List.map_take]
      congr 1
      rcases Nat.le_total 63 ns.length with h | h
      · rw [Nat.min_eq_left h]
      · rw [Nat.min_eq_right h, List.take_of_length_le (Nat.le_refl _), List.take_of_length_le h]
    rw [hcut] at hc2
    generalize ns.take 63 = ms at *
    walk_at "w"
    refine for_list (xs := ms.map V.int) (fun i σ H' => H' = H2 ∧ ∃ (g m : Int) (b c : Option V), σ = [some (.ref p), some (.int g), some (.int m), b, c] ∧ 0 ≤ g ∧ 0 ≤ m ∧ m < bigM) ?_ ?_ ?_ ?_
    · exact ⟨rfl, 0, 2925, _, _, rfl, by decide, by decide, by decide⟩
    · rintro i σ H' hi ⟨rfl, _⟩
      exact .of hc2
    · rintro i x σ H' hx ⟨rfl, g, m, b, c, rfl, g0, m0, m1⟩
      obtain ⟨n, hn, rfl⟩ : ∃ n, ms[i]? = some n ∧ V.int n = x := by
        rw [List.getElem?_map] at hx
        exact Option.map_eq_some_iff.mp hx
      walk_at "w"
      refine ⟨.inl ⟨by decide, by decide⟩, ?_⟩
      walk_at "w"
      refine .inr ⟨_, rfl, ?_⟩
      walk_at "w"
      refine ⟨.inr ⟨by decide, by decide⟩, ?_⟩
      walk_at "w"
      refine .inl ⟨_, rfl, ?_⟩
      walk_at "w"
      refine ⟨(show (2305843009213693951 : Int) ≠ 0 by decide), ?_⟩
      walk_at "w"
      dsimp only [tNoPart]
      generalize hm2 : Int.fmod _ 2305843009213693951 = m2
      obtain ⟨m20, m21⟩ : 0 ≤ m2 ∧ m2 < bigM := by
        rw [← hm2]
        exact fm_ok _
      walk_at "w"
      refine ⟨⟨by decide, by decide, by decide⟩, ?_⟩
      walk_at "w"
      cases hb : decide (10 ^ Int.toNat 18 ≤ (if n < 0 then -n else n)) with
      | true =>
        refine iteT ?_
        walk_at "w"
        refine ⟨.inr ⟨by decide, by decide⟩, ?_⟩
        walk_at "w"
        have h9 : 0 ≤ g * 37 + (if n < 0 then -n else n) := by split <;> omega
        exact ⟨_, _, _, _, rfl, h9, m20, m21⟩
      | false =>
        refine iteF ?_
        walk_at "w"
        exact ⟨_, _, _, _, rfl, g0, m20, m21⟩
    · rintro σ H' ⟨rfl, g, m, b, c, rfl, g0, m0, m1⟩
      walk_at "w"
      exact k _ _ (s2.upd (by assumption)) (s2.none (by assumption)) ⟨_, _, _, upd_same, g0, m0, m1, by decide⟩
def sp_dip : Sp := fun vs H Q _ => ∃ (q : Addr) (n : Int), vs = [.ref q, .int n] ∧ Spr q H ∧ 1 ≤ n ∧ n ≤ 1000 ∧ ∀ H' k, Ka q H H' → Spr q H' → 0 ≤ k → k < n → Q (.int k) H'
theorem ok_dip (D : Df K mg "_law_dip" s_l_dip) (G : Gx K mg) : Cal P w K mg base CX0 1 "_law_dip" sp_dip := by
  refine cal0 D sc_l_dip (fun _ _ _ _ _ _ us hl => match us, hl with | [_, _], _ => rfl) (fun vs H Q E h => ?_) (fun f cdv A outer s H vs Q E hr h => ?_)
  · obtain ⟨_, _, rfl, _⟩ := h
    rfl
  · obtain ⟨q0, n, rfl, hs, n1, n2, k⟩ := h
    refine ⟨_, (pss_cons (ps_if (pt_cmpR op_gt (pe_ix ix_list (pv 0) pe_int (fun _ _ => rfl)) pe_int (nomark _)) (pss_cons (ps_set (i := 2) sc_l_dip.nd rfl (Or.inl rfl) (pe_op op_modN (pe_callTy call_int1 (by rfl) G.int (by decide +kernel) (pa_cons (pe_ix ix_list (pv 0) pe_int (fun _ _ => rfl)) pa_nil)) (pv 1)))
      (pss_cons (ps_asg (pe_op op_fdivN (pe_ix ix_list (pv 0) pe_int (fun _ _ => rfl)) (pv 1)) (pg_sub (pv 0) pe_int set_list))
      (pss_one (ps_ret (pv 2))))) pss_nil)
      (pss_cons (ps_asg (pe_op op_add (pe_ix ix_list (pv 0) pe_int (fun _ _ => rfl)) pe_int) (pg_sub (pv 0) pe_int set_list))
      (pss_cons (ps_set (i := 3) sc_l_dip.nd rfl (Or.inl rfl) (pe_op op_add (pe_op op_mul pe_int (pe_ix ix_list (pv 0) pe_int (fun _ _ => rfl))) pe_int))
      (pss_cons (ps_asg (pe_op op_modN (pe_callTy call_int1 (by rfl) G.int (by decide +kernel) (pa_cons (pe_op op_add (pe_op op_mul (pe_ix ix_list (pv 0) pe_int (fun _ _ => rfl)) pe_int) (pv 3)) pa_nil)) pe_int) (pg_sub (pv 0) pe_int set_list))
      (pss_one (ps_ret (pe_op op_modN (pe_callTy call_int1 (by rfl) G.int (by decide +kernel) (pa_cons (pe_op op_fdivN (pe_op op_modN (pe_callTy call_int1 (by rfl) G.int (by decide +kernel) (pa_cons (pe_op op_mul (pe_ix ix_list (pv 0) pe_int (fun _ _ => rfl)) (pe_ix ix_list (pv 0) pe_int (fun _ _ => rfl))) pa_nil)) pe_int) pe_int) pa_nil)) (pv 1)))))))), ?_⟩
    obtain ⟨g, m, c, hq, g0, m0, m1, c0⟩ := hs.ex
    by_cases hg : 0 < g
    · walk_at "w"
      refine iteDT hg ?_
      walk_at "w"
      refine .inl ⟨_, rfl, ?_⟩
      walk_at "w"
      refine ⟨by omega, ?_⟩
      walk_at "w"
      refine ⟨⟨by omega, by omega⟩, ?_⟩
      refine ⟨_, rfl, ?_⟩
      refine ⟨_, _, _, 0, rfl, rfl, hq, rfl, ?_⟩
      refine ⟨_, rfl, ?_⟩
      refine k _ (g.fmod n) .own ⟨_, _, _, upd_same, ?_, m0, m1, c0⟩ (Int.fmod_nonneg_of_pos _ (by omega)) (Int.fmod_lt_of_pos _ (by omega))
      exact Int.fdiv_nonneg (by omega) (by omega)
    · walk_at "w"
      refine iteDF hg ?_
      walk_at "w"
      refine ⟨_, _, _, 2, rfl, rfl, hq, rfl, ?_⟩
      have hq2 : L2.upd H q0 (.lst [.int g, .int m, .int (c + 1)]) q0 = some (.lst [.int g, .int m, .int (c + 1)]) := upd_same
      have ka2 : Ka q0 H (L2.upd H q0 (.lst [.int g, .int m, .int (c + 1)])) := .own
      dsimp only [List.set]
      generalize L2.upd H q0 (.lst [.int g, .int m, .int (c + 1)]) = H2 at *
      walk_at "w"
      refine ⟨.inl ⟨by decide, by decide⟩, ?_⟩
      walk_at "w"
      refine ⟨.inr ⟨by decide, by decide⟩, ?_⟩
      walk_at "w"
      refine .inl ⟨_, rfl, ?_⟩
      walk_at "w"
      refine ⟨(show (2305843009213693951 : Int) ≠ 0 by decide), ?_⟩
      dsimp only [tNoPart]
      generalize hm2 : Int.fmod _ 2305843009213693951 = m2
      obtain ⟨m20, m21⟩ : 0 ≤ m2 ∧ m2 < bigM := by
        rw [← hm2]
        exact fm_ok _
      refine ⟨_, rfl, ?_⟩
      refine ⟨_, _, _, 1, rfl, rfl, hq2, rfl, ?_⟩
      dsimp only [List.set]
      have hq3 : L2.upd H2 q0 (.lst [.int g, .int m2, .int (c + 1)]) q0 = some (.lst [.int g, .int m2, .int (c + 1)]) := upd_same
      have ka3 : Ka q0 H (L2.upd H2 q0 (.lst [.int g, .int m2, .int (c + 1)])) := ka2.trans .own
      generalize L2.upd H2 q0 (.lst [.int g, .int m2, .int (c + 1)]) = H3 at *
      walk_at "w"
      refine ⟨.inl ⟨Int.lt_of_lt_of_le (by decide) m20, Int.lt_trans m21 (by decide)⟩, ?_⟩
      walk_at "w"
      refine .inl ⟨_, rfl, ?_⟩
      walk_at "w"
      refine ⟨(show (2305843009213693951 : Int) ≠ 0 by decide), ?_⟩
      walk_at "w"
      refine ⟨⟨by decide, by decide⟩, ?_⟩
      walk_at "w"
      refine .inl ⟨_, rfl, ?_⟩
      walk_at "w"
      refine ⟨by omega, ?_⟩
      exact k _ _ ka3 ⟨_, _, _, hq3, g0, m20, m21, by omega⟩ (Int.fmod_nonneg_of_pos _ (by omega)) (Int.fmod_lt_of_pos _ (by omega))
end
end K8
set_option maxHeartbeats 4000000
namespace K8
open PySem PySem.Spec PyProof.Rows L2
set_option hygiene false in
local macro_rules | `(tactic| walk_at "w") => `(tactic| (repeat (first | refine ⟨_, rfl, ?_⟩ | refine ⟨_, _, rfl, rfl, ?_⟩ | refine ⟨rfl, ?_⟩ | refine ⟨_, _, rfl, ?_⟩ | refine ⟨_, _, rfl, .of upd_same, rfl, ?_⟩ | refine ⟨_, _, rfl, .of (by assumption), rfl, ?_⟩ | refine ⟨_, _, rfl, .of (by assumption), fun q hq => ?_⟩ | refine ⟨_, _, rfl, .of (by assumption), ?_⟩ | refine ⟨_, _, rfl, .inr (.of (by assumption)), ?_⟩ | refine ⟨_, _, rfl, .inl (.of (by assumption)), ?_⟩ | refine ⟨_, _, _, _, rfl, rfl, .of (by assumption), atI_nat (j := 0) rfl, ?_⟩ | refine ⟨_, _, _, _, rfl, rfl, .of (by assumption), atI_nat (j := 1) rfl, ?_⟩ | refine ⟨_, _, _, _, rfl, rfl, .of (by assumption), atI_nat (j := 2) rfl, ?_⟩ | refine ⟨fun z => absurd z.1 (show ¬ (1 : Nat) = 0 by decide), fun _ q hq => ?_⟩ | refine ⟨fun z => absurd z.1 (show ¬ (2 : Nat) = 0 by decide), fun _ q hq => ?_⟩ | refine ⟨sz1, fun q hq => ?_⟩ | refine ⟨sz2, fun q hq => ?_⟩ | refine ⟨sz3, fun q hq => ?_⟩ | refine ⟨sz0, fun q hq => ?_⟩ | refine ⟨_, _, _, rfl, rfl, (by assumption), (by assumption), ?_⟩ | refine ⟨.inl ⟨rfl, _, .of (by assumption)⟩, ?_⟩ | refine ⟨_, _, rfl, .inl ⟨.of (by assumption), fun q hq => ?_⟩⟩ | refine ⟨⟨_, .of (by assumption)⟩, ?_⟩ | refine ⟨⟨_, rfl⟩, ?_⟩ | refine ⟨.inl ⟨rfl, _, .of upd_same⟩, ?_⟩ | refine ⟨_, _, _, _, _, rfl, (by assumption), (by assumption), (by assumption), (by rfl), ?_⟩ | refine ⟨_, _, _, _, rfl, upd_same, (by assumption), (by assumption), (by first | exact ixFs_len | exact (show (0 : Nat) < 1000 by decide) | exact (show (1 : Nat) < 1000 by decide) | exact (show (2 : Nat) < 1000 by decide) | exact (show (3 : Nat) < 1000 by decide) | exact (show (4 : Nat) < 1000 by decide) | exact (show (5 : Nat) < 1000 by decide) | exact (show (6 : Nat) < 1000 by decide)), ?_⟩ | refine ⟨_, _, _, _, rfl, (by assumption), (by assumption), (by assumption), (by first | exact ixFs_len | exact (show (0 : Nat) < 1000 by decide) | exact (show (1 : Nat) < 1000 by decide) | exact (show (2 : Nat) < 1000 by decide) | exact (show (3 : Nat) < 1000 by decide) | exact (show (4 : Nat) < 1000 by decide) | exact (show (5 : Nat) < 1000 by decide) | exact (show (6 : Nat) < 1000 by decide)), ?_⟩ | refine ⟨_, _, _, rfl, (by assumption), (by first | rfl | exact ixFs_no (by decide +kernel)), ?_⟩ | refine ⟨_, _, _, rfl, (by assumption), ?_⟩ | refine iteT ?_ | refine iteF ?_)))
section
variable {P : Program} {w : World} {K : PySem.W.Frag} {mg : Str → Option Value} {base : Heap}
theorem Spr.same {q : Addr} {H H' : Hp} (h : Spr q H) (s : Same H H') : Spr q H' := by
  obtain ⟨g, m, c, e, r⟩ := h.ex
  exact ⟨g, m, c, s _ _ e, r⟩
def sp_pick : Sp := fun vs H Q _ => ∃ (q p : Addr) (xs : List V), vs = [.ref q, .ref p] ∧ Spr q H ∧ H p = some (.lst xs) ∧ p ≠ q ∧ 1 ≤ xs.length ∧ xs.length ≤ 100 ∧ ∀ H' x, x ∈ xs → Ka q H H' → Spr q H' → Q x H'
theorem ok_pick (D : Df K mg "_law_pick" s_l_pick) (G : Gx K mg) (c__law_dip : Cal P w K mg base CX0 1 "_law_dip" sp_dip) : Cal P w K mg base CX0 2 "_law_pick" sp_pick := by
  refine cal0 D sc_l_pick (fun _ _ _ _ _ _ us hl => match us, hl with | [_, _], _ => rfl) (fun vs H Q E h => ?_) (fun f cdv A outer s H vs Q E hr h => ?_)
  · obtain ⟨_, _, _, rfl, _⟩ := h
    rfl
  · obtain ⟨q0, p, xs, rfl, hs, hp, hne, n1, n2, k⟩ := h
    refine ⟨_, (pss_one (ps_ret (pe_ix ix_list (pv 1) (pe_d c__law_dip hr (by decide) (by rfl) (pa_cons (pv 0) (pa_cons (pe_callB call_len_seq (by rfl) G.len (by decide +kernel) (pa_cons (pv 1) pa_nil)) pa_nil))) (fun _ _ => rfl)))), ?_⟩
    walk_at "w"
    refine ⟨hs, by omega, by omega, fun H1 i ka s1 i0 i1 => ?_⟩
    have hp1 := ka.at_ _ _ hne hp
    obtain ⟨j, rfl⟩ := Int.eq_ofNat_of_zero_le i0
    have hj : j < xs.length := by omega
    refine ⟨p, xs, _, xs[j], rfl, rfl, .of hp1, atI_nat (by simp [hj]), ?_⟩
    exact k _ _ (List.getElem_mem hj) ka s1
/-- the heap but for the spring, what was there stays -/
def RgG (r : Rg) : Prop := RgOk' r ∧ (r.lo = none ∨ r.hi = none ∨ (r.lo.isSome = true ∧ r.hi.isSome = true))
def sp_range : Sp := fun vs H Q _ => ∃ q : Addr, vs = [.ref q] ∧ Spr q H ∧ ∀ H' v r, RgOk' r → Ka q H H' → Spr q H' → Td H' v r.d → Q v H'
theorem ok_range (D : Df K mg "_law_range" s_l_range) (G : Gx K mg) (c__law_dip : Cal P w K mg base CX0 1 "_law_dip" sp_dip) : Cal P w K mg base CX0 2 "_law_range" sp_range := by
  refine cal0 D sc_l_range (fun _ _ _ _ _ _ us hl => match us, hl with | [_], _ => rfl) (fun vs H Q E h => ?_) (fun f cdv A outer s H vs Q E hr h => ?_)
  · obtain ⟨_, rfl, _⟩ := h
    rfl
  · obtain ⟨q0, rfl, hs, k⟩ := h
    refine ⟨_, (pss_cons (ps_set (i := 1) sc_l_range.nd rfl (Or.inl rfl) (pe_d c__law_dip hr (by decide) (by rfl) (pa_cons (pv 0) (pa_cons pe_int pa_nil))))
      (pss_cons (ps_set (i := 2) sc_l_range.nd rfl (Or.inl rfl) (pe_ifExp (pt_cmpR op_lt (pv 1) pe_int (nomark _)) (pe_op op_sub (pe_d c__law_dip hr (by decide) (by rfl) (pa_cons (pv 0) (pa_cons pe_int pa_nil))) pe_int) (pe_op op_add pe_int (pe_d c__law_dip hr (by decide) (by rfl) (pa_cons (pv 0) (pa_cons pe_int pa_nil))))))
      (pss_cons (ps_if (pt_cmpR op_lt (pv 1) pe_int (nomark _)) (pss_one (ps_ret (pe_ix ix_list (pe_lst (pa_cons (pe_tup (pa_cons pe_non (pa_cons (pv 2) pa_nil))) (pa_cons (pe_tup (pa_cons (pv 2) (pa_cons pe_non pa_nil))) (pa_cons (pe_tup (pa_cons pe_non (pa_cons pe_non pa_nil))) pa_nil)))) (pv 1) (fun _ _ => rfl)))) pss_nil)
      (pss_one (ps_ret (pe_tup (pa_cons (pv 2) (pa_cons (pe_op op_add (pv 2) (pe_d c__law_dip hr (by decide) (by rfl) (pa_cons (pv 0) (pa_cons (pe_op op_sub pe_int (pv 2)) pa_nil)))) pa_nil)))))))), ?_⟩
    walk_at "w"
    refine ⟨hs, by decide, by decide, fun H1 i ka1 s1 i0 i1 => ?_⟩
    walk_at "w"
    by_cases h6 : i < 6
    · refine iteDT h6 ?_
      walk_at "w"
      refine ⟨s1, by decide, by decide, fun H2 j ka2 s2 j0 j1 => ?_⟩
      walk_at "w"
      have l0 : -6 ≤ j - 6 := by omega
      have l1 : j - 6 ≤ 6 := by omega
      have kaB := ka1.trans ka2
      dsimp only [tNoPart]
      generalize j - 6 = lw at *
      by_cases h3 : i < 3
      · refine iteDT h3 ?_
        walk_at "w"
        rename_i a1 g1 a2 g2 a3 g3
        have c1 : L2.upd H2 a1 (.tup [.non, .int lw]) a1 = some (.tup [.non, .int lw]) := upd_same
        have n1 : Same H2 (L2.upd H2 a1 (.tup [.non, .int lw])) := .new g1
        generalize L2.upd H2 a1 (.tup [.non, .int lw]) = Ha at *
        have c2 : L2.upd Ha a2 (.tup [.int lw, .non]) a2 = some (.tup [.int lw, .non]) := upd_same
        have n2 : Same Ha (L2.upd Ha a2 (.tup [.int lw, .non])) := .new g2
        generalize L2.upd Ha a2 (.tup [.int lw, .non]) = Hb at *
        have c3 : L2.upd Hb a3 (.tup [.non, .non]) a3 = some (.tup [.non, .non]) := upd_same
        have n3 : Same Hb (L2.upd Hb a3 (.tup [.non, .non])) := .new g3
        generalize L2.upd Hb a3 (.tup [.non, .non]) = Hc at *
        have c4 : L2.upd Hc q (.lst [.ref a1, .ref a2, .ref a3]) q = some (.lst [.ref a1, .ref a2, .ref a3]) := upd_same
        have n4 : Same Hc (L2.upd Hc q (.lst [.ref a1, .ref a2, .ref a3])) := .new hq
        generalize L2.upd Hc q (.lst [.ref a1, .ref a2, .ref a3]) = Hd at *
        have n34 := n3.trans n4
        have n24 := n2.trans n34
        have n14 := n1.trans n24
        have kd := kaB.trans (Ka.of n14)
        have sd : Spr q0 Hd := s2.same n14
        have hi : i = 0 ∨ i = 1 ∨ i = 2 := by omega
        rcases hi with rfl | rfl | rfl
        · refine ⟨q, _, _, .ref a1, rfl, rfl, .of c4, atI_nat (j := 0) rfl, ?_⟩
          exact k _ _ ⟨none, some lw⟩ ⟨fun _ z => (nomatch z), fun z e => by cases e; exact ⟨l0, l1⟩, fun _ _ z => (nomatch z)⟩ kd sd (.of2 (n24 _ _ c1) .non (.int _))
        · refine ⟨q, _, _, .ref a2, rfl, rfl, .of c4, atI_nat (j := 1) rfl, ?_⟩
          exact k _ _ ⟨some lw, none⟩ ⟨fun z e => by cases e; exact ⟨l0, l1⟩, fun _ z => (nomatch z), fun _ _ _ z => (nomatch z)⟩ kd sd (.of2 (n34 _ _ c2) (.int _) .non)
        · refine ⟨q, _, _, .ref a3, rfl, rfl, .of c4, atI_nat (j := 2) rfl, ?_⟩
          exact k _ _ ⟨none, none⟩ ⟨fun _ z => (nomatch z), fun _ z => (nomatch z), fun _ _ z => (nomatch z)⟩ kd sd (.of2 (n4 _ _ c3) .non .non)
      · refine iteDF h3 ?_
        walk_at "w"
        refine ⟨s2, by omega, by omega, fun H3 u ka3 s3 u0 u1 => ?_⟩
        walk_at "w"
        refine k _ _ ⟨some lw, some (lw + u)⟩ ⟨fun z e => by cases e; exact ⟨l0, l1⟩, fun z e => by cases e; exact ⟨by omega, by omega⟩, fun z y e1 e2 => by cases e1; cases e2; omega⟩ ((kaB.trans ka3).trans (.of (.new (by assumption)))) (s3.same (.new (by assumption))) (.of2 upd_same (.int _) (.int _))
    · refine iteDF h6 ?_
      walk_at "w"
      refine ⟨s1, by decide, by decide, fun H2 j ka2 s2 j0 j1 => ?_⟩
      walk_at "w"
      have l0 : -6 ≤ 1 + j := by omega
      have l1 : 1 + j ≤ 6 := by omega
      have kaB := ka1.trans ka2
      dsimp only [tNoPart]
      generalize 1 + j = lw at *
      by_cases h3 : i < 3
      · refine iteDT h3 ?_
        walk_at "w"
        rename_i a1 g1 a2 g2 a3 g3
        have c1 : L2.upd H2 a1 (.tup [.non, .int lw]) a1 = some (.tup [.non, .int lw]) := upd_same
        have n1 : Same H2 (L2.upd H2 a1 (.tup [.non, .int lw])) := .new g1
        generalize L2.upd H2 a1 (.tup [.non, .int lw]) = Ha at *
        have c2 : L2.upd Ha a2 (.tup [.int lw, .non]) a2 = some (.tup [.int lw, .non]) := upd_same
        have n2 : Same Ha (L2.upd Ha a2 (.tup [.int lw, .non])) := .new g2
        generalize L2.upd Ha a2 (.tup [.int lw, .non]) = Hb at *
        have c3 : L2.upd Hb a3 (.tup [.non, .non]) a3 = some (.tup [.non, .non]) := upd_same
        have n3 : Same Hb (L2.upd Hb a3 (.tup [.non, .non])) := .new g3
        generalize L2.upd Hb a3 (.tup [.non, .non]) = Hc at *
        have c4 : L2.upd Hc q (.lst [.ref a1, .ref a2, .ref a3]) q = some (.lst [.ref a1, .ref a2, .ref a3]) := upd_same
        have n4 : Same Hc (L2.upd Hc q (.lst [.ref a1, .ref a2, .ref a3])) := .new hq
        generalize L2.upd Hc q (.lst [.ref a1, .ref a2, .ref a3]) = Hd at *
        have n34 := n3.trans n4
        have n24 := n2.trans n34
        have n14 := n1.trans n24
        have kd := kaB.trans (Ka.of n14)
        have sd : Spr q0 Hd := s2.same n14
        have hi : i = 0 ∨ i = 1 ∨ i = 2 := by omega
        rcases hi with rfl | rfl | rfl
        · refine ⟨q, _, _, .ref a1, rfl, rfl, .of c4, atI_nat (j := 0) rfl, ?_⟩
          exact k _ _ ⟨none, some lw⟩ ⟨fun _ z => (nomatch z), fun z e => by cases e; exact ⟨l0, l1⟩, fun _ _ z => (nomatch z)⟩ kd sd (.of2 (n24 _ _ c1) .non (.int _))
        · refine ⟨q, _, _, .ref a2, rfl, rfl, .of c4, atI_nat (j := 1) rfl, ?_⟩
          exact k _ _ ⟨some lw, none⟩ ⟨fun z e => by cases e; exact ⟨l0, l1⟩, fun _ z => (nomatch z), fun _ _ _ z => (nomatch z)⟩ kd sd (.of2 (n34 _ _ c2) (.int _) .non)
        · refine ⟨q, _, _, .ref a3, rfl, rfl, .of c4, atI_nat (j := 2) rfl, ?_⟩
          exact k _ _ ⟨none, none⟩ ⟨fun _ z => (nomatch z), fun _ z => (nomatch z), fun _ _ z => (nomatch z)⟩ kd sd (.of2 (n4 _ _ c3) .non .non)
      · refine iteDF h3 ?_
        walk_at "w"
        refine ⟨s2, by omega, by omega, fun H3 u ka3 s3 u0 u1 => ?_⟩
        walk_at "w"
        refine k _ _ ⟨some lw, some (lw + u)⟩ ⟨fun z e => by cases e; exact ⟨l0, l1⟩, fun z e => by cases e; exact ⟨by omega, by omega⟩, fun z y e1 e2 => by cases e1; cases e2; omega⟩ ((kaB.trans ka3).trans (.of (.new (by assumption)))) (s3.same (.new (by assumption))) (.of2 upd_same (.int _) (.int _))
end
end K8
set_option maxHeartbeats 4000000
namespace K8
open PySem PySem.Spec PyProof.Rows L2
set_option hygiene false in
local macro_rules | `(tactic| walk_at "w") => `(tactic| (repeat (first | refine ⟨_, rfl, ?_⟩ | refine ⟨_, _, rfl, rfl, ?_⟩ | refine ⟨rfl, ?_⟩ | refine ⟨_, _, rfl, ?_⟩ | refine ⟨_, _, rfl, .of upd_same, rfl, ?_⟩ | refine ⟨_, _, rfl, .of (by assumption), rfl, ?_⟩ | refine ⟨_, _, rfl, .of (by assumption), fun q hq => ?_⟩ | refine ⟨_, _, rfl, .of (by assumption), ?_⟩ | refine ⟨_, _, rfl, .inr (.of (by assumption)), ?_⟩ | refine ⟨_, _, rfl, .inl (.of (by assumption)), ?_⟩ | refine ⟨_, _, _, _, rfl, rfl, .of (by assumption), atI_nat (j := 0) rfl, ?_⟩ | refine ⟨_, _, _, _, rfl, rfl, .of (by assumption), atI_nat (j := 1) rfl, ?_⟩ | refine ⟨_, _, _, _, rfl, rfl, .of (by assumption), atI_nat (j := 2) rfl, ?_⟩ | refine ⟨fun z => absurd z.1 (show ¬ (1 : Nat) = 0 by decide), fun _ q hq => ?_⟩ | refine ⟨fun z => absurd z.1 (show ¬ (2 : Nat) = 0 by decide), fun _ q hq => ?_⟩ | refine ⟨sz1, fun q hq => ?_⟩ | refine ⟨sz2, fun q hq => ?_⟩ | refine ⟨sz3, fun q hq => ?_⟩ | refine ⟨sz0, fun q hq => ?_⟩ | refine ⟨_, _, _, rfl, rfl, (by assumption), (by assumption), ?_⟩ | refine ⟨.inl ⟨rfl, _, .of (by assumption)⟩, ?_⟩ | refine ⟨_, _, rfl, .inl ⟨.of (by assumption), fun q hq => ?_⟩⟩ | refine ⟨⟨_, .of (by assumption)⟩, ?_⟩ | refine ⟨⟨_, rfl⟩, ?_⟩ | refine ⟨.inl ⟨rfl, _, .of upd_same⟩, ?_⟩ | refine ⟨_, _, _, _, _, rfl, (by assumption), (by assumption), (by assumption), (by rfl), ?_⟩ | refine ⟨_, _, _, _, rfl, upd_same, (by assumption), (by assumption), (by first | exact ixFs_len | exact (show (0 : Nat) < 1000 by decide) | exact (show (1 : Nat) < 1000 by decide) | exact (show (2 : Nat) < 1000 by decide) | exact (show (3 : Nat) < 1000 by decide) | exact (show (4 : Nat) < 1000 by decide) | exact (show (5 : Nat) < 1000 by decide) | exact (show (6 : Nat) < 1000 by decide)), ?_⟩ | refine ⟨_, _, _, _, rfl, (by assumption), (by assumption), (by assumption), (by first | exact ixFs_len | exact (show (0 : Nat) < 1000 by decide) | exact (show (1 : Nat) < 1000 by decide) | exact (show (2 : Nat) < 1000 by decide) | exact (show (3 : Nat) < 1000 by decide) | exact (show (4 : Nat) < 1000 by decide) | exact (show (5 : Nat) < 1000 by decide) | exact (show (6 : Nat) < 1000 by decide)), ?_⟩ | refine ⟨_, _, _, rfl, (by assumption), (by first | rfl | exact ixFs_no (by decide +kernel)), ?_⟩ | refine ⟨_, _, _, rfl, (by assumption), ?_⟩ | refine iteT ?_ | refine iteF ?_)))
section
variable {P : Program} {w : World} {K : PySem.W.Frag} {mg : Str → Option Value} {base : Heap}
theorem Ka.tk {q : Addr} {H H' : Hp} (k : Ka q H H') (s : Spr q H) : TupK H H' := fun a xs h => k.at_ a _ (fun z => by
  obtain ⟨_, _, _, e, _⟩ := s.ex
  rw [z, e] at h
  cases h) h
theorem rgc {a b : Int} (h : -6 ≤ a ∧ a ≤ b ∧ b ≤ 6) : RgOk' ⟨some a, some b⟩ := ⟨fun z e => by cases e; omega, fun z e => by cases e; omega, fun x y e1 e2 => by cases e1; cases e2; omega⟩
theorem oi_flat (a b : OI) : [oiV a, oiV b].all flatV = true := by cases a <;> cases b <;> rfl
theorem oi_in (a b : OI) : inV .non [oiV a, oiV b] = !(a.isSome && b.isSome) := by cases a <;> cases b <;> rfl
def sp_row : Sp := fun vs H Q _ => ∃ (q : Addr) (n : Nat), vs = [.ref q, .int n] ∧ Spr q H ∧ 1 ≤ n ∧ n ≤ 4 ∧ ∀ H' v r, RowOk n r → Ka q H H' → Spr q H' → Td H' v r.d → Q v H'
theorem ok_row (D : Df K mg "_law_row" s_l_row) (G : Gx K mg) (c__law_dip : Cal P w K mg base CX0 1 "_law_dip" sp_dip) (c__law_pick : Cal P w K mg base CX0 2 "_law_pick" sp_pick) (c__law_range : Cal P w K mg base CX0 2 "_law_range" sp_range) : Cal P w K mg base CX0 3 "_law_row" sp_row := by
  refine cal0 D sc_l_row (fun _ _ _ _ _ _ us hl => match us, hl with | [_, _], _ => rfl) (fun vs H Q E h => ?_) (fun f cdv A outer s H vs Q E hr h => ?_)
  · obtain ⟨_, _, rfl, _⟩ := h
    rfl
  · obtain ⟨q0, n, rfl, hs, n1, n2, k⟩ := h
    refine ⟨_, (pss_cons (ps_par (i := 2) (j := 3) (by rfl) sc_l_row.nd rfl rfl (by decide) rfl rfl (pa_cons (pe_d c__law_range hr (by decide) (by rfl) (pa_cons (pv 0) pa_nil)) (pa_cons pe_non pa_nil)) (by rfl))
      (pss_cons (ps_if (pt_cmpR op_eq (pe_d c__law_dip hr (by decide) (by rfl) (pa_cons (pv 0) (pa_cons pe_int pa_nil))) pe_int (nomark _)) (pss_one (ps_set (i := 3) sc_l_row.nd rfl (Or.inl rfl) (pe_d c__law_pick hr (by decide) (by rfl) (pa_cons (pv 0) (pa_cons (pe_lst (pa_cons (pe_tup (pa_cons pe_int (pa_cons pe_int pa_nil))) (pa_cons (pe_tup (pa_cons pe_int (pa_cons pe_int pa_nil))) (pa_cons (pe_tup (pa_cons pe_int (pa_cons pe_int pa_nil))) (pa_cons (pe_tup (pa_cons (pe_un un_neg pe_int) (pa_cons pe_int pa_nil))) (pa_cons (pe_d c__law_range hr (by decide) (by rfl) (pa_cons (pv 0) pa_nil)) pa_nil)))))) pa_nil))))) pss_nil)
      (pss_cons (ps_set (i := 4) sc_l_row.nd rfl (Or.inl rfl) (pe_d c__law_pick hr (by decide) (by rfl) (pa_cons (pv 0) (pa_cons (pe_lst (pa_cons pe_str (pa_cons pe_str (pa_cons pe_str (pa_cons pe_str (pa_cons pe_str (pa_cons pe_str pa_nil))))))) pa_nil))))
      (pss_cons (ps_if (PW.pt (pw_and (pt_cmpR op_eq (pv 4) pe_str (nomark _)) (pw_and1 (pt_cmpR op_in_seq pe_non (pv 2) rfl)))) (pss_one (ps_set (i := 4) sc_l_row.nd rfl (Or.inl rfl) pe_str)) pss_nil)
      (pss_one (ps_ret (pe_tup (pa_cons (pv 2) (pa_cons (pv 3) (pa_cons (pv 4) (pa_cons (pe_d c__law_dip hr (by decide) (by rfl) (pa_cons (pv 0) (pa_cons (pv 1) pa_nil))) pa_nil))))))))))), ?_⟩
    walk_at "w"
    refine ⟨hs, fun H1 va ra oa ka1 s1 ta => ?_⟩
    walk_at "w"
    refine ⟨s1, by decide, by decide, fun H2 i ka2 s2 i0 i1 => ?_⟩
    walk_at "w"
    have ta2 := ta.mono (ka2.tk s1)
    have kaB := ka1.trans ka2
    by_cases h0 : i = 0
    · refine iteDT (congrArg V.int h0) ?_
      walk_at "w"
      rename_i a1 g1 a2 g2 a3 g3
      have c1 : L2.upd H2 a1 (.tup [.int 1, .int 1]) a1 = some (.tup [.int 1, .int 1]) := upd_same
      have m1 : Same H2 (L2.upd H2 a1 (.tup [.int 1, .int 1])) := .new g1
      generalize L2.upd H2 a1 (.tup [.int 1, .int 1]) = Ha at *
      have c2 : L2.upd Ha a2 (.tup [.int 1, .int 2]) a2 = some (.tup [.int 1, .int 2]) := upd_same
      have m2 : Same Ha (L2.upd Ha a2 (.tup [.int 1, .int 2])) := .new g2
      generalize L2.upd Ha a2 (.tup [.int 1, .int 2]) = Hb at *
      have c3 : L2.upd Hb a3 (.tup [.int 0, .int 0]) a3 = some (.tup [.int 0, .int 0]) := upd_same
      have m3 : Same Hb (L2.upd Hb a3 (.tup [.int 0, .int 0])) := .new g3
      generalize L2.upd Hb a3 (.tup [.int 0, .int 0]) = Hc at *
      generalize q = a4 at *
      have g4 := hq
      have c4 : L2.upd Hc a4 (.tup [.int (-1), .int 1]) a4 = some (.tup [.int (-1), .int 1]) := upd_same
      have m4 : Same Hc (L2.upd Hc a4 (.tup [.int (-1), .int 1])) := .new g4
      dsimp only [tNoPart]
      generalize L2.upd Hc a4 (.tup [.int (-1), .int 1]) = Hd at *
      have t1 : Td Hd (.ref a1) (Rg.d ⟨some 1, some 1⟩) := .of2 (m4 _ _ (m3 _ _ (m2 _ _ c1))) (.int _) (.int _)
      have t2 : Td Hd (.ref a2) (Rg.d ⟨some 1, some 2⟩) := .of2 (m4 _ _ (m3 _ _ c2)) (.int _) (.int _)
      have t3 : Td Hd (.ref a3) (Rg.d ⟨some 0, some 0⟩) := .of2 (m4 _ _ c3) (.int _) (.int _)
      have t4 : Td Hd (.ref a4) (Rg.d ⟨some (-1), some 1⟩) := .of2 c4 (.int _) (.int _)
      have m14 := m1.trans (m2.trans (m3.trans m4))
      have sd := s2.same m14
      refine ⟨sd, fun H3 v5 r5 o5 ka3 s3 t5 => ?_⟩
      have tk3 := ka3.tk sd
      walk_at "w"
      refine ⟨(show 5 ≤ sizeLine by decide), fun L hL => ?_⟩
      have m5 : Same H3 (L2.upd H3 L (.lst [.ref a1, .ref a2, .ref a3, .ref a4, v5])) := .new hL
      have c5 : L2.upd H3 L (.lst [.ref a1, .ref a2, .ref a3, .ref a4, v5]) L = some (.lst [.ref a1, .ref a2, .ref a3, .ref a4, v5]) := upd_same
      generalize L2.upd H3 L (.lst [.ref a1, .ref a2, .ref a3, .ref a4, v5]) = H4 at *
      have s4 := s3.same m5
      have hall : ∀ x ∈ ([.ref a1, .ref a2, .ref a3, .ref a4, v5] : List V), ∃ r : Rg, RgOk' r ∧ Td H4 x r.d := by
        intro x hx
        simp only [List.mem_cons, List.not_mem_nil, or_false] at hx
        rcases hx with rfl | rfl | rfl | rfl | rfl
        · exact ⟨_, rgc (by decide), (t1.mono tk3).same m5⟩
        · exact ⟨_, rgc (by decide), (t2.mono tk3).same m5⟩
        · exact ⟨_, rgc (by decide), (t3.mono tk3).same m5⟩
        · exact ⟨_, rgc (by decide), (t4.mono tk3).same m5⟩
        · exact ⟨_, o5, t5.same m5⟩
      have hne5 : L ≠ q0 := fun z => by
        obtain ⟨_, _, _, e, _⟩ := s3.ex
        rw [z, e] at hL
        cases hL
      refine ⟨_, L, _, rfl, s4, c5, hne5, (show 1 ≤ 5 by decide), (show 5 ≤ 100 by decide), fun H5 xr hxr ka5 s5 => ?_⟩
      obtain ⟨rr, okr, tr⟩ := hall xr hxr
      have okA : ∀ a, (some rr : Option Rg) = some a → RgOk' a := fun a z => by cases z; exact okr
      have tbx : Td H5 xr (org (some rr)) := tr.mono (ka5.tk s4)
      have sx := s5
      have tax := ((((ta2.same m14).mono tk3).same m5).mono (ka5.tk s4))
      have kax := ((kaB.trans (.of m14)).trans (ka3.trans (.of m5))).trans ka5
      generalize H5 = Hx at *
      have hne : ∀ L, Hx L = none → L ≠ q0 := fun L hL z => by
        obtain ⟨_, _, _, e, _⟩ := sx.ex
        rw [z, e] at hL
        cases hL
      walk_at "w"
      refine ⟨(show 6 ≤ sizeLine by decide), fun L hL => ?_⟩
      have ex : Same Hx (L2.upd Hx L (.lst [.str "take", .str "take", .str "keep", .str "keep", .str "leave", .str "drop"])) := .new hL
      have cL : L2.upd Hx L (.lst [.str "take", .str "take", .str "keep", .str "keep", .str "leave", .str "drop"]) L = some (.lst [.str "take", .str "take", .str "keep", .str "keep", .str "leave", .str "drop"]) := upd_same
      generalize L2.upd Hx L (.lst [.str "take", .str "take", .str "keep", .str "keep", .str "leave", .str "drop"]) = Hy at *
      have sy := sx.same ex
      refine ⟨_, L, _, rfl, sy, cL, hne L hL, by decide, by decide, fun H4 xd hxd kay s4 => ?_⟩
      obtain ⟨dd, rfl⟩ : ∃ dd : Deed, xd = .str dd.s := by
        simp only [List.mem_cons, List.not_mem_nil, or_false] at hxd
        rcases hxd with rfl | rfl | rfl | rfl | rfl | rfl
        · exact ⟨.take, rfl⟩
        · exact ⟨.take, rfl⟩
        · exact ⟨.keep, rfl⟩
        · exact ⟨.keep, rfl⟩
        · exact ⟨.leave, rfl⟩
        · exact ⟨.drop, rfl⟩
      have ka4 := (kax.trans (.of ex)).trans kay
      have ta4 := (tax.same ex).mono (kay.tk sy)
      have tb4 := (tbx.same ex).mono (kay.tk sy)
      obtain ⟨pa, xa, xb, eva, hpa, tla, tlb⟩ := ta4.tup2
      obtain rfl := tla.oiE
      obtain rfl := tlb.oiE
      cases dd with
      | keep =>
        walk_at "w"
        refine ⟨pa, _, eva, .inr (.of hpa), rfl, oi_flat _ _, ?_⟩
        rw [if_neg (by simp), oi_in]
        cases hb : (ra.lo.isSome && ra.hi.isSome) with
        | true =>
          walk_at "w"
          have n1' : (1 : Int) ≤ (n : Int) := by omega
          refine ⟨s4, n1', by omega, fun H5 j ka5 s5 j0 j1 => ?_⟩
          have tk5 := ka5.tk s4
          walk_at "w"
          refine ⟨(show 4 ≤ sizeLine by decide), fun q hq => ?_⟩
          obtain ⟨j, rfl⟩ := Int.eq_ofNat_of_zero_le j0
          have e6 : Same H5 (L2.upd H5 q (.tup [va, xr, .str (Deed.keep).s, .int j])) := .new hq
          exact k _ _ ⟨ra, (some rr), Deed.keep, j⟩ ⟨oa, okA, by show j < n; omega, fun _ => by simpa using hb⟩ ((ka4.trans ka5).trans (.of e6)) (s5.same e6) (.of4 upd_same (((ta4.mono tk5).same e6)) (((tb4.mono tk5).same e6)) (.str _) (.int _))
        | false =>
          walk_at "w"
          have n1' : (1 : Int) ≤ (n : Int) := by omega
          refine ⟨s4, n1', by omega, fun H5 j ka5 s5 j0 j1 => ?_⟩
          have tk5 := ka5.tk s4
          walk_at "w"
          refine ⟨(show 4 ≤ sizeLine by decide), fun q hq => ?_⟩
          obtain ⟨j, rfl⟩ := Int.eq_ofNat_of_zero_le j0
          have e6 : Same H5 (L2.upd H5 q (.tup [va, xr, .str (Deed.leave).s, .int j])) := .new hq
          exact k _ _ ⟨ra, (some rr), Deed.leave, j⟩ ⟨oa, okA, by show j < n; omega, fun z => (nomatch z)⟩ ((ka4.trans ka5).trans (.of e6)) (s5.same e6) (.of4 upd_same (((ta4.mono tk5).same e6)) (((tb4.mono tk5).same e6)) (.str _) (.int _))
      | take =>
        walk_at "w"
        have n1' : (1 : Int) ≤ (n : Int) := by omega
        refine ⟨s4, n1', by omega, fun H5 j ka5 s5 j0 j1 => ?_⟩
        have tk5 := ka5.tk s4
        walk_at "w"
        refine ⟨(show 4 ≤ sizeLine by decide), fun q hq => ?_⟩
        obtain ⟨j, rfl⟩ := Int.eq_ofNat_of_zero_le j0
        have e6 : Same H5 (L2.upd H5 q (.tup [va, xr, .str (Deed.take).s, .int j])) := .new hq
        exact k _ _ ⟨ra, (some rr), Deed.take, j⟩ ⟨oa, okA, by show j < n; omega, fun z => (nomatch z)⟩ ((ka4.trans ka5).trans (.of e6)) (s5.same e6) (.of4 upd_same (((ta4.mono tk5).same e6)) (((tb4.mono tk5).same e6)) (.str _) (.int _))
      | leave =>
        walk_at "w"
        have n1' : (1 : Int) ≤ (n : Int) := by omega
        refine ⟨s4, n1', by omega, fun H5 j ka5 s5 j0 j1 => ?_⟩
        have tk5 := ka5.tk s4
        walk_at "w"
        refine ⟨(show 4 ≤ sizeLine by decide), fun q hq => ?_⟩
        obtain ⟨j, rfl⟩ := Int.eq_ofNat_of_zero_le j0
        have e6 : Same H5 (L2.upd H5 q (.tup [va, xr, .str (Deed.leave).s, .int j])) := .new hq
        exact k _ _ ⟨ra, (some rr), Deed.leave, j⟩ ⟨oa, okA, by show j < n; omega, fun z => (nomatch z)⟩ ((ka4.trans ka5).trans (.of e6)) (s5.same e6) (.of4 upd_same (((ta4.mono tk5).same e6)) (((tb4.mono tk5).same e6)) (.str _) (.int _))
      | drop =>
        walk_at "w"
        have n1' : (1 : Int) ≤ (n : Int) := by omega
        refine ⟨s4, n1', by omega, fun H5 j ka5 s5 j0 j1 => ?_⟩
        have tk5 := ka5.tk s4
        walk_at "w"
        refine ⟨(show 4 ≤ sizeLine by decide), fun q hq => ?_⟩
        obtain ⟨j, rfl⟩ := Int.eq_ofNat_of_zero_le j0
        have e6 : Same H5 (L2.upd H5 q (.tup [va, xr, .str (Deed.drop).s, .int j])) := .new hq
        exact k _ _ ⟨ra, (some rr), Deed.drop, j⟩ ⟨oa, okA, by show j < n; omega, fun z => (nomatch z)⟩ ((ka4.trans ka5).trans (.of e6)) (s5.same e6) (.of4 upd_same (((ta4.mono tk5).same e6)) (((tb4.mono tk5).same e6)) (.str _) (.int _))
    · refine iteDF (fun z => h0 (V.int.inj z)) ?_
      have okA : ∀ a, (none : Option Rg) = some a → RgOk' a := fun _ z => (nomatch z)
      have tbx : Td H2 .non (org none) := .non
      have sx := s2
      have tax := ta2
      have kax := kaB
      generalize H2 = Hx at *
      have hne : ∀ L, Hx L = none → L ≠ q0 := fun L hL z => by
        obtain ⟨_, _, _, e, _⟩ := sx.ex
        rw [z, e] at hL
        cases hL
      walk_at "w"
      refine ⟨(show 6 ≤ sizeLine by decide), fun L hL => ?_⟩
      have ex : Same Hx (L2.upd Hx L (.lst [.str "take", .str "take", .str "keep", .str "keep", .str "leave", .str "drop"])) := .new hL
      have cL : L2.upd Hx L (.lst [.str "take", .str "take", .str "keep", .str "keep", .str "leave", .str "drop"]) L = some (.lst [.str "take", .str "take", .str "keep", .str "keep", .str "leave", .str "drop"]) := upd_same
      generalize L2.upd Hx L (.lst [.str "take", .str "take", .str "keep", .str "keep", .str "leave", .str "drop"]) = Hy at *
      have sy := sx.same ex
      refine ⟨_, L, _, rfl, sy, cL, hne L hL, by decide, by decide, fun H4 xd hxd kay s4 => ?_⟩
      obtain ⟨dd, rfl⟩ : ∃ dd : Deed, xd = .str dd.s := by
        simp only [List.mem_cons, List.not_mem_nil, or_false] at hxd
        rcases hxd with rfl | rfl | rfl | rfl | rfl | rfl
        · exact ⟨.take, rfl⟩
        · exact ⟨.take, rfl⟩
        · exact ⟨.keep, rfl⟩
        · exact ⟨.keep, rfl⟩
        · exact ⟨.leave, rfl⟩
        · exact ⟨.drop, rfl⟩
      have ka4 := (kax.trans (.of ex)).trans kay
      have ta4 := (tax.same ex).mono (kay.tk sy)
      have tb4 := (tbx.same ex).mono (kay.tk sy)
      obtain ⟨pa, xa, xb, eva, hpa, tla, tlb⟩ := ta4.tup2
      obtain rfl := tla.oiE
      obtain rfl := tlb.oiE
      cases dd with
      | keep =>
        walk_at "w"
        refine ⟨pa, _, eva, .inr (.of hpa), rfl, oi_flat _ _, ?_⟩
        rw [if_neg (by simp), oi_in]
        cases hb : (ra.lo.isSome && ra.hi.isSome) with
        | true =>
          walk_at "w"
          have n1' : (1 : Int) ≤ (n : Int) := by omega
          refine ⟨s4, n1', by omega, fun H5 j ka5 s5 j0 j1 => ?_⟩
          have tk5 := ka5.tk s4
          walk_at "w"
          refine ⟨(show 4 ≤ sizeLine by decide), fun q hq => ?_⟩
          obtain ⟨j, rfl⟩ := Int.eq_ofNat_of_zero_le j0
          have e6 : Same H5 (L2.upd H5 q (.tup [va, .non, .str (Deed.keep).s, .int j])) := .new hq
          exact k _ _ ⟨ra, none, Deed.keep, j⟩ ⟨oa, okA, by show j < n; omega, fun _ => by simpa using hb⟩ ((ka4.trans ka5).trans (.of e6)) (s5.same e6) (.of4 upd_same (((ta4.mono tk5).same e6)) (((tb4.mono tk5).same e6)) (.str _) (.int _))
        | false =>
          walk_at "w"
          have n1' : (1 : Int) ≤ (n : Int) := by omega
          refine ⟨s4, n1', by omega, fun H5 j ka5 s5 j0 j1 => ?_⟩
          have tk5 := ka5.tk s4
          walk_at "w"
          refine ⟨(show 4 ≤ sizeLine by decide), fun q hq => ?_⟩
          obtain ⟨j, rfl⟩ := Int.eq_ofNat_of_zero_le j0
          have e6 : Same H5 (L2.upd H5 q (.tup [va, .non, .str (Deed.leave).s, .int j])) := .new hq
          exact k _ _ ⟨ra, none, Deed.leave, j⟩ ⟨oa, okA, by show j < n; omega, fun z => (nomatch z)⟩ ((ka4.trans ka5).trans (.of e6)) (s5.same e6) (.of4 upd_same (((ta4.mono tk5).same e6)) (((tb4.mono tk5).same e6)) (.str _) (.int _))
      | take =>
        walk_at "w"
        have n1' : (1 : Int) ≤ (n : Int) := by omega
        refine ⟨s4, n1', by omega, fun H5 j ka5 s5 j0 j1 => ?_⟩
        have tk5 := ka5.tk s4
        walk_at "w"
        refine ⟨(show 4 ≤ sizeLine by decide), fun q hq => ?_⟩
        obtain ⟨j, rfl⟩ := Int.eq_ofNat_of_zero_le j0
        have e6 : Same H5 (L2.upd H5 q (.tup [va, .non, .str (Deed.take).s, .int j])) := .new hq
        exact k _ _ ⟨ra, none, Deed.take, j⟩ ⟨oa, okA, by show j < n; omega, fun z => (nomatch z)⟩ ((ka4.trans ka5).trans (.of e6)) (s5.same e6) (.of4 upd_same (((ta4.mono tk5).same e6)) (((tb4.mono tk5).same e6)) (.str _) (.int _))
      | leave =>
        walk_at "w"
        have n1' : (1 : Int) ≤ (n : Int) := by omega
        refine ⟨s4, n1', by omega, fun H5 j ka5 s5 j0 j1 => ?_⟩
        have tk5 := ka5.tk s4
        walk_at "w"
        refine ⟨(show 4 ≤ sizeLine by decide), fun q hq => ?_⟩
        obtain ⟨j, rfl⟩ := Int.eq_ofNat_of_zero_le j0
        have e6 : Same H5 (L2.upd H5 q (.tup [va, .non, .str (Deed.leave).s, .int j])) := .new hq
        exact k _ _ ⟨ra, none, Deed.leave, j⟩ ⟨oa, okA, by show j < n; omega, fun z => (nomatch z)⟩ ((ka4.trans ka5).trans (.of e6)) (s5.same e6) (.of4 upd_same (((ta4.mono tk5).same e6)) (((tb4.mono tk5).same e6)) (.str _) (.int _))
      | drop =>
        walk_at "w"
        have n1' : (1 : Int) ≤ (n : Int) := by omega
        refine ⟨s4, n1', by omega, fun H5 j ka5 s5 j0 j1 => ?_⟩
        have tk5 := ka5.tk s4
        walk_at "w"
        refine ⟨(show 4 ≤ sizeLine by decide), fun q hq => ?_⟩
        obtain ⟨j, rfl⟩ := Int.eq_ofNat_of_zero_le j0
        have e6 : Same H5 (L2.upd H5 q (.tup [va, .non, .str (Deed.drop).s, .int j])) := .new hq
        exact k _ _ ⟨ra, none, Deed.drop, j⟩ ⟨oa, okA, by show j < n; omega, fun z => (nomatch z)⟩ ((ka4.trans ka5).trans (.of e6)) (s5.same e6) (.of4 upd_same (((ta4.mono tk5).same e6)) (((tb4.mono tk5).same e6)) (.str _) (.int _))
end
end K8
set_option maxHeartbeats 4000000
namespace K8
open PySem PySem.Spec PyProof.Rows L2
set_option hygiene false in
local macro_rules | `(tactic| walk_at "w") => `(tactic| (repeat (first | refine ⟨_, rfl, ?_⟩ | refine ⟨_, _, rfl, rfl, ?_⟩ | refine ⟨rfl, ?_⟩ | refine ⟨_, _, rfl, ?_⟩ | refine ⟨_, _, rfl, .of upd_same, rfl, ?_⟩ | refine ⟨_, _, rfl, .of (by assumption), rfl, ?_⟩ | refine ⟨_, _, rfl, .of (by assumption), fun q hq => ?_⟩ | refine ⟨_, _, rfl, .of (by assumption), ?_⟩ | refine ⟨_, _, rfl, .inr (.of (by assumption)), ?_⟩ | refine ⟨_, _, rfl, .inl (.of (by assumption)), ?_⟩ | refine ⟨_, _, _, _, rfl, rfl, .of (by assumption), atI_nat (j := 0) rfl, ?_⟩ | refine ⟨_, _, _, _, rfl, rfl, .of (by assumption), atI_nat (j := 1) rfl, ?_⟩ | refine ⟨_, _, _, _, rfl, rfl, .of (by assumption), atI_nat (j := 2) rfl, ?_⟩ | refine ⟨fun z => absurd z.1 (show ¬ (1 : Nat) = 0 by decide), fun _ q hq => ?_⟩ | refine ⟨fun z => absurd z.1 (show ¬ (2 : Nat) = 0 by decide), fun _ q hq => ?_⟩ | refine ⟨sz1, fun q hq => ?_⟩ | refine ⟨sz2, fun q hq => ?_⟩ | refine ⟨sz3, fun q hq => ?_⟩ | refine ⟨sz0, fun q hq => ?_⟩ | refine ⟨_, _, _, rfl, rfl, (by assumption), (by assumption), ?_⟩ | refine ⟨.inl ⟨rfl, _, .of (by assumption)⟩, ?_⟩ | refine ⟨_, _, rfl, .inl ⟨.of (by assumption), fun q hq => ?_⟩⟩ | refine ⟨⟨_, .of (by assumption)⟩, ?_⟩ | refine ⟨⟨_, rfl⟩, ?_⟩ | refine ⟨.inl ⟨rfl, _, .of upd_same⟩, ?_⟩ | refine ⟨_, _, _, _, _, rfl, (by assumption), (by assumption), (by assumption), (by rfl), ?_⟩ | refine ⟨_, _, _, _, rfl, upd_same, (by assumption), (by assumption), (by first | exact ixFs_len | exact (show (0 : Nat) < 1000 by decide) | exact (show (1 : Nat) < 1000 by decide) | exact (show (2 : Nat) < 1000 by decide) | exact (show (3 : Nat) < 1000 by decide) | exact (show (4 : Nat) < 1000 by decide) | exact (show (5 : Nat) < 1000 by decide) | exact (show (6 : Nat) < 1000 by decide)), ?_⟩ | refine ⟨_, _, _, _, rfl, (by assumption), (by assumption), (by assumption), (by first | exact ixFs_len | exact (show (0 : Nat) < 1000 by decide) | exact (show (1 : Nat) < 1000 by decide) | exact (show (2 : Nat) < 1000 by decide) | exact (show (3 : Nat) < 1000 by decide) | exact (show (4 : Nat) < 1000 by decide) | exact (show (5 : Nat) < 1000 by decide) | exact (show (6 : Nat) < 1000 by decide)), ?_⟩ | refine ⟨_, _, _, rfl, (by assumption), (by first | rfl | exact ixFs_no (by decide +kernel)), ?_⟩ | refine ⟨_, _, _, rfl, (by assumption), ?_⟩ | refine iteT ?_ | refine iteF ?_)))
section
variable {P : Program} {w : World} {K : PySem.W.Frag} {mg : Str → Option Value} {base : Heap}
def sp_window : Sp := fun vs H Q _ => ∃ n : Int, vs = [.int n] ∧ 1 ≤ n ∧ n ≤ 6 ∧ ∀ H' v R, RecOk R → Same H H' → Td H' v (recD R) → Q v H'
theorem ok_window (D : Df K mg "_law_window" s_l_window) (G : Gx K mg) : Cal P w K mg base CX0 1 "_law_window" sp_window := by
  refine cal0 D sc_l_window (fun _ _ _ _ _ _ us hl => match us, hl with | [_], _ => rfl) (fun vs H Q E h => ?_) (fun f cdv A outer s H vs Q E hr h => ?_)
  · obtain ⟨_, rfl, _⟩ := h
    rfl
  · obtain ⟨n, rfl, n1, n2, k⟩ := h
    refine ⟨_, (pss_one (ps_ret (pe_tup (pa_cons (pe_tup (pa_cons (pe_tup (pa_cons (pe_tup (pa_cons pe_int (pa_cons (pv 0) pa_nil))) (pa_cons pe_non (pa_cons pe_str (pa_cons pe_int pa_nil))))) pa_nil)) pa_nil)))), ?_⟩
    walk_at "w"
    refine ⟨(show 4 ≤ sizeLine by decide), fun b hb => ?_⟩
    walk_at "w"
    rename_i a g1 c g3
    have ta : Td (L2.upd H a (.tup [.int 1, .int n])) (.ref a) (Rg.d ⟨some 1, some n⟩) := .of2 upd_same (.int _) (.int _)
    have e1 : Same H (L2.upd H a (.tup [.int 1, .int n])) := .new g1
    generalize L2.upd H a (.tup [.int 1, .int n]) = Ha at *
    have e2 : Same Ha (L2.upd Ha b (.tup [.ref a, .non, .str "take", .int 0])) := .new hb
    have tb : Td (L2.upd Ha b (.tup [.ref a, .non, .str "take", .int 0])) (.ref b) (Row.d ⟨⟨some 1, some n⟩, none, .take, 0⟩) := .of4 upd_same (ta.same e2) .non (.str _) (.int _)
    generalize L2.upd Ha b (.tup [.ref a, .non, .str "take", .int 0]) = Hb at *
    have e3 : Same Hb (L2.upd Hb c (.tup [.ref b])) := .new g3
    have tc : Td (L2.upd Hb c (.tup [.ref b])) (.ref c) (staD [⟨⟨some 1, some n⟩, none, .take, 0⟩]) := .of1 upd_same (tb.same e3)
    generalize L2.upd Hb c (.tup [.ref b]) = Hc at *
    have e4 : Same Hc (L2.upd Hc q (.tup [.ref c])) := .new hq
    refine k _ _ [[⟨⟨some 1, some n⟩, none, .take, 0⟩]] ⟨(show 0 < 1 by decide), (show 1 ≤ 4 by decide), fun s hs => ?_⟩ (e1.trans (e2.trans (e3.trans e4))) (.of1 upd_same (tc.same e4))
    have es := List.mem_singleton.mp hs
    subst es
    refine ⟨(show 1 ≤ 6 by decide), fun r hr => ?_⟩
    have er := List.mem_singleton.mp hr
    subst er
    exact ⟨rgc (by omega), fun _ z => (nomatch z), (show 0 < 1 by decide), fun z => (nomatch z)⟩
theorem tk_lst {H : Hp} {p : Addr} {xs : List V} {o : HO} (h : H p = some (.lst xs)) : TupK H (L2.upd H p o) := fun a ys e => (upd_ne (fun z => by rw [z, h] at e; cases e)).trans e
theorem tdI {H : Hp} (i : Nat) : Td H (.int (0 + (i : Int) + 1)) (.int ((i + 1 : Nat) : Int)) := by
  rw [show (0 : Int) + (i : Int) + 1 = ((i + 1 : Nat) : Int) by omega]
  exact .int _
def sp_paired : Sp := fun vs H Q _ => ∃ (n b : Int) (t : Nat), vs = [.int n, .int b, .int t] ∧ 1 ≤ n ∧ n + 1 ≤ b ∧ b ≤ 6 ∧ 2 ≤ t ∧ t ≤ 3 ∧ ∀ H' v R, RecOk R → Same H H' → Td H' v (recD R) → Q v H'
theorem ok_paired (D : Df K mg "_law_paired" s_l_paired) (G : Gx K mg) : Cal P w K mg base CX0 1 "_law_paired" sp_paired := by
  refine cal0 D sc_l_paired (fun _ _ _ _ _ _ us hl => match us, hl with | [_, _, _], _ => rfl) (fun vs H Q E h => ?_) (fun f cdv A outer s H vs Q E hr h => ?_)
  · obtain ⟨_, _, _, rfl, _⟩ := h
    rfl
  · obtain ⟨n, b, t, rfl, n1, n2, b1, t1, t2, k⟩ := h
    refine ⟨_, (pss_cons (ps_par (i := 3) (j := 4) (by rfl) sc_l_paired.nd rfl rfl (by decide) rfl rfl (pa_cons (pe_tup (pa_cons (pe_op op_add (pv 0) pe_int) (pa_cons (pv 1) pa_nil))) (pa_cons (pe_lst pa_nil) pa_nil)) (by rfl))
      (pss_cons (ps_for PassesOwn.never rfl (pi_range1 (by rfl) G.range (pa_cons (pv 2) pa_nil)) (pg_name (i := 5) sc_l_paired.nd rfl (Or.inl rfl)) (pss_cons (ps_set (i := 6) sc_l_paired.nd rfl (Or.inl rfl) (pe_lst (pa_cons (pe_tup (pa_cons (pe_tup (pa_cons pe_int (pa_cons (pv 0) pa_nil))) (pa_cons pe_non (pa_cons pe_str (pa_cons pe_int pa_nil))))) pa_nil)))
      (pss_cons (ps_if (pt_cmpR op_gt (pv 5) pe_int (nomark _)) (pss_one (ps_expr (pe_bm PySem.F.plainAttrs_list PySem.F.slot_list_append PySem.F.type_list_append mt_append (pv 6) (pa_cons (pe_ifExp (pt_cmpR op_eq (pv 5) (pe_op op_sub (pv 2) pe_int) (nomark _)) (pe_tup (pa_cons (pv 3) (pa_cons (pe_tup (pa_cons pe_int (pa_cons pe_int pa_nil))) (pa_cons pe_str (pa_cons pe_int pa_nil))))) (pe_tup (pa_cons (pv 3) (pa_cons (pe_tup (pa_cons pe_int (pa_cons pe_int pa_nil))) (pa_cons pe_str (pa_cons (pe_op op_add (pv 5) pe_int) pa_nil)))))) pa_nil)))) pss_nil)
      (pss_one (ps_expr (pe_bm PySem.F.plainAttrs_list PySem.F.slot_list_append PySem.F.type_list_append mt_append (pv 4) (pa_cons (pe_callTy call_tuple_of (by rfl) G.tuple (by decide +kernel) (pa_cons (pe_op op_cat (pv 6) (pe_lst (pa_cons (pe_tup (pa_cons (pv 3) (pa_cons pe_non (pa_cons pe_str (pa_cons pe_int pa_nil))))) pa_nil))) pa_nil)) pa_nil)))))))
      (pss_one (ps_ret (pe_callTy call_tuple_of (by rfl) G.tuple (by decide +kernel) (pa_cons (pv 4) pa_nil)))))), ?_⟩
    walk_at "w"
    rename_i zq gz
    generalize q = f0 at *
    have gf := hq
    have ez : Same H (L2.upd H zq (.tup [.int (n + 1), .int b])) := .new gz
    have tz : Td (L2.upd H zq (.tup [.int (n + 1), .int b])) (.ref zq) (Rg.d ⟨some (n + 1), some b⟩) := .of2 upd_same (.int _) (.int _)
    generalize L2.upd H zq (.tup [.int (n + 1), .int b]) = Hz at *
    have ef : Same Hz (L2.upd Hz f0 (.lst [])) := .new gf
    have cf : L2.upd Hz f0 (.lst []) f0 = some (.lst []) := upd_same
    have hHf : H f0 = none := ez.none gf
    generalize L2.upd Hz f0 (.lst []) = Hf at *
    refine ⟨by omega, by omega, ?_⟩
    refine for_range (fun i σ H' => Same H H' ∧ Td H' (.ref zq) (Rg.d ⟨some (n + 1), some b⟩) ∧ (∃ c d, σ = [some (.int n), some (.int b), some (.int t), some (.ref zq), some (.ref f0), c, d]) ∧
      ∃ (ys : List V) (ss : Rec), H' f0 = some (.lst ys) ∧ ys.length = i ∧ Tds H' ys (ss.map staD) ∧ ∀ s ∈ ss, s.length ≤ 6 ∧ ∀ r ∈ s, RowOk t r) ?_ ?_ ?_
    · exact ⟨ez.trans ef, tz.same ef, ⟨_, _, rfl⟩, [], [], cf, rfl, .nil, fun s hs => (nomatch hs)⟩
    · rintro i σ H' hi ⟨sm, tz', ⟨c, d, rfl⟩, ys, ss, hf, hyl, tys, oks⟩
      have hi2 : i < t := by simpa using hi
      walk_at "w"
      refine ⟨(show 4 ≤ sizeLine by decide), fun rb hrb => ?_⟩
      walk_at "w"
      rename_i a ga
      generalize q = R0 at *
      have gR := hq
      have ta : Td (L2.upd H' a (.tup [.int 1, .int n])) (.ref a) (Rg.d ⟨some 1, some n⟩) := .of2 upd_same (.int _) (.int _)
      have ea : Same H' (L2.upd H' a (.tup [.int 1, .int n])) := .new ga
      generalize L2.upd H' a (.tup [.int 1, .int n]) = Ha at *
      have eb : Same Ha (L2.upd Ha rb (.tup [.ref a, .non, .str "take", .int 0])) := .new hrb
      have tb : Td (L2.upd Ha rb (.tup [.ref a, .non, .str "take", .int 0])) (.ref rb) (Row.d ⟨⟨some 1, some n⟩, none, .take, 0⟩) := .of4 upd_same (ta.same eb) .non (.str _) (.int _)
      generalize L2.upd Ha rb (.tup [.ref a, .non, .str "take", .int 0]) = Hb at *
      have eR : Same Hb (L2.upd Hb R0 (.lst [.ref rb])) := .new gR
      have cR : L2.upd Hb R0 (.lst [.ref rb]) R0 = some (.lst [.ref rb]) := upd_same
      have hHR : H' R0 = none := ea.none (eb.none gR)
      generalize L2.upd Hb R0 (.lst [.ref rb]) = Hc at *
      have ec := ea.trans (eb.trans eR)
      have tr := tb.same eR
      have ok1 : RowOk t ⟨⟨some 1, some n⟩, none, .take, 0⟩ := ⟨rgc (by omega), fun _ z => (nomatch z), by show 0 < t; omega, fun z => (nomatch z)⟩
      have hfR : f0 ≠ R0 := fun z => by rw [z, hHR] at hf; cases hf
      by_cases h0 : (0 : Int) < 0 + (i : Int)
      · refine iteDT h0 ?_
        walk_at "w"
        by_cases hk : (0 : Int) + (i : Int) = (t : Int) - 1
        · refine iteDT (congrArg V.int hk) ?_
          walk_at "w"
          refine ⟨(show 4 ≤ sizeLine by decide), fun r2 hr2 => ?_⟩
          walk_at "w"
          generalize q = u at *
          have gu := hq
          have eu : Same Hc (L2.upd Hc u (.tup [.int 1, .int 1])) := .new gu
          have tu : Td (L2.upd Hc u (.tup [.int 1, .int 1])) (.ref u) (Rg.d ⟨some 1, some 1⟩) := .of2 upd_same (.int _) (.int _)
          generalize L2.upd Hc u (.tup [.int 1, .int 1]) = Hh at *
          have er : Same Hh (L2.upd Hh r2 (.tup [.ref zq, .ref u, (.str "take"), (.int 0)])) := .new hr2
          have ezz := ec.trans eu
          have t2 : Td (L2.upd Hh r2 (.tup [.ref zq, .ref u, (.str "take"), (.int 0)])) (.ref r2) (Row.d ⟨⟨some (n + 1), some b⟩, some ⟨some 1, some 1⟩, Deed.take, 0⟩) := .of4 upd_same ((tz'.same ezz).same er) (tu.same er) (.str _) (.int _)
          generalize L2.upd Hh r2 (.tup [.ref zq, .ref u, (.str "take"), (.int 0)]) = Hi at *
          have eci := eu.trans er
          have cRi := eci _ _ cR
          refine ⟨R0, _, _, rfl, rfl, cRi, by show 1 < sizeLine; decide, ?_⟩
          have tkR := tk_lst (o := .lst ([.ref rb] ++ [.ref r2])) cRi
          have tys2 : Tds (L2.upd Hi R0 (.lst ([.ref rb] ++ [.ref r2]))) ([.ref rb] ++ [.ref r2]) (([⟨⟨some 1, some n⟩, none, .take, 0⟩, ⟨⟨some (n + 1), some b⟩, some ⟨some 1, some 1⟩, Deed.take, 0⟩] : List Row).map Row.d) :=
            ((Tds.nil.snoc (tr.same eci)).snoc t2).mono tkR
          have ec9 : Same H' (L2.upd Hi R0 (.lst ([.ref rb] ++ [.ref r2]))) := (ec.trans eci).own hHR
          have hfc := ec9 _ _ hf
          have cRc : L2.upd Hi R0 (.lst ([.ref rb] ++ [.ref r2])) R0 = some (.lst ([.ref rb] ++ [.ref r2])) := upd_same
          have ok2 : RowOk t ⟨⟨some (n + 1), some b⟩, some ⟨some 1, some 1⟩, Deed.take, 0⟩ := ⟨rgc (by omega), fun y e => by cases e; exact rgc (by omega), by show 0 < t; omega, fun _ => ⟨rfl, rfl⟩⟩
          have lr9 : ([⟨⟨some 1, some n⟩, none, .take, 0⟩, ⟨⟨some (n + 1), some b⟩, some ⟨some 1, some 1⟩, Deed.take, 0⟩] : List Row).length ≤ 2 := (show 2 ≤ 2 by decide)
          have ok9 : ∀ r ∈ ([⟨⟨some 1, some n⟩, none, .take, 0⟩, ⟨⟨some (n + 1), some b⟩, some ⟨some 1, some 1⟩, Deed.take, 0⟩] : List Row), RowOk t r := fun r hr => by
            rcases List.mem_cons.mp hr with rfl | hr
            · exact ok1
            · rw [List.mem_singleton.mp hr]; exact ok2
          generalize ([⟨⟨some 1, some n⟩, none, .take, 0⟩, ⟨⟨some (n + 1), some b⟩, some ⟨some 1, some 1⟩, Deed.take, 0⟩] : List Row) = rs9 at *
          generalize hxs : ([V.ref rb] ++ [.ref r2] : List V) = xs9 at *
          generalize L2.upd Hi R0 (.lst xs9) = Hc9 at *
          walk_at "w"
          refine ⟨(show 4 ≤ sizeLine by decide), fun zb hzb => ?_⟩
          walk_at "w"
          generalize q = L9 at *
          have gL := hq
          have tzc : Td Hc9 (.ref zq) (Rg.d ⟨some (n + 1), some b⟩) := tz'.same ec9
          have ezb : Same Hc9 (L2.upd Hc9 zb (.tup [.ref zq, .non, .str "keep", .int 1])) := .new hzb
          have tzb : Td (L2.upd Hc9 zb (.tup [.ref zq, .non, .str "keep", .int 1])) (.ref zb) (Row.d ⟨⟨some (n + 1), some b⟩, none, .keep, 1⟩) := .of4 upd_same (tzc.same ezb) .non (.str _) (.int _)
          generalize L2.upd Hc9 zb (.tup [.ref zq, .non, .str "keep", .int 1]) = Hd at *
          have eL : Same Hd (L2.upd Hd L9 (.lst [.ref zb])) := .new gL
          have cL : L2.upd Hd L9 (.lst [.ref zb]) L9 = some (.lst [.ref zb]) := upd_same
          generalize L2.upd Hd L9 (.lst [.ref zb]) = He at *
          have eCE := ezb.trans eL
          refine ⟨R0, L9, _, _, rfl, rfl, eCE _ _ cRc, cL, by have := tys2.len; rw [List.length_map] at this; rw [this, sizeLine_eq]; show _ + 1 ≤ _; omega, fun p5 hp5 => ?_⟩
          have e5 : Same He (L2.upd He p5 (.lst (xs9 ++ [.ref zb]))) := .new hp5
          have c5 : L2.upd He p5 (.lst (xs9 ++ [.ref zb])) p5 = some (.lst (xs9 ++ [.ref zb])) := upd_same
          generalize L2.upd He p5 (.lst (xs9 ++ [.ref zb])) = Hf2 at *
          have hff := e5 _ _ (eCE _ _ hfc)
          walk_at "w"
          generalize q = T at *
          have gT := hq
          have eT : Same Hf2 (L2.upd Hf2 T (.tup (xs9 ++ [.ref zb]))) := .new gT
          have cT : L2.upd Hf2 T (.tup (xs9 ++ [.ref zb])) T = some (.tup (xs9 ++ [.ref zb])) := upd_same
          generalize L2.upd Hf2 T (.tup (xs9 ++ [.ref zb])) = Hg at *
          have e9T := eCE.trans (e5.trans eT)
          have tT : Td Hg (.ref T) (staD (rs9 ++ [⟨⟨some (n + 1), some b⟩, none, .keep, 1⟩])) := by
            have h1 := ((Tds.same e9T tys2).snoc ((tzb.same eL).same (e5.trans eT))).tup cT
            unfold staD
            rw [List.map_append]
            exact h1
          have hfT := eT _ _ hff
          have tk := tk_lst (o := .lst (ys ++ [.ref T])) hfT
          refine ⟨f0, ys, _, rfl, rfl, hfT, small1000 (by omega), ?_⟩
          refine ⟨(sm.trans (ec9.trans e9T)).own hHf, ((tzc.same e9T).mono tk), ⟨_, _, rfl⟩, _, ss ++ [rs9 ++ [⟨⟨some (n + 1), some b⟩, none, .keep, 1⟩]], upd_same, by rw [List.length_append, hyl]; rfl, ?_, ?_⟩
          · rw [List.map_append]
            exact ((Tds.same (ec9.trans e9T) tys).snoc tT).mono tk
          · intro s hs
            rcases List.mem_append.mp hs with hs | hs
            · exact oks s hs
            · rw [List.mem_singleton.mp hs]
              refine ⟨by rw [List.length_append]; show _ + 1 ≤ 6; omega, fun r hr => ?_⟩
              rcases List.mem_append.mp hr with hr | hr
              · exact ok9 r hr
              · rw [List.mem_singleton.mp hr]
                exact ⟨rgc (by omega), fun _ z => (nomatch z), by show 1 < t; omega, fun _ => ⟨rfl, rfl⟩⟩
        · refine iteDF (fun z => hk (V.int.inj z)) ?_
          walk_at "w"
          refine ⟨(show 4 ≤ sizeLine by decide), fun r2 hr2 => ?_⟩
          walk_at "w"
          generalize q = u at *
          have gu := hq
          have eu : Same Hc (L2.upd Hc u (.tup [.int 1, .int 1])) := .new gu
          have tu : Td (L2.upd Hc u (.tup [.int 1, .int 1])) (.ref u) (Rg.d ⟨some 1, some 1⟩) := .of2 upd_same (.int _) (.int _)
          generalize L2.upd Hc u (.tup [.int 1, .int 1]) = Hh at *
          have er : Same Hh (L2.upd Hh r2 (.tup [.ref zq, .ref u, (.str "keep"), (.int (0 + (i : Int) + 1))])) := .new hr2
          have ezz := ec.trans eu
          have t2 : Td (L2.upd Hh r2 (.tup [.ref zq, .ref u, (.str "keep"), (.int (0 + (i : Int) + 1))])) (.ref r2) (Row.d ⟨⟨some (n + 1), some b⟩, some ⟨some 1, some 1⟩, Deed.keep, (i + 1)⟩) := .of4 upd_same ((tz'.same ezz).same er) (tu.same er) (.str _) (tdI i)
          generalize L2.upd Hh r2 (.tup [.ref zq, .ref u, (.str "keep"), (.int (0 + (i : Int) + 1))]) = Hi at *
          have eci := eu.trans er
          have cRi := eci _ _ cR
          refine ⟨R0, _, _, rfl, rfl, cRi, by show 1 < sizeLine; decide, ?_⟩
          have tkR := tk_lst (o := .lst ([.ref rb] ++ [.ref r2])) cRi
          have tys2 : Tds (L2.upd Hi R0 (.lst ([.ref rb] ++ [.ref r2]))) ([.ref rb] ++ [.ref r2]) (([⟨⟨some 1, some n⟩, none, .take, 0⟩, ⟨⟨some (n + 1), some b⟩, some ⟨some 1, some 1⟩, Deed.keep, (i + 1)⟩] : List Row).map Row.d) :=
            ((Tds.nil.snoc (tr.same eci)).snoc t2).mono tkR
          have ec9 : Same H' (L2.upd Hi R0 (.lst ([.ref rb] ++ [.ref r2]))) := (ec.trans eci).own hHR
          have hfc := ec9 _ _ hf
          have cRc : L2.upd Hi R0 (.lst ([.ref rb] ++ [.ref r2])) R0 = some (.lst ([.ref rb] ++ [.ref r2])) := upd_same
          have ok2 : RowOk t ⟨⟨some (n + 1), some b⟩, some ⟨some 1, some 1⟩, Deed.keep, (i + 1)⟩ := ⟨rgc (by omega), fun y e => by cases e; exact rgc (by omega), by show i + 1 < t; omega, fun _ => ⟨rfl, rfl⟩⟩
          have lr9 : ([⟨⟨some 1, some n⟩, none, .take, 0⟩, ⟨⟨some (n + 1), some b⟩, some ⟨some 1, some 1⟩, Deed.keep, (i + 1)⟩] : List Row).length ≤ 2 := (show 2 ≤ 2 by decide)
          have ok9 : ∀ r ∈ ([⟨⟨some 1, some n⟩, none, .take, 0⟩, ⟨⟨some (n + 1), some b⟩, some ⟨some 1, some 1⟩, Deed.keep, (i + 1)⟩] : List Row), RowOk t r := fun r hr => by
            rcases List.mem_cons.mp hr with rfl | hr
            · exact ok1
            · rw [List.mem_singleton.mp hr]; exact ok2
          generalize ([⟨⟨some 1, some n⟩, none, .take, 0⟩, ⟨⟨some (n + 1), some b⟩, some ⟨some 1, some 1⟩, Deed.keep, (i + 1)⟩] : List Row) = rs9 at *
          generalize hxs : ([V.ref rb] ++ [.ref r2] : List V) = xs9 at *
          generalize L2.upd Hi R0 (.lst xs9) = Hc9 at *
          walk_at "w"
          refine ⟨(show 4 ≤ sizeLine by decide), fun zb hzb => ?_⟩
          walk_at "w"
          generalize q = L9 at *
          have gL := hq
          have tzc : Td Hc9 (.ref zq) (Rg.d ⟨some (n + 1), some b⟩) := tz'.same ec9
          have ezb : Same Hc9 (L2.upd Hc9 zb (.tup [.ref zq, .non, .str "keep", .int 1])) := .new hzb
          have tzb : Td (L2.upd Hc9 zb (.tup [.ref zq, .non, .str "keep", .int 1])) (.ref zb) (Row.d ⟨⟨some (n + 1), some b⟩, none, .keep, 1⟩) := .of4 upd_same (tzc.same ezb) .non (.str _) (.int _)
          generalize L2.upd Hc9 zb (.tup [.ref zq, .non, .str "keep", .int 1]) = Hd at *
          have eL : Same Hd (L2.upd Hd L9 (.lst [.ref zb])) := .new gL
          have cL : L2.upd Hd L9 (.lst [.ref zb]) L9 = some (.lst [.ref zb]) := upd_same
          generalize L2.upd Hd L9 (.lst [.ref zb]) = He at *
          have eCE := ezb.trans eL
          refine ⟨R0, L9, _, _, rfl, rfl, eCE _ _ cRc, cL, by have := tys2.len; rw [List.length_map] at this; rw [this, sizeLine_eq]; show _ + 1 ≤ _; omega, fun p5 hp5 => ?_⟩
          have e5 : Same He (L2.upd He p5 (.lst (xs9 ++ [.ref zb]))) := .new hp5
          have c5 : L2.upd He p5 (.lst (xs9 ++ [.ref zb])) p5 = some (.lst (xs9 ++ [.ref zb])) := upd_same
          generalize L2.upd He p5 (.lst (xs9 ++ [.ref zb])) = Hf2 at *
          have hff := e5 _ _ (eCE _ _ hfc)
          walk_at "w"
          generalize q = T at *
          have gT := hq
          have eT : Same Hf2 (L2.upd Hf2 T (.tup (xs9 ++ [.ref zb]))) := .new gT
          have cT : L2.upd Hf2 T (.tup (xs9 ++ [.ref zb])) T = some (.tup (xs9 ++ [.ref zb])) := upd_same
          generalize L2.upd Hf2 T (.tup (xs9 ++ [.ref zb])) = Hg at *
          have e9T := eCE.trans (e5.trans eT)
          have tT : Td Hg (.ref T) (staD (rs9 ++ [⟨⟨some (n + 1), some b⟩, none, .keep, 1⟩])) := by
            have h1 := ((Tds.same e9T tys2).snoc ((tzb.same eL).same (e5.trans eT))).tup cT
            unfold staD
            rw [List.map_append]
            exact h1
          have hfT := eT _ _ hff
          have tk := tk_lst (o := .lst (ys ++ [.ref T])) hfT
          refine ⟨f0, ys, _, rfl, rfl, hfT, small1000 (by omega), ?_⟩
          refine ⟨(sm.trans (ec9.trans e9T)).own hHf, ((tzc.same e9T).mono tk), ⟨_, _, rfl⟩, _, ss ++ [rs9 ++ [⟨⟨some (n + 1), some b⟩, none, .keep, 1⟩]], upd_same, by rw [List.length_append, hyl]; rfl, ?_, ?_⟩
          · rw [List.map_append]
            exact ((Tds.same (ec9.trans e9T) tys).snoc tT).mono tk
          · intro s hs
            rcases List.mem_append.mp hs with hs | hs
            · exact oks s hs
            · rw [List.mem_singleton.mp hs]
              refine ⟨by rw [List.length_append]; show _ + 1 ≤ 6; omega, fun r hr => ?_⟩
              rcases List.mem_append.mp hr with hr | hr
              · exact ok9 r hr
              · rw [List.mem_singleton.mp hr]
                exact ⟨rgc (by omega), fun _ z => (nomatch z), by show 1 < t; omega, fun _ => ⟨rfl, rfl⟩⟩
      · refine iteDF h0 ?_
        have tys2 : Tds Hc [.ref rb] (([⟨⟨some 1, some n⟩, none, .take, 0⟩] : List Row).map Row.d) := .snoc .nil tr
        have hfc := ec _ _ hf
        have cRc := cR
        have lr9 : ([⟨⟨some 1, some n⟩, none, .take, 0⟩] : List Row).length ≤ 2 := (show 1 ≤ 2 by decide)
        have ok9 : ∀ r ∈ ([⟨⟨some 1, some n⟩, none, .take, 0⟩] : List Row), RowOk t r := fun r hr => by rw [List.mem_singleton.mp hr]; exact ok1
        generalize ([⟨⟨some 1, some n⟩, none, .take, 0⟩] : List Row) = rs9 at *
        have ec9 := ec
        generalize hxs : ([V.ref rb] : List V) = xs9 at *
        generalize Hc = Hc9 at *
        walk_at "w"
        refine ⟨(show 4 ≤ sizeLine by decide), fun zb hzb => ?_⟩
        walk_at "w"
        generalize q = L9 at *
        have gL := hq
        have tzc : Td Hc9 (.ref zq) (Rg.d ⟨some (n + 1), some b⟩) := tz'.same ec9
        have ezb : Same Hc9 (L2.upd Hc9 zb (.tup [.ref zq, .non, .str "keep", .int 1])) := .new hzb
        have tzb : Td (L2.upd Hc9 zb (.tup [.ref zq, .non, .str "keep", .int 1])) (.ref zb) (Row.d ⟨⟨some (n + 1), some b⟩, none, .keep, 1⟩) := .of4 upd_same (tzc.same ezb) .non (.str _) (.int _)
        generalize L2.upd Hc9 zb (.tup [.ref zq, .non, .str "keep", .int 1]) = Hd at *
        have eL : Same Hd (L2.upd Hd L9 (.lst [.ref zb])) := .new gL
        have cL : L2.upd Hd L9 (.lst [.ref zb]) L9 = some (.lst [.ref zb]) := upd_same
        generalize L2.upd Hd L9 (.lst [.ref zb]) = He at *
        have eCE := ezb.trans eL
        refine ⟨R0, L9, _, _, rfl, rfl, eCE _ _ cRc, cL, by have := tys2.len; rw [List.length_map] at this; rw [this, sizeLine_eq]; show _ + 1 ≤ _; omega, fun p5 hp5 => ?_⟩
        have e5 : Same He (L2.upd He p5 (.lst (xs9 ++ [.ref zb]))) := .new hp5
        have c5 : L2.upd He p5 (.lst (xs9 ++ [.ref zb])) p5 = some (.lst (xs9 ++ [.ref zb])) := upd_same
        generalize L2.upd He p5 (.lst (xs9 ++ [.ref zb])) = Hf2 at *
        have hff := e5 _ _ (eCE _ _ hfc)
        walk_at "w"
        generalize q = T at *
        have gT := hq
        have eT : Same Hf2 (L2.upd Hf2 T (.tup (xs9 ++ [.ref zb]))) := .new gT
        have cT : L2.upd Hf2 T (.tup (xs9 ++ [.ref zb])) T = some (.tup (xs9 ++ [.ref zb])) := upd_same
        generalize L2.upd Hf2 T (.tup (xs9 ++ [.ref zb])) = Hg at *
        have e9T := eCE.trans (e5.trans eT)
        have tT : Td Hg (.ref T) (staD (rs9 ++ [⟨⟨some (n + 1), some b⟩, none, .keep, 1⟩])) := by
          have h1 := ((Tds.same e9T tys2).snoc ((tzb.same eL).same (e5.trans eT))).tup cT
          unfold staD
          rw [List.map_append]
          exact h1
        have hfT := eT _ _ hff
        have tk := tk_lst (o := .lst (ys ++ [.ref T])) hfT
        refine ⟨f0, ys, _, rfl, rfl, hfT, small1000 (by omega), ?_⟩
        refine ⟨(sm.trans (ec9.trans e9T)).own hHf, ((tzc.same e9T).mono tk), ⟨_, _, rfl⟩, _, ss ++ [rs9 ++ [⟨⟨some (n + 1), some b⟩, none, .keep, 1⟩]], upd_same, by rw [List.length_append, hyl]; rfl, ?_, ?_⟩
        · rw [List.map_append]
          exact ((Tds.same (ec9.trans e9T) tys).snoc tT).mono tk
        · intro s hs
          rcases List.mem_append.mp hs with hs | hs
          · exact oks s hs
          · rw [List.mem_singleton.mp hs]
            refine ⟨by rw [List.length_append]; show _ + 1 ≤ 6; omega, fun r hr => ?_⟩
            rcases List.mem_append.mp hr with hr | hr
            · exact ok9 r hr
            · rw [List.mem_singleton.mp hr]
              exact ⟨rgc (by omega), fun _ z => (nomatch z), by show 1 < t; omega, fun _ => ⟨rfl, rfl⟩⟩
    · rintro σ H' ⟨sm, tz', ⟨c, d, rfl⟩, ys, ss, hf, hyl, tys, oks⟩
      walk_at "w"
      have hl : ss.length = t := by
        have h1 := tys.len
        rw [List.length_map] at h1
        omega
      exact k _ _ ss ⟨by omega, by omega, fun s hs => by rw [hl]; exact oks s hs⟩ (sm.upd (by assumption)) ((tys.same (.new (by assumption))).tup upd_same)
end
end K8
set_option maxHeartbeats 4000000
namespace K8
open PySem PySem.Spec PyProof.Rows L2
set_option hygiene false in
local macro_rules | `(tactic| walk_at "w") => `(tactic| (repeat (first | refine ⟨_, rfl, ?_⟩ | refine ⟨_, _, rfl, rfl, ?_⟩ | refine ⟨rfl, ?_⟩ | refine ⟨_, _, rfl, ?_⟩ | refine ⟨_, _, rfl, .of upd_same, rfl, ?_⟩ | refine ⟨_, _, rfl, .of (by assumption), rfl, ?_⟩ | refine ⟨_, _, rfl, .of (by assumption), fun q hq => ?_⟩ | refine ⟨_, _, rfl, .of (by assumption), ?_⟩ | refine ⟨_, _, rfl, .inr (.of (by assumption)), ?_⟩ | refine ⟨_, _, rfl, .inl (.of (by assumption)), ?_⟩ | refine ⟨_, _, _, _, rfl, rfl, .of (by assumption), atI_nat (j := 0) rfl, ?_⟩ | refine ⟨_, _, _, _, rfl, rfl, .of (by assumption), atI_nat (j := 1) rfl, ?_⟩ | refine ⟨_, _, _, _, rfl, rfl, .of (by assumption), atI_nat (j := 2) rfl, ?_⟩ | refine ⟨fun z => absurd z.1 (show ¬ (1 : Nat) = 0 by decide), fun _ q hq => ?_⟩ | refine ⟨fun z => absurd z.1 (show ¬ (2 : Nat) = 0 by decide), fun _ q hq => ?_⟩ | refine ⟨sz1, fun q hq => ?_⟩ | refine ⟨sz2, fun q hq => ?_⟩ | refine ⟨sz3, fun q hq => ?_⟩ | refine ⟨sz0, fun q hq => ?_⟩ | refine ⟨_, _, _, rfl, rfl, (by assumption), (by assumption), ?_⟩ | refine ⟨.inl ⟨rfl, _, .of (by assumption)⟩, ?_⟩ | refine ⟨_, _, rfl, .inl ⟨.of (by assumption), fun q hq => ?_⟩⟩ | refine ⟨⟨_, .of (by assumption)⟩, ?_⟩ | refine ⟨⟨_, rfl⟩, ?_⟩ | refine ⟨.inl ⟨rfl, _, .of upd_same⟩, ?_⟩ | refine ⟨_, _, _, _, _, rfl, (by assumption), (by assumption), (by assumption), (by rfl), ?_⟩ | refine ⟨_, _, _, _, rfl, upd_same, (by assumption), (by assumption), (by first | exact ixFs_len | exact (show (0 : Nat) < 1000 by decide) | exact (show (1 : Nat) < 1000 by decide) | exact (show (2 : Nat) < 1000 by decide) | exact (show (3 : Nat) < 1000 by decide) | exact (show (4 : Nat) < 1000 by decide) | exact (show (5 : Nat) < 1000 by decide) | exact (show (6 : Nat) < 1000 by decide)), ?_⟩ | refine ⟨_, _, _, _, rfl, (by assumption), (by assumption), (by assumption), (by first | exact ixFs_len | exact (show (0 : Nat) < 1000 by decide) | exact (show (1 : Nat) < 1000 by decide) | exact (show (2 : Nat) < 1000 by decide) | exact (show (3 : Nat) < 1000 by decide) | exact (show (4 : Nat) < 1000 by decide) | exact (show (5 : Nat) < 1000 by decide) | exact (show (6 : Nat) < 1000 by decide)), ?_⟩ | refine ⟨_, _, _, rfl, (by assumption), (by first | rfl | exact ixFs_no (by decide +kernel)), ?_⟩ | refine ⟨_, _, _, rfl, (by assumption), ?_⟩ | refine iteT ?_ | refine iteF ?_)))
section
variable {P : Program} {w : World} {K : PySem.W.Frag} {mg : Str → Option Value} {base : Heap}
theorem Ka.ownN {q p : Addr} {H H' : Hp} {o : HO} (k : Ka q H H') (h : H p = none) : Ka q H (L2.upd H' p o) := ⟨fun b u n e => (upd_ne (fun z => by rw [z, h] at e; cases e)).trans (k.at_ b u n e)⟩
theorem Ka.none {q p : Addr} {H H' : Hp} (k : Ka q H H') (n : p ≠ q) (h : H' p = none) : H p = none := by
  cases e : H p with
  | none => rfl
  | some o => rw [k.at_ _ _ n e] at h; cases h
theorem Spr.other {q p : Addr} {H : Hp} {o : HO} (h : Spr q H) (n : p ≠ q) : Spr q (L2.upd H p o) := by
  obtain ⟨g, m, c, e, r⟩ := h.ex
  exact ⟨g, m, c, (upd_ne n.symm).trans e, r⟩
def sp_l_receiver : Sp := fun vs H Q _ => ∃ q : Addr, vs = [.ref q, .int 3, .int 4] ∧ Spr q H ∧ ∀ H' v R, RecOk R → Ka q H H' → Spr q H' → Td H' v (recD R) → Q v H'
theorem ok_l_receiver (D : Df K mg "_law_receiver" s_l_receiver) (G : Gx K mg) (c__law_dip : Cal P w K mg base CX0 1 "_law_dip" sp_dip) (c__law_window : Cal P w K mg base CX0 1 "_law_window" sp_window) (c__law_paired : Cal P w K mg base CX0 1 "_law_paired" sp_paired) (c__law_row : Cal P w K mg base CX0 3 "_law_row" sp_row) : Cal P w K mg base CX0 4 "_law_receiver" sp_l_receiver := by
  refine cal0 D sc_l_receiver (fun _ _ _ _ _ _ us hl => match us, hl with | [_, _, _], _ => rfl) (fun vs H Q E h => ?_) (fun f cdv A outer s H vs Q E hr h => ?_)
  · obtain ⟨_, rfl, _⟩ := h
    rfl
  · obtain ⟨q0, rfl, hs, k⟩ := h
    refine ⟨_, (pss_cons (ps_set (i := 3) sc_l_receiver.nd rfl (Or.inl rfl) (pe_d c__law_dip hr (by decide) (by rfl) (pa_cons (pv 0) (pa_cons pe_int pa_nil))))
      (pss_cons (ps_if (pt_cmpR op_eq (pv 3) pe_int (nomark _)) (pss_one (ps_ret (pe_d c__law_window hr (by decide) (by rfl) (pa_cons (pe_op op_add pe_int (pe_d c__law_dip hr (by decide) (by rfl) (pa_cons (pv 0) (pa_cons pe_int pa_nil)))) pa_nil)))) pss_nil)
      (pss_cons (ps_if (PW.pt (pw_and (pt_cmpR op_eq (pv 3) pe_int (nomark _)) (pw_and (pt_cmpR op_gt (pv 1) pe_int (nomark _)) (pw_and1 (pt_cmpR op_gt (pv 2) pe_int (nomark _)))))) (pss_cons (ps_set (i := 4) sc_l_receiver.nd rfl (Or.inl rfl) (pe_op op_add pe_int (pe_d c__law_dip hr (by decide) (by rfl) (pa_cons (pv 0) (pa_cons pe_int pa_nil)))))
      (pss_one (ps_ret (pe_d c__law_paired hr (by decide) (by rfl) (pa_cons (pv 4) (pa_cons (pe_op op_add (pe_op op_add (pv 4) pe_int) (pe_d c__law_dip hr (by decide) (by rfl) (pa_cons (pv 0) (pa_cons (pe_op op_sub pe_int (pv 4)) pa_nil)))) (pa_cons (pe_op op_add pe_int (pe_d c__law_dip hr (by decide) (by rfl) (pa_cons (pv 0) (pa_cons (pe_op op_sub (pv 1) pe_int) pa_nil)))) pa_nil))))))) pss_nil)
      (pss_cons (ps_set (i := 5) sc_l_receiver.nd rfl (Or.inr rfl) (pe_op op_add pe_int (pe_d c__law_dip hr (by decide) (by rfl) (pa_cons (pv 0) (pa_cons (pv 1) pa_nil)))))
      (pss_cons (ps_set (i := 6) sc_l_receiver.nd rfl (Or.inl rfl) (pe_lst pa_nil))
      (pss_cons (ps_for PassesOwn.never rfl (pi_range1 (by rfl) G.range (pa_cons (pv 5) pa_nil)) (pg_name (i := 7) sc_l_receiver.nd rfl (Or.inl rfl)) (pss_one (ps_expr (pe_bm PySem.F.plainAttrs_list PySem.F.slot_list_append PySem.F.type_list_append mt_append (pv 6) (pa_cons (pe_callTy call_tuple_of (by rfl) G.tuple (by decide +kernel) (pa_cons (by exact pe_lc (own := [("_law_k", 8)]) (by rfl) sc_l_receiver.nd (pi_range1 (by rfl) G.range (pa_cons (pe_d c__law_dip hr (by decide) (by rfl) (pa_cons (pv 0) (pa_cons (pe_op op_add (pv 2) pe_int) pa_nil))) pa_nil)) (blkOk_by (N := ["_law_spring_here", "_law_states", "_law_rows", "_law_way", "_law_size", "_law_many", "_law_found", "_law_state", "_law_k"]) (sc := defScope s_l_receiver) (by decide +kernel)) (fun _ _ _ _ _ => (pg_name (i := 8) sc_l_receiver.nd rfl (Or.inl rfl) (Or.inr rfl))) (fun _ _ _ _ _ => pts_nil) (fun _ _ _ _ _ => (pe_d c__law_row hr (by decide) (by rfl) (pa_cons (pv 0) (pa_cons (pv 5) pa_nil))))) pa_nil)) pa_nil)))))
      (pss_one (ps_ret (pe_callTy call_tuple_of (by rfl) G.tuple (by decide +kernel) (pa_cons (pv 6) pa_nil)))))))))), ?_⟩
    walk_at "w"
    refine ⟨hs, by decide, by decide, fun H1 i ka1 s1 i0 i1 => ?_⟩
    walk_at "w"
    by_cases h0 : i = 0
    · refine iteDT (congrArg V.int h0) ?_
      walk_at "w"
      refine ⟨s1, by decide, by decide, fun H2 j ka2 s2 j0 j1 => ?_⟩
      walk_at "w"
      refine ⟨by omega, by omega, fun H3 v R oR s3 tR => ?_⟩
      exact k _ _ R oR ((ka1.trans ka2).trans (.of s3)) (s2.same s3) tR
    · refine iteDF (fun z => h0 (V.int.inj z)) ?_
      walk_at "w"
      by_cases h1 : i = 1
      · refine iteDT (congrArg V.int h1) ?_
        walk_at "w"
        refine ⟨s1, by decide, by decide, fun H2 j ka2 s2 j0 j1 => ?_⟩
        walk_at "w"
        refine ⟨s2, by omega, by omega, fun H3 u ka3 s3 u0 u1 => ?_⟩
        walk_at "w"
        refine ⟨s3, by decide, by decide, fun H4 v ka4 s4 v0 v1 => ?_⟩
        obtain ⟨v, rfl⟩ := Int.eq_ofNat_of_zero_le v0
        walk_at "w"
        refine ⟨1 + j, 1 + j + 1 + u, 2 + v, by rw [show (((2 + v : Nat) : Int)) = 2 + (v : Int) by omega], by omega, by omega, by omega, by omega, by omega, fun H5 x R oR s5 tR => ?_⟩
        exact k _ _ R oR ((((ka1.trans ka2).trans ka3).trans ka4).trans (.of s5)) (s4.same s5) tR
      · refine iteDF (fun z => h1 (V.int.inj z)) ?_
        walk_at "w"
        refine ⟨s1, by decide, by decide, fun H2 j ka2 s2 j0 j1 => ?_⟩
        obtain ⟨j, rfl⟩ := Int.eq_ofNat_of_zero_le j0
        have ej : (1 : Int) + (j : Int) = ((1 + j : Nat) : Int) := by omega
        have ka12 := ka1.trans ka2
        walk_at "w"
        generalize q = f0 at *
        have gf := hq
        have ef : Same H2 (L2.upd H2 f0 (.lst [])) := .new gf
        have cf : L2.upd H2 f0 (.lst []) f0 = some (.lst []) := upd_same
        generalize L2.upd H2 f0 (.lst []) = Hf at *
        have hfq : f0 ≠ q0 := fun z => by
          obtain ⟨_, _, _, e, _⟩ := s2.ex
          rw [z, e] at gf
          cases gf
        refine ⟨by omega, by omega, ?_⟩
        refine for_range (fun m σ H' => Ka q0 H H' ∧ Spr q0 H' ∧ (∃ c, σ = [some (.ref q0), some (.int 3), some (.int 4), some (.int i), none, some (.int (1 + (j : Int))), some (.ref f0), c, none]) ∧
          ∃ (ys : List V) (ss : Rec), H' f0 = some (.lst ys) ∧ ys.length = m ∧ Tds H' ys (ss.map staD) ∧ ∀ s ∈ ss, s.length ≤ 6 ∧ ∀ r ∈ s, RowOk (1 + j) r) ?_ ?_ ?_
        · exact ⟨ka12.trans (.of ef), s2.same ef, ⟨_, rfl⟩, [], [], cf, rfl, .nil, fun s hs => (nomatch hs)⟩
        · rintro m σ H' hi ⟨km, sm, ⟨c, rfl⟩, ys, ss, hf, hyl, tys, oks⟩
          walk_at "w"
          refine ⟨sm, by decide, by decide, fun H5 u ka5 s5 u0 u1 => ?_⟩
          walk_at "w"
          refine ⟨by omega, by omega, fun Dn hDn => ?_⟩
          have hDq : Dn ≠ q0 := fun z => by
            obtain ⟨_, _, _, e, _⟩ := s5.ex
            rw [z, e] at hDn
            cases hDn
          have hDn2 : H' Dn = none := ka5.none hDq hDn
          refine lc_range (fun l H6 => Ka q0 H' H6 ∧ Spr q0 H6 ∧ ∃ (acc : List V) (rs : List Row), H6 Dn = some (.lst acc) ∧ acc.length = l ∧ Tds H6 acc (rs.map Row.d) ∧ ∀ r ∈ rs, RowOk (1 + j) r) ?_ ?_ ?_
          · exact ⟨ka5.ownN hDn2, s5.same (.new hDn), [], [], upd_same, rfl, .nil, fun _ z => (nomatch z)⟩
          · rintro l H6 hl ⟨ka6, s6, acc, rs, hD6, hal, tac, okr⟩
            walk_at "w"
            refine ⟨s6, (show 1 ≤ 1 + j by omega), (show 1 + j ≤ 4 by omega), fun H7 v r orr ka7 s7 t7 => ?_⟩
            have hD7 := ka7.at_ _ _ hDq hD6
            have tk := tk_lst (o := .lst (acc ++ [v])) hD7
            refine ⟨acc, hD7, small1000 (by omega), (ka6.trans ka7).ownN hDn2, s7.other hDq, acc ++ [v], rs ++ [r], upd_same, by rw [List.length_append, hal]; rfl, ?_, fun x hx => ?_⟩
            · rw [List.map_append]
              exact (((tac.mono (ka7.tk s6))).snoc t7).mono tk
            · rcases List.mem_append.mp hx with hx | hx
              · exact okr x hx
              · rw [List.mem_singleton.mp hx]; exact orr
          · rintro H6 ⟨ka6, s6, acc, rs, hD6, hal, tac, okr⟩
            walk_at "w"
            have eT : Same H6 (L2.upd H6 q (.tup acc)) := .new (by assumption)
            have tT : Td (L2.upd H6 q (.tup acc)) (.ref q) (staD rs) := (tac.same eT).tup upd_same
            have hfT := eT _ _ (ka6.at_ _ _ hfq hf)
            have sT := s6.same eT
            have kT := (km.trans ka6).trans (.of eT)
            have tyT := (tys.mono (ka6.tk sm)).same eT
            have hlr : rs.length = u.toNat := by
              have h1 := tac.len
              rw [List.length_map] at h1
              omega
            generalize L2.upd H6 q (.tup acc) = HT at *
            have tk := tk_lst (o := .lst (ys ++ [.ref q])) hfT
            have hf0 : H f0 = none := ka12.none hfq gf
            refine ⟨f0, ys, _, rfl, rfl, hfT, small1000 (by omega), ?_⟩
            refine ⟨kT.ownN hf0, sT.other hfq, ⟨_, rfl⟩, _, ss ++ [rs], upd_same, by rw [List.length_append, hyl]; rfl, ?_, fun s hs => ?_⟩
            · rw [List.map_append]
              exact (tyT.snoc tT).mono tk
            · rcases List.mem_append.mp hs with hs | hs
              · exact oks s hs
              · rw [List.mem_singleton.mp hs]
                exact ⟨by omega, okr⟩
        · rintro σ H' ⟨km, sm, ⟨c, rfl⟩, ys, ss, hf, hyl, tys, oks⟩
          walk_at "w"
          have hl : ss.length = 1 + j := by
            have h1 := tys.len
            rw [List.length_map] at h1
            omega
          have e6 : Same H' (L2.upd H' q (.tup ys)) := .new (by assumption)
          refine k _ _ ss ⟨by omega, by omega, fun s hs => by rw [hl]; exact oks s hs⟩ ?_ (sm.same e6) ((tys.same e6).tup upd_same)
          exact km.trans (.of e6)
end
end K8
set_option maxHeartbeats 4000000
namespace K8
open PySem PySem.Spec PyProof.Rows L2
set_option hygiene false in
local macro_rules | `(tactic| walk_at "w") => `(tactic| (repeat (first | refine ⟨_, rfl, ?_⟩ | refine ⟨_, _, rfl, rfl, ?_⟩ | refine ⟨rfl, ?_⟩ | refine ⟨_, _, rfl, ?_⟩ | refine ⟨_, _, rfl, .of upd_same, rfl, ?_⟩ | refine ⟨_, _, rfl, .of (by assumption), rfl, ?_⟩ | refine ⟨_, _, rfl, .of (by assumption), fun q hq => ?_⟩ | refine ⟨_, _, rfl, .of (by assumption), ?_⟩ | refine ⟨_, _, rfl, .inr (.of (by assumption)), ?_⟩ | refine ⟨_, _, rfl, .inl (.of (by assumption)), ?_⟩ | refine ⟨_, _, _, _, rfl, rfl, .of (by assumption), atI_nat (j := 0) rfl, ?_⟩ | refine ⟨_, _, _, _, rfl, rfl, .of (by assumption), atI_nat (j := 1) rfl, ?_⟩ | refine ⟨_, _, _, _, rfl, rfl, .of (by assumption), atI_nat (j := 2) rfl, ?_⟩ | refine ⟨fun z => absurd z.1 (show ¬ (1 : Nat) = 0 by decide), fun _ q hq => ?_⟩ | refine ⟨fun z => absurd z.1 (show ¬ (2 : Nat) = 0 by decide), fun _ q hq => ?_⟩ | refine ⟨sz1, fun q hq => ?_⟩ | refine ⟨sz2, fun q hq => ?_⟩ | refine ⟨sz3, fun q hq => ?_⟩ | refine ⟨sz0, fun q hq => ?_⟩ | refine ⟨_, _, _, rfl, rfl, (by assumption), (by assumption), ?_⟩ | refine ⟨.inl ⟨rfl, _, .of (by assumption)⟩, ?_⟩ | refine ⟨_, _, rfl, .inl ⟨.of (by assumption), fun q hq => ?_⟩⟩ | refine ⟨⟨_, .of (by assumption)⟩, ?_⟩ | refine ⟨⟨_, rfl⟩, ?_⟩ | refine ⟨.inl ⟨rfl, _, .of upd_same⟩, ?_⟩ | refine ⟨_, _, _, _, _, rfl, (by assumption), (by assumption), (by assumption), (by rfl), ?_⟩ | refine ⟨_, _, _, _, rfl, upd_same, (by assumption), (by assumption), (by first | exact ixFs_len | exact (show (0 : Nat) < 1000 by decide) | exact (show (1 : Nat) < 1000 by decide) | exact (show (2 : Nat) < 1000 by decide) | exact (show (3 : Nat) < 1000 by decide) | exact (show (4 : Nat) < 1000 by decide) | exact (show (5 : Nat) < 1000 by decide) | exact (show (6 : Nat) < 1000 by decide)), ?_⟩ | refine ⟨_, _, _, _, rfl, (by assumption), (by assumption), (by assumption), (by first | exact ixFs_len | exact (show (0 : Nat) < 1000 by decide) | exact (show (1 : Nat) < 1000 by decide) | exact (show (2 : Nat) < 1000 by decide) | exact (show (3 : Nat) < 1000 by decide) | exact (show (4 : Nat) < 1000 by decide) | exact (show (5 : Nat) < 1000 by decide) | exact (show (6 : Nat) < 1000 by decide)), ?_⟩ | refine ⟨_, _, _, rfl, (by assumption), (by first | rfl | exact ixFs_no (by decide +kernel)), ?_⟩ | refine ⟨_, _, _, rfl, (by assumption), ?_⟩ | refine iteT ?_ | refine iteF ?_)))
section
variable {P : Program} {w : World} {K : PySem.W.Frag} {mg : Str → Option Value} {base : Heap}
def sp_history (K : PySem.W.Frag) : Sp := fun vs H Q _ => ∃ (d a : Addr) (n : Nat), vs = [.ref d] ∧ DkR K H d a n ∧ ∀ p ps, H p = some (.tup ps) → ps.length = n → Q (.ref p) H
theorem ok_history (D : Pf K (cDk K) "history" "Desk.history" s_Desk_history) (G : Gx K mg) (Gk : Gk K mg) : Prp P w K mg base 1 (cDk K) "history" (sp_history K) := by
  obtain ⟨p, g, hp, D⟩ := D
  refine prp0 hp Gk.dk D sc_Desk_history (fun _ _ _ _ _ _ us hl => match us, hl with | [_], _ => rfl) (fun vs H Q E h => ?_) (fun f cdv A outer s H vs Q E hr h => ?_)
  · obtain ⟨_, _, _, rfl, _⟩ := h
    rfl
  · obtain ⟨d, a, n, rfl, dk, k⟩ := h
    refine ⟨_, (pss_one (ps_ret (pe_fld (pv 0) rfl))), ?_⟩
    obtain ⟨ddx, pp, pps, hd, hpp, hpl⟩ := dk.ex
    obtain ⟨n1, n2⟩ := Gk.nk
    have hC := Gk.dk
    walk_at "w"
    exact k _ _ hpp hpl
end
end K8
set_option maxHeartbeats 4000000
namespace K8
open PySem PySem.Spec PyProof.Rows L2
set_option hygiene false in
local macro_rules | `(tactic| walk_at "w") => `(tactic| (repeat (first | refine ⟨_, rfl, ?_⟩ | refine ⟨_, _, rfl, rfl, ?_⟩ | refine ⟨rfl, ?_⟩ | refine ⟨_, _, rfl, ?_⟩ | refine ⟨_, _, rfl, .of upd_same, rfl, ?_⟩ | refine ⟨_, _, rfl, .of (by assumption), rfl, ?_⟩ | refine ⟨_, _, rfl, .of (by assumption), fun q hq => ?_⟩ | refine ⟨_, _, rfl, .of (by assumption), ?_⟩ | refine ⟨_, _, rfl, .inr (.of (by assumption)), ?_⟩ | refine ⟨_, _, rfl, .inl (.of (by assumption)), ?_⟩ | refine ⟨_, _, _, _, rfl, rfl, .of (by assumption), atI_nat (j := 0) rfl, ?_⟩ | refine ⟨_, _, _, _, rfl, rfl, .of (by assumption), atI_nat (j := 1) rfl, ?_⟩ | refine ⟨_, _, _, _, rfl, rfl, .of (by assumption), atI_nat (j := 2) rfl, ?_⟩ | refine ⟨fun z => absurd z.1 (show ¬ (1 : Nat) = 0 by decide), fun _ q hq => ?_⟩ | refine ⟨fun z => absurd z.1 (show ¬ (2 : Nat) = 0 by decide), fun _ q hq => ?_⟩ | refine ⟨sz1, fun q hq => ?_⟩ | refine ⟨sz2, fun q hq => ?_⟩ | refine ⟨sz3, fun q hq => ?_⟩ | refine ⟨sz0, fun q hq => ?_⟩ | refine ⟨_, _, _, rfl, rfl, (by assumption), (by assumption), ?_⟩ | refine ⟨.inl ⟨rfl, _, .of (by assumption)⟩, ?_⟩ | refine ⟨_, _, rfl, .inl ⟨.of (by assumption), fun q hq => ?_⟩⟩ | refine ⟨⟨_, .of (by assumption)⟩, ?_⟩ | refine ⟨⟨_, rfl⟩, ?_⟩ | refine ⟨.inl ⟨rfl, _, .of upd_same⟩, ?_⟩ | refine ⟨_, _, _, _, _, rfl, (by assumption), (by assumption), (by assumption), (by rfl), ?_⟩ | refine ⟨_, _, _, _, rfl, upd_same, (by assumption), (by assumption), (by first | exact ixFs_len | exact (show (0 : Nat) < 1000 by decide) | exact (show (1 : Nat) < 1000 by decide) | exact (show (2 : Nat) < 1000 by decide) | exact (show (3 : Nat) < 1000 by decide) | exact (show (4 : Nat) < 1000 by decide) | exact (show (5 : Nat) < 1000 by decide) | exact (show (6 : Nat) < 1000 by decide)), ?_⟩ | refine ⟨_, _, _, _, rfl, (by assumption), (by assumption), (by assumption), (by first | exact ixFs_len | exact (show (0 : Nat) < 1000 by decide) | exact (show (1 : Nat) < 1000 by decide) | exact (show (2 : Nat) < 1000 by decide) | exact (show (3 : Nat) < 1000 by decide) | exact (show (4 : Nat) < 1000 by decide) | exact (show (5 : Nat) < 1000 by decide) | exact (show (6 : Nat) < 1000 by decide)), ?_⟩ | refine ⟨_, _, _, rfl, (by assumption), (by first | rfl | exact ixFs_no (by decide +kernel)), ?_⟩ | refine ⟨_, _, _, rfl, (by assumption), ?_⟩ | refine iteT ?_ | refine iteF ?_)))
section
variable {P : Program} {w : World} {K : PySem.W.Frag} {mg : Str → Option Value} {base : Heap}
def kdN : Nat → Kd
  | 0 => .i | 1 => .l | 2 => .h | _ => .b
def moK (kd : Kd) (m : Nat) : Option Nat := if kd.halts then some m else none
def sp_gate (K : PySem.W.Frag) : Sp := fun vs H Q _ => ∃ (c m : Nat) (v : V) (R : Rec), vs = [.int c, v, .int 0, .int m] ∧ Td H v (recD R) ∧ RecOk R ∧ c < 4 ∧ 1 ≤ m ∧ m ≤ 9 ∧
  ∀ H' a nl, Same H H' → H a = none → IxR K (kdN c) H' a (ixNew R nl 0 (moK (kdN c) m)) → Q (.ref a) H'
theorem ok_gate (D : Df K mg "_law_gate" s_l_gate) (G : Gx K mg) (Gk : Gk K mg) (k_Rules : Mkr P w K mg base 7 "Rules" (cRu K) (sp_Rules K))
    (k_Inbox : Mkr P w K mg base 3 "Inbox" (Kd.C K .i) (fun vs H Q E => ∃ kd, sp_Inbox K kd vs H Q E)) (k_LoggedInbox : Mkr P w K mg base 4 "LoggedInbox" (Kd.C K .l) (sp_Logged K))
    (k_HaltedInbox : Mkr P w K mg base 4 "HaltedInbox" (Kd.C K .h) (fun vs H Q E => ∃ kd : Kd, kd.halts = true ∧ sp_Halted K kd vs H Q E)) (k_LoggedHaltedInbox : Mkr P w K mg base 5 "LoggedHaltedInbox" (Kd.C K .b) (sp_Halted K .b)) : Cal P w K mg base CX0 9 "_law_gate" (sp_gate K) := by
  refine cal0 D sc_l_gate (fun _ _ _ _ _ _ us hl => match us, hl with | [_, _, _, _], _ => rfl) (fun vs H Q E h => ?_) (fun f cdv A outer s H vs Q E hr h => ?_)
  · obtain ⟨_, _, _, _, rfl, _⟩ := h
    rfl
  · obtain ⟨c, m, v, R, rfl, tv, oR, c4, m1, m9, k⟩ := h
    refine ⟨_, (pss_cons (ps_if (pt_cmpR op_eq (pv 0) pe_int (nomark _)) (pss_one (ps_ret (pe_mk k_Inbox hr (by decide) (by rfl) (pa_cons (pe_mk k_Rules hr (by decide) (by rfl) (pa_cons (pv 1) pa_nil)) (pa_cons (pv 2) pa_nil))))) pss_nil)
      (pss_cons (ps_if (pt_cmpR op_eq (pv 0) pe_int (nomark _)) (pss_one (ps_ret (pe_mk k_LoggedInbox hr (by decide) (by rfl) (pa_cons (pe_mk k_Rules hr (by decide) (by rfl) (pa_cons (pv 1) pa_nil)) (pa_cons (pv 2) pa_nil))))) pss_nil)
      (pss_cons (ps_if (pt_cmpR op_eq (pv 0) pe_int (nomark _)) (pss_one (ps_ret (pe_mk k_HaltedInbox hr (by decide) (by rfl) (pa_cons (pe_mk k_Rules hr (by decide) (by rfl) (pa_cons (pv 1) pa_nil)) (pa_cons (pv 2) (pa_cons (pv 3) pa_nil)))))) pss_nil)
      (pss_one (ps_ret (pe_mk k_LoggedHaltedInbox hr (by decide) (by rfl) (pa_cons (pe_mk k_Rules hr (by decide) (by rfl) (pa_cons (pv 1) pa_nil)) (pa_cons (pv 2) (pa_cons (pv 3) pa_nil))))))))), ?_⟩
    have hc : c = 0 ∨ c = 1 ∨ c = 2 ∨ c = 3 := by omega
    rcases hc with rfl | rfl | rfl | rfl
    · skip
      walk_at "w"
      intro r dr gr gdr hne
      have gr2 : L2.upd H dr (.own r) r = none := (upd_ne hne.symm).trans gr
      have s1 : Same H (L2.upd (L2.upd H dr (.own r)) r (.ins (cRu K) dr [])) := (L2.Same.new gdr).upd gr2
      refine ⟨r, dr, v, R, rfl, upd_same, tv.same s1, oR, fun H2 nl ka ru => ⟨rfl, ?_⟩⟩
      have s2 : Same H H2 := fun b o e => ka.at_ b o (fun z => by rw [z, gr] at e; cases e) (s1 b o e)
      walk_at "w"
      intro a da ga gda hna
      have ga2 : L2.upd H2 da (.own a) a = none := (upd_ne hna.symm).trans ga
      have s3 : Same H2 (L2.upd (L2.upd H2 da (.own a)) a (.ins (Kd.i.C K) da [])) := (L2.Same.new gda).upd ga2
      have ru3 := ru.fz (.of s3)
      refine ⟨.i, a, da, r, R, nl, 0, rfl, upd_same, ru3, fun H3 ka3 ie => ⟨rfl, ?_⟩⟩
      have s4 : Same H H3 := fun b o e => ka3.at_ b o (fun z => by have := (s2.trans (.refl _)).none ga; rw [z, this] at e; cases e) (s3 _ _ (s2 b o e))
      exact k _ a nl s4 (s2.none ga) ⟨ie, rfl, oR.pos, fun l hl => (nomatch hl)⟩
    · skip
      walk_at "w"
      intro r dr gr gdr hne
      have gr2 : L2.upd H dr (.own r) r = none := (upd_ne hne.symm).trans gr
      have s1 : Same H (L2.upd (L2.upd H dr (.own r)) r (.ins (cRu K) dr [])) := (L2.Same.new gdr).upd gr2
      refine ⟨r, dr, v, R, rfl, upd_same, tv.same s1, oR, fun H2 nl ka ru => ⟨rfl, ?_⟩⟩
      have s2 : Same H H2 := fun b o e => ka.at_ b o (fun z => by rw [z, gr] at e; cases e) (s1 b o e)
      walk_at "w"
      intro a da ga gda hna
      have ga2 : L2.upd H2 da (.own a) a = none := (upd_ne hna.symm).trans ga
      have s3 : Same H2 (L2.upd (L2.upd H2 da (.own a)) a (.ins (Kd.l.C K) da [])) := (L2.Same.new gda).upd ga2
      have ru3 := ru.fz (.of s3)
      refine ⟨a, da, r, R, nl, 0, rfl, upd_same, ru3, fun H3 ka3 ie => ⟨rfl, ?_⟩⟩
      have s4 : Same H H3 := fun b o e => ka3.at_ b o (fun z => by have := (s2.trans (.refl _)).none ga; rw [z, this] at e; cases e) (s3 _ _ (s2 b o e))
      exact k _ a nl s4 (s2.none ga) ⟨ie, rfl, oR.pos, fun l hl => (nomatch hl)⟩
    · skip
      walk_at "w"
      intro r dr gr gdr hne
      have gr2 : L2.upd H dr (.own r) r = none := (upd_ne hne.symm).trans gr
      have s1 : Same H (L2.upd (L2.upd H dr (.own r)) r (.ins (cRu K) dr [])) := (L2.Same.new gdr).upd gr2
      refine ⟨r, dr, v, R, rfl, upd_same, tv.same s1, oR, fun H2 nl ka ru => ⟨rfl, ?_⟩⟩
      have s2 : Same H H2 := fun b o e => ka.at_ b o (fun z => by rw [z, gr] at e; cases e) (s1 b o e)
      walk_at "w"
      intro a da ga gda hna
      have ga2 : L2.upd H2 da (.own a) a = none := (upd_ne hna.symm).trans ga
      have s3 : Same H2 (L2.upd (L2.upd H2 da (.own a)) a (.ins (Kd.h.C K) da [])) := (L2.Same.new gda).upd ga2
      have ru3 := ru.fz (.of s3)
      refine ⟨.h, rfl, a, da, r, R, nl, 0, m, rfl, upd_same, ru3, m1, m9, fun H3 ka3 ie => ⟨rfl, ?_⟩⟩
      have s4 : Same H H3 := fun b o e => ka3.at_ b o (fun z => by have := (s2.trans (.refl _)).none ga; rw [z, this] at e; cases e) (s3 _ _ (s2 b o e))
      exact k _ a nl s4 (s2.none ga) ⟨ie, rfl, oR.pos, fun l hl => (nomatch hl)⟩
    · skip
      walk_at "w"
      intro r dr gr gdr hne
      have gr2 : L2.upd H dr (.own r) r = none := (upd_ne hne.symm).trans gr
      have s1 : Same H (L2.upd (L2.upd H dr (.own r)) r (.ins (cRu K) dr [])) := (L2.Same.new gdr).upd gr2
      refine ⟨r, dr, v, R, rfl, upd_same, tv.same s1, oR, fun H2 nl ka ru => ⟨rfl, ?_⟩⟩
      have s2 : Same H H2 := fun b o e => ka.at_ b o (fun z => by rw [z, gr] at e; cases e) (s1 b o e)
      walk_at "w"
      intro a da ga gda hna
      have ga2 : L2.upd H2 da (.own a) a = none := (upd_ne hna.symm).trans ga
      have s3 : Same H2 (L2.upd (L2.upd H2 da (.own a)) a (.ins (Kd.b.C K) da [])) := (L2.Same.new gda).upd ga2
      have ru3 := ru.fz (.of s3)
      refine ⟨a, da, r, R, nl, 0, m, rfl, upd_same, ru3, m1, m9, fun H3 ka3 ie => ⟨rfl, ?_⟩⟩
      have s4 : Same H H3 := fun b o e => ka3.at_ b o (fun z => by have := (s2.trans (.refl _)).none ga; rw [z, this] at e; cases e) (s3 _ _ (s2 b o e))
      exact k _ a nl s4 (s2.none ga) ⟨ie, rfl, oR.pos, fun l hl => (nomatch hl)⟩
end
end K8
set_option maxHeartbeats 4000000
namespace K8
open PySem PySem.Spec PyProof.Rows L2
set_option hygiene false in
local macro_rules | `(tactic| walk_at "w") => `(tactic| (repeat (first | refine ⟨_, rfl, ?_⟩ | refine ⟨_, _, rfl, rfl, ?_⟩ | refine ⟨rfl, ?_⟩ | refine ⟨_, _, rfl, ?_⟩ | refine ⟨_, _, rfl, .of upd_same, rfl, ?_⟩ | refine ⟨_, _, rfl, .of (by assumption), rfl, ?_⟩ | refine ⟨_, _, rfl, .of (by assumption), fun q hq => ?_⟩ | refine ⟨_, _, rfl, .of (by assumption), ?_⟩ | refine ⟨_, _, rfl, .inr (.of (by assumption)), ?_⟩ | refine ⟨_, _, rfl, .inl (.of (by assumption)), ?_⟩ | refine ⟨_, _, _, _, rfl, rfl, .of (by assumption), atI_nat (j := 0) rfl, ?_⟩ | refine ⟨_, _, _, _, rfl, rfl, .of (by assumption), atI_nat (j := 1) rfl, ?_⟩ | refine ⟨_, _, _, _, rfl, rfl, .of (by assumption), atI_nat (j := 2) rfl, ?_⟩ | refine ⟨fun z => absurd z.1 (show ¬ (1 : Nat) = 0 by decide), fun _ q hq => ?_⟩ | refine ⟨fun z => absurd z.1 (show ¬ (2 : Nat) = 0 by decide), fun _ q hq => ?_⟩ | refine ⟨sz1, fun q hq => ?_⟩ | refine ⟨sz2, fun q hq => ?_⟩ | refine ⟨sz3, fun q hq => ?_⟩ | refine ⟨sz0, fun q hq => ?_⟩ | refine ⟨_, _, _, rfl, rfl, (by assumption), (by assumption), ?_⟩ | refine ⟨.inl ⟨rfl, _, .of (by assumption)⟩, ?_⟩ | refine ⟨_, _, rfl, .inl ⟨.of (by assumption), fun q hq => ?_⟩⟩ | refine ⟨⟨_, .of (by assumption)⟩, ?_⟩ | refine ⟨⟨_, rfl⟩, ?_⟩ | refine ⟨.inl ⟨rfl, _, .of upd_same⟩, ?_⟩ | refine ⟨_, _, _, _, _, rfl, (by assumption), (by assumption), (by assumption), (by rfl), ?_⟩ | refine ⟨_, _, _, _, rfl, upd_same, (by assumption), (by assumption), (by first | exact ixFs_len | exact (show (0 : Nat) < 1000 by decide) | exact (show (1 : Nat) < 1000 by decide) | exact (show (2 : Nat) < 1000 by decide) | exact (show (3 : Nat) < 1000 by decide) | exact (show (4 : Nat) < 1000 by decide) | exact (show (5 : Nat) < 1000 by decide) | exact (show (6 : Nat) < 1000 by decide)), ?_⟩ | refine ⟨_, _, _, _, rfl, (by assumption), (by assumption), (by assumption), (by first | exact ixFs_len | exact (show (0 : Nat) < 1000 by decide) | exact (show (1 : Nat) < 1000 by decide) | exact (show (2 : Nat) < 1000 by decide) | exact (show (3 : Nat) < 1000 by decide) | exact (show (4 : Nat) < 1000 by decide) | exact (show (5 : Nat) < 1000 by decide) | exact (show (6 : Nat) < 1000 by decide)), ?_⟩ | refine ⟨_, _, _, rfl, (by assumption), (by first | rfl | exact ixFs_no (by decide +kernel)), ?_⟩ | refine ⟨_, _, _, rfl, (by assumption), ?_⟩ | refine iteT ?_ | refine iteF ?_)))
section
variable {P : Program} {w : World} {K : PySem.W.Frag} {mg : Str → Option Value} {base : Heap}
/-- what an exception class is to an except clause -/
structure ExG (K : PySem.W.Frag) (mg : Str → Option Value) : Prop where
  nm : ∀ x ∈ (["Halted", "TooManyDeeds", "NothingToUndo"] : List Str), mg x = some (.ref (He.ga K x))
  m1 : PySem.W.exmOne K (xHa K) (xHa K) = some true
  m2 : PySem.W.exmOne K (xNu K) (xHa K) = some false
  m3 : PySem.W.exmOne K (xNu K) (.ref (He.ga K "TooManyDeeds")) = some false
  m4 : PySem.W.exmOne K (xNu K) (xNu K) = some true
def cmdB (h : Bool) (n : Int) : Cmd := if h then .hear n else .undo
def sp_by (K : PySem.W.Frag) (kd : Kd) : Sp := fun vs H Q _ => ∃ (a : Addr) (x : Ix) (h : Bool) (n : Int), vs = [.ref a, .str (if h then "hear" else "undo"), .int n] ∧ IxR K kd H a x ∧ Bq x ∧ x.busy = false ∧
  ∀ H', Ka a H H' → IxR K kd H' a (resX x (runC kd x (cmdB h n))) → Q (.str (resT (runC kd x (cmdB h n)))) H'
theorem ok_by (kd : Kd) (D : Df K mg "_law_by_methods" s_l_by_methods) (G : Gx K mg) (Gk : Gk K mg) (X : ExG K mg) (m_call : Met P w K mg base (L2N.CX P w) 6 (kd.C K) "__call__" (sp_call K kd)) (fi : ∀ f, Meth K (kd.C K) "__call__" f → PySem.W.fnIn K f = true)
    (m_undo : Met P w K mg base (L2N.CX P w) 2 (kd.C K) "undo" (sp_undo K kd)) : Cal P w K mg base CX0 7 "_law_by_methods" (sp_by K kd) := by
  refine cal0 D sc_l_by_methods (fun _ _ _ _ _ _ us hl => match us, hl with | [_, _, _], _ => rfl) (fun vs H Q E h => ?_) (fun f cdv A outer s H vs Q E hr h => ?_)
  · obtain ⟨_, _, _, _, rfl, _⟩ := h
    rfl
  · obtain ⟨a, x, b, n, rfl, ix, bq, hb, k⟩ := h
    refine ⟨_, pss_one (L2N.ps_try_many (Wout := fun _ _ _ _ => False) rfl rfl takes0N (fun W pn xe tk _ => pss_cons (ps_if (pt_cmpR op_eq (pv 1) pe_str (nomark _)) (pss_one (ps_ret (pe_ifExp (pt_val (pe_co m_call fi hr (by decide) (fun σ => L2N.passAt tk σ) (pv 0) (pa_cons (pv 2) pa_nil))) pe_str pe_str))) pss_nil) (pss_one (ps_ret (pe_op op_add_str pe_str (pe_callTy call_str_int (by rfl) G.str (by decide +kernel) (pa_cons (pe_mX0 m_undo hr (by decide) (fun σ => L2N.passAt tk σ) (pv 0)) pa_nil))))))
      (.cons ⟨rfl, by decide, Or.inl (X.nm _ (by simp))⟩ (fun a oe cls d pn hz hf => pss_one (ps_ret pe_str)) (.cons ⟨rfl, by decide, Or.inl (X.nm _ (by simp))⟩ (fun a oe cls d pn hz hf => pss_one (ps_ret pe_str)) (.cons ⟨rfl, by decide, Or.inl (X.nm _ (by simp))⟩ (fun a oe cls d pn hz hf => pss_one (ps_ret pe_str)) .nil)))), ?_⟩
    obtain ⟨dx, r, l, p, w, ps, ha, hru, hlf, hp, hps, hw⟩ := ix.ex
    have b1 := bq.bd.len.1
    have b2 := bq.bd.rows
    have b3 := bq.room
    cases b with
    | true =>
      walk_at "w"
      refine ⟨⟨dx, _, ha⟩, a, x, n, rfl, ix, b3, by omega, by omega, ?_⟩
      unfold cmdB runC at k
      simp only [if_true] at k
      rw [hb] at k
      rw [if_neg (by simp)] at k
      rw [if_neg (by rw [hb]; simp)]
      cases ho : isOpenF x with
      | true =>
        rw [ho] at k
        refine iteT fun H1 ka ix1 => ?_
        have k2 := k _ ka ix1
        cases hc : (callF kd x n).1 with
        | true =>
          rw [hc] at k2
          walk_at "w"
          exact k2
        | false =>
          rw [hc] at k2
          walk_at "w"
          exact k2
      | false =>
        rw [ho] at k
        refine iteF ⟨true, X.m1, fun _ a0 ha0 => ?_, fun z => Bool.noConfusion z⟩
        rw [if_neg (by simp)] at k
        exact k _ .refl ix
    | false =>
      walk_at "w"
      refine ⟨a, x, rfl, ix, by omega, by omega, ?_⟩
      unfold cmdB runC at k
      simp only [Bool.false_eq_true, if_false] at k
      rw [hb] at k
      rw [if_neg (by rw [hb]; simp)]
      refine ⟨fun e H1 s1 => ?_, fun ls l e H1 ka ix1 => ?_⟩
      · rw [if_neg (by simp), e] at k
        refine ⟨false, X.m2, fun z => Bool.noConfusion z, fun _ => ⟨false, X.m3, fun z => Bool.noConfusion z, fun _ => ⟨true, X.m4, fun _ a0 ha0 => ?_, fun z => Bool.noConfusion z⟩⟩⟩
        exact k _ (.of s1) (ix.same s1)
      · rw [if_neg (by simp), e, List.getLast?_concat, List.dropLast_concat] at k
        have el : ls.length ≤ 200 := by rw [e, List.length_append] at b3; omega
        walk_at "w"
        refine ⟨log_ok (sN el), _, _, rfl, rfl, Nat.le_trans (Nat.add_le_add (show ("version " : Str).length ≤ 8 by decide) (nt_ok (sN el)).1) (by decide), ?_⟩
        exact k _ ka ix1
end
end K8
set_option maxHeartbeats 4000000
namespace K8
open PySem PySem.Spec PyProof.Rows L2
/-! ### promises with a premise on the surroundings -/
section
variable (Φ : Around → List Env → Shared → Hp → Prop) (P : Program) (w : World) (K : PySem.W.Frag) (mg : Str → Option Value) (base : Heap)
structure FnP (CX : CXT) (k : Nat) (f : Addr) (fd : FuncData) (ps : List Str) (sp : Sp) : Prop where
  len : ∀ vs H Q E, sp vs H Q E → vs.length = ps.length
  run : ∀ (A : Around) (outer : List Env) (s : Shared) (H : Hp) (args : Args) (us : List Value) (vs : List V) (Q : VK) (E : XK), Φ A outer s H → Room k A → Env0 P w K mg base A outer s H → BindsTo s fd args (ps.zip us) → Vals vs us → sp vs H Q E →
    codeAny (model P w) A (.call (.ref f) args) (CR CX outer P w H s Q E) s
def CalP (CX : CXT) (k : Nat) (x : Str) (sp : Sp) : Prop := ∃ f fd ps, FnP Φ P w K mg base CX k f fd ps sp ∧ mg x = some (.ref f) ∧ PySem.W.keepIn K (.ref f) = true ∧ Binds K fd ps []
end
section
variable {Φ : Around → List Env → Shared → Hp → Prop}
theorem fn_ofP {CX : CXT} {P : Program} {w : World} {K : PySem.W.Frag} {mg : Str → Option Value} {base : Heap} {k : Nat} {f : Addr} {name qual : Str} {params : Arguments} {body : List Stmt} {scope : Scope} {dV kV doc pm cdv ct oc : Value} {an od : Option Addr}
    {osl : Array (Option Value)} {N ps : List Str} {sp : Sp} (lk : K.lookup f = some ⟨oc, od, .func (PySem.W.fnOf name qual params body scope dV kV doc pm an cdv ct), osl⟩) (hcd : PySem.W.codeIn K cdv qual = true) (S : FnScope N ps scope)
    (len : ∀ vs H Q E, sp vs H Q E → vs.length = ps.length)
    (hbody : ∀ (A : Around) (outer : List Env) (s : Shared) (H : Hp) (vs : List V) (Q : VK) (E : XK), Φ A outer s H → Room k (A.deeper (envOfC qual scope s.heap.objs.size f cdv)) → sp vs H Q E →
      ∃ t, PSs (cxOf CX P w K mg base N qual scope f cdv A outer s H E) body t ∧ t { nx := fun _ H' => Q .non H', rt := Q } (start N vs) H) :
    FnP Φ P w K mg base CX (k + 1) f (PySem.W.fnOf name qual params body scope dV kV doc pm an cdv ct) ps sp := by
  refine ⟨len, fun A outer s H args us vs Q E hphi hr e0 hb r hsp => ?_⟩
  have hl := len _ _ _ _ hsp
  have KX : K.In s.heap := e0.mod.kin.keeps fun b o e => (e0.bs b o e).1
  have lim : s.heap.NoLimit := e0.mod.nolimit.keeps fun b o e => (e0.bs b o e).1
  have hkind : ∀ y ∈ ps.zip us, scope.names.lookup y.1 = some .local ∨ (scope.names.lookup y.1 = some .cell ∧ ((cellsFrom (s.heap.objs.size + 1) scope.names []).lookup y.1).isSome = true) := fun ⟨n, v⟩ hy => by
    rcases S.par n (List.of_mem_zip hy).1 with q | q
    · exact .inl q
    · exact .inr ⟨q, PySem.W.cellsFrom_some _ _ _ (.inl q)⟩
  refine codeAny_call_function hr.depth (KX _ _ lk) rfl S.co S.gen rfl (PySem.W.codeRec_of KX hcd) (hb _ _ _ _ ?_)
  refine wpAny_newFunctionEnv_cells S.kind hkind fun env he s1 x => ?_
  subst he
  refine ⟨lim.keeps x.toInCall.keep, codeAny_func ?_⟩
  obtain ⟨t, ht, hq⟩ := hbody A outer s H vs Q E hphi (hr.deeper _) hsp
  have I : Inv (cxOf CX P w K mg base N qual scope f cdv A outer s H E) [] (start N vs) H s1 := inv_start S hr.hd e0 hl r x
  refine wpAny_mono (ht.run [] s1 (start N vs) H _ I hq) (fun fl s' hs => ?_) fun e s' hs => hs
  have fin : ∀ {σ' : L2.St} {H' : Hp} {v : V} {u : Value}, Inv (cxOf CX P w K mg base N qual scope f cdv A outer s H E) [] σ' H' s' → RelV v u → Q v H' → CE outer P w H s Q u s' :=
    fun {σ' H' v u} J rv q => ⟨v, H', J.os, J.bare, J.base, J.hok, rv, q⟩
  cases fl with
  | ret u =>
    obtain ⟨v, σ', H', J, rv, q⟩ := hs
    exact fin J rv q
  | next =>
    obtain ⟨σ', H', J, q⟩ := hs
    exact fin (v := V.non) (u := Value.none) J rfl q
  | brk =>
    obtain ⟨_, _, _, q⟩ := hs
    exact False.elim q
  | cont =>
    obtain ⟨_, _, _, q⟩ := hs
    exact False.elim q
end
section
variable {Φ : Around → List Env → Shared → Hp → Prop} {P : Program} {w : World} {K : PySem.W.Frag} {mg : Str → Option Value} {base : Heap}
theorem calP0 {x : Str} {st : Stmt} {N ps : List Str} {k : Nat} {sp : Sp} (D : Df K mg x st) (S : FnScope N ps (defScope st)) (b : BindA x x st ps) (len : ∀ vs H Q E, sp vs H Q E → vs.length = ps.length)
    (hbody : ∀ (f : Addr) (cdv : Value) (A : Around) (outer : List Env) (s : Shared) (H : Hp) (vs : List V) (Q : VK) (E : XK), Φ A outer s H → Room k (A.deeper (envOfC x (defScope st) s.heap.objs.size f cdv)) → sp vs H Q E →
      ∃ t, PSs (cxOf CX0 P w K mg base N x (defScope st) f cdv A outer s H E).nox (defBody st) t ∧ t { nx := fun _ H' => Q .non H', rt := Q } (start N vs) H) : CalP Φ P w K mg base CX0 (k + 1) x sp := by
  obtain ⟨f, fd, F, hm⟩ := D
  have bb := F.binds b
  have kp := F.kp
  obtain ⟨oc, od, kV, doc, pm, an, cdv, ct, osl, rfl, lk, hcd⟩ := F.ex
  exact ⟨f, _, ps, fn_ofP lk hcd S len (fun A outer s H vs Q E hp hr hsp => by
    obtain ⟨t, h, q⟩ := hbody f cdv A outer s H vs Q E hp hr hsp
    exact ⟨t, h.nox, q⟩), hm, kp, bb⟩
end
section
variable {X : Cx} {Φ : Around → List Env → Shared → Hp → Prop} {CX : CXT} {k j : Nat} {x : Str} {sp : Sp} {E : L2.St → XK} {p pos : Pos} {e : Expr} {es : List Expr} {t : TA}
theorem pe_dP (c : CalP Φ X.prog X.w X.K X.mg X.base CX k x sp) (hphi : ∀ pins σ H s, Inv X pins σ H s → Φ X.A X.stack s H) (hr : Room j X.A) (hk : k ≤ j) (hx : ∀ σ, PassesAt CX X σ (E σ)) (hg : Gl X x) (ha : PA X (e :: es) t)
    (hdb : (x == ("__debug__" : Str)) = false := by decide) (he : starEach (e :: es) X.env = (false, eval e X.env) :: starEach es X.env := by rfl) (hpl : (backTo pos (starEach es X.env)).any (·.1) = false := by rfl) :
    PE X (.Call (.Name x p) (e :: es) [] pos) (tCallS sp E t) := by
  obtain ⟨f, fd, ps, F, hm, kp, b⟩ := c
  refine ⟨fun pins s σ H Q I h => ?_⟩
  refine wpAny_Call_Name_kw (ld_glob I hg hm ?_ hdb)
  refine PySem.W.callWith_K (h₀ := X.base) I.ok.mod.kin kp (thn (ha.run pos pins s σ H _ I h) fun us s1 ⟨vs, H1, I1, r, q⟩ => ⟨I1.kIn, ?_⟩) he hpl
  have hl : us.length = ps.length := by rw [← r.length]; exact F.len _ _ _ _ q
  have b2 := b s1 us I1.kIn (by rw [List.append_nil]; exact hl)
  rw [List.append_nil] at b2
  refine wpAny_call (codeAny_mono (F.run X.A X.stack s1 H1 ⟨us, []⟩ us vs Q (E σ) (hphi _ _ _ _ I1) (hr.mono hk) I1.env0 b2 r q) fun r s' hq => ?_)
  cases r with
  | error e => exact hx σ pins H1 s1 e s' I1 hq
  | ok fl =>
    cases fl with
    | ret u => exact I1.after hq
    | next => exact False.elim hq
    | brk => exact False.elim hq
    | cont => exact False.elim hq
end
def guardsNone : Around → List Env → Shared → Hp → Prop := fun A _ _ _ => A.guards = some []
theorem guards_deeper {A : Around} {env : Env} (h : A.guards = some []) : (A.deeper env).guards = some [] := h
end K8
set_option maxHeartbeats 4000000
namespace K8
open PySem PySem.Spec PyProof.Rows L2
/-! ### texts that repr makes, and how long they are -/
structure Shw (d : PyData) (k m : Nat) : Prop where
  sh : d.showable = true
  nd : d.hasDict = false
  dp : d.depth ≤ k
  ln : d.shown.length ≤ m
theorem Shw.mono {d : PyData} {k m k' m' : Nat} (h : Shw d k m) (a : k ≤ k') (b : m ≤ m') : Shw d k' m' := ⟨h.sh, h.nd, Nat.le_trans h.dp a, Nat.le_trans h.ln b⟩
theorem sn_log {n : Int} (h : Sn n) : n.natAbs.log2 < 1920 := byFin (p := fun n => n.natAbs.log2 < 1920) (by decide +kernel) h
theorem Shw.int {n : Int} (h : Sn n) : Shw (.int n) 0 5 := ⟨by simp only [PyData.showable]; exact decide_eq_true (sn_log h), by simp only [PyData.hasDict], by simp only [PyData.depth]; omega, by simp only [PyData.shown]; exact (nt_ok h).1⟩
theorem Shw.non : Shw .none 0 5 := ⟨by simp only [PyData.showable], by simp only [PyData.hasDict], by simp only [PyData.depth]; omega, by simp only [PyData.shown]; decide⟩
theorem Shw.bl (b : Bool) : Shw (.bool b) 0 5 := ⟨by simp only [PyData.showable], by simp only [PyData.hasDict], by simp only [PyData.depth]; omega, by cases b <;> simp only [PyData.shown] <;> decide⟩
theorem Shw.str {x : Str} {m : Nat} (h : (PySem.reprText x).length ≤ m) : Shw (.str x) 0 m := ⟨by simp only [PyData.showable], by simp only [PyData.hasDict], by simp only [PyData.depth]; omega, by simp only [PyData.shown]; exact h⟩
theorem all_of {k m : Nat} : ∀ {ds : List PyData}, (∀ d ∈ ds, Shw d k m) → PyData.showableAll ds = true ∧ PyData.hasDictAll ds = false ∧ PyData.depthAll ds ≤ k ∧ piled (PyData.shownAll ds) ≤ ds.length * (m + 2) ∧ (PyData.shownAll ds).length = ds.length
  | [], _ => ⟨by simp only [PyData.showableAll], by simp only [PyData.hasDictAll], by simp only [PyData.depthAll]; omega, by simp only [PyData.shownAll]; exact Nat.zero_le _, by simp only [PyData.shownAll, List.length_nil]⟩
  | d :: ds, h => by
    obtain ⟨a1, a2, a3, a4, a5⟩ := all_of fun e he => h e (List.mem_cons_of_mem _ he)
    obtain ⟨b1, b2, b3, b4⟩ := h d List.mem_cons_self
    refine ⟨by simp only [PyData.showableAll, a1, b1, Bool.and_self], by simp only [PyData.hasDictAll, a2, b2, Bool.or_self], by simp only [PyData.depthAll]; omega, ?_, by simp only [PyData.shownAll, List.length_cons, a5]⟩
    have e : piled (PyData.shownAll (d :: ds)) = d.shown.length + 2 + piled (PyData.shownAll ds) := by simp only [PyData.shownAll, piled, List.map_cons, List.sum_cons]
    rw [e, List.length_cons, Nat.succ_mul]
    omega
theorem lst_len (ts : List Str) : (listText ts).length ≤ piled ts + 2 := by
  cases ts with
  | nil => decide
  | cons t r =>
    have h := textFrom_length_pos r 1 (("[" : Str) ++ (if (0 : Nat) > 0 then ", " else "" : String) ++ t) (Nat.succ_pos 0)
    have e1 : (listText (t :: r)).length = (textFrom 0 "[" (t :: r)).length + 1 := by
      show (textFrom 0 "[" (t :: r) ++ "]").length = _
      rw [strLen_append]; rfl
    have e2 : (textFrom 0 "[" (t :: r)).length = (textFrom 1 (("[" : Str) ++ (if (0 : Nat) > 0 then ", " else "" : String) ++ t) r).length := rfl
    have e3 : (("[" : Str) ++ (if (0 : Nat) > 0 then ", " else "" : String) ++ t).length = 1 + t.length := by
      rw [strLen_append, strLen_append]; rfl
    have e4 : piled (t :: r) = t.length + 2 + piled r := by simp only [piled, List.map_cons, List.sum_cons]
    omega
theorem tup_len (ts : List Str) : (tupleText ts).length ≤ piled ts + 4 := by
  unfold tupleText
  rw [strLen_append, strLen_append]
  have e1 : ((("(" : String) : Str)).length = 1 := rfl
  have e3 : (((if ts.length == 1 then ",)" else ")" : String) : Str)).length ≤ 2 := by split <;> decide
  cases ts with
  | nil =>
    have e4 : (Str.join ", " ([] : List Str)).length = 0 := rfl
    rw [e1, e4]
    omega
  | cons t r =>
    have := join_length_add (t :: r) (by simp)
    rw [e1]
    omega
theorem Shw.lst {ds : List PyData} {k m n : Nat} (h : ∀ d ∈ ds, Shw d k m) (hn : ds.length ≤ n) : Shw (.list ds) (k + 1) (n * (m + 2) + 4) := by
  obtain ⟨a1, a2, a3, a4, a5⟩ := all_of h
  refine ⟨by simp only [PyData.showable]; exact a1, by simp only [PyData.hasDict]; exact a2, by simp only [PyData.depth]; omega, ?_⟩
  simp only [PyData.shown]
  have := lst_len (PyData.shownAll ds)
  have := Nat.mul_le_mul_right (m + 2) hn
  omega
theorem Shw.tup {ds : List PyData} {k m n : Nat} (h : ∀ d ∈ ds, Shw d k m) (hn : ds.length ≤ n) : Shw (.tuple ds) (k + 1) (n * (m + 2) + 4) := by
  obtain ⟨a1, a2, a3, a4, a5⟩ := all_of h
  refine ⟨by simp only [PyData.showable]; exact a1, by simp only [PyData.hasDict]; exact a2, by simp only [PyData.depth]; omega, ?_⟩
  simp only [PyData.shown]
  have := tup_len (PyData.shownAll ds)
  have := Nat.mul_le_mul_right (m + 2) hn
  omega
/-- texts of signs that are no greater than signs may be -/
def Cp (x : Str) : Prop := ∀ c ∈ x.cps.toList, c < 16 ^ 8
theorem Cp.app {a b : Str} (ha : Cp a) (hb : Cp b) : Cp (a ++ b) := fun c hc => by
  have e : (a ++ b).cps = a.cps ++ b.cps := rfl
  rw [e, Array.toList_append] at hc
  rcases List.mem_append.mp hc with h | h
  · exact ha c h
  · exact hb c h
instance (x : Str) : Decidable (Cp x) := by unfold Cp; infer_instance
theorem Cp.ofNt {n : Int} (h : Sn n) : Cp (nt n) := byFin (p := fun n => Cp (nt n)) (by decide +kernel) h
theorem Cp.repr {x : Str} {m : Nat} (h : Cp x) (hl : x.length ≤ m) : Shw (.str x) 0 (10 * m + 2) := .str (Nat.le_trans (StrLaws.reprText_len x h) (by omega))
theorem strF_cp {x : Ix} (hb : Sn x.leaf.sd.last) (hl : x.leaf.nums.length ≤ 200) (hp : x.past.length ≤ 200) : Cp (strF x) := by
  unfold strF
  exact .app (.app (.app (.app (.app (.app (.app (by decide) (by decide)) (.ofNt hb)) (by decide)) (.ofNt (sN hl))) (by decide)) (.ofNt (sN hp))) (by decide)
/-! ### repr of nested data -/
def rRepr (K : PySem.W.Frag) : List V → Hp → VK → Prop := fun xs H Q => ∃ (a : Addr) (d : PyData), xs = [.ref a] ∧ Dp K H (.ref a) d ∧ Shw d 8 sizeLine ∧ Q (.str d.shown) H
theorem call_repr {X : Cx} (hg : X.A.guards = some []) (hu : X.A.units + 10 < cLine) : CallR X (.builtin "repr") (rRepr X.K) := by
  intro pins s σ H xs us Q I r h
  obtain ⟨a, d, rfl, hd, hs, q⟩ := h
  obtain ⟨u, rfl, ru⟩ := r.one
  obtain ⟨as, hr⟩ := Dp.reads I d _ u hd ru
  obtain rfl : u = Value.ref a := ru
  refine repr_of_reads' hr hs.sh (fun z => by rw [hs.nd] at z; cases z) hg (by have := hs.dp; omega) (fun b o e => e) (fun h' u tk hk => ⟨.str d.shown, H, I.kept hk, ⟨u, rfl⟩, q⟩) hs.ln
end K8
set_option maxHeartbeats 4000000
namespace K8
open PySem PySem.Spec PyProof.Rows L2 HotX
/-! ### loops over lists and pairs taken apart while an exception is handled -/
section
variable {prog : Program} {w : World} {A : Around} {E : Value → Shared → Prop} {s : Shared}
theorem get_up {h : Heap} {it b : Addr} {o u : Obj} {g : Obj → Obj} (hne : it ≠ b) (e : h.get? b = some o) : ((h.update it g).push u).get? b = some o := Heap.get?_push_of_some _ ((Heap.get?_update_other _ _ hne).trans e)
theorem list_end_hot {it l x1 : Addr} {i : Nat} {items} {Q : Option Value → Shared → Prop} (hot : HotAt A x1 s.heap) (hne : it ≠ x1) (hit : s.heap.IsListIter it l i) (hl : s.heap.IsList l items) (hx : items[i]? = none)
    (hQ : ∀ h', Heap.ExtBut it s.heap h' → Q none { s with heap := h' }) : wpAny (model prog w) A (pyNext (.ref it)) Q E s := by
  obtain ⟨o, ho, hc, hd⟩ := id hit
  obtain ⟨ol, hol, _, nl, hdl⟩ := hl
  obtain ⟨hh, o1, vs1, h1, d1, c1⟩ := hot
  unfold pyNext
  refine wpAny_bind (wpAny_attempt (wpAny_callSpecial?_slot (name := Str.ofString "__next__") hit.typeIs slot_listiter_next (wpAny_call_entry slot_listiter_next hit.typeIs entry_listiter_next ?_ (args_listiter_next _))))
  refine (show wpAny _ _ (field (.ref it) 0 >>= _) _ _ s from ?_)
  refine wpAny_bind (wpAny_field ho hd (x := .ref l) rfl ?_)
  refine (show wpAny _ _ (if (Value.ref l == Value.none) = true then _ else _) _ _ s from ?_)
  rw [if_neg (show ¬ ((Value.ref l == Value.none) = true) from Bool.false_ne_true)]
  refine (show wpAny _ _ (field (.ref it) 1 >>= _) _ _ s from ?_)
  refine wpAny_bind (wpAny_field ho hd (x := .int i 0) rfl ?_)
  refine (show wpAny _ _ (seqItems? (.ref l) >>= _) _ _ s from ?_)
  refine wpAny_bind (wpAny_seqItems hol hdl ?_)
  simp only [Int.toNat_natCast, hx]
  refine wpAny_bind (wpAny_rule (wpAny_bind (wpAny_setField ho hd (by simp) ?_)))
  refine (show wpAny _ _ (newExc (.type "StopIteration") [] >>= _) _ _ _ from ?_)
  refine wpAny_bind ?_
  simp only [newExc, newTuple]
  refine wpAny_bind (wpAny_newObj_type ?_ (by size_fits))
  refine wpAny_bind (m := firstArgMember _ _) (wpAny_of_eq (a := Value.none) (by first | rfl | (simp only [firstArgMember]; rfl)) ?_)
  refine wpAny_newObj_type ?_ (by size_fits)
  refine raiseNew_hot ⟨hh, o1, vs1, Heap.get?_push_of_some _ (get_up hne h1), d1, c1⟩ (Nat.ne_of_lt (Heap.lt_size (get_up hne h1))) (Heap.get?_push_size _ rfl) rfl (by first | (simp; done) | (simp; omega) | (simp only [Array.size_append]; simp; omega)) ?_
  refine wpAny_bind (wpAny_isInstance (T := "StopIteration") (b := true) ⟨_, Heap.get?_update_self _ (Heap.get?_push_size _ rfl) rfl, rfl⟩ isSubtype_stop ?_)
  refine wpAny_pure (hQ _ fun b o hb e => ?_)
  exact (Heap.get?_update_other _ _ (Nat.ne_of_gt (Heap.lt_size (get_up (Ne.symm hb) e)))).trans (Heap.get?_push_of_some _ (get_up (Ne.symm hb) e))
theorem tuple_end_hot {it t x1 : Addr} {i : Nat} {items} {Q : Option Value → Shared → Prop} (hot : HotAt A x1 s.heap) (hne : it ≠ x1) (hit : IsTupIter s.heap it t i) (ht : IsTup s.heap t items) (hx : items[i]? = none)
    (hQ : ∀ h', Heap.ExtBut it s.heap h' → Q none { s with heap := h' }) : wpAny (model prog w) A (pyNext (.ref it)) Q E s := by
  obtain ⟨o, ho, hc, hd⟩ := id hit
  obtain ⟨ol, hol, _, nl, hdl⟩ := ht
  obtain ⟨hh, o1, vs1, h1, d1, c1⟩ := hot
  unfold pyNext
  refine wpAny_bind (wpAny_attempt (wpAny_callSpecial?_slot (name := Str.ofString "__next__") hit.typeIs slot_tupleiter_next (wpAny_call_entry slot_tupleiter_next hit.typeIs entry_tupleiter_next ?_ (args_tupleiter_next _))))
  refine (show wpAny _ _ (field (.ref it) 0 >>= _) _ _ s from ?_)
  refine wpAny_bind (wpAny_field ho hd (x := .ref t) rfl ?_)
  refine (show wpAny _ _ (if (Value.ref t == Value.none) = true then _ else _) _ _ s from ?_)
  rw [if_neg (show ¬ ((Value.ref t == Value.none) = true) from Bool.false_ne_true)]
  refine (show wpAny _ _ (field (.ref it) 1 >>= _) _ _ s from ?_)
  refine wpAny_bind (wpAny_field ho hd (x := .int i 0) rfl ?_)
  refine (show wpAny _ _ (seqItems? (.ref t) >>= _) _ _ s from ?_)
  refine wpAny_bind (wpAny_seqItems hol hdl ?_)
  simp only [Int.toNat_natCast, hx]
  refine wpAny_bind (wpAny_rule (wpAny_bind (wpAny_setField ho hd (by simp) ?_)))
  refine (show wpAny _ _ (newExc (.type "StopIteration") [] >>= _) _ _ _ from ?_)
  refine wpAny_bind ?_
  simp only [newExc, newTuple]
  refine wpAny_bind (wpAny_newObj_type ?_ (by size_fits))
  refine wpAny_bind (m := firstArgMember _ _) (wpAny_of_eq (a := Value.none) (by first | rfl | (simp only [firstArgMember]; rfl)) ?_)
  refine wpAny_newObj_type ?_ (by size_fits)
  refine raiseNew_hot ⟨hh, o1, vs1, Heap.get?_push_of_some _ (get_up hne h1), d1, c1⟩ (Nat.ne_of_lt (Heap.lt_size (get_up hne h1))) (Heap.get?_push_size _ rfl) rfl (by first | (simp; done) | (simp; omega) | (simp only [Array.size_append]; simp; omega)) ?_
  refine wpAny_bind (wpAny_isInstance (T := "StopIteration") (b := true) ⟨_, Heap.get?_update_self _ (Heap.get?_push_size _ rfl) rfl, rfl⟩ isSubtype_stop ?_)
  refine wpAny_pure (hQ _ fun b o hb e => ?_)
  exact (Heap.get?_update_other _ _ (Nat.ne_of_gt (Heap.lt_size (get_up (Ne.symm hb) e)))).trans (Heap.get?_push_of_some _ (get_up (Ne.symm hb) e))
theorem unpack_hot {t x1 : Addr} {items : Array Value} {targets : List (Bool × (Value → Sem Unit))} {Q : Unit → Shared → Prop} (hot : HotAt A x1 s.heap) (ht : IsTup s.heap t items) (hn : targets.length = items.size) (hstar : targets.findIdx? (·.1) = none)
    (h : ∀ h', Heap.ExtBut s.heap.objs.size s.heap h' → wpAny (model prog w) A (assignInOrder (targets.map (·.2)) items.toList) Q E { s with heap := h' }) : wpAny (model prog w) A (unpack (.ref t) targets) Q E s := by
  unfold unpack
  rw [hn, hstar]
  refine wpAny_bind (wpAny_holding ?_)
  have hlt : t ≠ s.heap.objs.size := by obtain ⟨o, ho, _⟩ := ht; exact Nat.ne_of_lt (Heap.lt_size ho)
  obtain ⟨hh, o1, vs1, h1, d1, c1⟩ := hot
  have hl1 : s.heap.objs.size ≠ x1 := Nat.ne_of_gt (Heap.lt_size h1)
  unfold unpackItems
  refine wpAny_bind ?_
  unfold notIterableAtAll
  refine wpAny_bind (wpAny_specialOf ht.typeIs slot_tuple_iter.lookup (wpAny_pure ?_))
  simp only [Bool.false_eq_true, if_false]
  refine wpAny_bind (wpAny_holding (iter_tuple ht ?_))
  refine wpAny_bind (wpAny_holding (draw_tuple hlt items.size 0 _ _ ⟨_, Heap.get?_push_size _ rfl, rfl, rfl⟩ (ht.push _) (by omega) fun h₁ hit₁ hs₁ => ?_))
  have hall : List.take items.size (List.drop 0 items.toList) = items.toList := by
    rw [List.drop_zero, List.take_of_length_le (by simp)]
  rw [hall, if_neg (by simp)]
  have ht₁ : IsTup h₁ t items := (ht.push _).extBut hs₁.extBut hlt
  have h1' : h₁.get? x1 = some o1 := hs₁.extBut x1 o1 (Ne.symm hl1) (Heap.get?_push_of_some _ h1)
  refine wpAny_bind (wpAny_holding (tuple_end_hot ⟨hh, o1, vs1, h1', d1, c1⟩ hl1 hit₁ ht₁ (by simp) fun h₂ he₂ => ?_))
  simp only [Option.isSome_none, Bool.false_eq_true, if_false]
  exact wpAny_pure (h h₂ fun b o hb e => he₂ b o hb (hs₁.extBut b o hb (Heap.get?_push_of_some _ e)))
end
section
variable {X : Cx}
theorem pg_tupH {es : List Expr} {k : Nat} {t : TGs} {n : Nat} {pos : Pos} (hc : L2H.HotC X) (h : PGs X es t) (hn : (assignEach es X.env).length = n := by rfl) (hst : (assignEach es X.env).findIdx? (·.1) = none := by rfl) : PG X (.Tuple es k pos) (gTup X.K n t) := by
  refine ⟨fun pins s σ H v u Q I r hw => ?_⟩
  obtain ⟨a, xs, e1, hq, hl, hw⟩ := hw
  subst e1
  cases r
  obtain ⟨its, rv, ht, hz⟩ := I.tuple hq
  obtain ⟨x1, hot⟩ := hc.at I
  rw [assign_Tuple]
  refine wpAny_bind (wpAny_standAt (unpack_hot hot ht (by simp [hn, ← hl, rv.length]) hst fun h' hx => ?_))
  have I1 : Inv X pins σ H { s with heap := h' } := I.kept (t' := s.toks) fun b o e => hx b o (Nat.ne_of_lt (Heap.lt_size e)) e
  exact h.run pins _ σ H xs _ Q I1 (by simpa using rv) hw
theorem turn_listH {P : Program} {w : World} {K : PySem.W.Frag} {tg : Expr} (a it : Addr) : L2H.TurnH P w K tg (Itl K a) [it] it (fun i h => h.IsListIter it a i) where
  mem := List.mem_singleton.mpr rfl
  obj := fun i h st b hb => by
    obtain rfl := List.mem_singleton.mp hb
    obtain ⟨o, e, c, d⟩ := st
    exact ⟨o, e, fun v z => nomatch d.symm.trans z⟩
  keep := fun i h h' st k => st.at fun o e => k it (List.mem_singleton.mpr rfl) o e
  item := by
    rintro X rfl rfl rfl hc i pins s σ H E I hf st ⟨xs, x, hq, hx⟩
    obtain ⟨its, rv, p, hz⟩ := I.list hq
    obtain ⟨u, hu, ru⟩ := rv.get hx
    obtain ⟨f0, f1, f2, f3, f4, f5⟩ := hf it (List.mem_singleton.mpr rfl)
    refine wpAny_pyNext_list_item st p.isList (x := u) (by simpa using hu) fun h' st' sb => ?_
    have I1 : Inv X pins σ H { s with heap := h' } := I.turned (t' := s.toks) (fun b o hb e => (sb.2 b hb).trans e) f0 f1 f3 f4 f5
    obtain ⟨o, e, c, d⟩ := id st'
    exact ⟨u, rfl, go_of (s := { s with heap := h' }) e c d (by decide) ⟨x, H, I1, ru, ⟨rfl, fun ys hy => (I.list_inj hy hq).symm ▸ hx⟩, st', fun b hb => (hf b hb).1⟩⟩
  done := by
    rintro X rfl rfl rfl ⟨q, ⟨hh, v1, e1, c1⟩, hm⟩ i pins s σ H E I hf st ⟨xs, hq, hx⟩
    obtain ⟨its, rv, p, hz⟩ := I.list hq
    obtain ⟨f0, f1, f2, f3, f4, f5⟩ := hf it (List.mem_singleton.mpr rfl)
    have hl := rv.length
    exact list_end_hot ⟨hh, q.2, v1, (I.pin q (List.mem_append_left _ hm)).1, e1, c1⟩ (Ne.symm (f5 q (List.mem_append_left _ hm))) st p.isList (by simp; omega) fun h' eb => ⟨rfl, I.turned (t' := s.toks) (fun b o hb e => eb b o hb e) f0 f1 f3 f4 f5⟩
  self := fun _ _ _ _ _ st h => wpAny_pyIter_listiter st h
theorem pi_listH {l tg : Expr} {tl : TE} (hl : PE X l tl) : L2H.PIH X tg l (iList X.K tl) := by
  refine ⟨fun pins s σ H R I h => thn (hl.run pins s σ H _ I h) fun v s1 ⟨x, H1, I1, r1, q1⟩ => ?_⟩
  obtain ⟨a, rfl, ⟨xs, hq⟩, q⟩ := q1
  cases r1
  obtain ⟨its, rv, p, hz⟩ := I1.list hq
  refine wpAny_pyIter_list p.isList ⟨s1.heap.objs.size, [s1.heap.objs.size], _, _, H1, rfl, I1.kept (t' := s1.toks) fun b o e => Heap.get?_push_of_some _ e, turn_listH a _, ⟨_, Heap.get?_push_size _ rfl, rfl, rfl⟩, fun b hb => ?_, q⟩
  obtain rfl := List.mem_singleton.mp hb
  exact I1.fpOk (Nat.le_refl _) (I1.hok.fresh (Nat.le_refl _))
/-- the block of a comprehension, the handled exception pinned there too -/
abbrev blkP (X : Cx) (s : Shared) (H : Hp) (scope : Scope) (cenv : Env) (fp : List Addr) : Cx := (X.blk s H scope cenv fp).tr X.pn fun _ _ => False
theorem pe_lcH {elt tg iter : Expr} {ifs : List Expr} {scope : Scope} {own : List (Str × Nat)} {pos : Pos} {wi : TI} {g : TG} {tt : TT} {te : TE} (hc : L2H.HotC X) (hN : X.N.Nodup) (hi : L2H.PIH X tg iter wi) (ok : BlkOk X.N X.env.scope scope own)
    (hg : ∀ (s : Shared) (H : Hp) (C : Addr) (cl : List (Str × Addr)) (fp : List Addr), PG (blkP X s H scope (compEnvC scope cl C X.env) fp) tg g) (ht : ∀ (s : Shared) (H : Hp) (C : Addr) (cl : List (Str × Addr)) (fp : List Addr), PTs (blkP X s H scope (compEnvC scope cl C X.env) fp) ifs tt)
    (he : ∀ (s : Shared) (H : Hp) (C : Addr) (cl : List (Str × Addr)) (fp : List Addr), PE (blkP X s H scope (compEnvC scope cl C X.env) fp) elt te) (hs : ∀ x, foldedSetIterable iter X.env x = pure x := by intro _; rfl) :
    PE X (.ListComp elt [⟨tg, iter, ifs, 0⟩] scope pos) (tLc wi g tt te (own.map (·.2))) := by
  refine ⟨fun pins s σ H Q I h => ?_⟩
  rw [eval_ListComp]
  have hfree : ∀ y ∈ scope.names, y.2 = .free → ∃ c, X.env.cells.lookup y.1 = some c := fun y hy e => (ok.free y hy e).elim (fun k => I.ok.has _ (.inl k)) fun k => I.ok.has _ (.inr k)
  refine wpAny_comprehension_free (use := none) rfl hs (closure_ok hfree) ok.kind (fun y hy e => by rw [ok.uniq y hy, e]) (thn (hi.run pins s σ H _ I h) fun xv s1 hx => thn hx fun itv s2 h2 => ?_)
  obtain ⟨it, fp, tn, J, H2, rfl, I2, T, st2, f2, q⟩ := h2
  refine wpAny_newObj_type (newEnv_comp ?_) (Nat.zero_le _)
  obtain ⟨D, hD⟩ : ∃ D, s2.heap.objs.size = D := ⟨_, rfl⟩
  have hDn : H2 D = none := I2.hok.fresh (Nat.le_of_eq hD)
  obtain ⟨W, ⟨m0, w0⟩, turn⟩ := q D hDn
  rw [hD]
  obtain ⟨s3, hs3⟩ : ∃ s3 : Shared, ({ s2 with heap := s2.heap.push { cls := .type "list", data := .seq ([] : List Value).toArray } } : Shared) = s3 := ⟨_, rfl⟩
  have h3 : s3.heap = s2.heap.push { cls := .type "list", data := .seq ([] : List Value).toArray } := by rw [← hs3]
  have I3 : Inv X pins σ (upd H2 D (.lst [])) s3 := by
    rw [← hs3]
    exact I2.laid (t' := s2.toks) (fun b o e => Heap.get?_push_of_some _ e) (Nat.le_of_eq hD) ⟨Nat.zero_le _, [], 0, .nil, by rw [← hD]; exact Heap.get?_push_size _ rfl⟩
  rw [hs3]
  have f3 : ∀ b ∈ fp, FpOk X pins (upd H2 D (.lst [])) b ∧ b < s3.heap.objs.size := fun b hb => by
    obtain ⟨o, e, _⟩ := T.obj _ _ st2 b hb
    have hlt := Heap.lt_size e
    exact ⟨⟨by rw [upd_ne (by rw [← hD]; exact Nat.ne_of_lt hlt)]; exact (f2 b hb).1, (f2 b hb).2⟩, by rw [h3, Heap.size_push]; exact Nat.lt_succ_of_lt hlt⟩
  have st3 : tn 0 s3.heap := T.keep _ _ _ st2 fun b _ o e => by rw [h3]; exact Heap.get?_push_of_some _ e
  have I4 := block_start I3 ok hN f3
  have pg := hg s3 (upd H2 D (.lst [])) s3.heap.objs.size (cellsFrom (s3.heap.objs.size + 1) scope.names (cloFrom X.env.cells scope.names [])) fp
  have pt := ht s3 (upd H2 D (.lst [])) s3.heap.objs.size (cellsFrom (s3.heap.objs.size + 1) scope.names (cloFrom X.env.cells scope.names [])) fp
  have pe := he s3 (upd H2 D (.lst [])) s3.heap.objs.size (cellsFrom (s3.heap.objs.size + 1) scope.names (cloFrom X.env.cells scope.names [])) fp
  have nfp : ∀ b ∈ fp, (upd H2 D (.lst [])) b = none := fun b hb => (f3 b hb).1.1
  obtain ⟨ce, hce⟩ : ∃ ce, compEnvC scope (cellsFrom (s3.heap.objs.size + 1) scope.names (cloFrom X.env.cells scope.names [])) s3.heap.objs.size X.env = ce := ⟨_, rfl⟩
  have cL : ce.locals = s3.heap.objs.size := by rw [← hce]; rfl
  rw [hce] at I4 pg pt pe
  refine (show codeAny _ _ (.compStart (.ListComp elt [⟨tg, iter, ifs, 0⟩] scope pos) 0 (.ref it) (.ref D) (compEnvC scope (cellsFrom (s3.heap.objs.size + 1) scope.names (cloFrom X.env.cells scope.names [])) s3.heap.objs.size X.env)) (compPost (model X.prog X.w) X.A X.xe none (EP X pins σ Q) (.ref D) s3.heap.objs.size) { s3 with heap := pushCells (s3.heap.push { cls := .type "dict", data := .dict #[] }) scope.names } from ?_)
  rw [hce]
  obtain ⟨H3, hH3⟩ : ∃ H3, upd H2 D (.lst []) = H3 := ⟨_, rfl⟩
  rw [hH3] at I3 I4 pg pt pe w0 nfp f3
  obtain ⟨s4, hs4⟩ : ∃ s4 : Shared, ({ s3 with heap := pushCells (s3.heap.push { cls := .type "dict", data := .dict #[] }) scope.names } : Shared) = s4 := ⟨_, rfl⟩
  have kp4 : ∀ b o, s3.heap.get? b = some o → s4.heap.get? b = some o := fun b o e => by rw [← hs4]; exact pushCells_keeps _ _ _ _ (Heap.get?_push_of_some _ e)
  rw [hs4] at I4
  rw [hs4]
  have st4 : tn 0 s4.heap := T.keep _ _ _ st3 fun b _ o e => kp4 b o e
  -- the exception is pinned in the block
  have I5 : Inv (blkP X s3 H3 scope ce fp) [] (wipe σ (own.map (·.2))) H3 s4 := by
    have I4p : Inv (X.blk s3 H3 scope ce fp) X.pn (wipe σ (own.map (·.2))) H3 s4 := I4.pins_of fun p hp => by
      obtain ⟨g0, g1, g2, g3, g4⟩ := I3.pin p (List.mem_append_left _ hp)
      exact ⟨kp4 _ _ g0, g1, fun z => Nat.ne_of_lt (Heap.lt_size g0) (z.trans cL), fun z => (List.mem_cons.mp (I3.stkSub p.1 z)).elim g2 g3, g4⟩
    exact I4p.toTry _
  have hcB : L2H.HotC (blkP X s3 H3 scope ce fp) := hc
  have stat : ∀ {σ' : L2.St} {H' : Hp} {s' : Shared}, Inv (blkP X s3 H3 scope ce fp) [] σ' H' s' → (∀ b ∈ fp, H' b = none) → ∀ b ∈ fp, FpOk (blkP X s3 H3 scope ce fp) [] H' b := fun {σ' H' s'} I' hn b hb =>
    ⟨hn b hb, (I'.ok.exf b hb).1, I'.ok.exfs b hb, .inl hb, fun x c e => (I'.ok.exf b hb).2 x c e, fun p hp => (f3 b hb).1.2.2.2.2.2 p (List.mem_append_left _ (by rw [List.append_nil] at hp; exact hp))⟩
  have loop : codeAny (model X.prog X.w) X.A (.compLoop (.ListComp elt [⟨tg, iter, ifs, 0⟩] scope pos) 0 (.ref it) (.ref D) ce) (compPost (model X.prog X.w) X.A X.xe none (EP X pins σ Q) (.ref D) s3.heap.objs.size) s4 := by
    refine compLoop_any (fun n s' => ∃ i H', Inv (blkP X s3 H3 scope ce fp) [] (wipe σ (own.map (·.2))) H' s' ∧ tn i s'.heap ∧ (∀ b ∈ fp, H' b = none) ∧ W i n H') ?_ m0 ⟨0, H3, I5, st4, nfp, w0⟩
    rintro n s5 ⟨i, H5, J5, st5, n5, w5⟩
    rcases turn i n H5 w5 with ⟨stop, qq⟩ | ⟨go, Nx, hNx, step⟩
    · refine thnF (T.done (blkP X s3 H3 scope ce fp) rfl rfl rfl hcB i [] s5 _ H5 (fun _ _ => False) J5 (stat J5 n5) st5 stop) fun r s6 ⟨hr, I6⟩ => ?_
      subst hr
      have I7 : Inv X pins σ H5 s6 := I3.call' (ch := fp) I6.os I6.base I6.hok I6.bare fun b hb => ⟨(f3 b hb).1.2.2.2.1, (f3 b hb).1.2.1, (f3 b hb).1.2.2.2.2.1, (f3 b hb).1.2.2.2.2.2⟩
      have nC : H5 s3.heap.objs.size = none := by rw [← cL]; exact I6.free
      obtain ⟨m, hn, _⟩ := I6.loc
      have hn : s6.heap.Ns ce.locals m := hn
      rw [cL] at hn
      obtain ⟨f0, f1, f2, f3, f4, f5⟩ := I3.fpOk (Nat.le_refl _) nC
      exact ⟨m, hn, fun h'' sb => ⟨.ref D, H5, I7.turned (t' := s6.toks) (fun b o hb e => (sb.2 b hb).trans e) f0 f1 f3 f4 f5, rfl, qq⟩⟩
    · refine thnF (T.item (blkP X s3 H3 scope ce fp) rfl rfl rfl hcB i [] s5 _ H5 (fun _ _ => False) J5 (stat J5 n5) st5 go) fun r s6 ⟨u, hr, h6⟩ => ?_
      subst hr
      refine thnF h6 fun _ s7 ⟨x, H7, I7, r7, y7, st7, n7⟩ => ?_
      refine thnF (pg.run _ s7 _ H7 x u _ (I7.pinned (stat I7 n7) (T.obj _ _ st7)) r7 (step x H7 y7)) fun _ s8 ⟨σ8, H8, I8, hw8, q8⟩ => ?_
      refine thnF (pt.run _ s8 σ8 H8 _ I8 q8) fun b s9 ⟨H9, I9, q9⟩ => ?_
      have fin : ∀ {s' : Shared} {H' : Hp}, Inv (blkP X s3 H3 scope ce fp) ([] ++ pinsAt fp s7.heap) σ8 H' s' → Nx H' → ∃ m, m < n ∧ ∃ i H', Inv (blkP X s3 H3 scope ce fp) [] (wipe σ (own.map (·.2))) H' s' ∧ tn i s'.heap ∧ (∀ b ∈ fp, H' b = none) ∧ W i m H' := fun {s' H'} I' nx => by
        obtain ⟨m', hm, w'⟩ := hNx H' nx
        have pin' : ∀ b ∈ fp, ∀ o, s7.heap.get? b = some o → s'.heap.get? b = some o ∧ H' b = none := fun b hb o e =>
          let z := I'.pin (b, o) (List.mem_append_right _ (List.mem_append_right _ (mem_pinsAt hb e)))
          ⟨z.1, z.2.1⟩
        refine ⟨m', hm, i + 1, H', (I'.unpinned (pins := [])).weak (by rw [← hw8, wipe_length]) (fun j v e => (wipe_some (hw8 ▸ e)).1), T.keep _ _ _ st7 fun b hb o e => (pin' b hb o e).1, fun b hb => ?_, w'⟩
        obtain ⟨o, e, _⟩ := T.obj _ _ st7 b hb
        exact (pin' b hb o e).2
      cases b with
      | false =>
        simp only [Bool.false_eq_true, if_false] at q9 ⊢
        exact fin I9 q9
      | true =>
        simp only [if_true] at q9 ⊢
        exact thnF (pe.run _ s9 σ8 H9 _ I9 q9) fun z s10 ⟨yv, H10, I10, r10, acc, hD10, hz10, nx⟩ => app_ok (X := blkP X s3 H3 scope ce fp) I10 hD10 hz10 r10 fun s11 I11 => fin I11 nx
  exact codeAny_compStart_list loop (T.self X.A 0 _ _ _ st4 loop)
/-- within the block -/
theorem pg_tupP {s : Shared} {H : Hp} {sc : Scope} {env : Env} {fp : List Addr} {es : List Expr} {k : Nat} {t : TGs} {n : Nat} {pos : Pos} (hc : L2H.HotC X) (h : PGs (blkP X s H sc env fp) es t) (hn : (assignEach es env).length = n := by rfl) (hst : (assignEach es env).findIdx? (·.1) = none := by rfl) : PG (blkP X s H sc env fp) (.Tuple es k pos) (gTup X.K n t) := pg_tupH hc h hn hst
end
end K8
set_option maxHeartbeats 4000000
namespace K8
open PySem PySem.Spec PyProof.Rows L2
set_option hygiene false in
local macro_rules | `(tactic| walk_at "w") => `(tactic| (repeat (first | refine ⟨_, rfl, ?_⟩ | refine ⟨_, _, rfl, rfl, ?_⟩ | refine ⟨rfl, ?_⟩ | refine ⟨_, _, rfl, ?_⟩ | refine ⟨_, _, rfl, .of upd_same, rfl, ?_⟩ | refine ⟨_, _, rfl, .of (by assumption), rfl, ?_⟩ | refine ⟨_, _, rfl, .of (by assumption), fun q hq => ?_⟩ | refine ⟨_, _, rfl, .of (by assumption), ?_⟩ | refine ⟨_, _, rfl, .inr (.of (by assumption)), ?_⟩ | refine ⟨_, _, rfl, .inl (.of (by assumption)), ?_⟩ | refine ⟨_, _, _, _, rfl, rfl, .of (by assumption), atI_nat (j := 0) rfl, ?_⟩ | refine ⟨_, _, _, _, rfl, rfl, .of (by assumption), atI_nat (j := 1) rfl, ?_⟩ | refine ⟨_, _, _, _, rfl, rfl, .of (by assumption), atI_nat (j := 2) rfl, ?_⟩ | refine ⟨fun z => absurd z.1 (show ¬ (1 : Nat) = 0 by decide), fun _ q hq => ?_⟩ | refine ⟨fun z => absurd z.1 (show ¬ (2 : Nat) = 0 by decide), fun _ q hq => ?_⟩ | refine ⟨sz1, fun q hq => ?_⟩ | refine ⟨sz2, fun q hq => ?_⟩ | refine ⟨sz3, fun q hq => ?_⟩ | refine ⟨sz0, fun q hq => ?_⟩ | refine ⟨_, _, _, rfl, rfl, (by assumption), (by assumption), ?_⟩ | refine ⟨.inl ⟨rfl, _, .of (by assumption)⟩, ?_⟩ | refine ⟨_, _, rfl, .inl ⟨.of (by assumption), fun q hq => ?_⟩⟩ | refine ⟨⟨_, .of (by assumption)⟩, ?_⟩ | refine ⟨⟨_, rfl⟩, ?_⟩ | refine ⟨.inl ⟨rfl, _, .of upd_same⟩, ?_⟩ | refine ⟨_, _, _, _, _, rfl, (by assumption), (by assumption), (by assumption), (by rfl), ?_⟩ | refine ⟨_, _, _, _, rfl, upd_same, (by assumption), (by assumption), (by first | exact ixFs_len | exact (show (0 : Nat) < 1000 by decide) | exact (show (1 : Nat) < 1000 by decide) | exact (show (2 : Nat) < 1000 by decide) | exact (show (3 : Nat) < 1000 by decide) | exact (show (4 : Nat) < 1000 by decide) | exact (show (5 : Nat) < 1000 by decide) | exact (show (6 : Nat) < 1000 by decide)), ?_⟩ | refine ⟨_, _, _, _, rfl, (by assumption), (by assumption), (by assumption), (by first | exact ixFs_len | exact (show (0 : Nat) < 1000 by decide) | exact (show (1 : Nat) < 1000 by decide) | exact (show (2 : Nat) < 1000 by decide) | exact (show (3 : Nat) < 1000 by decide) | exact (show (4 : Nat) < 1000 by decide) | exact (show (5 : Nat) < 1000 by decide) | exact (show (6 : Nat) < 1000 by decide)), ?_⟩ | refine ⟨_, _, _, rfl, (by assumption), (by first | rfl | exact ixFs_no (by decide +kernel)), ?_⟩ | refine ⟨_, _, _, rfl, (by assumption), ?_⟩ | refine iteT ?_ | refine iteF ?_)))
section
variable {P : Program} {w : World} {K : PySem.W.Frag} {mg : Str → Option Value} {base : Heap}
theorem pe_nv {X : Cx} {e : Expr} : PE X e (fun _ _ _ => False) := ⟨fun _ _ _ _ _ _ h => h.elim⟩
/-! ### shown -/
structure LgG (K : PySem.W.Frag) (mg : Str → Option Value) : Prop where
  nm : mg "LoggedInbox" = some (.ref (He.ga K "LoggedInbox"))
  ty : ∀ (kd : Kd) (H : Hp) (a dx : Addr) (fs : List (Str × V)), H a = some (.ins (kd.C K) dx fs) → TyX K H (.ref a) (.ref (kd.C K))
  is : ∀ kd : Kd, PySem.W.kitOne K (.ref (kd.C K)) (.ref (He.ga K "LoggedInbox")) = some kd.logs
/-- what is shown of the log and of the numbers kept -/
structure Rk (x : Ix) : Prop where
  kp : ∀ k, x.leaf.sd.kept = some k → Sn k
  kps : ∀ l ∈ x.past, ∀ k, l.sd.kept = some k → Sn k
  rw : ∀ d ∈ x.rows, (∃ n t, Sn n ∧ d = hearD n t) ∨ (∃ k, k ≤ 200 ∧ d = undoD k)
def shownD (kd : Kd) (x : Ix) : PyData := .list ([x.leaf.sd.d, .tuple (x.leaf.nums.map .int), .int x.past.length, .int x.leaf.sd.last, .str (strF x), .int x.leaf.nums.length] ++ (if kd.logs then [.tuple x.rows] else []))
theorem shown_ok (kd : Kd) {x : Ix} (b : Bs x) (r : Rk x) (hs : x.leaf.sd.st ≤ 200) : Shw (shownD kd x) 8 sizeLine := by
  have h1 : Shw x.leaf.sd.d 1 (3 * (5 + 2) + 4) := .tup (fun d hd => by
    rcases List.mem_cons.mp hd with rfl | hd
    · exact .int (sN hs)
    · rcases List.mem_cons.mp hd with rfl | hd
      · exact .int b.num.1
      · rcases List.mem_cons.mp hd with rfl | hd
        · cases hk : x.leaf.sd.kept with
          | none => exact .non
          | some k => exact .int (r.kp k hk)
        · cases hd) (Nat.le_refl 3)
  have h2 : Shw (.tuple (x.leaf.nums.map .int)) 1 (100 * (5 + 2) + 4) := .tup (fun d hd => by
    obtain ⟨n, hn, rfl⟩ := List.mem_map.mp hd
    exact .int (b.num.2 n hn)) (by rw [List.length_map]; exact b.len.1)
  have h3 : Shw (.tuple x.rows) 2 (100 * (3 * (12 + 2) + 4 + 2) + 4) := .tup (k := 1) (m := 3 * (12 + 2) + 4) (fun d hd => by
    rcases r.rw d hd with ⟨n, t, hn, rfl⟩ | ⟨k, hk, rfl⟩
    · refine .tup (k := 0) (m := 12) (fun e he => ?_) (Nat.le_refl 3)
      rcases List.mem_cons.mp he with rfl | he
      · exact .str (by decide +kernel)
      · rcases List.mem_cons.mp he with rfl | he
        · exact (Shw.int hn).mono (Nat.le_refl _) (by decide)
        · rcases List.mem_cons.mp he with rfl | he
          · exact (Shw.bl t).mono (Nat.le_refl _) (by decide)
          · cases he
    · refine .tup (k := 0) (m := 12) (fun e he => ?_) (show 2 ≤ 3 by decide)
      rcases List.mem_cons.mp he with rfl | he
      · exact .str (by decide +kernel)
      · rcases List.mem_cons.mp he with rfl | he
        · exact (Shw.int (sN hk)).mono (Nat.le_refl _) (by decide)
        · cases he) b.rows
  have hl : x.leaf.nums.length ≤ 200 := Nat.le_trans b.len.1 (by decide)
  have hp : x.past.length ≤ 200 := Nat.le_trans b.past (by decide)
  have h4 : Shw (.str (strF x)) 0 (10 * 100 + 2) := Cp.repr (strF_cp b.num.1 hl hp) (strF_len b.num.1 hl hp)
  have h : Shw (shownD kd x) 3 (7 * (10000 + 2) + 4) := .lst (k := 2) (m := 10000) (fun d hd => by
    rcases List.mem_append.mp hd with hd | hd
    · rcases List.mem_cons.mp hd with rfl | hd
      · exact h1.mono (by decide) (by decide)
      · rcases List.mem_cons.mp hd with rfl | hd
        · exact h2.mono (by decide) (by decide)
        · rcases List.mem_cons.mp hd with rfl | hd
          · exact (Shw.int (sN hp)).mono (by decide) (by decide)
          · rcases List.mem_cons.mp hd with rfl | hd
            · exact (Shw.int b.num.1).mono (by decide) (by decide)
            · rcases List.mem_cons.mp hd with rfl | hd
              · exact h4.mono (by decide) (by decide)
              · rcases List.mem_cons.mp hd with rfl | hd
                · exact (Shw.int (sN hl)).mono (by decide) (by decide)
                · cases hd
    · split at hd
      · rcases List.mem_cons.mp hd with rfl | hd
        · exact h3.mono (by decide) (by decide)
        · cases hd
      · cases hd) (by
    show ([_, _, _, _, _, _] ++ _ : List PyData).length ≤ 7
    split <;> simp)
  exact h.mono (by decide) (by decide)
def sp_shown (K : PySem.W.Frag) (kd : Kd) : Sp := fun vs H Q _ => ∃ (a : Addr) (x : Ix), vs = [.ref a] ∧ IxR K kd H a x ∧ Bs x ∧ Rk x ∧ ∀ H', Same H H' → Q (.str (shownD kd x).shown) H'
theorem ok_shown1 (kd : Kd) (hlg : kd.logs = true) (D : Df K mg "_law_shown" s_l_shown) (G : Gx K mg) (Gk : Gk K mg) (LG : LgG K mg) (p_stand : Prp P w K mg base 1 (kd.C K) "stand" (sp_stand K kd)) (p_taken : Prp P w K mg base 1 (kd.C K) "taken" (sp_taken K kd))
    (p_version : Prp P w K mg base 1 (kd.C K) "version" (sp_version K kd)) (p_last : Prp P w K mg base 1 (kd.C K) "last" (sp_last K kd)) (p_log : Prp P w K mg base 1 (kd.C K) "log" (sp_log K kd)) (m_str : Met P w K mg base CX0 1 (kd.C K) "__str__" (sp_str K kd)) (m_len : Met P w K mg base CX0 1 (kd.C K) "__len__" (sp_len K kd)) :
    CalP guardsNone P w K mg base CX0 4 "_law_shown" (sp_shown K kd) := by
  refine calP0 D sc_l_shown (fun _ _ _ _ _ _ us hl => match us, hl with | [_], _ => rfl) (fun vs H Q E h => ?_) (fun f cdv A outer s H vs Q E hg hr h => ?_)
  · obtain ⟨_, _, rfl, _⟩ := h
    rfl
  · obtain ⟨a, x, rfl, ix, bd, rk, k⟩ := h
    have hu : (A.deeper (envOfC "_law_shown" (defScope s_l_shown) s.heap.objs.size f cdv)).units + 10 < cLine := by have := hr.un; omega
    refine ⟨_, pss_cons (ps_set (i := 1) sc_l_shown.nd rfl (Or.inl rfl) (pe_lst (pa_cons (pe_p p_stand hr (by decide) (pv 0)) (pa_cons (pe_p p_taken hr (by decide) (pv 0)) (pa_cons (pe_p p_version hr (by decide) (pv 0)) (pa_cons (pe_p p_last hr (by decide) (pv 0)) (pa_cons (pe_callTy (call_str_own m_str hr (by decide)) (by rfl) G.str (by decide +kernel) (pa_cons (pv 0) pa_nil)) (pa_cons (pe_callB (call_len_own m_len hr (by decide)) (by rfl) G.len (by decide +kernel) (pa_cons (pv 0) pa_nil)) pa_nil))))))))
      (pss_one (ps_ret (pe_callB (call_repr hg hu) (by rfl) G.repr (by decide +kernel) (pa_cons (pe_op op_cat (pv 1) (pe_ifExp (pt_val (pe_callB call_isi (by rfl) G.isinstance (by decide +kernel) (pa_cons (pv 0) (pa_cons (pe_glob (v := .ref _) (by rfl) LG.nm rfl) pa_nil)))) (pe_lst (pa_cons (pe_p p_log hr (by decide) (pv 0)) pa_nil)) (pe_lst pa_nil))) pa_nil)))), ?_⟩
    obtain ⟨dx, r, l, p, w, ps, ha, hru, hlf, hp, hps, hw⟩ := ix.ex
    have hsz := shown_ok kd bd rk (Nat.le_trans (Nat.le_of_lt ix.st) (Nat.le_trans hru.ok.le (by decide)))
    walk_at "w"
    refine ⟨a, x, rfl, ix, fun v1 tv1 => ?_⟩
    walk_at "w"
    refine ⟨a, x, rfl, ix, fun v2 tv2 => ?_⟩
    walk_at "w"
    refine ⟨a, x, rfl, ix, ?_⟩
    walk_at "w"
    refine ⟨a, x, rfl, ix, ?_⟩
    walk_at "w"
    have hl : x.leaf.nums.length ≤ 200 := Nat.le_trans bd.len.1 (by decide)
    have hpp : x.past.length ≤ 200 := Nat.le_trans bd.past (by decide)
    refine ⟨a, x, rfl, ix, bd.num.1, hl, hpp, _, rfl, ?_⟩
    walk_at "w"
    refine ⟨a, x, rfl, ix, _, rfl, by omega, ?_⟩
    refine ⟨(show 6 ≤ sizeLine by decide), fun q2 hq2 => ?_⟩
    have s1 : Same H (L2.upd H q2 (.lst [v1, v2, .int x.past.length, .int x.leaf.sd.last, .str (strF x), .int x.leaf.nums.length])) := .new hq2
    have e1 : L2.upd H q2 (.lst [v1, v2, .int x.past.length, .int x.leaf.sd.last, .str (strF x), .int x.leaf.nums.length]) q2 = some (.lst [v1, v2, .int x.past.length, .int x.leaf.sd.last, .str (strF x), .int x.leaf.nums.length]) := upd_same
    generalize L2.upd H q2 (.lst [v1, v2, .int x.past.length, .int x.leaf.sd.last, .str (strF x), .int x.leaf.nums.length]) = H1 at *
    have ha1 := s1 _ _ ha
    have d1 := (tv1.same s1)
    have d2 := (tv2.same s1)
    walk_at "w"
    refine ⟨_, _, _, _, _, rfl, .own _, LG.ty kd _ a dx _ ha1, LG.is kd, ?_⟩
    unfold shownD at k hsz
    rw [hlg] at k hsz ⊢
    walk_at "w"
    refine ⟨a, x, rfl, ix.same s1, fun v3 tv3 => ?_⟩
    walk_at "w"
    have s2 : Same H1 (L2.upd H1 q (.lst [v3])) := .new hq
    refine ⟨q2, q, _, _, rfl, rfl, s2 _ _ e1, upd_same, (show 7 ≤ sizeLine by decide), fun p hp => ?_⟩
    have s4 : Same (L2.upd H1 q (.lst [v3])) (L2.upd (L2.upd H1 q (.lst [v3])) p (.lst ([v1, v2, .int x.past.length, .int x.leaf.sd.last, .str (strF x), .int x.leaf.nums.length] ++ [v3]))) := .new hp
    have s5 := s2.trans s4
    have e5 : L2.upd (L2.upd H1 q (.lst [v3])) p (.lst ([v1, v2, .int x.past.length, .int x.leaf.sd.last, .str (strF x), .int x.leaf.nums.length] ++ [v3])) p = some (.lst ([v1, v2, .int x.past.length, .int x.leaf.sd.last, .str (strF x), .int x.leaf.nums.length] ++ [v3])) := upd_same
    generalize L2.upd (L2.upd H1 q (.lst [v3])) p (.lst ([v1, v2, .int x.past.length, .int x.leaf.sd.last, .str (strF x), .int x.leaf.nums.length] ++ [v3])) = H5 at *
    have d1 := (d1.same s5).dp (K := K)
    have d2 := (d2.same s5).dp (K := K)
    have d3 := (tv3.same s5).dp (K := K)
    walk_at "w"
    refine ⟨p, _, rfl, .lst (.of e5) (.cons d1 (.cons d2 (.cons (.int _) (.cons (.int _) (.cons (.str _) (.cons (.int _) (.cons d3 .nil))))))), hsz, ?_⟩
    exact k _ (s1.trans s5)
theorem ok_shown0 (kd : Kd) (hlg : kd.logs = false) (D : Df K mg "_law_shown" s_l_shown) (G : Gx K mg) (Gk : Gk K mg) (LG : LgG K mg) (p_stand : Prp P w K mg base 1 (kd.C K) "stand" (sp_stand K kd)) (p_taken : Prp P w K mg base 1 (kd.C K) "taken" (sp_taken K kd))
    (p_version : Prp P w K mg base 1 (kd.C K) "version" (sp_version K kd)) (p_last : Prp P w K mg base 1 (kd.C K) "last" (sp_last K kd)) (m_str : Met P w K mg base CX0 1 (kd.C K) "__str__" (sp_str K kd)) (m_len : Met P w K mg base CX0 1 (kd.C K) "__len__" (sp_len K kd)) :
    CalP guardsNone P w K mg base CX0 4 "_law_shown" (sp_shown K kd) := by
  refine calP0 D sc_l_shown (fun _ _ _ _ _ _ us hl => match us, hl with | [_], _ => rfl) (fun vs H Q E h => ?_) (fun f cdv A outer s H vs Q E hg hr h => ?_)
  · obtain ⟨_, _, rfl, _⟩ := h
    rfl
  · obtain ⟨a, x, rfl, ix, bd, rk, k⟩ := h
    have hu : (A.deeper (envOfC "_law_shown" (defScope s_l_shown) s.heap.objs.size f cdv)).units + 10 < cLine := by have := hr.un; omega
    refine ⟨_, pss_cons (ps_set (i := 1) sc_l_shown.nd rfl (Or.inl rfl) (pe_lst (pa_cons (pe_p p_stand hr (by decide) (pv 0)) (pa_cons (pe_p p_taken hr (by decide) (pv 0)) (pa_cons (pe_p p_version hr (by decide) (pv 0)) (pa_cons (pe_p p_last hr (by decide) (pv 0)) (pa_cons (pe_callTy (call_str_own m_str hr (by decide)) (by rfl) G.str (by decide +kernel) (pa_cons (pv 0) pa_nil)) (pa_cons (pe_callB (call_len_own m_len hr (by decide)) (by rfl) G.len (by decide +kernel) (pa_cons (pv 0) pa_nil)) pa_nil))))))))
      (pss_one (ps_ret (pe_callB (call_repr hg hu) (by rfl) G.repr (by decide +kernel) (pa_cons (pe_op op_cat (pv 1) (pe_ifExp (pt_val (pe_callB call_isi (by rfl) G.isinstance (by decide +kernel) (pa_cons (pv 0) (pa_cons (pe_glob (v := .ref _) (by rfl) LG.nm rfl) pa_nil)))) pe_nv (pe_lst pa_nil))) pa_nil)))), ?_⟩
    obtain ⟨dx, r, l, p, w, ps, ha, hru, hlf, hp, hps, hw⟩ := ix.ex
    have hsz := shown_ok kd bd rk (Nat.le_trans (Nat.le_of_lt ix.st) (Nat.le_trans hru.ok.le (by decide)))
    walk_at "w"
    refine ⟨a, x, rfl, ix, fun v1 tv1 => ?_⟩
    walk_at "w"
    refine ⟨a, x, rfl, ix, fun v2 tv2 => ?_⟩
    walk_at "w"
    refine ⟨a, x, rfl, ix, ?_⟩
    walk_at "w"
    refine ⟨a, x, rfl, ix, ?_⟩
    walk_at "w"
    have hl : x.leaf.nums.length ≤ 200 := Nat.le_trans bd.len.1 (by decide)
    have hpp : x.past.length ≤ 200 := Nat.le_trans bd.past (by decide)
    refine ⟨a, x, rfl, ix, bd.num.1, hl, hpp, _, rfl, ?_⟩
    walk_at "w"
    refine ⟨a, x, rfl, ix, _, rfl, by omega, ?_⟩
    refine ⟨(show 6 ≤ sizeLine by decide), fun q2 hq2 => ?_⟩
    have s1 : Same H (L2.upd H q2 (.lst [v1, v2, .int x.past.length, .int x.leaf.sd.last, .str (strF x), .int x.leaf.nums.length])) := .new hq2
    have e1 : L2.upd H q2 (.lst [v1, v2, .int x.past.length, .int x.leaf.sd.last, .str (strF x), .int x.leaf.nums.length]) q2 = some (.lst [v1, v2, .int x.past.length, .int x.leaf.sd.last, .str (strF x), .int x.leaf.nums.length]) := upd_same
    generalize L2.upd H q2 (.lst [v1, v2, .int x.past.length, .int x.leaf.sd.last, .str (strF x), .int x.leaf.nums.length]) = H1 at *
    have ha1 := s1 _ _ ha
    have d1 := (tv1.same s1)
    have d2 := (tv2.same s1)
    walk_at "w"
    refine ⟨_, _, _, _, _, rfl, .own _, LG.ty kd _ a dx _ ha1, LG.is kd, ?_⟩
    unfold shownD at k hsz
    rw [hlg] at k hsz ⊢
    walk_at "w"
    have s2 : Same H1 (L2.upd H1 q (.lst [])) := .new hq
    refine ⟨q2, q, _, _, rfl, rfl, s2 _ _ e1, upd_same, (show 6 ≤ sizeLine by decide), fun p hp => ?_⟩
    have s4 : Same (L2.upd H1 q (.lst [])) (L2.upd (L2.upd H1 q (.lst [])) p (.lst ([v1, v2, .int x.past.length, .int x.leaf.sd.last, .str (strF x), .int x.leaf.nums.length] ++ []))) := .new hp
    have s5 := s2.trans s4
    have e5 : L2.upd (L2.upd H1 q (.lst [])) p (.lst ([v1, v2, .int x.past.length, .int x.leaf.sd.last, .str (strF x), .int x.leaf.nums.length] ++ [])) p = some (.lst ([v1, v2, .int x.past.length, .int x.leaf.sd.last, .str (strF x), .int x.leaf.nums.length] ++ [])) := upd_same
    generalize L2.upd (L2.upd H1 q (.lst [])) p (.lst ([v1, v2, .int x.past.length, .int x.leaf.sd.last, .str (strF x), .int x.leaf.nums.length] ++ [])) = H5 at *
    have d1 := (d1.same s5).dp (K := K)
    have d2 := (d2.same s5).dp (K := K)
    walk_at "w"
    refine ⟨p, _, rfl, .lst (.of e5) (.cons d1 (.cons d2 (.cons (.int _) (.cons (.int _) (.cons (.str _) (.cons (.int _) .nil)))))), hsz, ?_⟩
    exact k _ (s1.trans s5)
end
end K8
set_option maxHeartbeats 4000000
namespace K8
open PySem PySem.Spec PyProof.Rows L2
set_option hygiene false in
local macro_rules | `(tactic| walk_at "w") => `(tactic| (repeat (first | refine ⟨_, rfl, ?_⟩ | refine ⟨_, _, rfl, rfl, ?_⟩ | refine ⟨rfl, ?_⟩ | refine ⟨_, _, rfl, ?_⟩ | refine ⟨_, _, rfl, .of upd_same, rfl, ?_⟩ | refine ⟨_, _, rfl, .of (by assumption), rfl, ?_⟩ | refine ⟨_, _, rfl, .of (by assumption), fun q hq => ?_⟩ | refine ⟨_, _, rfl, .of (by assumption), ?_⟩ | refine ⟨_, _, rfl, .inr (.of (by assumption)), ?_⟩ | refine ⟨_, _, rfl, .inl (.of (by assumption)), ?_⟩ | refine ⟨_, _, _, _, rfl, rfl, .of (by assumption), atI_nat (j := 0) rfl, ?_⟩ | refine ⟨_, _, _, _, rfl, rfl, .of (by assumption), atI_nat (j := 1) rfl, ?_⟩ | refine ⟨_, _, _, _, rfl, rfl, .of (by assumption), atI_nat (j := 2) rfl, ?_⟩ | refine ⟨fun z => absurd z.1 (show ¬ (1 : Nat) = 0 by decide), fun _ q hq => ?_⟩ | refine ⟨fun z => absurd z.1 (show ¬ (2 : Nat) = 0 by decide), fun _ q hq => ?_⟩ | refine ⟨sz1, fun q hq => ?_⟩ | refine ⟨sz2, fun q hq => ?_⟩ | refine ⟨sz3, fun q hq => ?_⟩ | refine ⟨sz0, fun q hq => ?_⟩ | refine ⟨_, _, _, rfl, rfl, (by assumption), (by assumption), ?_⟩ | refine ⟨.inl ⟨rfl, _, .of (by assumption)⟩, ?_⟩ | refine ⟨_, _, rfl, .inl ⟨.of (by assumption), fun q hq => ?_⟩⟩ | refine ⟨⟨_, .of (by assumption)⟩, ?_⟩ | refine ⟨⟨_, rfl⟩, ?_⟩ | refine ⟨.inl ⟨rfl, _, .of upd_same⟩, ?_⟩ | refine ⟨_, _, _, _, _, rfl, (by assumption), (by assumption), (by assumption), (by rfl), ?_⟩ | refine ⟨_, _, _, _, rfl, upd_same, (by assumption), (by assumption), (by first | exact ixFs_len | exact (show (0 : Nat) < 1000 by decide) | exact (show (1 : Nat) < 1000 by decide) | exact (show (2 : Nat) < 1000 by decide) | exact (show (3 : Nat) < 1000 by decide) | exact (show (4 : Nat) < 1000 by decide) | exact (show (5 : Nat) < 1000 by decide) | exact (show (6 : Nat) < 1000 by decide)), ?_⟩ | refine ⟨_, _, _, _, rfl, (by assumption), (by assumption), (by assumption), (by first | exact ixFs_len | exact (show (0 : Nat) < 1000 by decide) | exact (show (1 : Nat) < 1000 by decide) | exact (show (2 : Nat) < 1000 by decide) | exact (show (3 : Nat) < 1000 by decide) | exact (show (4 : Nat) < 1000 by decide) | exact (show (5 : Nat) < 1000 by decide) | exact (show (6 : Nat) < 1000 by decide)), ?_⟩ | refine ⟨_, _, _, rfl, (by assumption), (by first | rfl | exact ixFs_no (by decide +kernel)), ?_⟩ | refine ⟨_, _, _, rfl, (by assumption), ?_⟩ | refine iteT ?_ | refine iteF ?_)))
/-! ### error_name, within an except suite -/
def kNames : List Str := ["BadCount", "BadNumber", "BadText", "Busy", "Halted", "NothingToUndo", "TooManyDeeds"]
structure ErG (K : PySem.W.Frag) (mg : Str → Option Value) : Prop where
  nm : ∀ x ∈ kNames, mg x = some (.ref (He.ga K x))
  ex : ∀ e : Ec, ExcC K (He.ga K e.nm)
  ki : ∀ (e : Ec), ∀ x ∈ kNames, PySem.W.kitOne K (e.val K) (.ref (He.ga K x)) = some (x == e.nm)
theorem call_isEm {X : Cx} {a D : Addr} {oe : Obj} (C : ExcC X.K D) (hz : Zc (.ref D) none oe) (hf : ∃ vs, oe.data = .fields vs) (hm : (a, oe) ∈ X.pn) : CallR X (.builtin "isinstance") (rIsE X.K D a) := by
  rintro pins s σ H xs us Q I r ⟨c, cv, b, rfl, hcv, e, q⟩
  cases r with
  | cons rx rr =>
    cases rr with
    | cons rt rr =>
      cases rr
      cases rx
      obtain rfl := hcv _ rt
      obtain ⟨hget, _⟩ := I.pin (a, oe) (List.mem_append_left _ hm)
      obtain ⟨vs, hv⟩ := hf
      have J : PySem.W.InstAt s.heap a oe D none := by
        obtain ⟨oc, od, oda, osl⟩ := oe
        obtain ⟨h1, h2⟩ := hz
        dsimp only at h1 h2 hv
        subst h1 h2 hv
        exact ⟨hget, rfl, rfl, trivial⟩
      exact PySem.W.kia_one (PySem.W.handS_kitx_exc C.hg C.hk C.hs C.hd C.ha C.hn C.ht C.hm) I.kIn J e (fun z => nomatch z) fun tk => ⟨.bl b, H, I.kept (t' := tk) fun _ _ z => z, rfl, q⟩
section
variable {P : Program} {w : World} {K : PySem.W.Frag} {mg : Str → Option Value} {base : Heap}
theorem fn_ofE {k : Nat} {f : Addr} {name qual : Str} {params : Arguments} {body : List Stmt} {scope : Scope} {dV kV doc pm cdv ct oc : Value} {an od : Option Addr} {osl : Array (Option Value)} {N : List Str}
    (lk : K.lookup f = some ⟨oc, od, .func (PySem.W.fnOf name qual params body scope dV kV doc pm an cdv ct), osl⟩) (hcd : PySem.W.codeIn K cdv qual = true) (S : FnScope N ["error"] scope)
    (hbody : ∀ (A : Around) (outer : List Env) (s : Shared) (H : Hp) (Q : VK) (p : Addr × Obj) (e : Ec), L2H.Hot1 A p → L2H.RoomH k (A.deeper (envOfC qual scope s.heap.objs.size f cdv)) → Zc (e.val K) none p.2 → (∀ H', Same H H' → Q (.str e.nm) H') →
      ∃ t, PSs (L2H.cxH CX0 P w K mg base N qual scope f cdv A outer s H E0 p) body t ∧ t { nx := fun _ H' => Q .non H', rt := Q } (L2.start N [.ref p.1]) H) :
    FnE P w K mg base (k + 1) f (PySem.W.fnOf name qual params body scope dV kV doc pm an cdv ct) := by
  refine ⟨fun A outer s H args Q p e hr hot hpin hz e0 hb hq => ?_⟩
  have KX : K.In s.heap := e0.mod.kin.keeps fun b o e => (e0.bs b o e).1
  have lim : s.heap.NoLimit := e0.mod.nolimit.keeps fun b o e => (e0.bs b o e).1
  have r : Vals [V.ref p.1] [Value.ref p.1] := .cons rfl .nil
  have hkind : ∀ y ∈ (["error"] : List Str).zip [Value.ref p.1], scope.names.lookup y.1 = some .local ∨ (scope.names.lookup y.1 = some .cell ∧ ((cellsFrom (s.heap.objs.size + 1) scope.names []).lookup y.1).isSome = true) := fun ⟨n, v⟩ hy =>
    (S.par n (List.of_mem_zip hy).1).imp id fun q => ⟨q, PySem.W.cellsFrom_some _ _ _ (.inl q)⟩
  refine codeAny_call_function hr.depth (KX _ _ lk) rfl S.co S.gen rfl (PySem.W.codeRec_of KX hcd) (hb _ _ _ _ (wpAny_newFunctionEnv_cells S.kind hkind fun env he s1 x => ?_))
  subst he
  refine ⟨lim.keeps x.toInCall.keep, codeAny_func ?_⟩
  obtain ⟨t, ht, hq⟩ := hbody A outer s H Q p e hot (hr.deeper _) hz hq
  have I : Inv (L2H.cxH CX0 P w K mg base N qual scope f cdv A outer s H E0 p) [] (L2.start N [.ref p.1]) H s1 := L2H.inv_startH S hpin e0 rfl r x
  refine wpAny_mono (ht.run [] s1 _ H _ I hq) (fun fl s' hs => ?_) fun e s' hs => hs
  have fin : ∀ {σ' : L2.St} {H' : Hp} {v : V} {u : Value}, Inv (L2H.cxH CX0 P w K mg base N qual scope f cdv A outer s H E0 p) [] σ' H' s' → RelV v u → Q v H' → CE outer P w H s Q u s' := fun {σ' H' v u} J rv q => ⟨v, H', J.os, J.bare, J.base, J.hok, rv, q⟩
  cases fl with
  | ret u =>
    obtain ⟨v, σ', H', J, rv, q⟩ := hs
    exact fin J rv q
  | next =>
    obtain ⟨σ', H', J, q⟩ := hs
    exact fin (v := V.non) (u := Value.none) J rfl q
  | brk =>
    obtain ⟨_, _, _, q⟩ := hs
    exact False.elim q
  | cont =>
    obtain ⟨_, _, _, q⟩ := hs
    exact False.elim q
/-- what the list of kinds holds -/
structure KdAt (H : Hp) (e : Ec) (ps : List Addr) : Prop where
  len : ps.length = 7
  at_ : ∀ (i : Nat) (p : Addr) (n : Str), ps[i]? = some p → kNames[i]? = some n → H p = some (.tup [.str n, .bl (n == e.nm)])
theorem kd_end (e : Ec) : (kNames.filter (· == e.nm)).map V.str = [V.str e.nm] := by cases e <;> decide +kernel
theorem kd_snoc {e : Ec} {i : Nat} {n : Str} (h : kNames[i]? = some n) : ((kNames.take (i + 1)).filter (· == e.nm)).map V.str = ((kNames.take i).filter (· == e.nm)).map V.str ++ (if (n == e.nm) = true then [V.str n] else []) := by
  rw [take_snoc h, List.filter_append, List.map_append]
  congr 1
  rw [List.filter_cons]
  split <;> rfl
theorem ok_error_name (D : Df K mg "error_name" s_error_name) (G : Gx K mg) (EG : ErG K mg) : CalE P w K mg base 3 := by
  obtain ⟨f, fd, F, hm⟩ := D
  have bb := F.binds (ps := ["error"]) (fun _ _ _ _ _ _ us hl => match us, hl with | [_], _ => rfl)
  have kp := F.kp
  obtain ⟨oc, od, kV, doc, pm, an, cdv, ct, osl, rfl, lk, hcd⟩ := F.ex
  refine ⟨f, _, fn_ofE lk hcd sc_error_name fun A outer s H Q p e hot hr hz k => ?_, hm, kp, bb⟩
  have hf : ∃ vs, p.2.data = .fields vs := let ⟨_, vs, h, _⟩ := hot; ⟨vs, h⟩
  have isE := call_isEm (X := L2H.cxH CX0 P w K mg base ["error", "kinds", "name", "is_kind"] "error_name" (defScope s_error_name) f cdv A outer s H E0 p) (a := p.1) (oe := p.2) (EG.ex e) hz hf (List.mem_singleton.mpr rfl)
  have hc : L2H.HotC (L2H.cxH CX0 P w K mg base ["error", "kinds", "name", "is_kind"] "error_name" (defScope s_error_name) f cdv A outer s H E0 p) := ⟨p, hot, List.mem_singleton.mpr rfl⟩
  have nm := EG.nm
  simp only [kNames, List.mem_cons, List.not_mem_nil, or_false, forall_eq_or_imp, forall_eq] at nm
  obtain ⟨n1, n2, n3, n4, n5, n6, n7⟩ := nm
  refine ⟨_, pss_cons (ps_set (i := 1) sc_error_name.nd rfl (Or.inl rfl) (pe_lst (pa_cons (pe_tup (pa_cons pe_str (pa_cons (pe_callB isE (by rfl) G.isinstance (by decide +kernel) (pa_cons (pv 0) (pa_cons (pe_glob (v := .ref _) (by rfl) n1 rfl) pa_nil))) pa_nil))) (pa_cons (pe_tup (pa_cons pe_str (pa_cons (pe_callB isE (by rfl) G.isinstance (by decide +kernel) (pa_cons (pv 0) (pa_cons (pe_glob (v := .ref _) (by rfl) n2 rfl) pa_nil))) pa_nil))) (pa_cons (pe_tup (pa_cons pe_str (pa_cons (pe_callB isE (by rfl) G.isinstance (by decide +kernel) (pa_cons (pv 0) (pa_cons (pe_glob (v := .ref _) (by rfl) n3 rfl) pa_nil))) pa_nil))) (pa_cons (pe_tup (pa_cons pe_str (pa_cons (pe_callB isE (by rfl) G.isinstance (by decide +kernel) (pa_cons (pv 0) (pa_cons (pe_glob (v := .ref _) (by rfl) n4 rfl) pa_nil))) pa_nil))) (pa_cons (pe_tup (pa_cons pe_str (pa_cons (pe_callB isE (by rfl) G.isinstance (by decide +kernel) (pa_cons (pv 0) (pa_cons (pe_glob (v := .ref _) (by rfl) n5 rfl) pa_nil))) pa_nil))) (pa_cons (pe_tup (pa_cons pe_str (pa_cons (pe_callB isE (by rfl) G.isinstance (by decide +kernel) (pa_cons (pv 0) (pa_cons (pe_glob (v := .ref _) (by rfl) n6 rfl) pa_nil))) pa_nil))) (pa_cons (pe_tup (pa_cons pe_str (pa_cons (pe_callB isE (by rfl) G.isinstance (by decide +kernel) (pa_cons (pv 0) (pa_cons (pe_glob (v := .ref _) (by rfl) n7 rfl) pa_nil))) pa_nil))) pa_nil)))))))))
    (pss_one (ps_ret (pe_ix ix_list (by exact pe_lcH (own := [("name", 2), ("is_kind", 3)]) hc sc_error_name.nd (pi_listH (pv 1)) (blkOk_by (N := ["error", "kinds", "name", "is_kind"]) (sc := defScope s_error_name) (by decide +kernel)) (fun _ _ _ _ _ => pg_tupP (n := 2) hc (pgs_cons (pg_name (i := 2) sc_error_name.nd rfl (Or.inl rfl) (Or.inr rfl)) (pgs_cons (pg_name (i := 3) sc_error_name.nd rfl (Or.inl rfl) (Or.inr rfl)) pgs_nil))) (fun _ _ _ _ _ => pts_one (pt_val (pv 3))) (fun _ _ _ _ _ => (pv 2))) pe_int (fun _ _ => rfl)))), ?_⟩
  have s0 : Same H H := .refl _
  walk_at "w"
  refine ⟨_, _, _, rfl, fun u r => r, EG.ki e _ (by simp [kNames]), ?_⟩
  refine ⟨sz2, fun p1 g1 => ?_⟩
  have e1 : L2.upd H p1 (.tup [.str "BadCount", .bl (("BadCount" : Str) == e.nm)]) p1 = some (.tup [.str "BadCount", .bl (("BadCount" : Str) == e.nm)]) := upd_same
  have s1 : Same H (L2.upd H p1 (.tup [.str "BadCount", .bl (("BadCount" : Str) == e.nm)])) := .new g1
  generalize L2.upd H p1 (.tup [.str "BadCount", .bl (("BadCount" : Str) == e.nm)]) = H1 at *
  walk_at "w"
  refine ⟨_, _, _, rfl, fun u r => r, EG.ki e _ (by simp [kNames]), ?_⟩
  refine ⟨sz2, fun p2 g2 => ?_⟩
  have e2 : L2.upd H1 p2 (.tup [.str "BadNumber", .bl (("BadNumber" : Str) == e.nm)]) p2 = some (.tup [.str "BadNumber", .bl (("BadNumber" : Str) == e.nm)]) := upd_same
  have s2 : Same H1 (L2.upd H1 p2 (.tup [.str "BadNumber", .bl (("BadNumber" : Str) == e.nm)])) := .new g2
  generalize L2.upd H1 p2 (.tup [.str "BadNumber", .bl (("BadNumber" : Str) == e.nm)]) = H2 at *
  walk_at "w"
  refine ⟨_, _, _, rfl, fun u r => r, EG.ki e _ (by simp [kNames]), ?_⟩
  refine ⟨sz2, fun p3 g3 => ?_⟩
  have e3 : L2.upd H2 p3 (.tup [.str "BadText", .bl (("BadText" : Str) == e.nm)]) p3 = some (.tup [.str "BadText", .bl (("BadText" : Str) == e.nm)]) := upd_same
  have s3 : Same H2 (L2.upd H2 p3 (.tup [.str "BadText", .bl (("BadText" : Str) == e.nm)])) := .new g3
  generalize L2.upd H2 p3 (.tup [.str "BadText", .bl (("BadText" : Str) == e.nm)]) = H3 at *
  walk_at "w"
  refine ⟨_, _, _, rfl, fun u r => r, EG.ki e _ (by simp [kNames]), ?_⟩
  refine ⟨sz2, fun p4 g4 => ?_⟩
  have e4 : L2.upd H3 p4 (.tup [.str "Busy", .bl (("Busy" : Str) == e.nm)]) p4 = some (.tup [.str "Busy", .bl (("Busy" : Str) == e.nm)]) := upd_same
  have s4 : Same H3 (L2.upd H3 p4 (.tup [.str "Busy", .bl (("Busy" : Str) == e.nm)])) := .new g4
  generalize L2.upd H3 p4 (.tup [.str "Busy", .bl (("Busy" : Str) == e.nm)]) = H4 at *
  walk_at "w"
  refine ⟨_, _, _, rfl, fun u r => r, EG.ki e _ (by simp [kNames]), ?_⟩
  refine ⟨sz2, fun p5 g5 => ?_⟩
  have e5 : L2.upd H4 p5 (.tup [.str "Halted", .bl (("Halted" : Str) == e.nm)]) p5 = some (.tup [.str "Halted", .bl (("Halted" : Str) == e.nm)]) := upd_same
  have s5 : Same H4 (L2.upd H4 p5 (.tup [.str "Halted", .bl (("Halted" : Str) == e.nm)])) := .new g5
  generalize L2.upd H4 p5 (.tup [.str "Halted", .bl (("Halted" : Str) == e.nm)]) = H5 at *
  walk_at "w"
  refine ⟨_, _, _, rfl, fun u r => r, EG.ki e _ (by simp [kNames]), ?_⟩
  refine ⟨sz2, fun p6 g6 => ?_⟩
  have e6 : L2.upd H5 p6 (.tup [.str "NothingToUndo", .bl (("NothingToUndo" : Str) == e.nm)]) p6 = some (.tup [.str "NothingToUndo", .bl (("NothingToUndo" : Str) == e.nm)]) := upd_same
  have s6 : Same H5 (L2.upd H5 p6 (.tup [.str "NothingToUndo", .bl (("NothingToUndo" : Str) == e.nm)])) := .new g6
  generalize L2.upd H5 p6 (.tup [.str "NothingToUndo", .bl (("NothingToUndo" : Str) == e.nm)]) = H6 at *
  walk_at "w"
  refine ⟨_, _, _, rfl, fun u r => r, EG.ki e _ (by simp [kNames]), ?_⟩
  refine ⟨sz2, fun p7 g7 => ?_⟩
  have e7 : L2.upd H6 p7 (.tup [.str "TooManyDeeds", .bl (("TooManyDeeds" : Str) == e.nm)]) p7 = some (.tup [.str "TooManyDeeds", .bl (("TooManyDeeds" : Str) == e.nm)]) := upd_same
  have s7 : Same H6 (L2.upd H6 p7 (.tup [.str "TooManyDeeds", .bl (("TooManyDeeds" : Str) == e.nm)])) := .new g7
  generalize L2.upd H6 p7 (.tup [.str "TooManyDeeds", .bl (("TooManyDeeds" : Str) == e.nm)]) = H7 at *
  refine ⟨(show 7 ≤ sizeLine by decide), fun L gL => ?_⟩
  have sL : Same H7 (L2.upd H7 L (.lst [.ref p1, .ref p2, .ref p3, .ref p4, .ref p5, .ref p6, .ref p7])) := .new gL
  have eL : L2.upd H7 L (.lst [.ref p1, .ref p2, .ref p3, .ref p4, .ref p5, .ref p6, .ref p7]) L = some (.lst [.ref p1, .ref p2, .ref p3, .ref p4, .ref p5, .ref p6, .ref p7]) := upd_same
  generalize L2.upd H7 L (.lst [.ref p1, .ref p2, .ref p3, .ref p4, .ref p5, .ref p6, .ref p7]) = H8 at *
  have t7 := sL
  have t6 := s7.trans t7
  have t5 := s6.trans t6
  have t4 := s5.trans t5
  have t3 := s4.trans t4
  have t2 := s3.trans t3
  have t1 := s2.trans t2
  have kd : KdAt H8 e [p1, p2, p3, p4, p5, p6, p7] := ⟨rfl, fun i p n a b => by
    match i, a, b with
    | 0, a, b => cases a; cases b; exact t1 _ _ e1
    | 1, a, b => cases a; cases b; exact t2 _ _ e2
    | 2, a, b => cases a; cases b; exact t3 _ _ e3
    | 3, a, b => cases a; cases b; exact t4 _ _ e4
    | 4, a, b => cases a; cases b; exact t5 _ _ e5
    | 5, a, b => cases a; cases b; exact t6 _ _ e6
    | 6, a, b => cases a; cases b; exact t7 _ _ e7⟩
  have s8 : Same H H8 := s1.trans t1
  have eL : H8 L = some (.lst (([p1, p2, p3, p4, p5, p6, p7] : List Addr).map V.ref)) := eL
  generalize ([p1, p2, p3, p4, p5, p6, p7] : List Addr) = ps at *
  clear e1 e2 e3 e4 e5 e6 e7 s1 s2 s3 s4 s5 s6 s7 t1 t2 t3 t4 t5 t6 t7 sL gL g1 g2 g3 g4 g5 g6 g7
  walk_at "w"
  intro D gD
  have hpl := kd.len
  refine lc_list (xs := ps.map V.ref) (fun i H' => KdAt H' e ps ∧ H' L = some (.lst (ps.map V.ref)) ∧ H' D = some (.lst (((kNames.take i).filter (· == e.nm)).map V.str)) ∧ Same H8 H') ?_ ?_ ?_ ?_
  · have sd : Same H8 (L2.upd H8 D (.lst [])) := .new gD
    exact ⟨⟨kd.len, fun i p n a b => sd _ _ (kd.at_ i p n a b)⟩, sd _ _ eL, upd_same, sd⟩
  · rintro i H' hi ⟨_, h, _⟩
    exact .of h
  · rintro i x H' hx ⟨k1, k2, k3, k4⟩
    rw [List.getElem?_map] at hx
    obtain ⟨q, hq, rfl⟩ := Option.map_eq_some_iff.mp hx
    have hi : i < kNames.length := by have := (List.getElem?_eq_some_iff.mp hq).1; rw [hpl] at this; exact this
    obtain ⟨n, hn⟩ : ∃ n, kNames[i]? = some n := ⟨_, List.getElem?_eq_getElem hi⟩
    have hqt := k1.at_ i q n hq hn
    have sn := kd_snoc (e := e) hn
    refine ⟨q, [.str n, .bl (n == e.nm)], rfl, .of hqt, rfl, ?_⟩
    have ow : ∀ o, KdAt (L2.upd H' D o) e ps ∧ (L2.upd H' D o) L = some (.lst (ps.map V.ref)) ∧ Same H8 (L2.upd H' D o) := fun o => by
      have z := k4.own (o := o) gD
      exact ⟨⟨kd.len, fun i p n a b => z _ _ (kd.at_ i p n a b)⟩, z _ _ eL, z⟩
    cases hb : n == e.nm with
    | true =>
      rw [hb, if_pos rfl] at sn
      rw [sn]
      walk_at "w"
      exact ⟨_, k3, Nat.lt_of_le_of_lt (by rw [List.length_map]; exact Nat.le_trans (List.length_filter_le _ _) (by rw [List.length_take]; exact Nat.min_le_right _ _)) (show kNames.length < sizeLine by decide), (ow _).1, (ow _).2.1, upd_same, (ow _).2.2⟩
    | false =>
      rw [hb, if_neg (by simp), List.append_nil] at sn
      rw [sn]
      walk_at "w"
      exact ⟨k1, k2, k3, k4⟩
  · rintro H' ⟨k1, k2, k3, k4⟩
    rw [List.length_map, hpl, show kNames.take 7 = kNames from rfl, kd_end e] at k3
    walk_at "w"
    exact k _ (s8.trans k4)
end
end K8
set_option maxHeartbeats 4000000
namespace K8
open PySem PySem.Spec PyProof.Rows L2 NdefX LamX
/-! ### methods with a premise on the surroundings -/
section
variable (Φ : Around → List Env → Shared → Hp → Prop) (P : Program) (w : World) (K : PySem.W.Frag) (mg : Str → Option Value) (base : Heap)
def MetP (CX : CXT) (k : Nat) (C : Addr) (m : Str) (sp : Sp) : Prop := ∃ f fd ps, FnP Φ P w K mg base CX k f fd ps sp ∧ Cls K C ∧ Meth K C m f ∧ Binds K fd ps []
def MetFK {ι : Type} (Ψ : ι → Around → List Env → Shared → Hp → Prop) (CX : CXT) (k : Nat) (C : Addr) (m : Str) (n : Nat) (ks : List Str) (sp : ι → Sp) : Prop := ∃ f fd ps, (∀ i, FnP (Ψ i) P w K mg base CX k f fd ps (sp i)) ∧ Cls K C ∧ Meth K C m f ∧ KBn K fd ps n ks (fun us ws => us ++ ws) fun vs zs => vs ++ zs
end
section
variable {Φ : Around → List Env → Shared → Hp → Prop} {P : Program} {w : World} {K : PySem.W.Frag} {mg : Str → Option Value} {base : Heap}
theorem metPN {C : Addr} {m qual : Str} {st : Stmt} {N ps : List Str} {k : Nat} {sp : Sp} (D : Md K C m qual st) (S : FnScope N ps (defScope st)) (b : BindA m qual st ps) (len : ∀ vs H Q E, sp vs H Q E → vs.length = ps.length)
    (hbody : ∀ (f : Addr) (cdv : Value) (A : Around) (outer : List Env) (s : Shared) (H : Hp) (vs : List V) (Q : VK) (E : XK), Φ A outer s H → Room k (A.deeper (envOfC qual (defScope st) s.heap.objs.size f cdv)) → sp vs H Q E →
      ∃ t, PSs (cxOf (L2N.CX P w) P w K mg base N qual (defScope st) f cdv A outer s H E) (defBody st) t ∧ t { nx := fun _ H' => Q .non H', rt := Q } (start N vs) H) : MetP Φ P w K mg base (L2N.CX P w) (k + 1) C m sp := by
  obtain ⟨f, fd, F, c, hm⟩ := D
  have bb := F.binds b
  obtain ⟨oc, od, kV, doc, pm, an, cdv, ct, osl, rfl, lk, hcd⟩ := F.ex
  exact ⟨f, _, ps, fn_ofP lk hcd S len fun A outer s H vs Q E hp hr hsp => hbody f cdv A outer s H vs Q E hp hr hsp, c, hm, bb⟩
theorem fnPX {f : Addr} {fd : FuncData} {m qual : Str} {st : Stmt} {N ps : List Str} {k : Nat} {sp : Sp} (F : Fun K m qual st f fd) (S : FnScope N ps (defScope st)) (len : ∀ vs H Q E, sp vs H Q E → vs.length = ps.length)
    (hbody : ∀ (cdv : Value) (A : Around) (outer : List Env) (s : Shared) (H : Hp) (vs : List V) (Q : VK) (E : XK), Φ A outer s H → Room k (A.deeper (envOfC qual (defScope st) s.heap.objs.size f cdv)) → sp vs H Q E →
      ∃ t, PSs (cxOf (L2.CX P w) P w K mg base N qual (defScope st) f cdv A outer s H E) (defBody st) t ∧ t { nx := fun _ H' => Q .non H', rt := Q } (start N vs) H) : FnP Φ P w K mg base (L2.CX P w) (k + 1) f fd ps sp := by
  obtain ⟨oc, od, kV, doc, pm, an, cdv, ct, osl, rfl, lk, hcd⟩ := F.ex
  exact fn_ofP lk hcd S len fun A outer s H vs Q E hp hr hsp => hbody cdv A outer s H vs Q E hp hr hsp
theorem kbnK {f : Addr} {fd : FuncData} {m qual : Str} {st : Stmt} {ps : List Str} {n : Nat} {ks : List Str} (F : Fun K m qual st f fd) (b : BindK m qual st ps n ks) : KBn K fd ps n ks (fun us ws => us ++ ws) fun vs zs => vs ++ zs := by
  obtain ⟨oc, od, kV, doc, pm, an, cdv, ct, osl, rfl, lk, hcd⟩ := F.ex
  exact ⟨fun s us ws X l1 l2 => .of_eq (b kV doc pm an cdv ct us ws l1 l2), fun r1 r2 => r1.append r2⟩
theorem MetP.toX {k : Nat} {C : Addr} {m : Str} {sp : Sp} (h : MetP Φ P w K mg base (L2N.CX P w) k C m sp) : MetP Φ P w K mg base (L2.CX P w) k C m sp := by
  obtain ⟨f, fd, ps, F, c, hm, b⟩ := h
  refine ⟨f, fd, ps, ⟨F.len, fun A outer s H args us vs Q E hp hr e0 hb r hsp => codeAny_mono (F.run A outer s H args us vs Q E hp hr e0 hb r hsp) fun r s' hq => ?_⟩, c, hm, b⟩
  cases r with
  | error e => exact cxN_X hq
  | ok fl => cases fl <;> exact hq
end
/-- the premise at the call -/
abbrev Prem (Φ : Around → List Env → Shared → Hp → Prop) (X : Cx) (σ : L2.St) (H : Hp) : Prop := ∀ pins s, Inv X pins σ H s → Φ X.A X.stack s H
section
variable {X : Cx} {Φ : Around → List Env → Shared → Hp → Prop} {CX : CXT} {k j : Nat} {C : Addr} {m : Str} {sp : Sp} {E : L2.St → XK} {pos apos : Pos} {e o : Expr} {es : List Expr} {ta : TE} {t tk : TA}
theorem run_P {pins : List (Addr × Obj)} {σ : L2.St} {H : Hp} {s : Shared} {Q : VK} {f : Addr} {fd : FuncData} {ps : List Str} {us : List Value} {vs : List V} (F : FnP Φ X.prog X.w X.K X.mg X.base CX k f fd ps sp) (hr : Room k X.A) (hb : Binds X.K fd ps []) (hx : PassesAt CX X σ (E σ)) (hp : Prem Φ X σ H)
    (I : Inv X pins σ H s) (r : Vals vs us) (h : sp vs H Q (E σ)) : wpAny (model X.prog X.w) X.A (call (.ref f) us) (EP X pins σ Q) X.xe s := by
  have hl : us.length = ps.length := by rw [← r.length]; exact F.len _ _ _ _ h
  have b := hb s us I.kIn (by rw [List.append_nil]; exact hl)
  rw [List.append_nil] at b
  refine wpAny_call (codeAny_mono (F.run X.A X.stack s H ⟨us, []⟩ us vs Q (E σ) (hp _ _ I) hr I.env0 b r h) fun r s' hq => ?_)
  cases r with
  | error e => exact hx pins H s e s' I hq
  | ok fl =>
    cases fl with
    | ret u => exact I.after hq
    | next => exact False.elim hq
    | brk => exact False.elim hq
    | cont => exact False.elim hq
/-- o.m(e, ..) where g is true of the names -/
def tMP (g : L2.St → Prop) (C : Addr) (m : Str) (sp : Sp) (E : L2.St → XK) (ta : TE) (t : TA) : TE := fun σ H Q => ta σ H fun x H1 => ∃ a dx fs, x = .ref a ∧ H1 a = some (.ins C dx fs) ∧ fs.lookup m = none ∧ t σ H1 fun vs H2 => g σ ∧ sp (x :: vs) H2 Q (E σ)
def tMFK {ι : Type} (g : ι → L2.St → Prop) (C : Addr) (m : Str) (n : Nat) (ks : List Str) (sp : ι → Sp) (E : L2.St → XK) (ta : TE) (t tk : TA) : TE := fun σ H Q => ta σ H fun x H1 => ∃ a dx fs, x = .ref a ∧ H1 a = some (.ins C dx fs) ∧ fs.lookup m = none ∧ t σ H1 fun vs H2 => tk σ H2 fun zs H3 => vs.length = n ∧ zs.length = ks.length ∧ ∃ i, g i σ ∧ sp i (x :: vs ++ zs) H3 Q (E σ)
theorem pe_mPX {pl : Sem Bool} {g : L2.St → Prop} (hp0 : ∀ σ H, g σ → Prem Φ X σ H) (c : MetP Φ X.prog X.w X.K X.mg X.base CX k C m sp) (hr : Room j X.A) (hk : k ≤ j) (hx : ∀ σ, PassesAt CX X σ (E σ)) (ho : PE X o ta) (ha : PA X (e :: es) t)
    (hst : starEach (e :: es) X.env = (false, eval e X.env) :: starEach es X.env := by rfl) (hpl : (backTo pos (starEach es X.env)).any (·.1) = false := by rfl)
    (ht : eval (.Call (.Attribute o m apos) (e :: es) [] pos) X.env = (do
      let ov ← eval o X.env
      standAt apos.atName
      let (f, first) ← holding [ov] (getMethod ov m pl)
      callWith pos f first (backTo pos (starEach (e :: es) X.env)) (backToKw pos (keywordEach [] X.env))) := by rfl) :
    PE X (.Call (.Attribute o m apos) (e :: es) [] pos) (tMP g C m sp E ta t) := by
  obtain ⟨f, fd, ps, F, cl, hm, b⟩ := c
  refine ⟨fun pins s σ H Q I h => ?_⟩
  refine PySem.W.methodCall_KW (pl := pl) (thn (ho.run pins s σ H _ I h) fun u s1 ⟨x, H1, I1, rx, a, dx, fs, ex, ea, l, q⟩ => ?_) ht
  subst ex
  obtain rfl : u = Value.ref a := rx
  refine getmeth_ok I1 ea cl hm l ?_
  exact PySem.W.callWith_K (first := [.ref a]) (h₀ := X.base) I.ok.mod.kin hm.kp (thn (ha.run pos pins s1 σ H1 _ I1 q) fun us s2 ⟨vs, H2, I2, r, hp, q2⟩ => ⟨I2.kIn, run_P (us := .ref a :: us) (vs := .ref a :: vs) F (hr.mono hk) b (hx σ) (hp0 _ _ hp) I2 (.cons rfl r) q2⟩) hst hpl
/-- o.m(e, .., k=..) -/
theorem pe_mFK {ι : Type} {Ψ : ι → Around → List Env → Shared → Hp → Prop} {sp : ι → Sp} {pl : Sem Bool} {g : ι → L2.St → Prop} (hp0 : ∀ i σ H, g i σ → Prem (Ψ i) X σ H) {n : Nat} {ks : List Str} {kws : List Keyword} (c : MetFK X.prog X.w X.K X.mg X.base Ψ CX k C m (n + 1) ks sp) (hr : Room j X.A) (hk : k ≤ j) (hx : ∀ σ, PassesAt CX X σ (E σ)) (ho : PE X o ta) (ha : PA X (e :: es) t) (hkw : PK X kws tk)
    (hall : (backToKw pos (keywordEach kws X.env)).all (·.1.isSome) = true := by rfl) (hks : (backToKw pos (keywordEach kws X.env)).filterMap (·.1) = ks := by rfl)
    (he : starEach (e :: es) X.env = (false, eval e X.env) :: starEach es X.env := by rfl)
    (hpl : ((backTo pos (starEach (e :: es) X.env)).any (·.1) || (backToKw pos (keywordEach kws X.env)).any (·.1.isNone)) = false := by rfl)
    (ht : eval (.Call (.Attribute o m apos) (e :: es) kws pos) X.env = (do
      let ov ← eval o X.env
      standAt apos.atName
      let (f, first) ← holding [ov] (getMethod ov m pl)
      callWith pos f first (backTo pos (starEach (e :: es) X.env)) (backToKw pos (keywordEach kws X.env))) := by rfl) :
    PE X (.Call (.Attribute o m apos) (e :: es) kws pos) (tMFK g C m n ks sp E ta t tk) := by
  obtain ⟨f, fd, ps, F, cl, hm, b⟩ := c
  refine ⟨fun pins s σ H Q I h => ?_⟩
  refine PySem.W.methodCall_KW (pl := pl) (thn (ho.run pins s σ H _ I h) fun u s1 ⟨x, H1, I1, rx, a, dx, fs, ex, ea, l, q⟩ => ?_) ht
  subst ex
  obtain rfl : u = Value.ref a := rx
  refine getmeth_ok I1 ea cl hm l ?_
  refine PySem.W.callWith_KW (first := [.ref a]) (h₀ := X.base) I.ok.mod.kin hm.kp hall (thn (ha.run pos pins s1 σ H1 _ I1 q) fun us s2 ⟨vs, H2, I2, r, q2⟩ => ?_) hpl he
  refine thn (hkw.run pos pins s2 σ H2 _ I2 q2) fun ws s3 ⟨zs, H3, I3, rz, l1, l2, ι0, hp, q3⟩ => ⟨I3.kIn, ?_⟩
  rw [hks]
  have r0 : Vals (V.ref a :: vs) (Value.ref a :: us) := .cons rfl r
  have hl1 : (Value.ref a :: us).length = n + 1 := by rw [List.length_cons, ← r.length, l1]
  have hl2 : ws.length = ks.length := by rw [← rz.length]; exact l2
  refine wpAny_call (codeAny_mono ((F ι0).run X.A X.stack s3 H3 ⟨.ref a :: us, ks.zip ws⟩ _ _ Q (E σ) (hp0 ι0 _ _ hp _ _ I3) (hr.mono hk) I3.env0 (b.to s3 (.ref a :: us) ws I3.kIn hl1 hl2) (b.rel r0 rz) q3) fun r s' hq => ?_)
  cases r with
  | error e => exact hx σ pins H3 s3 e s' I3 hq
  | ok fl =>
    cases fl with
    | ret u => exact I3.after hq
    | next => exact False.elim hq
    | brk => exact False.elim hq
    | cont => exact False.elim hq
end
/-! ### a function that is handed in, and called -/
/-- the captured cells of the function F hold ws -/
def capP (cl : List (Str × Addr)) (fr : List Str) (ws : List (Option V)) : Around → List Env → Shared → Hp → Prop := fun _ _ s H => CellsAt cl fr ws s.heap H
section
variable {X : Cx} {cl : List (Str × Addr)} {fr : List Str} {ws : List (Option V)}
theorem cells_later {pins : List (Addr × Obj)} {σ : L2.St} {H : Hp} {s : Shared} (C : CellsAt cl fr ws X.s_0.heap X.H_0) (hx : X.ex = []) (I : Inv X pins σ H s) : CellsAt cl fr ws s.heap H := by
  have nx : ∀ b : Addr, b ∉ X.ex := fun b => by rw [hx]; simp
  have kp : ∀ y c, cl.lookup y = some c → ∀ v, X.s_0.heap.IsCell c v → s.heap.IsCell c v := fun y c e v ⟨o, ho, hd⟩ => by
    obtain ⟨sl, q⟩ := I.base.any ho (C.all y c e).1 (nx c)
    exact ⟨_, q, hd⟩
  refine ⟨C.len, fun y c e => ?_, C.inj, fun i y e => ?_⟩
  · obtain ⟨n, v, z⟩ := C.all y c e
    refine ⟨?_, v, kp y c e v z⟩
    obtain ⟨o, ho, _⟩ := z
    exact I.base.free c o ho n (nx c)
  · obtain ⟨c, hc, hv⟩ := C.has i y e
    exact ⟨c, hc, fun v ev => (hv v ev).imp fun u ⟨r, z⟩ => ⟨r, kp y c hc _ z⟩⟩
theorem prem_later {σ : L2.St} {H : Hp} (C : CellsAt cl fr ws X.s_0.heap X.H_0) (hx : X.ex = []) : Prem (capP cl fr ws) X σ H := fun _ _ I => cells_later C hx I
theorem pe_cb {F : NF} {f : Addr} {ps : List Str} {sp : List (Option V) → Sp} {i j k : Nat} {x : Str} {p pos : Pos} {e : Expr} {es : List Expr} {t : TA} (Fn : NOk X.prog X.w X.K X.mg X.base CX0 k f F ps fr sp) (C : CellsAt F.cl fr ws X.s_0.heap X.H_0) (hxe : X.ex = []) (hr : Room j X.A) (hk : k ≤ j)
    (hN : X.N[i]? = some x) (hv : Vis X.env.scope x) (ha : PA X (e :: es) t) (hd : (x == ("__debug__" : Str)) = false := by decide) (hcd : (x == ("__classdict__" : Str)) = false := by decide)
    (he : starEach (e :: es) X.env = (false, eval e X.env) :: starEach es X.env := by rfl) (hpl : (backTo pos (starEach es X.env)).any (·.1) = false := by rfl) :
    PE X (.Call (.Name x p) (e :: es) [] pos) (fun σ H Q => σ[i]? = some (some (.ref f)) ∧ H f = some (FnO f F) ∧ t σ H fun vs H1 => H1 f = some (FnO f F) ∧ H1 F.c = some (CodeO F.c F.qual) ∧ sp ws vs H1 Q E0) := by
  refine ⟨fun pins s σ H Q I ⟨hs, hf, ht⟩ => ?_⟩
  refine wpAny_Call_Name_kw (thn ((pe_var (pos := p) hN hv hd hcd).run pins s σ H (fun v H1 => v = .ref f ∧ H1 = H) I ⟨.ref f, hs, rfl, rfl⟩) fun u s1 ⟨v, H1, I1, r1, ev, eH⟩ => ?_)
  subst ev
  rw [eH] at I1
  obtain rfl : u = Value.ref f := r1
  refine PySem.W.callWith_F (first := []) (fnAt_of I1 hf) (thn (ha.run pos pins s1 σ H _ I1 ht) fun us s2 ⟨vs, H2, I2, r, h1, h2, q⟩ => ⟨fnAt_of I2 h1, ?_⟩) he hpl
  refine (show wpAny _ _ (call (.ref f) us) _ _ _ from ?_)
  refine wpAny_call (codeAny_mono (Fn.run X.A X.stack s2 H2 us vs ws Q E0 (hr.mono hk) I2.env0 h1 h2 (cells_later C hxe I2) r q) fun r s' hq => ?_)
  cases r with
  | error e => exact False.elim hq
  | ok fl =>
    cases fl with
    | ret u => exact I2.after hq
    | next => exact False.elim hq
    | brk => exact False.elim hq
    | cont => exact False.elim hq
end
end K8
set_option maxHeartbeats 4000000
namespace K8
open PySem PySem.Spec PyProof.Rows L2 NdefX LamX
/-! ### bounds through deeds -/
theorem hearF_cases (R : Rec) (s : Sd) (n : Int) : ((hearF R s n).1 = true ∧ (hearF R s n).2.last = n ∧ (hearF R s n).2.kept = none) ∨ ((hearF R s n).1 = false ∧ (hearF R s n).2.last = s.last ∧ ∀ k, (hearF R s n).2.kept = some k → k = n ∨ s.kept = some k) := by
  have hk : ∀ k, (s.rest.gap.map fun g => s.last + g) = some k → s.kept = some k := fun k h => by
    unfold Sd.rest at h
    cases e : s.kept with
    | none => rw [e] at h; cases h
    | some j =>
      rw [e] at h
      have h : s.last + (j - s.last) = k := Option.some.inj h
      rw [← h]
      congr 1
      omega
  unfold hearF stepF
  split
  · rename_i rs h
    exact .inl ⟨rfl, rfl, rfl⟩
  · rename_i rs h
    refine .inr ⟨rfl, rfl, fun k e => ?_⟩
    split at h
    · cases h
      exact .inr (hk k e)
    · split at h
      · cases h
      · cases h
        have e : s.last + (n - s.last) = k := Option.some.inj e
        left
        omega
      · cases h
        exact .inr (hk k e)
      · cases h
        cases e
theorem hear1_bd {m : Nat} {lo hi : Int} {x : Ix} {n : Int} (b : Bd m lo hi x) (h : lo ≤ n ∧ n ≤ hi) : Bd (m + 1) lo hi (hear1 x n).2 := by
  have hl := b.len
  refine ⟨?_, Nat.le_succ_of_le b.rows, ?_, ?_, ?_, ?_⟩
  · show (x.past ++ [x.leaf]).length ≤ m + 1
    rw [List.length_append]
    exact Nat.succ_le_succ b.past
  · unfold hear1
    simp only
    split
    · show (x.leaf.nums ++ [n]).length ≤ m + 1 ∧ 0 ≤ m + 1
      rw [List.length_append]
      exact ⟨Nat.succ_le_succ hl.1, Nat.zero_le _⟩
    · exact ⟨Nat.le_succ_of_le hl.1, Nat.succ_le_succ hl.2⟩
  · intro l hm
    rcases List.mem_append.mp (show l ∈ x.past ++ [x.leaf] from hm) with q | q
    · exact ⟨Nat.le_succ_of_le (b.lens l q).1, Nat.le_succ_of_le (b.lens l q).2⟩
    · rw [List.mem_singleton.mp q]
      exact ⟨Nat.le_succ_of_le hl.1, Nat.le_succ_of_le hl.2⟩
  · unfold hear1
    simp only
    rcases hearF_cases x.R x.leaf.sd n with ⟨e1, e2, _⟩ | ⟨e1, e2, _⟩
    · rw [if_pos e1]
      refine ⟨by show lo ≤ (hearF x.R x.leaf.sd n).2.last ∧ _; rw [e2]; exact h, fun k hk => ?_⟩
      rcases List.mem_append.mp (show k ∈ x.leaf.nums ++ [n] from hk) with q | q
      · exact b.num.2 k q
      · rw [List.mem_singleton.mp q]; exact h
    · rw [if_neg (by rw [e1]; simp)]
      exact ⟨by show lo ≤ (hearF x.R x.leaf.sd n).2.last ∧ _; rw [e2]; exact b.num.1, b.num.2⟩
  · intro l hm
    rcases List.mem_append.mp (show l ∈ x.past ++ [x.leaf] from hm) with q | q
    · exact b.nums l q
    · rw [List.mem_singleton.mp q]; exact b.num
theorem note_bd {m : Nat} {lo hi : Int} {x : Ix} {kd : Kd} {d : PyData} (b : Bd m lo hi x) (hr : x.rows.length + 1 ≤ m) : Bd m lo hi (noteF kd x d) := by
  unfold noteF
  split
  · exact ⟨b.past, by rw [List.length_append]; exact hr, b.len, b.lens, b.num, b.nums⟩
  · exact b
theorem callF_bd {m : Nat} {lo hi : Int} {x : Ix} {n : Int} {kd : Kd} (b : Bd m lo hi x) (h : lo ≤ n ∧ n ≤ hi) : Bd (m + 1) lo hi (callF kd x n).2 := note_bd (hear1_bd b h) (Nat.succ_le_succ b.rows)
theorem undoF_bd {m : Nat} {lo hi : Int} {x : Ix} {l : Lf} {ls : List Lf} {kd : Kd} (b : Bd m lo hi x) (e : x.past = ls ++ [l]) : Bd (m + 1) lo hi (undoF kd x l ls) := by
  have hl : l ∈ x.past := by rw [e]; simp
  have hs : ∀ k ∈ ls, k ∈ x.past := fun k hk => by rw [e]; exact List.mem_append_left _ hk
  have hp := b.past
  rw [e, List.length_append] at hp
  refine note_bd (Bd.mono (m := m) ⟨Nat.le_trans (Nat.le_add_right _ _) hp, b.rows, b.lens l hl, fun k hk => b.lens k (hs k hk), b.nums l hl, fun k hk => b.nums k (hs k hk)⟩ (Nat.le_succ m) (Int.le_refl _) (Int.le_refl _)) (Nat.succ_le_succ b.rows)
theorem note_rk {x : Ix} {kd : Kd} {d : PyData} (r : Rk x) (h : (∃ n t, Sn n ∧ d = hearD n t) ∨ (∃ k, k ≤ 200 ∧ d = undoD k)) : Rk (noteF kd x d) := by
  unfold noteF
  split
  · refine ⟨r.kp, r.kps, fun e he => ?_⟩
    rcases List.mem_append.mp (show e ∈ x.rows ++ [d] from he) with q | q
    · exact r.rw e q
    · rw [List.mem_singleton.mp q]; exact h
  · exact r
theorem hear1_rk {x : Ix} {n : Int} (r : Rk x) (h : Sn n) : Rk (hear1 x n).2 := by
  refine ⟨fun k hk => ?_, fun l hm => ?_, r.rw⟩
  · have hk : (hearF x.R x.leaf.sd n).2.kept = some k := by
      unfold hear1 at hk
      simp only at hk
      split at hk <;> exact hk
    rcases hearF_cases x.R x.leaf.sd n with ⟨_, _, e3⟩ | ⟨_, _, e3⟩
    · rw [e3] at hk; cases hk
    · rcases e3 k hk with rfl | q
      · exact h
      · exact r.kp k q
  · rcases List.mem_append.mp (show l ∈ x.past ++ [x.leaf] from hm) with q | q
    · exact r.kps l q
    · rw [List.mem_singleton.mp q]; exact r.kp
theorem callF_rk {x : Ix} {n : Int} {kd : Kd} (r : Rk x) (h : Sn n) : Rk (callF kd x n).2 := note_rk (hear1_rk r h) (.inl ⟨n, _, h, rfl⟩)
theorem undoF_rk {x : Ix} {l : Lf} {ls : List Lf} {kd : Kd} (r : Rk x) (e : x.past = ls ++ [l]) (hl : ls.length ≤ 200) : Rk (undoF kd x l ls) := by
  refine note_rk ⟨r.kps l (by rw [e]; simp), fun k hk => r.kps k (by rw [e]; exact List.mem_append_left _ hk), r.rw⟩ (.inr ⟨_, hl, rfl⟩)
/-! ### texts of plain signs -/
def Sk (x : Str) : Prop := PyData.strOk x = true
instance (x : Str) : Decidable (Sk x) := by unfold Sk; infer_instance
theorem Sk.app {a b : Str} (ha : Sk a) (hb : Sk b) : Sk (a ++ b) := by
  unfold Sk PyData.strOk at *
  have e : (a ++ b).cps = a.cps ++ b.cps := rfl
  rw [e, Array.all_append, ha, hb]
  rfl
theorem Sk.ofNt {n : Int} (h : Sn n) : Sk (nt n) := byFin (p := fun n => Sk (nt n)) (by decide +kernel) h
theorem Sk.join {y : Str} (hy : Sk y) : ∀ {ps : List Str}, (∀ p ∈ ps, Sk p) → Sk (Txt.join y ps) := fun {ps} h => by
  rw [TL.join_eq]
  induction ps with
  | nil => exact (show Sk Str.empty by decide +kernel)
  | cons p r ih =>
    cases r with
    | nil => exact h p List.mem_cons_self
    | cons q r => exact .app (.app (h p List.mem_cons_self) hy) (ih fun z hz => h z (List.mem_cons_of_mem _ hz))
theorem Sk.taken {ns : List Int} (h : ∀ n ∈ ns, Sn n) : Sk (takenT ns) := by
  unfold takenT
  split
  · decide +kernel
  · exact .join (by decide +kernel) fun p hp => by
      obtain ⟨n, hn, rfl⟩ := List.mem_map.mp hp
      exact .ofNt (h n hn)
theorem Sk.fits (R : Rec) : Sk (rst (fitsF R)) := by
  have h := (fits_ok R).1
  have hb : ∀ b : OI, SnB b → Sk (bt b) := fun b hb => by
    cases b with
    | none => exact (by decide +kernel : Sk "")
    | some n => exact .ofNt (hb n rfl)
  unfold rst
  split
  · decide +kernel
  · exact .join (by decide +kernel) fun p hp => by
      obtain ⟨r, hr, rfl⟩ := List.mem_map.mp hp
      exact .app (.app (hb _ (h r hr).lo) (by decide +kernel)) (hb _ (h r hr).hi)
/-! ### what a desk has said within hear_all -/
abbrev eB : Str := "error Busy"
structure PairOk (H : Hp) (due : Str) (a b : Addr) : Prop where
  ex : ∃ t1 t2 : Str, Sk t1 ∧ Sk t2 ∧ H a = some (.lst [.str eB, .str eB, .str eB, .str t1, .str t2]) ∧ H b = some (.lst [.str t1, .str t2, .str due, .bl true])
structure Prs (H : Hp) (due : Str) (xs : List V) : Prop where
  ev : xs.length % 2 = 0
  at_ : ∀ k, 2 * k + 1 < xs.length → ∃ a b, xs[2 * k]? = some (.ref a) ∧ xs[2 * k + 1]? = some (.ref b) ∧ PairOk H due a b
theorem Prs.nil {H : Hp} {due : Str} : Prs H due [] := ⟨rfl, fun k h => absurd h (Nat.not_lt_zero _)⟩
theorem Prs.snoc {H : Hp} {due : Str} {xs : List V} {a b : Addr} (p : Prs H due xs) (h : PairOk H due a b) : Prs H due (xs ++ [.ref a] ++ [.ref b]) := by
  have ev := p.ev
  refine ⟨by rw [List.length_append, List.length_append]; show (xs.length + 1 + 1) % 2 = 0; omega, fun k hk => ?_⟩
  rw [List.append_assoc, List.length_append] at hk
  have hk : 2 * k + 1 < xs.length + 2 := hk
  rw [List.append_assoc]
  by_cases hl : 2 * k + 1 < xs.length
  · obtain ⟨c, d, e1, e2, q⟩ := p.at_ k hl
    exact ⟨c, d, by rw [List.getElem?_append_left (by omega)]; exact e1, by rw [List.getElem?_append_left hl]; exact e2, q⟩
  · have e : 2 * k = xs.length := by omega
    refine ⟨a, b, ?_, ?_, h⟩
    · rw [e, List.getElem?_append_right (Nat.le_refl _), Nat.sub_self]; rfl
    · rw [e, List.getElem?_append_right (Nat.le_add_right _ 1), show xs.length + 1 - xs.length = 1 by omega]; rfl
/-- pairs stay where just other objects change -/
theorem Prs.keep {H H' : Hp} {due : Str} {xs : List V} (p : Prs H due xs) (k : ∀ (b : Addr) (ys : List V), H b = some (.lst ys) → (∃ y : Str, ys[0]? = some (.str y)) → H' b = some (.lst ys)) : Prs H' due xs := ⟨p.ev, fun j hj => by
  obtain ⟨a, b, e1, e2, t1, t2, s1, s2, h1, h2⟩ := p.at_ j hj
  exact ⟨a, b, e1, e2, t1, t2, s1, s2, k _ _ h1 ⟨_, rfl⟩, k _ _ h2 ⟨_, rfl⟩⟩⟩
theorem Prs.head {H : Hp} {due : Str} {xs : List V} (p : Prs H due xs) (y : Str) : xs[0]? ≠ some (.str y) := fun e => by
  have ev := p.ev
  have h0 : 0 < xs.length := (List.getElem?_eq_some_iff.mp e).1
  obtain ⟨a, b, e1, _⟩ := p.at_ 0 (by omega)
  rw [show 2 * 0 = 0 from rfl, e] at e1
  cases e1
/-- the desk, the list found, the function that looks -/
structure ExS (K : PySem.W.Frag) (d a fl f : Addr) (F : NF) (due : Str) (c : Nat) (H : Hp) : Prop where
  dk : ∃ m, m ≤ 20 ∧ DkR K H d a m
  li : ∃ xs, H fl = some (.lst xs) ∧ xs.length ≤ 2 * c ∧ Prs H due xs
  fn : H f = some (FnO f F)
  co : H F.c = some (CodeO F.c F.qual)
theorem Ka.ob {a b : Addr} {H H' : Hp} {u o : HO} (k : Ka a H H') (ha : H a = some u) (hb : H b = some o) (ne : u ≠ o) : H' b = some o := k.at_ b o (fun z => ne (by rw [z, ha] at hb; exact Option.some.inj hb)) hb
theorem fnO_ins {f : Addr} {F : NF} {C dx : Addr} {fs : List (Str × V)} : HO.ins C dx fs ≠ FnO f F := fun z => by unfold FnO at z; cases z
theorem codeO_ins {c : Addr} {q : Str} {C dx : Addr} {fs : List (Str × V)} : HO.ins C dx fs ≠ CodeO c q := fun z => by unfold CodeO at z; cases z
theorem fnO_lst {f : Addr} {F : NF} {xs : List V} : HO.lst xs ≠ FnO f F := fun z => by unfold FnO at z; cases z
theorem codeO_lst {c : Addr} {q : Str} {xs : List V} : HO.lst xs ≠ CodeO c q := fun z => by unfold CodeO at z; cases z
theorem ExS.ka {K : PySem.W.Frag} {mg : Str → Option Value} {kd : Kd} {d a fl f dx : Addr} {fs : List (Str × V)} {F : NF} {due : Str} {c : Nat} {H H' : Hp} (G : Gk K mg) (h : ExS K d a fl f F due c H) (ha : H a = some (.ins (kd.C K) dx fs)) (k : Ka a H H') : ExS K d a fl f F due c H' := by
  obtain ⟨⟨m, hm, ddx, p, ps, h1, h2, h3⟩, ⟨xs, l1, l2, l3⟩, h4, h5⟩ := h
  refine ⟨⟨m, hm, ddx, p, ps, k.ob ha h1 (fun z => (G.neL kd).2.2.1 (HO.ins.inj z).1), k.ob ha h2 (fun z => by cases z), h3⟩, ⟨xs, k.ob ha l1 (fun z => by cases z), l2, l3.keep fun b ys e _ => k.ob ha e (fun z => by cases z)⟩, k.ob ha h4 fnO_ins, k.ob ha h5 codeO_ins⟩
theorem ExS.same {K : PySem.W.Frag} {d a fl f : Addr} {F : NF} {due : Str} {c : Nat} {H H' : Hp} (h : ExS K d a fl f F due c H) (s : Same H H') : ExS K d a fl f F due c H' := by
  obtain ⟨⟨m, hm, dk⟩, ⟨xs, l1, l2, l3⟩, h4, h5⟩ := h
  exact ⟨⟨m, hm, dk.same s⟩, ⟨xs, s _ _ l1, l2, l3.keep fun b ys e _ => s _ _ e⟩, s _ _ h4, s _ _ h5⟩
end K8
set_option maxHeartbeats 4000000
namespace K8
open PySem PySem.Spec PyProof.Rows L2 NdefX LamX
set_option hygiene false in
local macro_rules | `(tactic| walk_at "w") => `(tactic| (repeat (first | refine ⟨_, rfl, ?_⟩ | refine ⟨_, _, rfl, rfl, ?_⟩ | refine ⟨rfl, ?_⟩ | refine ⟨_, _, rfl, ?_⟩ | refine ⟨_, _, rfl, .of upd_same, rfl, ?_⟩ | refine ⟨_, _, rfl, .of (by assumption), rfl, ?_⟩ | refine ⟨_, _, rfl, .of (by assumption), fun q hq => ?_⟩ | refine ⟨_, _, rfl, .of (by assumption), ?_⟩ | refine ⟨_, _, rfl, .inr (.of (by assumption)), ?_⟩ | refine ⟨_, _, rfl, .inl (.of (by assumption)), ?_⟩ | refine ⟨_, _, _, _, rfl, rfl, .of (by assumption), atI_nat (j := 0) rfl, ?_⟩ | refine ⟨_, _, _, _, rfl, rfl, .of (by assumption), atI_nat (j := 1) rfl, ?_⟩ | refine ⟨_, _, _, _, rfl, rfl, .of (by assumption), atI_nat (j := 2) rfl, ?_⟩ | refine ⟨fun z => absurd z.1 (show ¬ (1 : Nat) = 0 by decide), fun _ q hq => ?_⟩ | refine ⟨fun z => absurd z.1 (show ¬ (2 : Nat) = 0 by decide), fun _ q hq => ?_⟩ | refine ⟨sz1, fun q hq => ?_⟩ | refine ⟨sz2, fun q hq => ?_⟩ | refine ⟨sz3, fun q hq => ?_⟩ | refine ⟨sz0, fun q hq => ?_⟩ | refine ⟨_, _, _, rfl, rfl, (by assumption), (by assumption), ?_⟩ | refine ⟨.inl ⟨rfl, _, .of (by assumption)⟩, ?_⟩ | refine ⟨_, _, rfl, .inl ⟨.of (by assumption), fun q hq => ?_⟩⟩ | refine ⟨⟨_, .of (by assumption)⟩, ?_⟩ | refine ⟨⟨_, rfl⟩, ?_⟩ | refine ⟨.inl ⟨rfl, _, .of upd_same⟩, ?_⟩ | refine ⟨_, _, _, _, _, rfl, (by assumption), (by assumption), (by assumption), (by rfl), ?_⟩ | refine ⟨_, _, _, _, rfl, upd_same, (by assumption), (by assumption), (by first | exact ixFs_len | exact (show (0 : Nat) < 1000 by decide) | exact (show (1 : Nat) < 1000 by decide) | exact (show (2 : Nat) < 1000 by decide) | exact (show (3 : Nat) < 1000 by decide) | exact (show (4 : Nat) < 1000 by decide) | exact (show (5 : Nat) < 1000 by decide) | exact (show (6 : Nat) < 1000 by decide)), ?_⟩ | refine ⟨_, _, _, _, rfl, (by assumption), (by assumption), (by assumption), (by first | exact ixFs_len | exact (show (0 : Nat) < 1000 by decide) | exact (show (1 : Nat) < 1000 by decide) | exact (show (2 : Nat) < 1000 by decide) | exact (show (3 : Nat) < 1000 by decide) | exact (show (4 : Nat) < 1000 by decide) | exact (show (5 : Nat) < 1000 by decide) | exact (show (6 : Nat) < 1000 by decide)), ?_⟩ | refine ⟨_, _, _, rfl, (by assumption), (by first | rfl | exact ixFs_no (by decide +kernel)), ?_⟩ | refine ⟨_, _, _, rfl, (by assumption), ?_⟩ | refine iteT ?_ | refine iteF ?_)))
/-! ### hear_row -/
section
variable {P : Program} {w : World} {K : PySem.W.Frag} {mg : Str → Option Value} {base : Heap}
/-- what the function that looks promises -/
def sp_look (K : PySem.W.Frag) (kd : Kd) (d fl f : Addr) (F : NF) (due : Str) (ws0 : List (Option V)) : List (Option V) → Sp := fun ws vs H Q _ => ∃ (a : Addr) (x : Ix) (c : Nat), ws = ws0 ∧ vs = [.ref a] ∧ IxR K kd H a x ∧ x.busy = true ∧ Bd 80 (-190) 190 x ∧ x.past.length + 1 ≤ 60 ∧ x.leaf.nums.length ≠ 0 ∧ due = rst (fitsF x.R) ∧ c ≤ 900 ∧ ExS K d a fl f F due c H ∧
  ∀ H', Kas [d, a, fl] H H' → IxR K kd H' a x → ExS K d a fl f F due (c + 1) H' → Q .non H'
/-- the state within hear_row -/
structure RowS (K : PySem.W.Frag) (kd : Kd) (d a fl f : Addr) (F : NF) (due : Str) (x : Ix) (c : Nat) (i : Nat) (H : Hp) : Prop where
  ex : ∃ y c', IxR K kd H a y ∧ y.busy = true ∧ y.R = x.R ∧ y.rows = x.rows ∧ Bd (50 + i) (-190) 190 y ∧ y.past.length = x.past.length + i ∧ c' ≤ c + i ∧ ExS K d a fl f F due c' H
def sp_hear_row (K : PySem.W.Frag) (kd : Kd) (d fl f : Addr) (F : NF) (due : Str) : Sp := fun vs H Q E => ∃ (a : Addr) (nv : V) (x : Ix) (ns : List Int) (c : Nat), vs = [.ref a, nv, .ref f] ∧ Td H nv (.tuple (ns.map .int)) ∧ ns.length ≤ 20 ∧ (∀ n ∈ ns, -190 ≤ n ∧ n ≤ 190) ∧ x.past.length + ns.length + 1 ≤ 60 ∧ due = rst (fitsF x.R) ∧ c ≤ 100 ∧ RowS K kd d a fl f F due x c 0 H ∧
  (∀ H' v (bs : List Bool), Kas [d, a, fl] H H' → (∃ i, i ≤ ns.length ∧ RowS K kd d a fl f F due x c i H') → Td H' v (.tuple (bs.map .bool)) → Q v H') ∧ (∀ H', Kas [d, a, fl] H H' → (∃ i, i ≤ ns.length ∧ RowS K kd d a fl f F due x c i H') → E (xHa K) none H')
theorem RowS.same {kd : Kd} {d a fl f : Addr} {F : NF} {due : Str} {x : Ix} {c i : Nat} {H H' : Hp} (h : RowS K kd d a fl f F due x c i H) (s : Same H H') : RowS K kd d a fl f F due x c i H' := by
  obtain ⟨y, c', h1, h2, h3, h4, h5, h6, h7, h8⟩ := h.ex
  exact ⟨y, c', h1.same s, h2, h3, h4, h5, h6, h7, h8.same s⟩
theorem Kas.upd {L : List Addr} {H H' : Hp} {q : Addr} {o : HO} (k : Kas L H H') (h : H q = none) : Kas L H (L2.upd H' q o) := ⟨fun b u n e => (upd_ne (ne_of_none e h)).trans (k.at_ b u n e)⟩
theorem ExS.own {d a fl f q : Addr} {F : NF} {due : Str} {c : Nat} {H : Hp} {o : HO} {bs : List Bool} (h : ExS K d a fl f F due c H) (hq : H q = some (.lst (bs.map .bl))) (n : fl ≠ q) : ExS K d a fl f F due c (L2.upd H q o) := by
  obtain ⟨⟨m, hm, ddx, p, ps, h1, h2, h3⟩, ⟨xs, l1, l2, l3⟩, h4, h5⟩ := h
  have k : Ka q H (L2.upd H q o) := .own
  refine ⟨⟨m, hm, ddx, p, ps, k.ob hq h1 (fun z => by cases z), k.ob hq h2 (fun z => by cases z), h3⟩, ⟨xs, k.at_ _ _ n l1, l2, l3.keep fun b ys e ⟨y, hy⟩ => k.ob hq e fun z => ?_⟩, k.ob hq h4 fnO_lst, k.ob hq h5 codeO_lst⟩
  obtain rfl := HO.lst.inj z
  rw [List.getElem?_map] at hy
  obtain ⟨_, _, e2⟩ := Option.map_eq_some_iff.mp hy
  cases e2
theorem ok_hear_row (kd : Kd) {d fl f : Addr} {F : NF} {due : Str} {fr : List Str} {ws : List (Option V)} (D : Md K (kd.C K) "hear_row" "Inbox.hear_row" s_Inbox_hear_row) (G : Gx K mg) (Gk : Gk K mg) (m_hear_one : Met P w K mg base (L2N.CX P w) 5 (kd.C K) "hear_one" (sp_hear_one K kd))
    (Cb : NOk P w K mg base CX0 11 f F ["_law_inner"] fr (sp_look K kd d fl f F due ws)) : MetP (capP F.cl fr ws) P w K mg base (L2N.CX P w) 12 (kd.C K) "hear_row" (sp_hear_row K kd d fl f F due) := by
  refine metPN D sc_Inbox_hear_row (fun _ _ _ _ _ _ us hl => match us, hl with | [_, _, _], _ => rfl) (fun vs H Q E h => ?_) (fun g cdv A outer s H vs Q E hcp hr h => ?_)
  · obtain ⟨_, _, _, _, _, rfl, _⟩ := h
    rfl
  · obtain ⟨a, nv, x, ns, c, rfl, tn, hl, hns, hpl, hdue, hc, rs, kq, ke⟩ := h
    refine ⟨_, (pss_cons (ps_set (i := 3) sc_Inbox_hear_row.nd rfl (Or.inl rfl) (pe_lst pa_nil))
      (pss_cons (ps_for PassesOwn.leaving rfl (pi_tup (pv 1)) (pg_name (i := 4) sc_Inbox_hear_row.nd rfl (Or.inl rfl)) (pss_cons (ps_expr (pe_bm PySem.F.plainAttrs_list PySem.F.slot_list_append PySem.F.type_list_append mt_append (pv 3) (pa_cons (pe_mX m_hear_one hr (by decide) (fun σ => atNX σ) (pv 0) (pa_cons (pv 4) pa_nil)) pa_nil)))
      (pss_one (ps_if (PW.pt (pw_and (pt_val (pe_ix ix_list (pv 3) (pe_un un_neg pe_int) (fun _ _ => rfl))) (pw_and1 (pt_cmpR op_notN (pv 2) pe_non (nomark _))))) (pss_one (ps_expr (pe_cb (i := 2) Cb hcp rfl hr (by decide) rfl (Or.inl rfl) (pa_cons (pv 0) pa_nil)))) pss_nil))))
      (pss_one (ps_ret (pe_callTy call_tuple_of (by rfl) G.tuple (by decide +kernel) (pa_cons (pv 3) pa_nil)))))), ?_⟩
    obtain ⟨pn, xn, rfl, hpn, txn⟩ := tn.tds
    cases txn.ints
    walk_at "w"
    have s0 : Same H (L2.upd H q (.lst [])) := .new hq
    refine ⟨⟨_, .of (s0 _ _ hpn)⟩, ?_⟩
    obtain ⟨x0, c0, ix0, _, _, _, _, _, _, ex0⟩ := rs.ex
    obtain ⟨dx0, _, _, _, _, _, haH, _⟩ := ix0.ex
    obtain ⟨m0, _, ddx0, pp0, pps0, hdH, _, _⟩ := ex0.dk
    obtain ⟨xs0, hflH, _, _⟩ := ex0.li
    have hqd : ∀ {b : Addr} {o : HO}, H b = some o → b ≠ q := fun e z => by rw [z, hq] at e; cases e
    have aq := hqd haH
    have dq := hqd hdH
    have flq := hqd hflH
    have pnd : pn ≠ d := fun z => by rw [z, hdH] at hpn; cases hpn
    have pna : pn ≠ a := fun z => by rw [z, haH] at hpn; cases hpn
    have pnf : pn ≠ fl := fun z => by rw [z, hflH] at hpn; cases hpn
    refine for_tup (xs := ns.map V.int) (fun i σ H' => ∃ (y : Option V) (bs : List Bool), σ = [some (.ref a), some (.ref pn), some (.ref f), some (.ref q), y] ∧ H' q = some (.lst (bs.map .bl)) ∧ bs.length = i ∧ Kas [d, a, fl] H H' ∧ H' pn = some (.tup (ns.map V.int)) ∧ RowS K kd d a fl f F due x c i H') ?_ ?_ ?_ ?_
    · exact ⟨_, [], rfl, upd_same, rfl, .of s0, s0 _ _ hpn, rs.same s0⟩
    · rintro i σ H' hi ⟨_, _, _, _, _, _, h, _⟩
      exact .of h
    · rintro i v σ H' hx ⟨y, bs, rfl, hq', hb, ka, hpn', rs'⟩
      rw [List.getElem?_map] at hx
      obtain ⟨n, hn, rfl⟩ := Option.map_eq_some_iff.mp hx
      have hi : i < ns.length := (List.getElem?_eq_some_iff.mp hn).1
      obtain ⟨z, c', ix, hbz, hR, hrw, bd, hpz, hc', ex⟩ := rs'.ex
      obtain ⟨dx, r, l, p, w, ps, ha, hru, hlf, hp, hps, hw⟩ := ix.ex
      have b1 := bd.past
      have b2 := bd.len.1
      walk_at "w"
      refine ⟨by omega, by omega, ?_⟩
      cases ho : isOpenF z with
      | false =>
        refine iteF (ke _ ka ⟨i, Nat.le_of_lt hi, rs'⟩)
      | true =>
        refine iteT fun H1 ka1 ix1 => ?_
        have ka2 : Kas [d, a, fl] H H1 := ka.trans (.ka ka1 (by simp))
        have hq1 := ka1.ob ha hq' (fun z => by cases z)
        have hpn1 := ka1.ob ha hpn' (fun z => by cases z)
        have ex1 := ex.ka Gk ha ka1
        have bd1 := hear1_bd bd (hns n (List.mem_of_getElem? hn))
        have b3 : (bs.map V.bl).length < sizeLine := by rw [List.length_map, sizeLine_eq]; omega
        have e1 : (bs.map V.bl) ++ [V.bl (hear1 z n).1] = (bs ++ [(hear1 z n).1]).map V.bl := by simp
        have b4 : (bs ++ [(hear1 z n).1]).length = i + 1 := by rw [List.length_append, hb]; rfl
        walk_at "w"
        rw [e1]
        have ka3 : Kas [d, a, fl] H (L2.upd H1 q (.lst ((bs ++ [(hear1 z n).1]).map V.bl))) := ka2.upd hq
        have hq2 : L2.upd H1 q (.lst ((bs ++ [(hear1 z n).1]).map V.bl)) q = some (.lst ((bs ++ [(hear1 z n).1]).map V.bl)) := upd_same
        have hpn2 : L2.upd H1 q (.lst ((bs ++ [(hear1 z n).1]).map V.bl)) pn = some (.tup (ns.map V.int)) := (upd_ne (hqd hpn)).trans hpn1
        have ex2 : ExS K d a fl f F due c' (L2.upd H1 q (.lst ((bs ++ [(hear1 z n).1]).map V.bl))) := ex1.own hq1 flq
        have ix2 : IxR K kd (L2.upd H1 q (.lst ((bs ++ [(hear1 z n).1]).map V.bl))) a (hear1 z n).2 := ix1.keep (.own hq1 fun z => z) fun o e => (upd_ne aq).trans e
        have fc : L2.upd H1 q (.lst ((bs ++ [(hear1 z n).1]).map V.bl)) f = some (FnO f F) := ex2.fn
        generalize L2.upd H1 q (.lst ((bs ++ [(hear1 z n).1]).map V.bl)) = H2 at *
        refine ⟨_, _, _, _, rfl, rfl, .of hq2, by rw [List.map_append]; exact atI_last _ _, _, rfl, ?_⟩
        have fin : ∀ H3 c2, Kas [d, a, fl] H2 H3 → IxR K kd H3 a (hear1 z n).2 → c2 ≤ c' + 1 → ExS K d a fl f F due c2 H3 → ∃ (y : Option V) (bs : List Bool), ([some (.ref a), some (.ref pn), some (.ref f), some (.ref q), some (.int n)] : L2.St) = [some (.ref a), some (.ref pn), some (.ref f), some (.ref q), y] ∧ H3 q = some (.lst (bs.map .bl)) ∧ bs.length = i + 1 ∧ Kas [d, a, fl] H H3 ∧ H3 pn = some (.tup (ns.map V.int)) ∧ RowS K kd d a fl f F due x c (i + 1) H3 := fun H3 c2 k3 ix3 hc2 ex3 =>
          ⟨_, bs ++ [(hear1 z n).1], rfl, k3.at_ _ _ (by simp only [List.mem_cons, List.not_mem_nil, or_false, not_or]; exact ⟨Ne.symm dq, Ne.symm aq, Ne.symm flq⟩) hq2, b4, ka3.trans k3, k3.at_ _ _ (by simp only [List.mem_cons, List.not_mem_nil, or_false, not_or]; exact ⟨pnd, pna, pnf⟩) hpn2,
            ⟨_, c2, ix3, hbz, hR, hrw, bd1, by show (z.past ++ [z.leaf]).length = _; rw [List.length_append]; show z.past.length + 1 = _; omega, by omega, ex3⟩⟩
        cases ht : (hear1 z n).1 with
        | false =>
          walk_at "w"
          exact fin _ c' (.of (.refl _)) ix2 (Nat.le_succ _) ex2
        | true =>
          walk_at "w"
          have nn : (hear1 z n).2.leaf.nums.length ≠ 0 := by
            unfold hear1
            simp only
            rw [if_pos (show (hearF z.R z.leaf.sd n).1 = true from ht)]
            simp
          refine ⟨fc, ?_⟩
          walk_at "w"
          refine ⟨fc, ex2.co, a, _, c', rfl, rfl, ix2, hbz, bd1.mono (by omega) (Int.le_refl _) (Int.le_refl _), by show (z.past ++ [z.leaf]).length + 1 ≤ 60; rw [List.length_append]; show z.past.length + 1 + 1 ≤ 60; omega, nn, by show due = rst (fitsF z.R); rw [hR]; exact hdue, by omega, ex2, fun H3 k3 ix3 ex3 => ?_⟩
          exact fin _ (c' + 1) k3 ix3 (Nat.le_refl _) ex3
    · rintro σ H' ⟨y, bs, rfl, hq', hb, ka, hpn', rs'⟩
      rw [List.length_map] at rs'
      walk_at "w"
      have sn : Same H' (L2.upd H' q (.tup (bs.map V.bl))) := .new (by assumption)
      exact kq _ _ bs (ka.trans (.of sn)) ⟨_, Nat.le_refl _, rs'.same sn⟩ ((Tds.ofBools _).tup upd_same)
end
end K8
set_option maxHeartbeats 4000000
namespace K8
open PySem PySem.Spec PyProof.Rows L2 NdefX LamX
set_option hygiene false in
local macro_rules | `(tactic| walk_at "w") => `(tactic| (repeat (first | refine ⟨_, rfl, ?_⟩ | refine ⟨_, _, rfl, rfl, ?_⟩ | refine ⟨rfl, ?_⟩ | refine ⟨_, _, rfl, ?_⟩ | refine ⟨_, _, rfl, .of upd_same, rfl, ?_⟩ | refine ⟨_, _, rfl, .of (by assumption), rfl, ?_⟩ | refine ⟨_, _, rfl, .of (by assumption), fun q hq => ?_⟩ | refine ⟨_, _, rfl, .of (by assumption), ?_⟩ | refine ⟨_, _, rfl, .inr (.of (by assumption)), ?_⟩ | refine ⟨_, _, rfl, .inl (.of (by assumption)), ?_⟩ | refine ⟨_, _, _, _, rfl, rfl, .of (by assumption), atI_nat (j := 0) rfl, ?_⟩ | refine ⟨_, _, _, _, rfl, rfl, .of (by assumption), atI_nat (j := 1) rfl, ?_⟩ | refine ⟨_, _, _, _, rfl, rfl, .of (by assumption), atI_nat (j := 2) rfl, ?_⟩ | refine ⟨fun z => absurd z.1 (show ¬ (1 : Nat) = 0 by decide), fun _ q hq => ?_⟩ | refine ⟨fun z => absurd z.1 (show ¬ (2 : Nat) = 0 by decide), fun _ q hq => ?_⟩ | refine ⟨sz1, fun q hq => ?_⟩ | refine ⟨sz2, fun q hq => ?_⟩ | refine ⟨sz3, fun q hq => ?_⟩ | refine ⟨sz0, fun q hq => ?_⟩ | refine ⟨_, _, _, rfl, rfl, (by assumption), (by assumption), ?_⟩ | refine ⟨.inl ⟨rfl, _, .of (by assumption)⟩, ?_⟩ | refine ⟨_, _, rfl, .inl ⟨.of (by assumption), fun q hq => ?_⟩⟩ | refine ⟨⟨_, .of (by assumption)⟩, ?_⟩ | refine ⟨⟨_, rfl⟩, ?_⟩ | refine ⟨.inl ⟨rfl, _, .of upd_same⟩, ?_⟩ | refine ⟨_, _, _, _, _, rfl, (by assumption), (by assumption), (by assumption), (by rfl), ?_⟩ | refine ⟨_, _, _, _, rfl, upd_same, (by assumption), (by assumption), (by first | exact ixFs_len | exact (show (0 : Nat) < 1000 by decide) | exact (show (1 : Nat) < 1000 by decide) | exact (show (2 : Nat) < 1000 by decide) | exact (show (3 : Nat) < 1000 by decide) | exact (show (4 : Nat) < 1000 by decide) | exact (show (5 : Nat) < 1000 by decide) | exact (show (6 : Nat) < 1000 by decide)), ?_⟩ | refine ⟨_, _, _, _, rfl, (by assumption), (by assumption), (by assumption), (by first | exact ixFs_len | exact (show (0 : Nat) < 1000 by decide) | exact (show (1 : Nat) < 1000 by decide) | exact (show (2 : Nat) < 1000 by decide) | exact (show (3 : Nat) < 1000 by decide) | exact (show (4 : Nat) < 1000 by decide) | exact (show (5 : Nat) < 1000 by decide) | exact (show (6 : Nat) < 1000 by decide)), ?_⟩ | refine ⟨_, _, _, rfl, (by assumption), (by first | rfl | exact ixFs_no (by decide +kernel)), ?_⟩ | refine ⟨_, _, _, rfl, (by assumption), ?_⟩ | refine iteT ?_ | refine iteF ?_)))
/-! ### try: body finally: suite -/
def tTf (tb : WX → TS) (tf tfs : TS) (Wout : WX) : TS := fun D σ H => tb (wFin tfs Wout) { nx := fun σ1 H1 => tf D σ1 H1, rt := fun _ _ => False } σ H
theorem ps_tf {X : Cx} {body : List Stmt} {f₀ : Stmt} {fs : List Stmt} {pos : Pos} {tb : WX → TS} {tf tfs : TS} {Wout : WX} (hs : X.stack = X.env :: X.outer) (hf : X.env.frame = some X.env.locals) (hex : X.ex = []) (tk : Takes X Wout)
    (hb : ∀ (W : WX) (pn : List (Addr × Obj)) (xe : Value → Shared → Prop), Takes (X.tr pn xe) W → PassesOwn (model X.prog X.w) X.A X.env xe → PSs (X.tr pn xe) body (tb W)) (hfin : PSs X.nox (f₀ :: fs) tf) (hsu : ∀ (a : Addr) (pn : List (Addr × Obj)), PSs (X.suite a pn) (f₀ :: fs) tfs) :
    PS X (.Try body [] [] (f₀ :: fs) pos) (tTf tb tf tfs Wout) := by
  refine ⟨fun pins s σ H D I h => wpAny_Try_finally ?_⟩
  refine wpAny_mono ((hb (wFin tfs Wout) (X.pn ++ pins) (fun x s₁ => wpAny (model X.prog X.w) X.A (noteFrame x X.env) (fun _ s₂ => FinallyRaised X.prog X.w X.A X.xe X.env (f₀ :: fs) (SP X pins D) x s₂) (FinallyRaised X.prog X.w X.A X.xe X.env (f₀ :: fs) (SP X pins D)) s₁)
    (fun u s' xx => fin_exc hs hf hex I.ok tk hsu xx) PassesOwn.looking).run [] s σ H { nx := fun σ1 H1 => tf D σ1 H1, rt := fun _ _ => False } (I.toTry _) h) (fun g s1 z => ?_) fun x s1 hx => hx
  cases g with
  | next =>
    obtain ⟨σ1, H1, J1, q1⟩ := z
    exact wpAny_execs_nil (wpAny_mono (hfin.run pins s1 σ1 H1 D ((J1.ofTry I.ok).wish _) q1) (fun g2 s2 q2 => (by have q3 : SP X pins D g2 s2 := q2.unwish; cases g2 <;> exact q3)) fun _ _ e => False.elim e)
  | ret u =>
    obtain ⟨_, _, _, _, _, q⟩ := z
    exact False.elim q
  | brk =>
    obtain ⟨_, _, _, q⟩ := z
    exact False.elim q
  | cont =>
    obtain ⟨_, _, _, q⟩ := z
    exact False.elim q
/-! ### hear_all -/
section
variable {P : Program} {w : World} {K : PySem.W.Frag} {mg : Str → Option Value} {base : Heap}
def sp_hear_all (K : PySem.W.Frag) (kd : Kd) (d fl f : Addr) (F : NF) (due : Str) : Sp := fun vs H Q E => ∃ (a vl : Addr) (x : Ix) (n : Int) (ns : List Int) (c : Nat), vs = [.ref a, .ref vl, .ref f] ∧ H vl = some (.lst ((n :: ns).map .int)) ∧ (n :: ns).length ≤ 20 ∧ (∀ m ∈ n :: ns, -190 ≤ m ∧ m ≤ 190) ∧ IxR K kd H a x ∧ x.busy = false ∧ Bd 50 (-190) 190 x ∧ x.past.length + (n :: ns).length + 1 ≤ 60 ∧ due = rst (fitsF x.R) ∧ c ≤ 100 ∧ ExS K d a fl f F due c H ∧
  (∀ H' v, Kas [d, a, fl] H H' → (∃ c', c' ≤ c + 20 ∧ ExS K d a fl f F due c' H') → Q v H') ∧ (∀ H', Kas [d, a, fl] H H' → (∃ c', c' ≤ c + 20 ∧ ExS K d a fl f F due c' H') → E (xHa K) none H')
def t_hr (K : PySem.W.Frag) (kd : Kd) (d fl f : Addr) (F : NF) (due : Str) : WX → TS := fun W => tAsg (tMP (fun _ => True) (kd.C K) "hear_row" (sp_hear_row K kd d fl f F due) (WE W) (tVar 0) (tCons (tVar 3) (tCons (tVar 2) tNil))) (gName 7)
def t_back (K : PySem.W.Frag) : TS := tSeq (sFld K (tVar 0) (tC (.bl false)) "is_busy") (tIfS (tTest (tOp (fun x y H Q => y = .non ∧ Q (.bl (decide (x = .non))) H) (tVar 7) (tC .non))) (tSeq (sFld K (tVar 0) (tVar 5) "leaf") (sFld K (tVar 0) (tVar 6) "past")) tNext)
theorem ok_hear_all (kd : Kd) {d fl f : Addr} {F : NF} {due : Str} {fr : List Str} {ws : List (Option V)} {ga : Addr} {fda : FuncData} (F0 : Fun K "hear_all" "Inbox.hear_all" s_Inbox_hear_all ga fda) (G : Gx K mg) (Gk : Gk K mg) (m_require_idle : Met P w K mg base (L2N.CX P w) 1 (kd.C K) "require_idle" (sp_require_idle K kd)) (m_require_open : Met P w K mg base (L2N.CX P w) 2 (kd.C K) "require_open" (sp_require_open K kd))
    (m_require_room : Met P w K mg base CX0 1 (kd.C K) "require_room" (sp_require_room K kd)) (m_note : Met P w K mg base CX0 1 (kd.C K) "note" (sp_note K kd)) (c_require_number : Cal P w K mg base CX0 2 "require_number" sp_require_number)
    (m_hear_row : MetP (capP F.cl fr ws) P w K mg base (L2N.CX P w) 12 (kd.C K) "hear_row" (sp_hear_row K kd d fl f F due)) : FnP (capP F.cl fr ws) P w K mg base (L2.CX P w) 13 ga fda ["self", "value", "on_take"] (sp_hear_all K kd d fl f F due) := by
  replace m_require_idle := m_require_idle.toX
  replace m_require_open := m_require_open.toX
  replace m_hear_row := m_hear_row.toX
  refine fnPX F0 sc_Inbox_hear_all (fun vs H Q E h => ?_) (fun cdv A outer s H vs Q E hcp hr h => ?_)
  · obtain ⟨_, _, _, _, _, _, rfl, _⟩ := h
    rfl
  · obtain ⟨a, vl, x, n, ns, c, rfl, hvl, hl, hns, ix, hb, bd, hpl, hdue, hc, ex, kq, ke⟩ := h
    refine ⟨_, pss_cons (ps_expr (pe_mX0 m_require_idle hr (by decide) (fun σ => atX σ) (pv 0))) (pss_cons (ps_if (PW.pt (pw_or (pt_not (pt_val (pe_callB call_isiT (by rfl) G.isinstance (by decide +kernel) (pa_cons (pv 1) (pa_cons (pe_tup (pa_cons (pe_bltn (v := .ty "list") (u := .type "list") (by rfl) G.list (by decide +kernel) rfl) (pa_cons (pe_bltn (v := .ty "tuple") (u := .type "tuple") (by rfl) G.tuple (by decide +kernel) rfl) pa_nil))) pa_nil))))) (pw_or1 (pt_cmpR op_gt (pe_callB call_len_seq (by rfl) G.len (by decide +kernel) (pa_cons (pv 1) pa_nil)) (pe_gi (by rfl) G.MAX_ROW) (nomark _))))) pss_never pss_nil) (pss_cons (ps_set (i := 3) sc_Inbox_hear_all.nd rfl (Or.inl rfl) (pe_callTy call_tuple_of (by rfl) G.tuple (by decide +kernel) (pa_cons (pv 1) pa_nil))) (pss_cons (ps_for PassesOwn.leaving rfl (pi_tup (pv 3)) (pg_name (i := 4) sc_Inbox_hear_all.nd rfl (Or.inl rfl)) (pss_one (ps_expr (pe_d c_require_number hr (by decide) (by rfl) (pa_cons (pv 4) pa_nil)))))
      (pss_cons (ps_if (pt_cmpR (op_neD hr.units) (pv 3) (pe_tup pa_nil) (nomark _)) (pss_one (ps_expr (pe_mX0 m_require_open hr (by decide) (fun σ => atX σ) (pv 0)))) pss_nil) (pss_cons (ps_expr (pe_mX m_require_room hr (by decide) atN (pv 0) (pa_cons (pe_callB call_len_seq (by rfl) G.len (by decide +kernel) (pa_cons (pv 3) pa_nil)) pa_nil))) (pss_cons (ps_par (i := 5) (j := 6) (by rfl) sc_Inbox_hear_all.nd rfl rfl (by decide) rfl rfl (pa_cons (pe_fld (pv 0) rfl) (pa_cons (pe_fld (pv 0) rfl) pa_nil)) (by rfl)) (pss_cons (ps_set (i := 7) sc_Inbox_hear_all.nd rfl (Or.inl rfl) pe_non) (pss_cons (ps_fld (pv 0) pe_bl rfl)
      (pss_cons (ps_tf (tb := t_hr K kd d fl f F due) (tf := t_back K) (tfs := t_back K) rfl rfl rfl (takes_of rfl rfl rfl rfl) (fun W pn xe tk _ => pss_one (ps_set (i := 7) sc_Inbox_hear_all.nd rfl (Or.inl rfl) (by exact pe_mPX (fun σ H _ => prem_later hcp rfl) m_hear_row hr (by decide) (fun σ => passAt tk σ) (pv 0) (pa_cons (pv 3) (pa_cons (pv 2) pa_nil)))))
        (by exact pss_cons (ps_fld (pv 0) pe_bl rfl) (pss_one (ps_if (pt_cmpR op_isN (pv 7) pe_non (nomark _)) (pss_cons (ps_fld (pv 0) (pv 5) rfl) (pss_one (ps_fld (pv 0) (pv 6) rfl))) pss_nil)))
        (fun a pn => by exact pss_cons (ps_fld (pv 0) pe_bl rfl) (pss_one (ps_if (pt_cmpR op_isN (pv 7) pe_non (nomark _)) (pss_cons (ps_fld (pv 0) (pv 5) rfl) (pss_one (ps_fld (pv 0) (pv 6) rfl))) pss_nil))))
      (pss_cons (ps_expr (pe_mX m_note hr (by decide) atN (pv 0) (pa_cons (pe_tup (pa_cons pe_str (pa_cons (pv 7) pa_nil))) pa_nil))) (pss_one (ps_ret (pv 7))))))))))))), ?_⟩
    obtain ⟨dx, r, l, p, w, ps, ha, hru, hlf, hp, hps, hw⟩ := ix.ex
    obtain ⟨n1, n2, n3, n4, n5, n6⟩ := Gk.na kd
    have hC := Gk.cI kd
    have sz := sizeLine_eq
    have b1 := bd.past
    walk_at "w"
    refine ⟨a, x, rfl, ix, ?_⟩
    rw [hb]
    refine iteF ?_
    walk_at "w"
    have s1 : Same H (L2.upd H q (.tup [.ty "list", .ty "tuple"])) := .new hq
    have hq1 : L2.upd H q (.tup [.ty "list", .ty "tuple"]) q = some (.tup [.ty "list", .ty "tuple"]) := upd_same
    generalize L2.upd H q (.tup [.ty "list", .ty "tuple"]) = H1 at *
    have hvl1 := s1 _ _ hvl
    refine ⟨_, _, _, _, _, true, rfl, hq1, .cons (.ty _) (.cons (.ty _) .nil), .base (.lst hvl1), kitAny_cons (b := true) (kit_ty (by decide +kernel)) (fun z => by cases z) (fun _ => rfl), ?_⟩
    walk_at "w"
    refine iteDF (by rw [List.length_map]; omega) ?_
    walk_at "w"
    have s2 : Same H (L2.upd H1 q (.tup ((n :: ns).map V.int))) := s1.upd hq
    have hq2 : L2.upd H1 q (.tup ((n :: ns).map V.int)) q = some (.tup ((n :: ns).map V.int)) := upd_same
    have tq2 : Td (L2.upd H1 q (.tup ((n :: ns).map V.int))) (.ref q) (.tuple ((n :: ns).map .int)) := (Tds.ofInts _).tup upd_same
    generalize L2.upd H1 q (.tup ((n :: ns).map V.int)) = H2 at *
    clear hq
    generalize q = pn at *
    refine ⟨⟨_, .of hq2⟩, ?_⟩
    refine for_tup (xs := (n :: ns).map V.int) (fun i σ H' => H' = H2 ∧ ∃ y, σ = [some (.ref a), some (.ref vl), some (.ref f), some (.ref pn), y, none, none, none]) ?_ ?_ ?_ ?_
    · exact ⟨rfl, _, rfl⟩
    · rintro i σ H' hi ⟨rfl, _⟩
      exact .of hq2
    · rintro i v σ H' hx ⟨rfl, y, rfl⟩
      rw [List.getElem?_map] at hx
      obtain ⟨m, hm, rfl⟩ := Option.map_eq_some_iff.mp hx
      walk_at "w"
      exact ⟨_, rfl⟩
    · rintro σ H' ⟨rfl, y, rfl⟩
      have ix2 := ix.same s2
      have fl1 : Fl 1 (.tuple ((n :: ns).map .int)) := Fl.tup (n := 0) fun d hd => by
        obtain ⟨m, _, rfl⟩ := List.mem_map.mp hd
        exact .int 0 m
      walk_at "w"
      have s3 : Same H' (L2.upd H' q (.tup [])) := .new hq
      refine ne_td (tq2.same s3) (.of0 upd_same) fl1 (Fl.tup (n := 0) fun d hd => nomatch hd) (by decide) (by decide) ⟨true, rfl, ?_⟩
      have tq3 := tq2.same s3
      have hq3 := s3 _ _ hq2
      have ix3 := ix2.same s3
      have ex3 := (ex.same s2).same s3
      have ha3 := s3 _ _ (s2 _ _ ha)
      have s03 := s2.trans s3
      generalize L2.upd H' q (.tup []) = H3 at *
      walk_at "w"
      refine ⟨a, x, rfl, ix3, ?_⟩
      cases ho : isOpenF x with
      | false => exact iteF (ke _ (.of s03) ⟨c, Nat.le_add_right _ _, ex3⟩)
      | true =>
        refine iteT ?_
        walk_at "w"
        refine ⟨by rw [List.length_map]; omega, ?_⟩
        walk_at "w"
        rw [put_busy]
        have nf : ∀ b, ¬ fzO K (.ins (kd.C K) dx (ixFs r l p w b x.mo)) := fun b z => z.elim (Gk.neL kd).1 (Gk.neL kd).2.1
        have fz4 : Fz K H3 (L2.upd H3 a (.ins (kd.C K) dx (ixFs r l p w true x.mo))) := .own ha3 (nf _)
        have ka4 : Ka a H3 (L2.upd H3 a (.ins (kd.C K) dx (ixFs r l p w true x.mo))) := .own
        have ex4 := ex3.ka Gk ha3 ka4
        have ha4 : L2.upd H3 a (.ins (kd.C K) dx (ixFs r l p w true x.mo)) a = some (.ins (kd.C K) dx (ixFs r l p w true x.mo)) := upd_same
        have fz04 : Fz K H (L2.upd H3 a (.ins (kd.C K) dx (ixFs r l p w true x.mo))) := (Fz.of s03).trans fz4
        have ix4 : IxR K kd (L2.upd H3 a (.ins (kd.C K) dx (ixFs r l p w true x.mo))) a { x with busy := true } := ⟨⟨dx, r, l, p, w, ps, ha4, hru.fz fz04, hlf.fz fz04, fz04.tp hp, hps.fz fz04, hw.mono fz04.tupK⟩, ix.mo, ix.st, ix.pst⟩
        have tq4 := tq3.mono fz4.tupK
        have k04 : Kas [d, a, fl] H (L2.upd H3 a (.ins (kd.C K) dx (ixFs r l p w true x.mo))) := (Kas.of s03).trans (.ka ka4 (by simp))
        generalize L2.upd H3 a (.ins (kd.C K) dx (ixFs r l p w true x.mo)) = H4 at *
        walk_at "w"
        have bd4 : Bd (50 + 0) (-190) 190 { x with busy := true } := ⟨bd.past, bd.rows, bd.len, bd.lens, bd.num, bd.nums⟩
        refine ⟨trivial, a, .ref pn, { x with busy := true }, n :: ns, c, rfl, tq4, hl, hns, hpl, hdue, hc, ⟨_, c, ix4, rfl, rfl, rfl, bd4, rfl, Nat.le_refl _, ex4⟩, fun H5 v bs k5 ⟨i, hi, rs5⟩ tv5 => ?_, fun H5 k5 ⟨i, hi, rs5⟩ => ?_⟩
        · obtain ⟨z, c', ix5, hbz, hR, hrw, bd5, hpz, hc', ex5⟩ := rs5.ex
          obtain ⟨dx5, r5, l5, p5, w5, ps5, ha5, hru5, hlf5, hp5, hps5, hw5⟩ := ix5.ex
          have b5 := bd5.rows
          obtain ⟨pv, xv, rfl, hpv, txv⟩ := tv5.tds
          walk_at "w"
          rw [put_busy]
          have nf5 : ¬ fzO K (.ins (kd.C K) dx5 (ixFs r5 l5 p5 w5 z.busy z.mo)) := fun z => z.elim (Gk.neL kd).1 (Gk.neL kd).2.1
          have fz6 : Fz K H5 (L2.upd H5 a (.ins (kd.C K) dx5 (ixFs r5 l5 p5 w5 false z.mo))) := .own ha5 nf5
          have ka6 : Ka a H5 (L2.upd H5 a (.ins (kd.C K) dx5 (ixFs r5 l5 p5 w5 false z.mo))) := .own
          have ex6 := ex5.ka Gk ha5 ka6
          have ha6 : L2.upd H5 a (.ins (kd.C K) dx5 (ixFs r5 l5 p5 w5 false z.mo)) a = some (.ins (kd.C K) dx5 (ixFs r5 l5 p5 w5 false z.mo)) := upd_same
          have ix6 : IxR K kd (L2.upd H5 a (.ins (kd.C K) dx5 (ixFs r5 l5 p5 w5 false z.mo))) a { z with busy := false } := ⟨⟨dx5, r5, l5, p5, w5, ps5, ha6, hru5.fz fz6, hlf5.fz fz6, fz6.tp hp5, hps5.fz fz6, hw5.mono fz6.tupK⟩, ix5.mo, ix5.st, ix5.pst⟩
          have tv6 := tv5.mono fz6.tupK
          generalize L2.upd H5 a (.ins (kd.C K) dx5 (ixFs r5 l5 p5 w5 false z.mo)) = H6 at *
          walk_at "w"
          have s7 : Same H6 (L2.upd H6 q (.tup [.str "row", .ref pv])) := .new hq
          refine ⟨a, _, _, _, rfl, ix6.same s7, .of2 upd_same (.str _) (tv6.same s7), by show z.rows.length ≤ 1000; omega, fun H8 ka8 ix8 => ?_⟩
          obtain ⟨dx7, r7, l7, p7, w7, ps7, ha7, _⟩ := (ix6.same s7).ex
          walk_at "w"
          exact kq _ _ ((k04.trans k5).trans (((Kas.ka ka6 (by simp)).trans (.of s7)).trans (.ka ka8 (by simp)))) ⟨c', by omega, (ex6.same s7).ka Gk ha7 ka8⟩
        · obtain ⟨z, c', ix5, hbz, hR, hrw, bd5, hpz, hc', ex5⟩ := rs5.ex
          obtain ⟨dx5, r5, l5, p5, w5, ps5, ha5, hru5, hlf5, hp5, hps5, hw5⟩ := ix5.ex
          walk_at "w"
          rw [upd_upd, upd_upd]
          exact ke _ ((k04.trans k5).trans (.ka .own (by simp))) ⟨c', by omega, ex5.ka Gk ha5 .own⟩
end
end K8
set_option maxHeartbeats 4000000
namespace K8
open PySem PySem.Spec PyProof.Rows L2 NdefX LamX
set_option hygiene false in
local macro_rules | `(tactic| walk_at "w") => `(tactic| (repeat (first | refine ⟨_, rfl, ?_⟩ | refine ⟨_, _, rfl, rfl, ?_⟩ | refine ⟨rfl, ?_⟩ | refine ⟨_, _, rfl, ?_⟩ | refine ⟨_, _, rfl, .of upd_same, rfl, ?_⟩ | refine ⟨_, _, rfl, .of (by assumption), rfl, ?_⟩ | refine ⟨_, _, rfl, .of (by assumption), fun q hq => ?_⟩ | refine ⟨_, _, rfl, .of (by assumption), ?_⟩ | refine ⟨_, _, rfl, .inr (.of (by assumption)), ?_⟩ | refine ⟨_, _, rfl, .inl (.of (by assumption)), ?_⟩ | refine ⟨_, _, _, _, rfl, rfl, .of (by assumption), atI_nat (j := 0) rfl, ?_⟩ | refine ⟨_, _, _, _, rfl, rfl, .of (by assumption), atI_nat (j := 1) rfl, ?_⟩ | refine ⟨_, _, _, _, rfl, rfl, .of (by assumption), atI_nat (j := 2) rfl, ?_⟩ | refine ⟨fun z => absurd z.1 (show ¬ (1 : Nat) = 0 by decide), fun _ q hq => ?_⟩ | refine ⟨fun z => absurd z.1 (show ¬ (2 : Nat) = 0 by decide), fun _ q hq => ?_⟩ | refine ⟨sz1, fun q hq => ?_⟩ | refine ⟨sz2, fun q hq => ?_⟩ | refine ⟨sz3, fun q hq => ?_⟩ | refine ⟨sz0, fun q hq => ?_⟩ | refine ⟨_, _, _, rfl, rfl, (by assumption), (by assumption), ?_⟩ | refine ⟨.inl ⟨rfl, _, .of (by assumption)⟩, ?_⟩ | refine ⟨_, _, rfl, .inl ⟨.of (by assumption), fun q hq => ?_⟩⟩ | refine ⟨⟨_, .of (by assumption)⟩, ?_⟩ | refine ⟨⟨_, rfl⟩, ?_⟩ | refine ⟨.inl ⟨rfl, _, .of upd_same⟩, ?_⟩ | refine ⟨_, _, _, _, _, rfl, (by assumption), (by assumption), (by assumption), (by rfl), ?_⟩ | refine ⟨_, _, _, _, rfl, upd_same, (by assumption), (by assumption), (by first | exact ixFs_len | exact (show (0 : Nat) < 1000 by decide) | exact (show (1 : Nat) < 1000 by decide) | exact (show (2 : Nat) < 1000 by decide) | exact (show (3 : Nat) < 1000 by decide) | exact (show (4 : Nat) < 1000 by decide) | exact (show (5 : Nat) < 1000 by decide) | exact (show (6 : Nat) < 1000 by decide)), ?_⟩ | refine ⟨_, _, _, _, rfl, (by assumption), (by assumption), (by assumption), (by first | exact ixFs_len | exact (show (0 : Nat) < 1000 by decide) | exact (show (1 : Nat) < 1000 by decide) | exact (show (2 : Nat) < 1000 by decide) | exact (show (3 : Nat) < 1000 by decide) | exact (show (4 : Nat) < 1000 by decide) | exact (show (5 : Nat) < 1000 by decide) | exact (show (6 : Nat) < 1000 by decide)), ?_⟩ | refine ⟨_, _, _, rfl, (by assumption), (by first | rfl | exact ixFs_no (by decide +kernel)), ?_⟩ | refine ⟨_, _, _, rfl, (by assumption), ?_⟩ | refine iteT ?_ | refine iteF ?_)))
/-! ### the function that looks -/
abbrev s_l_look : Stmt := match C8.fnBody s_l_within with | _ :: st :: _ => st | _ => s_l_within
theorem sc_l_look : NScope ["_law_inner", "_law_found", "_law_desk", "_law_told", "_law_one"] ["_law_inner"] ["_law_found", "_law_desk"] (C8.fnScope s_l_look) := nscope_by (by decide +kernel)
section
variable {P : Program} {w : World} {K : PySem.W.Frag} {mg : Str → Option Value} {base : Heap}
/-- the state while the function looks: Hs at its entry, ys the list found, ps the lists made here -/
structure LkS (K : PySem.W.Frag) (kd : Kd) (d a fl f : Addr) (F : NF) (x : Ix) (Hs : Hp) (ys : List V) (ps : List (Addr × List V)) (H : Hp) : Prop where
  ix : IxR K kd H a x
  dk : ∃ m, m ≤ 20 ∧ DkR K H d a m
  fn : H f = some (FnO f F)
  co : H F.c = some (CodeO F.c F.qual)
  fr : Kas [d, a, fl] Hs H
  li : H fl = some (.lst ys)
  al : ∀ p ∈ ps, H p.1 = some (.lst p.2) ∧ Hs p.1 = none ∧ p.1 ≠ fl
  nd : (ps.map (·.1)).Nodup
section
variable {kd : Kd} {d a fl f : Addr} {F : NF} {x : Ix} {Hs H H' : Hp} {ys zs : List V} {ps : List (Addr × List V)}
theorem LkS.hd (h : LkS K kd d a fl f F x Hs ys ps H) : ∃ ddx pp, H d = some (.ins (cDk K) ddx [("inbox", .ref a), ("pairs", .ref pp)]) := let ⟨_, _, ddx, pp, _, e, _, _⟩ := h.dk; ⟨ddx, pp, e⟩
theorem LkS.ha (h : LkS K kd d a fl f F x Hs ys ps H) : ∃ dx fs, H a = some (.ins (kd.C K) dx fs) := let ⟨dx, _, _, _, _, _, e, _⟩ := h.ix.ex; ⟨dx, _, e⟩
theorem LkS.lst (h : LkS K kd d a fl f F x Hs ys ps H) (k : Kas [d, a] H H') {b : Addr} {zs : List V} (e : H b = some (.lst zs)) : H' b = some (.lst zs) := by
  obtain ⟨_, _, h1⟩ := h.hd
  obtain ⟨_, _, h2⟩ := h.ha
  refine k.at_ _ _ (fun z => ?_) e
  rcases List.mem_cons.mp z with rfl | z
  · rw [h1] at e; cases e
  · obtain rfl := List.mem_singleton.mp z
    rw [h2] at e; cases e
theorem LkS.ext (h : LkS K kd d a fl f F x Hs ys ps H) (k : Kas [d, a] H H') {b : Addr} {o : HO} (e : H b = some o) (n : ∀ C dx fs, HO.ins C dx fs ≠ o) : H' b = some o := by
  obtain ⟨_, _, h1⟩ := h.hd
  obtain ⟨_, _, h2⟩ := h.ha
  refine k.at_ _ _ (fun z => ?_) e
  rcases List.mem_cons.mp z with rfl | z
  · rw [h1] at e; exact n _ _ _ (Option.some.inj e)
  · obtain rfl := List.mem_singleton.mp z
    rw [h2] at e; exact n _ _ _ (Option.some.inj e)
theorem LkS.new {p : Addr} (h : LkS K kd d a fl f F x Hs ys ps H) (hp : H p = none) : LkS K kd d a fl f F x Hs ys ((p, zs) :: ps) (L2.upd H p (.lst zs)) := by
  have s : Same H (L2.upd H p (.lst zs)) := .new hp
  have np : ∀ {b : Addr} {o : HO}, H b = some o → b ≠ p := fun e z => by rw [z, hp] at e; cases e
  have hs : Hs p = none := by
    cases e : Hs p with
    | none => rfl
    | some o =>
      by_cases hm : p ∈ [d, a, fl]
      · obtain ⟨_, _, h1⟩ := h.hd
        obtain ⟨_, _, h2⟩ := h.ha
        have h3 := h.li
        rcases List.mem_cons.mp hm with rfl | hm
        · rw [hp] at h1; cases h1
        · rcases List.mem_cons.mp hm with rfl | hm
          · rw [hp] at h2; cases h2
          · obtain rfl := List.mem_singleton.mp hm
            rw [hp] at h3; cases h3
      · have := h.fr.at_ _ _ hm e
        rw [hp] at this; cases this
  obtain ⟨m, hm, dk⟩ := h.dk
  refine ⟨h.ix.same s, ⟨m, hm, dk.same s⟩, s _ _ h.fn, s _ _ h.co, h.fr.trans (.of s), s _ _ h.li, fun q hq => ?_, ?_⟩
  · rcases List.mem_cons.mp hq with rfl | hq
    · exact ⟨upd_same, hs, Ne.symm (np h.li)⟩
    · obtain ⟨e1, e2, e3⟩ := h.al q hq
      exact ⟨s _ _ e1, e2, e3⟩
  · refine List.nodup_cons.mpr ⟨fun hm => ?_, h.nd⟩
    obtain ⟨q, hq, e⟩ := List.mem_map.mp hm
    exact np (h.al q hq).1 e
/-- a new object that is no list of ours -/
theorem LkS.sm (h : LkS K kd d a fl f F x Hs ys ps H) (s : Same H H') : LkS K kd d a fl f F x Hs ys ps H' := by
  obtain ⟨m, hm, dk⟩ := h.dk
  exact ⟨h.ix.same s, ⟨m, hm, dk.same s⟩, s _ _ h.fn, s _ _ h.co, h.fr.trans (.of s), s _ _ h.li, fun q hq => let ⟨e1, e2, e3⟩ := h.al q hq; ⟨s _ _ e1, e2, e3⟩, h.nd⟩
theorem LkS.wr {q : Addr} {o : HO} (h : LkS K kd d a fl f F x Hs ys ps H) {us : List V} (hq : H q = some (.lst us)) : IxR K kd (L2.upd H q o) a x ∧ (∃ m, m ≤ 20 ∧ DkR K (L2.upd H q o) d a m) ∧ (L2.upd H q o) f = some (FnO f F) ∧ (L2.upd H q o) F.c = some (CodeO F.c F.qual) := by
  have k : Ka q H (L2.upd H q o) := .own
  obtain ⟨m, hm, ddx, p, pps, h1, h2, h3⟩ := h.dk
  obtain ⟨dx, fs, ha⟩ := h.ha
  exact ⟨h.ix.keep (.own hq fun z => z) fun o' e => k.ob hq e (fun z => by rw [← z, ha] at e; cases e), ⟨m, hm, ddx, p, pps, k.ob hq h1 (fun z => by cases z), k.ob hq h2 (fun z => by cases z), h3⟩, k.ob hq h.fn fnO_lst, k.ob hq h.co codeO_lst⟩
theorem LkS.app {v : V} (h : LkS K kd d a fl f F x Hs ys ps H) : LkS K kd d a fl f F x Hs (ys ++ [v]) ps (L2.upd H fl (.lst (ys ++ [v]))) := by
  obtain ⟨w1, w2, w3, w4⟩ := h.wr (o := .lst (ys ++ [v])) h.li
  exact ⟨w1, w2, w3, w4, h.fr.trans (.ka .own (by simp)), upd_same, fun q hq => let ⟨e1, e2, e3⟩ := h.al q hq; ⟨(upd_ne e3).trans e1, e2, e3⟩, h.nd⟩
theorem LkS.put {p : Addr} {v : V} (h : LkS K kd d a fl f F x Hs ys ((p, zs) :: ps) H) : LkS K kd d a fl f F x Hs ys ((p, zs ++ [v]) :: ps) (L2.upd H p (.lst (zs ++ [v]))) := by
  obtain ⟨hp, hs, hf⟩ := h.al (p, zs) List.mem_cons_self
  obtain ⟨w1, w2, w3, w4⟩ := h.wr (o := .lst (zs ++ [v])) hp
  have nd := List.nodup_cons.mp h.nd
  refine ⟨w1, w2, w3, w4, h.fr.upd hs, (upd_ne (Ne.symm hf)).trans h.li, fun q hq => ?_, h.nd⟩
  rcases List.mem_cons.mp hq with rfl | hq
  · exact ⟨upd_same, hs, hf⟩
  · obtain ⟨e1, e2, e3⟩ := h.al q (List.mem_cons_of_mem _ hq)
    exact ⟨(upd_ne (fun z => nd.1 (List.mem_map.mpr ⟨q, hq, z⟩))).trans e1, e2, e3⟩
theorem LkS.say {c : Cmd} {line t : Str} {Q : VK} {E : XK} (h : LkS K kd d a fl f F x Hs ys ps H) (bq : Bq x) (co : CmdOk x c) (hx : resX x (runC kd x c) = x) (ht : resT (runC kd x c) = t) (hl : c.line = line) (k : ∀ H', LkS K kd d a fl f F x Hs ys ps H' → Q (.str t) H') : sp_say K kd [.ref d, .str line] H Q E := by
  obtain ⟨m, hm, dk⟩ := h.dk
  refine ⟨d, a, m, x, c, by rw [hl], dk, hm, h.ix, bq, co, fun H' ka dk' ix' => ?_⟩
  rw [ht]
  rw [hx] at ix'
  have fr' : Kas [d, a, fl] H H' := ⟨fun b o n e => ka.at_ b o (fun z => n (by rcases List.mem_cons.mp z with rfl | z; exact List.mem_cons_self; rw [List.mem_singleton.mp z]; simp)) e⟩
  exact k _ ⟨ix', ⟨_, Nat.min_le_right _ _, dk'⟩, h.ext ka h.fn fun _ _ _ => fnO_ins, h.ext ka h.co fun _ _ _ => codeO_ins, h.fr.trans fr', h.lst ka h.li, fun q hq => let ⟨e1, e2, e3⟩ := h.al q hq; ⟨h.lst ka e1, e2, e3⟩, h.nd⟩
end
theorem ok_look (kd : Kd) {d fl f c : Addr} {q : Str} {cl : List (Str × Addr)} {due : Str} (G : Gx K mg) (Gk : Gk K mg) (m_say : Met P w K mg base CX0 10 (cDk K) "say" (sp_say K kd)) (p_last : Prp P w K mg base 1 (kd.C K) "last" (sp_last K kd)) (p_taken : Prp P w K mg base 1 (kd.C K) "taken" (sp_taken K kd))
    (p_rules : Prp P w K mg base 1 (kd.C K) "rules" (sp_rules K kd)) (m_contains : Met P w K mg base CX0 5 (kd.C K) "__contains__" (sp_contains K kd)) (m_rlen : Met P w K mg base CX0 1 (cRu K) "__len__" (sp_rlen K)) :
    NOk P w K mg base CX0 11 f (NF.of s_l_look "_law_look" q cl c) ["_law_inner"] ["_law_found", "_law_desk"] (sp_look K kd d fl f (NF.of s_l_look "_law_look" q cl c) due [some (.ref fl), some (.ref d)]) := by
  refine nok_of sc_l_look (fun _ _ _ us hl => match us, hl with | [_], _ => rfl) (fun ws vs H Q E h => ?_) (fun A outer s H vs ws Q E hr hf hc hwl h => ?_)
  · obtain ⟨_, _, _, _, rfl, _⟩ := h
    rfl
  · obtain ⟨a, x, cn, rfl, rfl, ix, hb, bd, hpl, hnn, hdue, hcn, ex, k⟩ := h
    refine ⟨_, pss_cons (ps_expr (pe_bm PySem.F.plainAttrs_list PySem.F.slot_list_append PySem.F.type_list_append mt_append (pv 1) (pa_cons (pe_lst (pa_cons (pe_mX m_say hr (by decide) atN (pv 2) (pa_cons pe_str pa_nil)) (pa_cons (pe_mX m_say hr (by decide) atN (pv 2) (pa_cons pe_str pa_nil)) (pa_cons (pe_mX m_say hr (by decide) atN (pv 2) (pa_cons pe_str pa_nil)) (pa_cons (pe_mX m_say hr (by decide) atN (pv 2) (pa_cons pe_str pa_nil)) (pa_cons (pe_mX m_say hr (by decide) atN (pv 2) (pa_cons pe_str pa_nil)) pa_nil)))))) pa_nil))) (pss_cons (ps_expr (pe_bm PySem.F.plainAttrs_list PySem.F.slot_list_append PySem.F.type_list_append mt_append (pv 1) (pa_cons (pe_lst (pa_cons (pe_callTy call_str_int (by rfl) G.str (by decide +kernel) (pa_cons (pe_p p_last hr (by decide) (pv 0)) pa_nil)) (pa_cons (pe_join pe_str (by exact pe_lc (own := [("_law_one", 4)]) (by rfl) sc_l_look.nd (pi_tup (pe_p p_taken hr (by decide) (pv 0))) (blkOk_by (N := ["_law_inner", "_law_found", "_law_desk", "_law_told", "_law_one"]) (sc := defScope s_l_look) (by decide +kernel)) (fun _ _ _ _ _ => (pg_name (i := 4) sc_l_look.nd rfl (Or.inl rfl) (Or.inr rfl))) (fun _ _ _ _ _ => pts_nil) (fun _ _ _ _ _ => (pe_callTy call_str_int (by rfl) G.str (by decide +kernel) (pa_cons (pv 4) pa_nil))))) (pa_cons (pe_mX m_say hr (by decide) atN (pv 2) (pa_cons pe_str pa_nil)) pa_nil)))) pa_nil))) (pss_cons (ps_set (i := 3) sc_l_look.nd rfl (Or.inl rfl) (pe_ix ix_list (pe_lst (pa_cons pe_str (pa_cons pe_str pa_nil))) (pe_callTy call_int1 (by rfl) G.int (by decide +kernel) (pa_cons (pe_cmpR (op_in_own m_contains hr (by decide)) (pe_op op_add (pe_p p_last hr (by decide) (pv 0)) pe_int) (pv 0) rfl) pa_nil)) (fun _ _ => rfl)))
      (pss_one (ps_expr (pe_bm PySem.F.plainAttrs_list PySem.F.slot_list_append PySem.F.type_list_append mt_append (pe_ix ix_list (pv 1) (pe_un un_neg pe_int) (fun _ _ => rfl)) (pa_cons (pe_and (pe_cmpR op_eq (pe_mX m_say hr (by decide) atN (pv 2) (pa_cons (pe_op op_add_str pe_str (pe_callTy call_str_int (by rfl) G.str (by decide +kernel) (pa_cons (pe_op op_add (pe_p p_last hr (by decide) (pv 0)) pe_int) pa_nil))) pa_nil)) (pv 3) (nomark _)) (pe_one (pe_cmpR op_eq (pe_mX m_say hr (by decide) atN (pv 2) (pa_cons pe_str pa_nil)) (pe_callTy call_str_int (by rfl) G.str (by decide +kernel) (pa_cons (pe_callB (call_len_own m_rlen hr (by decide)) (by rfl) G.len (by decide +kernel) (pa_cons (pe_p p_rules hr (by decide) (pv 0)) pa_nil)) pa_nil)) (nomark _)))) pa_nil)))))), ?_⟩
    obtain ⟨dk0, ⟨xs, hfl, hxl, prs⟩, fn0, co0⟩ := ex
    have st : LkS K kd d a fl f (NF.of s_l_look "_law_look" q cl c) x H xs [] H := ⟨ix, dk0, fn0, co0, .of (.refl _), hfl, (fun p hp => nomatch hp), List.nodup_nil⟩
    obtain ⟨_, _, hd0⟩ := st.hd
    have bq : Bq x := ⟨bd.mono (by decide) (by decide) (by decide), hpl⟩
    have rB : ∀ (cm : Cmd), (cm = .hear 1 ∨ cm = .restart 1 ∨ cm = .undo) → runC kd x cm = .er .bu := fun cm h => by
      rcases h with rfl | rfl | rfl
      · exact if_pos hb
      · rfl
      · exact if_pos hb
    have hlast := bd.num.1
    obtain ⟨dx, r, l, p, w, ps, ha0, hru, hlf, _, _, _⟩ := ix.ex
    obtain ⟨l', dl, sv, nv, el, hl, hs, hn⟩ := hlf.ex
    obtain ⟨ddx, dfs, hd⟩ := st.hd
    have hli := st.li
    walk_at "w"
    dsimp only [tCons, tC, tNil]
    refine st.say (c := .hear 1) (t := eB) bq (show Sn 1 by decide) (by rw [rB _ (.inl rfl)]; rfl) (by rw [rB _ (.inl rfl)]; decide +kernel) (show (Cmd.hear 1).line = ("hear 1" : Str) by decide +kernel) fun H1 st => ?_
    obtain ⟨ddx, dfs, hd⟩ := st.hd
    have hli := st.li
    walk_at "w"
    dsimp only [tCons, tC, tNil]
    refine st.say (c := .restart 1) (t := eB) bq ⟨(show Sn 1 by decide), hb⟩ (by rw [rB _ (.inr (.inl rfl))]; rfl) (by rw [rB _ (.inr (.inl rfl))]; decide +kernel) (show (Cmd.restart 1).line = ("restart 1" : Str) by decide +kernel) fun H1 st => ?_
    obtain ⟨ddx, dfs, hd⟩ := st.hd
    have hli := st.li
    walk_at "w"
    dsimp only [tCons, tC, tNil]
    refine st.say (c := .undo) (t := eB) bq trivial (by rw [rB _ (.inr (.inr rfl))]; rfl) (by rw [rB _ (.inr (.inr rfl))]; decide +kernel) rfl fun H1 st => ?_
    obtain ⟨ddx, dfs, hd⟩ := st.hd
    have hli := st.li
    walk_at "w"
    dsimp only [tCons, tC, tNil]
    refine st.say (c := .last) (t := (nt x.leaf.sd.last)) bq trivial rfl rfl rfl fun H1 st => ?_
    obtain ⟨ddx, dfs, hd⟩ := st.hd
    have hli := st.li
    walk_at "w"
    dsimp only [tCons, tC, tNil]
    refine st.say (c := .taken) (t := (takenT x.leaf.nums)) bq trivial rfl rfl rfl fun H1 st => ?_
    walk_at "w"
    refine ⟨(show 5 ≤ sizeLine by decide), fun p1 hp1 => ?_⟩
    replace st := st.new (zs := [.str eB, .str eB, .str eB, .str (nt x.leaf.sd.last), .str (takenT x.leaf.nums)]) hp1
    have hli := st.li
    walk_at "w"
    refine ⟨_, _, _, rfl, rfl, hli, (by rw [sizeLine_eq]; omega), ?_⟩
    replace st := st.app (v := .ref p1)
    have hnum := bd.num.2
    have hnl := bd.len.1
    obtain ⟨ddx, dfs, hd⟩ := st.hd
    obtain ⟨adx, afs, ha⟩ := st.ha
    have hli := st.li
    walk_at "w"
    refine ⟨a, x, rfl, st.ix, ?_⟩
    walk_at "w"
    refine ⟨log_ok ⟨by omega, by omega⟩, ?_⟩
    walk_at "w"
    refine ⟨a, x, rfl, st.ix, fun v tv => ?_⟩
    obtain ⟨pn, xn, rfl, hpn, txn⟩ := tv.tds
    walk_at "w"
    have hz := txn.len
    rw [List.length_map] at hz
    intro Dn hDn
    generalize L2.upd (L2.upd H1 p1 (.lst [.str eB, .str eB, .str eB, .str (nt x.leaf.sd.last), .str (takenT x.leaf.nums)])) fl (.lst (xs ++ [.ref p1])) = H6 at *
    have hnS := bq.bd.num.2
    refine lc_tup (xs := xn) (fun j H2 => Same H6 H2 ∧ H2 Dn = some (.lst (((x.leaf.nums.take j).map nt).map V.str))) ?_ ?_ ?_ ?_
    · exact ⟨.new hDn, upd_same⟩
    · rintro j H2 hj ⟨s2, _⟩
      exact .of (s2 _ _ hpn)
    · rintro j y H2 hx ⟨s2, hD⟩
      have hj : j < x.leaf.nums.length := by
        have := (List.getElem?_eq_some_iff.mp hx).1
        rw [hz] at this
        exact this
      have hr9 : x.leaf.nums[j]? = some x.leaf.nums[j] := List.getElem?_eq_getElem hj
      have t9 := txn.all j y _ hx (by rw [List.getElem?_map, hr9]; rfl)
      cases t9.intE
      walk_at "w"
      refine ⟨log_ok (hnS _ (List.getElem_mem hj)), ?_⟩
      refine ⟨_, hD, small1000 (by simp; omega), s2.own hDn, ?_⟩
      rw [upd_same, take_snoc hr9, List.map_append, List.map_append]
      rfl
    · rintro H2 ⟨s2, hD⟩
      rw [hz, List.take_length] at hD
      replace st := st.sm s2
      walk_at "w"
      refine ⟨_, _, x.leaf.nums.map nt, rfl, rfl, .inl (.of hD), nts_sum' hnS (by omega), ?_⟩
      have eT : takenT x.leaf.nums = Txt.join (" " : Str) (x.leaf.nums.map nt) := if_neg hnn
      rw [← eT]
      clear hD s2 hpn
      obtain ⟨ddx, dfs, hd⟩ := st.hd
      have hli := st.li
      walk_at "w"
      dsimp only [tCons, tC, tNil]
      refine st.say (c := .fits) (t := due) bq trivial rfl hdue.symm (show Cmd.fits.line = ("fits 0+" : Str) by decide +kernel) fun H1 st => ?_
      refine ⟨(show 3 ≤ sizeLine by decide), fun p2 hp2 => ?_⟩
      replace st := st.new (zs := [.str (nt x.leaf.sd.last), .str (takenT x.leaf.nums), .str due]) hp2
      have hli := st.li
      refine ⟨_, _, _, rfl, rfl, hli, (by rw [sizeLine_eq, List.length_append]; show xs.length + 1 < _; omega), ?_⟩
      replace st := st.app (v := .ref p2)
      generalize L2.upd (L2.upd H1 p2 (.lst [.str (nt x.leaf.sd.last), .str (takenT x.leaf.nums), .str due])) fl (.lst (xs ++ [.ref p1] ++ [.ref p2])) = H7 at *
      clear hp2 hli
      have hSn : Sn (x.leaf.sd.last + 1) := ⟨by omega, by omega⟩
      obtain ⟨ddx, dfs, hd⟩ := st.hd
      obtain ⟨adx, afs, ha⟩ := st.ha
      have hli := st.li
      walk_at "w"
      have st7 := st
      have s8 : Same H7 (L2.upd H7 q (.lst [.str "no", .str "yes"])) := .new hq
      have hq8 : L2.upd H7 q (.lst [.str "no", .str "yes"]) q = some (.lst [.str "no", .str "yes"]) := upd_same
      replace st := st.sm s8
      generalize L2.upd H7 q (.lst [.str "no", .str "yes"]) = H8 at *
      obtain ⟨ddx, dfs, hd⟩ := st.hd
      obtain ⟨adx, afs, ha⟩ := st.ha
      have hli := st.li
      walk_at "w"
      refine ⟨a, x, rfl, st.ix, ?_⟩
      walk_at "w"
      refine ⟨a, x, x.leaf.sd.last + 1, rfl, st.ix, fun H9 s9 => ⟨_, rfl, ?_⟩⟩
      replace st := st.sm s9
      have hq9 := s9 _ _ hq8
      refine .inr ⟨_, rfl, ?_⟩
      have hat : atI [V.str "no", V.str "yes"] (if wouldF x (x.leaf.sd.last + 1) = true then 1 else 0) = some (V.str (ynT (wouldF x (x.leaf.sd.last + 1)))) := by cases wouldF x (x.leaf.sd.last + 1) <;> rfl
      refine ⟨_, _, _, _, rfl, rfl, .of hq9, hat, ?_⟩
      have hp2 := (st.al _ List.mem_cons_self).1
      obtain ⟨ddx, dfs, hd⟩ := st.hd
      obtain ⟨adx, afs, ha⟩ := st.ha
      have hli := st.li
      walk_at "w"
      refine ⟨_, _, _, _, rfl, rfl, .of hli, atI_last _ _, ?_⟩
      obtain ⟨ddx, dfs, hd⟩ := st.hd
      obtain ⟨adx, afs, ha⟩ := st.ha
      have hli := st.li
      walk_at "w"
      refine ⟨a, x, rfl, st.ix, ?_⟩
      walk_at "w"
      refine ⟨log_ok hSn, _, _, rfl, rfl, Nat.le_trans (Nat.add_le_add (show ("would " : Str).length ≤ 6 by decide) (nt_ok hSn).1) (by decide), ?_⟩
      dsimp only [tCons, tC, tNil]
      refine st.say (c := .would (x.leaf.sd.last + 1)) (t := ynT (wouldF x (x.leaf.sd.last + 1))) bq hSn rfl rfl rfl fun H1 st => ?_
      obtain ⟨ddx, dfs, hd⟩ := st.hd
      obtain ⟨adx, afs, ha⟩ := st.ha
      have hli := st.li
      walk_at "w"
      refine iteDT rfl ?_
      walk_at "w"
      dsimp only [tCons, tC, tNil]
      refine st.say (c := .form) (t := (toString ((x.nl : Nat) : Int) : String)) bq trivial rfl rfl rfl fun H1 st => ?_
      obtain ⟨ddx, dfs, hd⟩ := st.hd
      obtain ⟨adx, afs, ha⟩ := st.ha
      have hli := st.li
      walk_at "w"
      refine ⟨a, x, rfl, st.ix, fun r1 ru1 => ?_⟩
      obtain ⟨rdx, hv, lp, ls, hr1, hhv, hlp, hll⟩ := ru1.ex
      walk_at "w"
      have hnl := ru1.nl
      refine ⟨by omega, _, rfl, log_ok (sN (by omega)), ?_⟩
      have hp2 := (st.al _ List.mem_cons_self).1
      walk_at "w"
      have ed : (V.bl (decide (V.str (toString ((x.nl : Nat) : Int) : String) = V.str (toString ((x.nl : Nat) : Int) : String)))) = V.bl true := congrArg V.bl (decide_eq_true rfl)
      rw [ed]
      refine ⟨_, _, _, rfl, rfl, hp2, (show 3 < sizeLine by decide), ?_⟩
      have st9 := st.put (v := .bl true)
      have prs' : Prs (L2.upd H1 p2 (.lst ([.str (nt x.leaf.sd.last), .str (takenT x.leaf.nums), .str due] ++ [.bl true]))) due xs := prs.keep fun b ys e ⟨y, hy⟩ => st9.fr.at_ _ _ (by
        intro hm
        rcases List.mem_cons.mp hm with rfl | hm
        · rw [hd0] at e; cases e
        · rcases List.mem_cons.mp hm with rfl | hm
          · rw [ha0] at e; cases e
          · obtain rfl := List.mem_singleton.mp hm
            rw [hfl] at e
            obtain rfl := HO.lst.inj (Option.some.inj e)
            exact prs.head y hy) e
      have hp1 := (st9.al _ (List.mem_cons_of_mem _ List.mem_cons_self)).1
      have hp2 := (st9.al _ List.mem_cons_self).1
      exact k _ st9.fr st9.ix ⟨st9.dk, ⟨_, st9.li, by rw [List.length_append, List.length_append]; show xs.length + 1 + 1 ≤ _; omega, prs'.snoc ⟨_, _, .ofNt bq.bd.num.1, .taken hnS, hp1, hp2⟩⟩, st9.fn, st9.co⟩
end
end K8
set_option maxHeartbeats 4000000
namespace K8
open PySem PySem.Spec PyProof.Rows L2 NdefX LamX
set_option hygiene false in
local macro_rules | `(tactic| walk_at "w") => `(tactic| (repeat (first | refine ⟨_, rfl, ?_⟩ | refine ⟨_, _, rfl, rfl, ?_⟩ | refine ⟨rfl, ?_⟩ | refine ⟨_, _, rfl, ?_⟩ | refine ⟨_, _, rfl, .of upd_same, rfl, ?_⟩ | refine ⟨_, _, rfl, .of (by assumption), rfl, ?_⟩ | refine ⟨_, _, rfl, .of (by assumption), fun q hq => ?_⟩ | refine ⟨_, _, rfl, .of (by assumption), ?_⟩ | refine ⟨_, _, rfl, .inr (.of (by assumption)), ?_⟩ | refine ⟨_, _, rfl, .inl (.of (by assumption)), ?_⟩ | refine ⟨_, _, _, _, rfl, rfl, .of (by assumption), atI_nat (j := 0) rfl, ?_⟩ | refine ⟨_, _, _, _, rfl, rfl, .of (by assumption), atI_nat (j := 1) rfl, ?_⟩ | refine ⟨_, _, _, _, rfl, rfl, .of (by assumption), atI_nat (j := 2) rfl, ?_⟩ | refine ⟨fun z => absurd z.1 (show ¬ (1 : Nat) = 0 by decide), fun _ q hq => ?_⟩ | refine ⟨fun z => absurd z.1 (show ¬ (2 : Nat) = 0 by decide), fun _ q hq => ?_⟩ | refine ⟨sz1, fun q hq => ?_⟩ | refine ⟨sz2, fun q hq => ?_⟩ | refine ⟨sz3, fun q hq => ?_⟩ | refine ⟨sz0, fun q hq => ?_⟩ | refine ⟨_, _, _, rfl, rfl, (by assumption), (by assumption), ?_⟩ | refine ⟨.inl ⟨rfl, _, .of (by assumption)⟩, ?_⟩ | refine ⟨_, _, rfl, .inl ⟨.of (by assumption), fun q hq => ?_⟩⟩ | refine ⟨⟨_, .of (by assumption)⟩, ?_⟩ | refine ⟨⟨_, rfl⟩, ?_⟩ | refine ⟨.inl ⟨rfl, _, .of upd_same⟩, ?_⟩ | refine ⟨_, _, _, _, _, rfl, (by assumption), (by assumption), (by assumption), (by rfl), ?_⟩ | refine ⟨_, _, _, _, rfl, upd_same, (by assumption), (by assumption), (by first | exact ixFs_len | exact (show (0 : Nat) < 1000 by decide) | exact (show (1 : Nat) < 1000 by decide) | exact (show (2 : Nat) < 1000 by decide) | exact (show (3 : Nat) < 1000 by decide) | exact (show (4 : Nat) < 1000 by decide) | exact (show (5 : Nat) < 1000 by decide) | exact (show (6 : Nat) < 1000 by decide)), ?_⟩ | refine ⟨_, _, _, _, rfl, (by assumption), (by assumption), (by assumption), (by first | exact ixFs_len | exact (show (0 : Nat) < 1000 by decide) | exact (show (1 : Nat) < 1000 by decide) | exact (show (2 : Nat) < 1000 by decide) | exact (show (3 : Nat) < 1000 by decide) | exact (show (4 : Nat) < 1000 by decide) | exact (show (5 : Nat) < 1000 by decide) | exact (show (6 : Nat) < 1000 by decide)), ?_⟩ | refine ⟨_, _, _, rfl, (by assumption), (by first | rfl | exact ixFs_no (by decide +kernel)), ?_⟩ | refine ⟨_, _, _, rfl, (by assumption), ?_⟩ | refine iteT ?_ | refine iteF ?_)))
/-! ### within -/
section
variable (P : Program) (w : World) (K : PySem.W.Frag) (mg : Str → Option Value) (base : Heap)
/-- a def whose code object is the one at c -/
def DfC (x : Str) (st : Stmt) (c : Addr) : Prop := ∃ f fd, Fun K x x st f fd ∧ mg x = some (.ref f) ∧ fd.code = .ref c
structure HaI where
  d : Addr
  fl : Addr
  f : Addr
  c : Addr
  due : Str
/-- hear_all with the function that looks -/
def HaP (kd : Kd) : Prop := ∀ (q : Str) (cl : List (Str × Addr)), MetFK P w K mg base (fun i : HaI => capP cl ["_law_found", "_law_desk"] [some (.ref i.fl), some (.ref i.d)]) (L2.CX P w) 13 (kd.C K) "hear_all" 2 ["on_take"] fun i : HaI => sp_hear_all K kd i.d i.fl i.f (NF.of s_l_look "_law_look" q cl i.c) i.due
end
section
variable {P : Program} {w : World} {K : PySem.W.Frag} {mg : Str → Option Value} {base : Heap}
theorem ok_HaP (kd : Kd) (D : Md K (kd.C K) "hear_all" "Inbox.hear_all" s_Inbox_hear_all) (Dr : Md K (kd.C K) "hear_row" "Inbox.hear_row" s_Inbox_hear_row) (G : Gx K mg) (Gk : Gk K mg) (m_require_idle : Met P w K mg base (L2N.CX P w) 1 (kd.C K) "require_idle" (sp_require_idle K kd)) (m_require_open : Met P w K mg base (L2N.CX P w) 2 (kd.C K) "require_open" (sp_require_open K kd))
    (m_require_room : Met P w K mg base CX0 1 (kd.C K) "require_room" (sp_require_room K kd)) (m_note : Met P w K mg base CX0 1 (kd.C K) "note" (sp_note K kd)) (c_require_number : Cal P w K mg base CX0 2 "require_number" sp_require_number) (m_hear_one : Met P w K mg base (L2N.CX P w) 5 (kd.C K) "hear_one" (sp_hear_one K kd))
    (m_say : Met P w K mg base CX0 10 (cDk K) "say" (sp_say K kd)) (p_last : Prp P w K mg base 1 (kd.C K) "last" (sp_last K kd)) (p_taken : Prp P w K mg base 1 (kd.C K) "taken" (sp_taken K kd)) (p_rules : Prp P w K mg base 1 (kd.C K) "rules" (sp_rules K kd))
    (m_contains : Met P w K mg base CX0 5 (kd.C K) "__contains__" (sp_contains K kd)) (m_rlen : Met P w K mg base CX0 1 (cRu K) "__len__" (sp_rlen K)) : HaP P w K mg base kd := fun q cl => by
  obtain ⟨f, fd, F, c, hm⟩ := D
  exact ⟨f, fd, ["self", "value", "on_take"], fun i => ok_hear_all kd F G Gk m_require_idle m_require_open m_require_room m_note c_require_number (ok_hear_row kd Dr G Gk m_hear_one (ok_look kd G Gk m_say p_last p_taken p_rules m_contains m_rlen)), c, hm,
    kbnK F (fun _ _ _ _ _ _ us ws h1 h2 => match us, ws, h1, h2 with | [_, _], [_], _, _ => rfl)⟩
theorem takes0 {X : Cx} : L2.Takes X (fun _ _ _ _ => False) := fun _ _ x => by
  obtain ⟨_, _, _, _, _, _, _, _, _, _, _, _, _, _, _, _, z⟩ := x
  exact z.elim
/-- what is kept but the objects at L and the tables of code -/
structure Kx (L : List Addr) (H H' : Hp) : Prop where
  at_ : ∀ b o, b ∉ L → (∀ ps, o ≠ .tbl ps) → H b = some o → H' b = some o
theorem Kx.of {L : List Addr} {H H' : Hp} (k : Kas L H H') : Kx L H H' := ⟨fun b o n _ e => k.at_ b o n e⟩
theorem Kx.trans {L : List Addr} {H H1 H2 : Hp} (x : Kx L H H1) (y : Kx L H1 H2) : Kx L H H2 := ⟨fun b o n t e => y.at_ b o n t (x.at_ b o n t e)⟩
/-- what is found: pairs, and perhaps the word at the end -/
def fndL (h : Bool) (xs : List V) : List V := if h then xs ++ [.str "halted"] else xs
def sp_within (K : PySem.W.Frag) (kd : Kd) (T : List NTab) : Sp := fun vs H Q _ => ∃ (a d vl : Addr) (m : Nat) (x : Ix) (n : Int) (ns : List Int), vs = [.ref a, .ref d, .ref vl] ∧ TabsN T H ∧ H vl = some (.lst ((n :: ns).map .int)) ∧ (n :: ns).length ≤ 20 ∧ (∀ m ∈ n :: ns, -190 ≤ m ∧ m ≤ 190) ∧ IxR K kd H a x ∧ x.busy = false ∧ Bd 50 (-190) 190 x ∧ x.past.length + (n :: ns).length + 1 ≤ 60 ∧ DkR K H d a m ∧ m ≤ 20 ∧
  ∀ H' fl xs (h : Bool), Kx [d, a] H H' → TabsN T H' → xs.length ≤ 100 → Prs H' (rst (fitsF x.R)) xs → H' fl = some (.lst (fndL h xs)) → Q (.ref fl) H'
theorem calC {x : Str} {st : Stmt} {c : Addr} {N ps : List Str} {k : Nat} {sp : Sp} (D : DfC K mg x st c) (S : FnScope N ps (defScope st)) (b : BindA x x st ps) (len : ∀ vs H Q E, sp vs H Q E → vs.length = ps.length)
    (hbody : ∀ (f : Addr) (A : Around) (outer : List Env) (s : Shared) (H : Hp) (vs : List V) (Q : VK) (E : XK), Room k (A.deeper (envOfC x (defScope st) s.heap.objs.size f (.ref c))) → sp vs H Q E →
      ∃ t, PSs (cxOf CX0 P w K mg base N x (defScope st) f (.ref c) A outer s H E).nox (defBody st) t ∧ t { nx := fun _ H' => Q .non H', rt := Q } (start N vs) H) : Cal P w K mg base CX0 (k + 1) x sp := by
  obtain ⟨f, fd, F, hm, hc⟩ := D
  have bb := F.binds b
  have kp := F.kp
  obtain ⟨oc, od, kV, doc, pm, an, cdv, ct, osl, rfl, lk, hcd⟩ := F.ex
  obtain rfl : cdv = .ref c := hc
  exact ⟨f, _, ps, fn_of lk hcd S len fun A outer s H vs Q E hr hsp => by
    obtain ⟨t, h, q⟩ := hbody f A outer s H vs Q E hr hsp
    exact ⟨t, h.nox, q⟩, hm, kp, bb⟩
def g_ha : HaI → L2.St → Prop := fun i σ => [3, 1].map (slotAt σ) = [some (.ref i.fl), some (.ref i.d)]
theorem look_free : ∀ y ∈ (C8.fnScope s_l_look).names, y.2 = .free → (defScope s_l_within).names.lookup y.1 = some .cell ∨ (defScope s_l_within).names.lookup y.1 = some .free := by decide +kernel
theorem look_fr : ∀ y ∈ (["_law_found", "_law_desk"] : List Str), (y, NameKind.free) ∈ (C8.fnScope s_l_look).names := by decide +kernel
theorem tabs_kas {T : List NTab} {L : List Addr} {H H' : Hp} (t : TabsN T H) (k : Kas L H H') (hL : ∀ b ∈ L, (∃ C dx fs, H b = some (.ins C dx fs)) ∨ ∃ ys, H b = some (.lst ys)) : TabsN T H' := fun p hp => by
  obtain ⟨ps, h1, h2, h3⟩ := t p hp
  have nl : ∀ b o, H b = some o → (∀ C dx fs, HO.ins C dx fs ≠ o) → (∀ ys, HO.lst ys ≠ o) → H' b = some o := fun b o e n1 n2 => k.at_ b o (fun z => by
    rcases hL b z with ⟨C, dx, fs, q⟩ | ⟨ys, q⟩
    · rw [q] at e; exact n1 _ _ _ (Option.some.inj e)
    · rw [q] at e; exact n2 _ (Option.some.inj e)) e
  refine ⟨ps, nl _ _ h1 (fun _ _ _ z => by cases z) (fun _ z => by cases z), h2, fun pos cv hc => ?_⟩
  obtain ⟨c, e1, e2⟩ := h3 pos cv hc
  exact ⟨c, e1, nl _ _ e2 (fun _ _ _ => codeO_ins) fun _ => codeO_lst⟩
theorem ok_within (kd : Kd) {c P0 : Addr} (D : DfC K mg "_law_within" s_l_within c) (TB : TabB base mg c P0) (G : Gx K mg) (Gk : Gk K mg) (gH : mg "Halted" = some (xHa K)) (gX : PySem.W.exmOne K (xHa K) (xHa K) = some true) (m_hear_all : HaP P w K mg base kd) :
    Cal P w K mg base CX0 14 "_law_within" (sp_within K kd [(P0, fun _ _ => "_law_within.<locals>._law_look")]) := by
  refine calC D sc_l_within (fun _ _ _ _ _ _ us hl => match us, hl with | [_, _, _], _ => rfl) (fun vs H Q E h => ?_) (fun f A outer s H vs Q E hr h => ?_)
  · obtain ⟨_, _, _, _, _, _, _, rfl, _⟩ := h
    rfl
  · obtain ⟨a, d, vl, m, x, n, ns, rfl, hT, hvl, hl, hns, ix, hb, bd, hpl, dk, hm, k⟩ := h
    refine ⟨_, pss_cons (ps_set (i := 3) sc_l_within.nd rfl (Or.inr rfl) (pe_lst pa_nil)) (pss_cons (ps_ndefMS (X := (cxOf CX0 P w K mg base ["_law_inbox", "_law_desk", "_law_numbers", "_law_found", "_law_look"] "_law_within" (defScope s_l_within) f (.ref c) A outer s H E).nox) (st := s_l_look) (T := [(P0, fun _ _ => "_law_within.<locals>._law_look")]) (i := 4) rfl TB rfl List.mem_cons_self (by rfl) (fun p hp _ => by rw [List.mem_singleton.mp hp]) look_free rfl rfl rfl sc_l_within.nd rfl (Or.inl rfl) (Or.inr rfl))
      (pss_cons (ps_try_only (tb := fun W => tDrop (tMFK g_ha (kd.C K) "hear_all" 1 ["on_take"] (fun i : HaI => sp_hear_all K kd i.d i.fl i.f (NF.of s_l_look "_law_look" "_law_within.<locals>._law_look" (cloFrom (envOfC "_law_within" (defScope s_l_within) s.heap.objs.size f (.ref c)).cells (C8.fnScope s_l_look).names []) i.c) i.due) (WE W) (tVar 0) (tCons (tVar 2) tNil) (tCons (tVar 4) tNil)))
        (ts := fun _ _ _ => tDrop (tBM K "list" rAppend (tVar 3) (tCons (tC (.str "halted")) tNil))) (Wout := fun _ _ _ _ => False) rfl rfl ⟨rfl, by decide, Or.inl gH⟩ takes0
        (fun W pn xe tk _ => pss_one (ps_expr (by exact pe_mFK (g := g_ha) (fun i σ H e pins s I => by rw [← e]; exact cells_of I (Caps.made I.ok look_free look_fr rfl)) (m_hear_all _ _) hr (by decide) (fun σ => passAt tk σ) (pv 0) (pa_cons (pv 2) pa_nil) (pk_cons (pv 4) pk_nil))))
        (fun a oe cls d pn hz hf => by exact pss_one (ps_expr (pe_bm PySem.F.plainAttrs_list PySem.F.slot_list_append PySem.F.type_list_append mt_append (pv 3) (pa_cons pe_str pa_nil)))))
      (pss_one (ps_ret (pv 3))))), ?_⟩
    obtain ⟨adx, r, l, p, w1, ps, ha, _⟩ := ix.ex
    obtain ⟨ddx, pp, pps, hd, hpp, hppl⟩ := dk.ex
    walk_at "w"
    have s1 : Same H (L2.upd H q (.lst [])) := .new hq
    have hq1 : L2.upd H q (.lst []) q = some (.lst []) := upd_same
    generalize L2.upd H q (.lst []) = H1 at *
    refine ⟨hT.ext s1, fun lf lc H2 en nn t2 hf0 hf2 hc2 => ?_⟩
    have e02 : ∀ b o, H b = some o → (∀ ps, o ≠ .tbl ps) → H2 b = some o := fun b o e n => en b o (s1 _ _ e) n
    have ha2 := e02 _ _ ha (fun _ z => by cases z)
    have hd2 := e02 _ _ hd (fun _ z => by cases z)
    have hvl2 := e02 _ _ hvl (fun _ z => by cases z)
    have hq2 := en _ _ hq1 (fun _ z => by cases z)
    have fz2 : Fz K H H2 := ⟨fun b o f e => e02 b o e fun ps z => by rw [z] at f; exact f⟩
    have ix2 := ix.keep fz2 fun o e => (by rw [ha] at e; cases e; exact ha2)
    have dk2 : DkR K H2 d a m := ⟨ddx, pp, pps, hd2, e02 _ _ hpp (fun _ z => by cases z), hppl⟩
    walk_at "w"
    have kx : ∀ H3, Kas [d, a, q] H2 H3 → Kx [d, a] H H3 := fun H3 k3 => ⟨fun b o nb nt e => k3.at_ b o (fun z => by
      rcases List.mem_cons.mp z with rfl | z
      · exact nb List.mem_cons_self
      · rcases List.mem_cons.mp z with rfl | z
        · exact nb (List.mem_cons_of_mem _ List.mem_cons_self)
        · obtain rfl := List.mem_singleton.mp z
          rw [hq] at e; cases e) (e02 b o e nt)⟩
    have tk : ∀ H3, Kas [d, a, q] H2 H3 → TabsN [(P0, fun _ _ => "_law_within.<locals>._law_look")] H3 := fun H3 k3 => tabs_kas t2 k3 fun b z => by
      rcases List.mem_cons.mp z with rfl | z
      · exact .inl ⟨_, _, _, hd2⟩
      · rcases List.mem_cons.mp z with rfl | z
        · exact .inl ⟨_, _, _, ha2⟩
        · obtain rfl := List.mem_singleton.mp z
          exact .inr ⟨_, hq2⟩
    refine ⟨⟨d, q, lf, lc, rst (fitsF x.R)⟩, rfl, a, vl, x, n, ns, 0, rfl, hvl2, hl, hns, ix2, hb, bd, hpl, rfl, by decide, ⟨⟨m, hm, dk2⟩, ⟨[], hq2, Nat.zero_le _, .nil⟩, hf2, hc2⟩, fun H3 v k3 ⟨c', hc', ex3⟩ => ?_, fun H3 k3 ⟨c', hc', ex3⟩ => ?_⟩
    · obtain ⟨xs, l1, l2, l3⟩ := ex3.li
      walk_at "w"
      exact k _ q xs false (kx _ k3) (tk _ k3) (by omega) l3 l1
    · obtain ⟨xs, l1, l2, l3⟩ := ex3.li
      refine ⟨true, gX, fun _ a0 ha0 => ?_, fun z => Bool.noConfusion z⟩
      walk_at "w"
      have k4 : Kas [d, a, q] H2 (L2.upd H3 q (.lst (xs ++ [.str "halted"]))) := k3.trans (.ka .own (by simp))
      have l4 : Prs (L2.upd H3 q (.lst (xs ++ [.str "halted"]))) (rst (fitsF x.R)) xs := l3.keep fun b ys e ⟨y, hy⟩ => (upd_ne fun z => by
        rw [z, l1] at e
        obtain rfl := HO.lst.inj (Option.some.inj e)
        exact l3.head y hy).trans e
      refine ⟨_, _, _, rfl, rfl, l1, by rw [sizeLine_eq]; omega, ?_⟩
      walk_at "w"
      exact k _ q xs true (kx _ k4) (tk _ k4) (by omega) l4 upd_same
end
end K8
set_option maxHeartbeats 4000000
namespace K8
open PySem PySem.Spec PyProof.Rows L2 NdefX LamX
set_option hygiene false in
local macro_rules | `(tactic| walk_at "w") => `(tactic| (repeat (first | refine ⟨_, rfl, ?_⟩ | refine ⟨_, _, rfl, rfl, ?_⟩ | refine ⟨rfl, ?_⟩ | refine ⟨_, _, rfl, ?_⟩ | refine ⟨_, _, rfl, .of upd_same, rfl, ?_⟩ | refine ⟨_, _, rfl, .of (by assumption), rfl, ?_⟩ | refine ⟨_, _, rfl, .of (by assumption), fun q hq => ?_⟩ | refine ⟨_, _, rfl, .of (by assumption), ?_⟩ | refine ⟨_, _, rfl, .inr (.of (by assumption)), ?_⟩ | refine ⟨_, _, rfl, .inl (.of (by assumption)), ?_⟩ | refine ⟨_, _, _, _, rfl, rfl, .of (by assumption), atI_nat (j := 0) rfl, ?_⟩ | refine ⟨_, _, _, _, rfl, rfl, .of (by assumption), atI_nat (j := 1) rfl, ?_⟩ | refine ⟨_, _, _, _, rfl, rfl, .of (by assumption), atI_nat (j := 2) rfl, ?_⟩ | refine ⟨fun z => absurd z.1 (show ¬ (1 : Nat) = 0 by decide), fun _ q hq => ?_⟩ | refine ⟨fun z => absurd z.1 (show ¬ (2 : Nat) = 0 by decide), fun _ q hq => ?_⟩ | refine ⟨sz1, fun q hq => ?_⟩ | refine ⟨sz2, fun q hq => ?_⟩ | refine ⟨sz3, fun q hq => ?_⟩ | refine ⟨sz0, fun q hq => ?_⟩ | refine ⟨_, _, _, rfl, rfl, (by assumption), (by assumption), ?_⟩ | refine ⟨.inl ⟨rfl, _, .of (by assumption)⟩, ?_⟩ | refine ⟨_, _, rfl, .inl ⟨.of (by assumption), fun q hq => ?_⟩⟩ | refine ⟨⟨_, .of (by assumption)⟩, ?_⟩ | refine ⟨⟨_, rfl⟩, ?_⟩ | refine ⟨.inl ⟨rfl, _, .of upd_same⟩, ?_⟩ | refine ⟨_, _, _, _, _, rfl, (by assumption), (by assumption), (by assumption), (by rfl), ?_⟩ | refine ⟨_, _, _, _, rfl, upd_same, (by assumption), (by assumption), (by first | exact ixFs_len | exact (show (0 : Nat) < 1000 by decide) | exact (show (1 : Nat) < 1000 by decide) | exact (show (2 : Nat) < 1000 by decide) | exact (show (3 : Nat) < 1000 by decide) | exact (show (4 : Nat) < 1000 by decide) | exact (show (5 : Nat) < 1000 by decide) | exact (show (6 : Nat) < 1000 by decide)), ?_⟩ | refine ⟨_, _, _, _, rfl, (by assumption), (by assumption), (by assumption), (by first | exact ixFs_len | exact (show (0 : Nat) < 1000 by decide) | exact (show (1 : Nat) < 1000 by decide) | exact (show (2 : Nat) < 1000 by decide) | exact (show (3 : Nat) < 1000 by decide) | exact (show (4 : Nat) < 1000 by decide) | exact (show (5 : Nat) < 1000 by decide) | exact (show (6 : Nat) < 1000 by decide)), ?_⟩ | refine ⟨_, _, _, rfl, (by assumption), (by first | rfl | exact ixFs_no (by decide +kernel)), ?_⟩ | refine ⟨_, _, _, rfl, (by assumption), ?_⟩ | refine iteT ?_ | refine iteF ?_)))
/-! ### within_right -/
section
variable {P : Program} {w : World} {K : PySem.W.Frag} {mg : Str → Option Value} {base : Heap}
theorem Fl.ofStr {x : Str} (n : Nat) (h : Sk x) : Fl n (.str x) := ⟨h, Nat.zero_le _⟩
theorem dp_all {H : Hp} {G : PyData → Prop} : ∀ {xs : List V}, (∀ x ∈ xs, ∃ d, Dp K H x d ∧ G d) → ∃ ds, DpAll K H xs ds ∧ ∀ d ∈ ds, G d
  | [], _ => ⟨[], .nil, fun d h => nomatch h⟩
  | x :: xs, h => by
    obtain ⟨d, h1, h2⟩ := h x List.mem_cons_self
    obtain ⟨ds, h3, h4⟩ := dp_all fun y hy => h y (List.mem_cons_of_mem _ hy)
    exact ⟨d :: ds, .cons h1 h3, fun e he => (List.mem_cons.mp he).elim (fun z => z ▸ h2) (h4 e)⟩
theorem dp_app {H : Hp} : ∀ {xs ys : List V} {ds es : List PyData}, DpAll K H xs ds → DpAll K H ys es → DpAll K H (xs ++ ys) (ds ++ es)
  | _, _, _, _, .nil, h => h
  | _, _, _, _, .cons a b, h => .cons a (dp_app b h)
theorem Prs.dp {H : Hp} {due : Str} {xs : List V} (p : Prs H due xs) (hd : Sk due) : ∃ ds, DpAll K H xs ds ∧ ∀ d ∈ ds, Fl 1 d ∧ PyData.eqv d (.str "halted") = false := by
  refine dp_all fun x hx => ?_
  obtain ⟨i, hi⟩ := List.mem_iff_getElem?.mp hx
  have hl := (List.getElem?_eq_some_iff.mp hi).1
  have ev := p.ev
  obtain ⟨a, b, e1, e2, t1, t2, s1, s2, h1, h2⟩ := p.at_ (i / 2) (by omega)
  have sb : Sk eB := by decide +kernel
  rcases (by omega : 2 * (i / 2) = i ∨ 2 * (i / 2) + 1 = i) with e | e
  · rw [e, hi] at e1
    cases e1
    exact ⟨_, .lst (.of h1) (.cons (.str _) (.cons (.str _) (.cons (.str _) (.cons (.str _) (.cons (.str _) .nil))))), Fl.lst (n := 0) (fun d hd => by
      simp only [List.mem_cons, List.not_mem_nil, or_false] at hd
      rcases hd with rfl | rfl | rfl | rfl | rfl
      · exact .ofStr 0 sb
      · exact .ofStr 0 sb
      · exact .ofStr 0 sb
      · exact .ofStr 0 s1
      · exact .ofStr 0 s2), rfl⟩
  · rw [e, hi] at e2
    cases e2
    exact ⟨_, .lst (.of h2) (.cons (.str _) (.cons (.str _) (.cons (.str _) (.cons (.bl _) .nil)))), Fl.lst (n := 0) (fun d hd' => by
      simp only [List.mem_cons, List.not_mem_nil, or_false] at hd'
      rcases hd' with rfl | rfl | rfl | rfl
      · exact .ofStr 0 s1
      · exact .ofStr 0 s2
      · exact .ofStr 0 hd
      · exact .bool 0 true), rfl⟩
def sp_within_right : Sp := fun vs H Q _ => ∃ (fl : Addr) (due : Str) (xs : List V) (h : Bool), vs = [.ref fl, .str due] ∧ H fl = some (.lst (fndL h xs)) ∧ xs.length ≤ 100 ∧ Prs H due xs ∧ Sk due ∧ ∀ H', Same H H' → Q (.bl true) H'
theorem ok_within_right (D : Df K mg "_law_within_right" s_l_within_right) (G : Gx K mg) : Cal P w K mg base CX0 1 "_law_within_right" sp_within_right := by
  refine cal0 D sc_l_within_right (fun _ _ _ _ _ _ us hl => match us, hl with | [_, _], _ => rfl) (fun vs H Q E h => ?_) (fun f cdv A outer s H vs Q E hr h => ?_)
  · obtain ⟨_, _, _, _, rfl, _⟩ := h
    rfl
  · obtain ⟨fl, due, xs, h, rfl, hfl, hxl, prs, hdue, k⟩ := h
    have hu : (A.deeper (envOfC "_law_within_right" (defScope s_l_within_right) s.heap.objs.size f cdv)).units + 65 < cLine := by have := hr.un; omega
    refine ⟨_, (pss_cons (ps_for PassesOwn.never rfl (pi_range3 (by rfl) G.range (pa_cons pe_int (pa_cons (pe_op op_sub (pe_callB call_len_seq (by rfl) G.len (by decide +kernel) (pa_cons (pv 0) pa_nil)) (pe_callTy call_int1 (by rfl) G.int (by decide +kernel) (pa_cons (pe_cmpR (op_inD hu) pe_str (pv 0) rfl) pa_nil))) (pa_cons pe_int pa_nil)))) (pg_name (i := 2) sc_l_within_right.nd rfl (Or.inl rfl)) (pss_one (ps_if (PW.pt (pw_or (pt_cmpR (op_neD hr.units) (pe_slice sl_list (pe_ix ix_list (pv 0) (pv 2) (fun _ _ => rfl)) po_none (po_some pe_int)) (pe_op op_rep (pe_lst (pa_cons pe_str pa_nil)) pe_int) (nomark _)) (pw_or (pt_cmpR (op_neD hr.units) (pe_slice sl_list (pe_ix ix_list (pv 0) (pv 2) (fun _ _ => rfl)) (po_some pe_int) po_none) (pe_slice sl_list (pe_ix ix_list (pv 0) (pe_op op_add (pv 2) pe_int) (fun _ _ => rfl)) po_none (po_some pe_int)) (nomark _)) (pw_or1 (pt_cmpR (op_neD hr.units) (pe_slice sl_list (pe_ix ix_list (pv 0) (pe_op op_add (pv 2) pe_int) (fun _ _ => rfl)) (po_some pe_int) po_none) (pe_lst (pa_cons (pv 1) (pa_cons pe_bl pa_nil))) (nomark _)))))) (pss_one (ps_ret pe_bl)) pss_nil)))
      (pss_one (ps_ret pe_bl))), ?_⟩
    have ev := prs.ev
    walk_at "w"
    obtain ⟨ds, hds, hfl2⟩ := prs.dp (K := K) hdue
    have hsh : ∃ es, DpAll K H (fndL h xs) es ∧ (∀ d ∈ es, Fl 1 d) ∧ es.any (fun z => PyData.eqv z (.str "halted")) = h := by
      cases h with
      | false => exact ⟨ds, hds, fun d hd => (hfl2 d hd).1, List.any_eq_false.mpr fun d hd => by rw [(hfl2 d hd).2]; simp⟩
      | true =>
        refine ⟨ds ++ [.str "halted"], dp_app hds (.cons (.str _) .nil), fun d hd => ?_, by rw [List.any_append]; simp [PyData.eqv]⟩
        rcases List.mem_append.mp hd with z | z
        · exact (hfl2 d z).1
        · rw [List.mem_singleton.mp z]
          exact .ofStr 1 (by decide +kernel)
    obtain ⟨es, he1, he2, he3⟩ := hsh
    refine ⟨_, es, .str _, .lst (.of hfl) he1, (Fl.ofStr 0 (by decide +kernel)).shaped (by decide), (Fl.lst he2).shaped (by decide), ?_⟩
    rw [he3]
    refine .inr ⟨_, rfl, ?_⟩
    have hj : (((fndL h xs).length : Nat) : Int) - (if h = true then 1 else 0) = ((2 * (xs.length / 2) : Nat) : Int) := by
      cases h with
      | false => show ((xs.length : Nat) : Int) - 0 = _; omega
      | true => show (((xs ++ [V.str "halted"]).length : Nat) : Int) - 1 = _; rw [List.length_append]; show ((xs.length + 1 : Nat) : Int) - 1 = _; omega
    have hrg : ∀ k : _root_.Fin 51, (2 : Int) ≠ 0 ∧ (2 : Int).natAbs < 1073741824 ∧ Builtin.Range.small 0 ((2 * k.val : Nat) : Int) 2 = true ∧ Builtin.Range.rangeSize 0 ((2 * k.val : Nat) : Int) 2 = k.val := by decide +kernel
    have hx2 : ∀ k, k < xs.length / 2 → 2 * k + 1 < xs.length := fun k hk => by omega
    walk_at "w"
    refine ⟨0, _, 2, xs.length / 2, rfl, ?_, ?_⟩
    · rw [hj]
      exact hrg ⟨xs.length / 2, by omega⟩
    refine for_rangeC (fun i σ H' => Same H H' ∧ ∃ y, σ = [some (.ref fl), some (.str due), y]) ?_ ?_ ?_
    · exact ⟨.refl _, _, rfl⟩
    · rintro i σ H' hi ⟨sm, y, rfl⟩
      have hf' := sm _ _ hfl
      obtain ⟨a, b, e1, e2, t1, t2, s1, s2, h1, h2⟩ := prs.at_ i (hx2 i hi)
      have ha := sm _ _ h1
      have hb := sm _ _ h2
      have g1 : (fndL h xs)[2 * i]? = some (.ref a) := by
        cases h with
        | false => exact e1
        | true => exact (List.getElem?_append_left (by have := hx2 i hi; omega)).trans e1
      have g2 : (fndL h xs)[2 * i + 1]? = some (.ref b) := by
        cases h with
        | false => exact e2
        | true => exact (List.getElem?_append_left (hx2 i hi)).trans e2
      have c1 : (0 : Int) + ((i : Nat) : Int) * 2 = ((2 * i : Nat) : Int) := by omega
      rw [c1]
      walk_at "w"
      refine ⟨_, _, _, _, rfl, rfl, .of hf', atI_nat g1, ?_⟩
      dsimp only [tNoPart]
      refine ⟨_, rfl, ?_⟩
      refine ⟨_, _, rfl, .of ha, fun p1 hp1 => ?_⟩
      have q1 : Same H' (L2.upd H' p1 (.lst (cutV [.str eB, .str eB, .str eB, .str t1, .str t2] none (some 3)))) := .new hp1
      have r1 : L2.upd H' p1 (.lst (cutV [.str eB, .str eB, .str eB, .str t1, .str t2] none (some 3))) p1 = some (.lst [.str eB, .str eB, .str eB]) := upd_same
      generalize L2.upd H' p1 (.lst (cutV [.str eB, .str eB, .str eB, .str t1, .str t2] none (some 3))) = H1 at *
      refine ⟨sz1, fun p2 hp2 => ?_⟩
      have q2 : Same H1 (L2.upd H1 p2 (.lst [.str eB])) := .new hp2
      have r2 : L2.upd H1 p2 (.lst [.str eB]) p2 = some (.lst [.str eB]) := upd_same
      generalize L2.upd H1 p2 (.lst [.str eB]) = H2 at *
      refine ⟨_, _, _, rfl, rfl, r2, by decide, by decide, (show 3 ≤ sizeLine by decide), fun p3 hp3 => ?_⟩
      have q3 : Same H2 (L2.upd H2 p3 (.lst (List.replicate (3 : Int).toNat [V.str eB]).flatten)) := .new hp3
      have r3 : L2.upd H2 p3 (.lst (List.replicate (3 : Int).toNat [V.str eB]).flatten) p3 = some (.lst [.str eB, .str eB, .str eB]) := upd_same
      generalize L2.upd H2 p3 (.lst (List.replicate (3 : Int).toNat [V.str eB]).flatten) = H3 at *
      have q13 := q2.trans q3
      have q03 := q1.trans q13
      refine ⟨.list [.str eB, .str eB, .str eB], .list [.str eB, .str eB, .str eB], .lst (.of (q13 _ _ r1)) (.cons (.str _) (.cons (.str _) (.cons (.str _) .nil))), .lst (.of r3) (.cons (.str _) (.cons (.str _) (.cons (.str _) .nil))), by decide +kernel, by decide +kernel, ⟨false, congrArg V.bl (by decide +kernel), ?_⟩⟩
      refine iteF ?_
      have hf3 := q03 _ _ hf'
      have ha3 := q03 _ _ ha
      have hb3 := q03 _ _ hb
      walk_at "w"
      refine ⟨_, _, _, _, rfl, rfl, .of hf3, atI_nat g1, ?_⟩
      refine ⟨_, rfl, ?_⟩
      dsimp only [tNoPart]
      refine ⟨_, _, rfl, .of ha3, fun p4 hp4 => ?_⟩
      have q4 : Same H3 (L2.upd H3 p4 (.lst (cutV [.str eB, .str eB, .str eB, .str t1, .str t2] (some 3) none))) := .new hp4
      have r4 : L2.upd H3 p4 (.lst (cutV [.str eB, .str eB, .str eB, .str t1, .str t2] (some 3) none)) p4 = some (.lst [.str t1, .str t2]) := upd_same
      generalize L2.upd H3 p4 (.lst (cutV [.str eB, .str eB, .str eB, .str t1, .str t2] (some 3) none)) = H4 at *
      have q04 := q03.trans q4
      have hf4 := q4 _ _ hf3
      have hb4 := q4 _ _ hb3
      walk_at "w"
      refine ⟨_, _, _, _, rfl, rfl, .of hf4, atI_nat g2, ?_⟩
      dsimp only [tNoPart]
      refine ⟨_, rfl, ?_⟩
      refine ⟨_, _, rfl, .of hb4, fun p5 hp5 => ?_⟩
      have q5 : Same H4 (L2.upd H4 p5 (.lst (cutV [.str t1, .str t2, .str due, .bl true] none (some 2)))) := .new hp5
      have r5 : L2.upd H4 p5 (.lst (cutV [.str t1, .str t2, .str due, .bl true] none (some 2))) p5 = some (.lst [.str t1, .str t2]) := upd_same
      generalize L2.upd H4 p5 (.lst (cutV [.str t1, .str t2, .str due, .bl true] none (some 2))) = H5 at *
      have fl2 : Fl 1 (.list [.str t1, .str t2]) := Fl.lst (n := 0) fun d hd => by
        simp only [List.mem_cons, List.not_mem_nil, or_false] at hd
        rcases hd with rfl | rfl
        · exact .ofStr 0 s1
        · exact .ofStr 0 s2
      refine ⟨.list [.str t1, .str t2], .list [.str t1, .str t2], .lst (.of (q5 _ _ r4)) (.cons (.str _) (.cons (.str _) .nil)), .lst (.of r5) (.cons (.str _) (.cons (.str _) .nil)), fl2.shaped (by decide), fl2.shaped (by decide), ⟨false, congrArg V.bl (by simp [PyData.eqv, PyData.eqvAll]), ?_⟩⟩
      refine iteF ?_
      have q05 := q04.trans q5
      have hf5 := q5 _ _ hf4
      have hb5 := q5 _ _ hb4
      walk_at "w"
      refine ⟨_, _, _, _, rfl, rfl, .of hf5, atI_nat g2, ?_⟩
      refine ⟨_, rfl, ?_⟩
      dsimp only [tNoPart]
      refine ⟨_, _, rfl, .of hb5, fun p6 hp6 => ?_⟩
      have q6 : Same H5 (L2.upd H5 p6 (.lst (cutV [.str t1, .str t2, .str due, .bl true] (some 2) none))) := .new hp6
      have r6 : L2.upd H5 p6 (.lst (cutV [.str t1, .str t2, .str due, .bl true] (some 2) none)) p6 = some (.lst [.str due, .bl true]) := upd_same
      generalize L2.upd H5 p6 (.lst (cutV [.str t1, .str t2, .str due, .bl true] (some 2) none)) = H6 at *
      refine ⟨_, rfl, ?_⟩
      refine ⟨sz2, fun p7 hp7 => ?_⟩
      have q7 : Same H6 (L2.upd H6 p7 (.lst [.str due, .bl true])) := .new hp7
      have r7 : L2.upd H6 p7 (.lst [.str due, .bl true]) p7 = some (.lst [.str due, .bl true]) := upd_same
      generalize L2.upd H6 p7 (.lst [.str due, .bl true]) = H7 at *
      have fl3 : Fl 1 (.list [.str due, .bool true]) := Fl.lst (n := 0) fun d hd => by
        simp only [List.mem_cons, List.not_mem_nil, or_false] at hd
        rcases hd with rfl | rfl
        · exact .ofStr 0 hdue
        · exact .bool 0 true
      refine ⟨.list [.str due, .bool true], .list [.str due, .bool true], .lst (.of (q7 _ _ r6)) (.cons (.str _) (.cons (.bl _) .nil)), .lst (.of r7) (.cons (.str _) (.cons (.bl _) .nil)), fl3.shaped (by decide), fl3.shaped (by decide), ⟨false, congrArg V.bl (by simp [PyData.eqv, PyData.eqvAll]), ?_⟩⟩
      refine iteF ?_
      walk_at "w"
      exact ⟨sm.trans ((q05.trans q6).trans q7), _, rfl⟩
    · rintro σ H' ⟨sm, y, rfl⟩
      walk_at "w"
      exact k _ sm
end
end K8
set_option maxHeartbeats 4000000
namespace K8
open PySem PySem.Spec PyProof.Rows L2 NdefX LamX
/-! ### the twin does as the inbox does -/
def Ix.wnl (x : Ix) (n : Nat) : Ix := { x with nl := n }
theorem callF_wnl (kd : Kd) (x : Ix) (n : Int) (k : Nat) : callF kd (x.wnl k) n = ((callF kd x n).1, (callF kd x n).2.wnl k) := by cases kd <;> rfl
theorem undoF_wnl (kd : Kd) (x : Ix) (l : Lf) (ls : List Lf) (k : Nat) : undoF kd (x.wnl k) l ls = (undoF kd x l ls).wnl k := by cases kd <;> rfl
theorem runB_wnl (kd : Kd) (x : Ix) (h : Bool) (n : Int) (k : Nat) : resT (runC kd (x.wnl k) (cmdB h n)) = resT (runC kd x (cmdB h n)) ∧ resX (x.wnl k) (runC kd (x.wnl k) (cmdB h n)) = (resX x (runC kd x (cmdB h n))).wnl k := by
  cases h with
  | true =>
    show resT (if x.busy = true then Res.er .bu else if isOpenF x = true then .ok (ynT (callF kd (x.wnl k) n).1) (callF kd (x.wnl k) n).2 else .er .ha) = resT (if x.busy = true then Res.er .bu else if isOpenF x = true then .ok (ynT (callF kd x n).1) (callF kd x n).2 else .er .ha) ∧
      resX (x.wnl k) (if x.busy = true then Res.er .bu else if isOpenF x = true then .ok (ynT (callF kd (x.wnl k) n).1) (callF kd (x.wnl k) n).2 else .er .ha) = (resX x (if x.busy = true then Res.er .bu else if isOpenF x = true then .ok (ynT (callF kd x n).1) (callF kd x n).2 else .er .ha)).wnl k
    rw [callF_wnl]
    split
    · exact ⟨rfl, rfl⟩
    · split <;> exact ⟨rfl, rfl⟩
  | false =>
    show resT (if x.busy = true then Res.er .bu else match x.past.getLast? with | none => .er .nu | some l => .ok (("version " : Str) ++ (toString ((x.past.dropLast.length : Nat) : Int) : String)) (undoF kd (x.wnl k) l x.past.dropLast)) = resT (if x.busy = true then Res.er .bu else match x.past.getLast? with | none => .er .nu | some l => .ok (("version " : Str) ++ (toString ((x.past.dropLast.length : Nat) : Int) : String)) (undoF kd x l x.past.dropLast)) ∧
      resX (x.wnl k) (if x.busy = true then Res.er .bu else match x.past.getLast? with | none => .er .nu | some l => .ok (("version " : Str) ++ (toString ((x.past.dropLast.length : Nat) : Int) : String)) (undoF kd (x.wnl k) l x.past.dropLast)) = (resX x (if x.busy = true then Res.er .bu else match x.past.getLast? with | none => .er .nu | some l => .ok (("version " : Str) ++ (toString ((x.past.dropLast.length : Nat) : Int) : String)) (undoF kd x l x.past.dropLast))).wnl k
    split
    · exact ⟨rfl, rfl⟩
    · split
      · exact ⟨rfl, rfl⟩
      · rename_i l h
        exact ⟨rfl, undoF_wnl kd x l _ k⟩
theorem busy_call (kd : Kd) (x : Ix) (n : Int) : (callF kd x n).2.busy = x.busy := by cases kd <;> rfl
theorem busy_undo (kd : Kd) (x : Ix) (l : Lf) (ls : List Lf) : (undoF kd x l ls).busy = x.busy := by cases kd <;> rfl
theorem R_call (kd : Kd) (x : Ix) (n : Int) : (callF kd x n).2.R = x.R := by cases kd <;> rfl
theorem R_undo (kd : Kd) (x : Ix) (l : Lf) (ls : List Lf) : (undoF kd x l ls).R = x.R := by cases kd <;> rfl
/-- what a deed leaves -/
theorem deed_ok {kd : Kd} {x : Ix} {h : Bool} {n : Int} {m : Nat} {lo hi lo' hi' : Int} (hb : x.busy = false) (bd : Bd m lo hi x) (rk : Rk x) (h1 : lo' ≤ lo) (h2 : hi ≤ hi') (hn : lo' ≤ n ∧ n ≤ hi') (hS : -200 ≤ lo' ∧ hi' ≤ 200) (hm : m ≤ 200) :
    Bd (m + 1) lo' hi' (resX x (runC kd x (cmdB h n))) ∧ Rk (resX x (runC kd x (cmdB h n))) ∧ (resX x (runC kd x (cmdB h n))).busy = false ∧ (resX x (runC kd x (cmdB h n))).R = x.R := by
  have same : Bd (m + 1) lo' hi' x ∧ Rk x ∧ x.busy = false ∧ x.R = x.R := ⟨bd.mono (Nat.le_succ m) h1 h2, rk, hb, rfl⟩
  cases h with
  | true =>
    show Bd (m + 1) lo' hi' (resX x (if x.busy = true then Res.er .bu else if isOpenF x = true then .ok (ynT (callF kd x n).1) (callF kd x n).2 else .er .ha)) ∧ Rk (resX x (if x.busy = true then Res.er .bu else if isOpenF x = true then .ok (ynT (callF kd x n).1) (callF kd x n).2 else .er .ha)) ∧
      (resX x (if x.busy = true then Res.er .bu else if isOpenF x = true then .ok (ynT (callF kd x n).1) (callF kd x n).2 else .er .ha)).busy = false ∧ (resX x (if x.busy = true then Res.er .bu else if isOpenF x = true then .ok (ynT (callF kd x n).1) (callF kd x n).2 else .er .ha)).R = x.R
    rw [if_neg (by rw [hb]; simp)]
    split
    · exact ⟨callF_bd (bd.mono (Nat.le_refl m) h1 h2) hn, callF_rk rk ⟨by omega, by omega⟩, (busy_call kd x n).trans hb, R_call kd x n⟩
    · exact same
  | false =>
    show Bd (m + 1) lo' hi' (resX x (if x.busy = true then Res.er .bu else match x.past.getLast? with | none => .er .nu | some l => .ok (("version " : Str) ++ (toString ((x.past.dropLast.length : Nat) : Int) : String)) (undoF kd x l x.past.dropLast))) ∧ Rk (resX x (if x.busy = true then Res.er .bu else match x.past.getLast? with | none => .er .nu | some l => .ok (("version " : Str) ++ (toString ((x.past.dropLast.length : Nat) : Int) : String)) (undoF kd x l x.past.dropLast))) ∧
      (resX x (if x.busy = true then Res.er .bu else match x.past.getLast? with | none => .er .nu | some l => .ok (("version " : Str) ++ (toString ((x.past.dropLast.length : Nat) : Int) : String)) (undoF kd x l x.past.dropLast))).busy = false ∧ (resX x (if x.busy = true then Res.er .bu else match x.past.getLast? with | none => .er .nu | some l => .ok (("version " : Str) ++ (toString ((x.past.dropLast.length : Nat) : Int) : String)) (undoF kd x l x.past.dropLast))).R = x.R
    rw [if_neg (by rw [hb]; simp)]
    cases hl : x.past.getLast? with
    | none => exact same
    | some l =>
      have e : x.past = x.past.dropLast ++ [l] := by
        obtain ⟨ys, hy⟩ := List.getLast?_eq_some_iff.mp hl
        rw [hy, List.dropLast_concat]
      have hp := bd.past
      exact ⟨undoF_bd (bd.mono (Nat.le_refl m) h1 h2) e, undoF_rk rk e (by rw [List.length_dropLast]; omega), (busy_undo kd x l _).trans hb, R_undo kd x l _⟩
theorem Rk.wnl {x : Ix} (r : Rk x) (k : Nat) : Rk (x.wnl k) := ⟨r.kp, r.kps, r.rw⟩
theorem Bd.wnl {m : Nat} {lo hi : Int} {x : Ix} (b : Bd m lo hi x) (k : Nat) : Bd m lo hi (x.wnl k) := ⟨b.past, b.rows, b.len, b.lens, b.num, b.nums⟩
theorem shown_wnl (kd : Kd) (x : Ix) (k : Nat) : shownD kd (x.wnl k) = shownD kd x := rfl
/-! ### the law's text by parts -/
@[reducible] def forB : Stmt → List Stmt
  | .For _ _ b _ _ => b
  | _ => []
abbrev s_turn : Stmt := match C8.fnBody s_law with | _ :: st :: _ => st | _ => s_law
abbrev s_deeds : Stmt := match forB s_turn with | _ :: _ :: _ :: st :: _ => st | _ => s_law
theorem PE.ex {X : Cx} {ι : Type} {e : Expr} {t : ι → TE} (h : ∀ i, PE X e (t i)) : PE X e (fun σ H Q => ∃ i, t i σ H Q) := ⟨fun pins s σ H Q I ⟨i, q⟩ => (h i).run pins s σ H Q I q⟩
end K8
set_option maxHeartbeats 4000000
namespace K8
open PySem PySem.Spec PyProof.Rows L2 NdefX LamX
/-! ### the law's state within a turn -/
structure LS (K : PySem.W.Frag) (kd : Kd) (T : List NTab) (q a b D d0 d1 M : Addr) (rv : V) (R : Rec) (x y : Ix) (m0 m1 : Nat) (n0 n1 : Int) (H : Hp) : Prop where
  nd : [q, a, b, D, d0, d1, M].Nodup
  spr : Spr q H
  rv_ : Td H rv (recD R)
  ix : IxR K kd H a x
  tw : IxR K kd H b y
  hD : H D = some (.lst [.ref d0, .ref d1])
  k0 : DkR K H d0 a m0
  k1 : DkR K H d1 a m1
  hM : H M = some (.lst [.int n0, .int n1])
  tb : TabsN T H
section
variable {K : PySem.W.Frag} {mg : Str → Option Value} {kd : Kd} {T : List NTab} {q a b D d0 d1 M : Addr} {rv : V} {R : Rec} {x y : Ix} {m0 m1 : Nat} {n0 n1 : Int} {H H' : Hp}
theorem LS.objs (h : LS K kd T q a b D d0 d1 M rv R x y m0 m1 n0 n1 H) (G : Gk K mg) : ∀ l ∈ [q, a, b, D, d0, d1, M], ∃ o, H l = some o ∧ ¬ fzO K o ∧ ((∃ C dx fs, o = .ins C dx fs) ∨ ∃ ys, o = .lst ys) := by
  obtain ⟨g, mm, c, e1, _⟩ := h.spr
  obtain ⟨dxa, _, _, _, _, _, e2, _⟩ := h.ix.ex
  obtain ⟨dxb, _, _, _, _, _, e3, _⟩ := h.tw.ex
  obtain ⟨dd0, p0, ps0, e4, _⟩ := h.k0.ex
  obtain ⟨dd1, p1, ps1, e5, _⟩ := h.k1.ex
  have nI : ∀ dx fs, ¬ fzO K (.ins (kd.C K) dx fs) := fun dx fs z => z.elim (G.neL kd).1 (G.neL kd).2.1
  have nD : ∀ dx fs, ¬ fzO K (.ins (cDk K) dx fs) := fun dx fs z => z.elim (G.neL kd).2.2.2.1 (G.neL kd).2.2.2.2
  intro l hl
  simp only [List.mem_cons, List.not_mem_nil, or_false] at hl
  rcases hl with rfl | rfl | rfl | rfl | rfl | rfl | rfl
  · exact ⟨_, e1, fun z => z, .inr ⟨_, rfl⟩⟩
  · exact ⟨_, e2, nI _ _, .inl ⟨_, _, _, rfl⟩⟩
  · exact ⟨_, e3, nI _ _, .inl ⟨_, _, _, rfl⟩⟩
  · exact ⟨_, h.hD, fun z => z, .inr ⟨_, rfl⟩⟩
  · exact ⟨_, e4, nD _ _, .inl ⟨_, _, _, rfl⟩⟩
  · exact ⟨_, e5, nD _ _, .inl ⟨_, _, _, rfl⟩⟩
  · exact ⟨_, h.hM, fun z => z, .inr ⟨_, rfl⟩⟩
theorem LS.fz {L : List Addr} (h : LS K kd T q a b D d0 d1 M rv R x y m0 m1 n0 n1 H) (G : Gk K mg) (k : Kas L H H') (hL : ∀ l ∈ L, l ∈ [q, a, b, D, d0, d1, M]) : Fz K H H' := ⟨fun c o f e => k.at_ c o (fun z => by
  obtain ⟨u, e1, n, _⟩ := h.objs G c (hL c z)
  rw [e1] at e
  cases e
  exact n f) e⟩
theorem LS.tbk {L : List Addr} (h : LS K kd T q a b D d0 d1 M rv R x y m0 m1 n0 n1 H) (G : Gk K mg) (k : Kas L H H') (hL : ∀ l ∈ L, l ∈ [q, a, b, D, d0, d1, M]) : TabsN T H' := tabs_kas h.tb k fun c z => by
  obtain ⟨u, e1, _, n⟩ := h.objs G c (hL c z)
  rcases n with ⟨C, dx, fs, rfl⟩ | ⟨ys, rfl⟩
  · exact .inl ⟨_, _, _, e1⟩
  · exact .inr ⟨_, e1⟩
theorem dk_keep {d m : Nat} {a : Addr} (h : DkR K H d a m) (f : Fz K H H') (e : ∀ o, H d = some o → H' d = some o) : DkR K H' d a m := by
  obtain ⟨dx, p, ps, h1, h2, h3⟩ := h.ex
  exact ⟨dx, p, ps, e _ h1, f.at_ _ _ trivial h2, h3⟩
theorem spr_keep (h : Spr q H) (e : ∀ o, H q = some o → H' q = some o) : Spr q H' := by
  obtain ⟨g, m, c, e1, r⟩ := h
  exact ⟨g, m, c, e _ e1, r⟩
/-- nothing of it changes -/
theorem LS.same (h : LS K kd T q a b D d0 d1 M rv R x y m0 m1 n0 n1 H) (s : Same H H') : LS K kd T q a b D d0 d1 M rv R x y m0 m1 n0 n1 H' :=
  ⟨h.nd, h.spr.same s, h.rv_.same s, h.ix.same s, h.tw.same s, s _ _ h.hD, h.k0.same s, h.k1.same s, s _ _ h.hM, h.tb.ext s⟩
theorem nd7 (h : [q, a, b, D, d0, d1, M].Nodup) : (q ≠ a ∧ q ≠ b ∧ q ≠ D ∧ q ≠ d0 ∧ q ≠ d1 ∧ q ≠ M) ∧ (a ≠ b ∧ a ≠ D ∧ a ≠ d0 ∧ a ≠ d1 ∧ a ≠ M) ∧ (b ≠ D ∧ b ≠ d0 ∧ b ≠ d1 ∧ b ≠ M) ∧ (D ≠ d0 ∧ D ≠ d1 ∧ D ≠ M) ∧ (d0 ≠ d1 ∧ d0 ≠ M) ∧ d1 ≠ M := by
  simp only [List.nodup_cons, List.mem_cons, List.not_mem_nil, or_false, not_or] at h
  obtain ⟨h1, h2, h3, h4, h5, h6, _⟩ := h
  exact ⟨h1, h2, h3, h4, h5, h6⟩
/-- a frame: the parts that are not in L -/
structure LF (K : PySem.W.Frag) (kd : Kd) (T : List NTab) (q a b D d0 d1 M : Addr) (rv : V) (R : Rec) (x y : Ix) (m0 m1 : Nat) (n0 n1 : Int) (L : List Addr) (H' : Hp) : Prop where
  rv_ : Td H' rv (recD R)
  tb : TabsN T H'
  spr : q ∉ L → Spr q H'
  ix : a ∉ L → IxR K kd H' a x
  tw : b ∉ L → IxR K kd H' b y
  hD : D ∉ L → H' D = some (.lst [.ref d0, .ref d1])
  k0 : d0 ∉ L → DkR K H' d0 a m0
  k1 : d1 ∉ L → DkR K H' d1 a m1
  hM : M ∉ L → H' M = some (.lst [.int n0, .int n1])
theorem LS.frame {L : List Addr} (h : LS K kd T q a b D d0 d1 M rv R x y m0 m1 n0 n1 H) (G : Gk K mg) (k : Kas L H H') (hL : ∀ l ∈ L, l ∈ [q, a, b, D, d0, d1, M]) : LF K kd T q a b D d0 d1 M rv R x y m0 m1 n0 n1 L H' := by
  have f := h.fz G k hL
  exact ⟨h.rv_.mono f.tupK, h.tbk G k hL, fun n => spr_keep h.spr fun o e => k.at_ _ _ n e, fun n => h.ix.keep f fun o e => k.at_ _ _ n e, fun n => h.tw.keep f fun o e => k.at_ _ _ n e, fun n => k.at_ _ _ n h.hD, fun n => dk_keep h.k0 f fun o e => k.at_ _ _ n e, fun n => dk_keep h.k1 f fun o e => k.at_ _ _ n e, fun n => k.at_ _ _ n h.hM⟩
theorem kas1 {c : Addr} (k : Ka c H H') : Kas [c] H H' := .ka k List.mem_cons_self
theorem nm1 {c d : Addr} (h : c ≠ d) : c ∉ [d] := fun z => h (List.mem_singleton.mp z)
theorem nm2 {c d e : Addr} (h : c ≠ d) (g : c ≠ e) : c ∉ [d, e] := fun z => (List.mem_cons.mp z).elim h fun z => g (List.mem_singleton.mp z)
theorem LS.dip (h : LS K kd T q a b D d0 d1 M rv R x y m0 m1 n0 n1 H) (G : Gk K mg) (k : Ka q H H') (s : Spr q H') : LS K kd T q a b D d0 d1 M rv R x y m0 m1 n0 n1 H' := by
  have f := h.frame G (kas1 k) (fun l hl => by rw [List.mem_singleton.mp hl]; simp)
  obtain ⟨⟨e1, e2, e3, e4, e5, e6⟩, _⟩ := nd7 h.nd
  exact ⟨h.nd, s, f.rv_, f.ix (nm1 e1.symm), f.tw (nm1 e2.symm), f.hD (nm1 e3.symm), f.k0 (nm1 e4.symm), f.k1 (nm1 e5.symm), f.hM (nm1 e6.symm), f.tb⟩
theorem LS.inb {x' : Ix} (h : LS K kd T q a b D d0 d1 M rv R x y m0 m1 n0 n1 H) (G : Gk K mg) (k : Ka a H H') (s : IxR K kd H' a x') : LS K kd T q a b D d0 d1 M rv R x' y m0 m1 n0 n1 H' := by
  have f := h.frame G (kas1 k) (fun l hl => by rw [List.mem_singleton.mp hl]; simp)
  obtain ⟨⟨e1, _⟩, ⟨e2, e3, e4, e5, e6⟩, _⟩ := nd7 h.nd
  exact ⟨h.nd, f.spr (nm1 e1), f.rv_, s, f.tw (nm1 e2.symm), f.hD (nm1 e3.symm), f.k0 (nm1 e4.symm), f.k1 (nm1 e5.symm), f.hM (nm1 e6.symm), f.tb⟩
theorem LS.twn {y' : Ix} (h : LS K kd T q a b D d0 d1 M rv R x y m0 m1 n0 n1 H) (G : Gk K mg) (k : Ka b H H') (s : IxR K kd H' b y') : LS K kd T q a b D d0 d1 M rv R x y' m0 m1 n0 n1 H' := by
  have f := h.frame G (kas1 k) (fun l hl => by rw [List.mem_singleton.mp hl]; simp)
  obtain ⟨⟨_, e1, _⟩, ⟨e2, _⟩, ⟨e3, e4, e5, e6⟩, _⟩ := nd7 h.nd
  exact ⟨h.nd, f.spr (nm1 e1), f.rv_, f.ix (nm1 e2), s, f.hD (nm1 e3.symm), f.k0 (nm1 e4.symm), f.k1 (nm1 e5.symm), f.hM (nm1 e6.symm), f.tb⟩
theorem LS.say0 {x' : Ix} {m : Nat} (h : LS K kd T q a b D d0 d1 M rv R x y m0 m1 n0 n1 H) (G : Gk K mg) (k : Kas [d0, a] H H') (s : DkR K H' d0 a m) (t : IxR K kd H' a x') : LS K kd T q a b D d0 d1 M rv R x' y m m1 n0 n1 H' := by
  have f := h.frame G k (fun l hl => by rcases List.mem_cons.mp hl with rfl | hl; · simp
                                        · rw [List.mem_singleton.mp hl]; simp)
  obtain ⟨⟨e1, e2, e3, e4, e5, e6⟩, ⟨g2, g3, g4, g5, g6⟩, ⟨i1, i2, i3, i4⟩, ⟨j1, j2, j3⟩, ⟨l1, l2⟩, l3⟩ := nd7 h.nd
  exact ⟨h.nd, f.spr (nm2 e4 e1), f.rv_, t, f.tw (nm2 i2 g2.symm), f.hD (nm2 j1 g3.symm), s, f.k1 (nm2 l1.symm g5.symm), f.hM (nm2 l2.symm g6.symm), f.tb⟩
theorem LS.say1 {x' : Ix} {m : Nat} (h : LS K kd T q a b D d0 d1 M rv R x y m0 m1 n0 n1 H) (G : Gk K mg) (k : Kas [d1, a] H H') (s : DkR K H' d1 a m) (t : IxR K kd H' a x') : LS K kd T q a b D d0 d1 M rv R x' y m0 m n0 n1 H' := by
  have f := h.frame G k (fun l hl => by rcases List.mem_cons.mp hl with rfl | hl; · simp
                                        · rw [List.mem_singleton.mp hl]; simp)
  obtain ⟨⟨e1, e2, e3, e4, e5, e6⟩, ⟨g2, g3, g4, g5, g6⟩, ⟨i1, i2, i3, i4⟩, ⟨j1, j2, j3⟩, ⟨l1, l2⟩, l3⟩ := nd7 h.nd
  exact ⟨h.nd, f.spr (nm2 e5 e1), f.rv_, t, f.tw (nm2 i3 g2.symm), f.hD (nm2 j2 g3.symm), f.k0 (nm2 l1 g4.symm), s, f.hM (nm2 l3.symm g6.symm), f.tb⟩
theorem LS.many {k0' k1' : Int} (h : LS K kd T q a b D d0 d1 M rv R x y m0 m1 n0 n1 H) (G : Gk K mg) : LS K kd T q a b D d0 d1 M rv R x y m0 m1 k0' k1' (L2.upd H M (.lst [.int k0', .int k1'])) := by
  have f := h.frame (H' := L2.upd H M (.lst [.int k0', .int k1'])) G (kas1 .own) (fun l hl => by rw [List.mem_singleton.mp hl]; simp)
  obtain ⟨⟨e1, e2, e3, e4, e5, e6⟩, ⟨g2, g3, g4, g5, g6⟩, ⟨i1, i2, i3, i4⟩, ⟨j1, j2, j3⟩, ⟨l1, l2⟩, l3⟩ := nd7 h.nd
  exact ⟨h.nd, f.spr (nm1 e6), f.rv_, f.ix (nm1 g6), f.tw (nm1 i4), f.hD (nm1 j3), f.k0 (nm1 l2), f.k1 (nm1 l3), upd_same, f.tb⟩
end
end K8
set_option maxHeartbeats 4000000
namespace K8
open PySem PySem.Spec PyProof.Rows L2 NdefX LamX
set_option hygiene false in
local macro_rules | `(tactic| walk_at "w") => `(tactic| (repeat (first | refine ⟨_, rfl, ?_⟩ | refine ⟨_, _, rfl, rfl, ?_⟩ | refine ⟨rfl, ?_⟩ | refine ⟨_, _, rfl, ?_⟩ | refine ⟨_, _, rfl, .of upd_same, rfl, ?_⟩ | refine ⟨_, _, rfl, .of (by assumption), rfl, ?_⟩ | refine ⟨_, _, rfl, .of (by assumption), fun q hq => ?_⟩ | refine ⟨_, _, rfl, .of (by assumption), ?_⟩ | refine ⟨_, _, rfl, .inr (.of (by assumption)), ?_⟩ | refine ⟨_, _, rfl, .inl (.of (by assumption)), ?_⟩ | refine ⟨_, _, _, _, rfl, rfl, .of (by assumption), atI_nat (j := 0) rfl, ?_⟩ | refine ⟨_, _, _, _, rfl, rfl, .of (by assumption), atI_nat (j := 1) rfl, ?_⟩ | refine ⟨_, _, _, _, rfl, rfl, .of (by assumption), atI_nat (j := 2) rfl, ?_⟩ | refine ⟨fun z => absurd z.1 (show ¬ (1 : Nat) = 0 by decide), fun _ q hq => ?_⟩ | refine ⟨fun z => absurd z.1 (show ¬ (2 : Nat) = 0 by decide), fun _ q hq => ?_⟩ | refine ⟨sz1, fun q hq => ?_⟩ | refine ⟨sz2, fun q hq => ?_⟩ | refine ⟨sz3, fun q hq => ?_⟩ | refine ⟨sz0, fun q hq => ?_⟩ | refine ⟨_, _, _, rfl, rfl, (by assumption), (by assumption), ?_⟩ | refine ⟨.inl ⟨rfl, _, .of (by assumption)⟩, ?_⟩ | refine ⟨_, _, rfl, .inl ⟨.of (by assumption), fun q hq => ?_⟩⟩ | refine ⟨⟨_, .of (by assumption)⟩, ?_⟩ | refine ⟨⟨_, rfl⟩, ?_⟩ | refine ⟨.inl ⟨rfl, _, .of upd_same⟩, ?_⟩ | refine ⟨_, _, _, _, _, rfl, (by assumption), (by assumption), (by assumption), (by rfl), ?_⟩ | refine ⟨_, _, _, _, rfl, upd_same, (by assumption), (by assumption), (by first | exact ixFs_len | exact (show (0 : Nat) < 1000 by decide) | exact (show (1 : Nat) < 1000 by decide) | exact (show (2 : Nat) < 1000 by decide) | exact (show (3 : Nat) < 1000 by decide) | exact (show (4 : Nat) < 1000 by decide) | exact (show (5 : Nat) < 1000 by decide) | exact (show (6 : Nat) < 1000 by decide)), ?_⟩ | refine ⟨_, _, _, _, rfl, (by assumption), (by assumption), (by assumption), (by first | exact ixFs_len | exact (show (0 : Nat) < 1000 by decide) | exact (show (1 : Nat) < 1000 by decide) | exact (show (2 : Nat) < 1000 by decide) | exact (show (3 : Nat) < 1000 by decide) | exact (show (4 : Nat) < 1000 by decide) | exact (show (5 : Nat) < 1000 by decide) | exact (show (6 : Nat) < 1000 by decide)), ?_⟩ | refine ⟨_, _, _, rfl, (by assumption), (by first | rfl | exact ixFs_no (by decide +kernel)), ?_⟩ | refine ⟨_, _, _, rfl, (by assumption), ?_⟩ | refine iteT ?_ | refine iteF ?_)))
/-! ### one deed of a turn -/
abbrev lawN : List Str := ["_law_script", "_law_spring_here", "_law_turn", "_law_receiver_here", "_law_kind", "_law_limit", "_law_inbox", "_law_twin", "_law_desks", "_law_many", "_law_k", "_law_way", "_law_at", "_law_word", "_law_number", "_law_due", "_law_line", "_law_found", "_law_desk", "_law_text", "_law_numbers", "_law_step"]
abbrev lawX (P : Program) (w : World) (K : PySem.W.Frag) (mg : Str → Option Value) (base : Heap) (f : Addr) (cdv : Value) (A : Around) (outer : List Env) (s : Shared) (H : Hp) (E : XK) : Cx := (cxOf CX0 P w K mg base lawN "law" (defScope s_law) f cdv A outer s H E).nox
/-- the names within a turn -/
def SN (q a b D M : Addr) (rv : V) (σ : L2.St) : Prop := ∃ s0 s2 s4 s5 s10 s11 s12 s13 s14 s15 s16 s17 s18 s19 s20 s21 : Option V, σ = [s0, some (.ref q), s2, some rv, s4, s5, some (.ref a), some (.ref b), some (.ref D), some (.ref M), s10, s11, s12, s13, s14, s15, s16, s17, s18, s19, s20, s21]
/-- behind i deeds -/
structure DS (K : PySem.W.Frag) (kd : Kd) (T : List NTab) (q a b D d0 d1 M : Addr) (rv : V) (R : Rec) (i : Nat) (σ : L2.St) (H : Hp) : Prop where
  sn : SN q a b D M rv σ
  ex : ∃ (x : Ix) (nl m0 m1 : Nat), LS K kd T q a b D d0 d1 M rv R x (x.wnl nl) m0 m1 m0 m1 H ∧ Bd i (-(i : Int)) (7 * (i : Int)) x ∧ Rk x ∧ x.busy = false ∧ x.R = R ∧ m0 + m1 ≤ i
section
variable {P : Program} {w : World} {K : PySem.W.Frag} {mg : Str → Option Value} {base : Heap}
theorem cmdB_ok {x : Ix} {h : Bool} {n : Int} (hn : Sn n) : CmdOk x (cmdB h n) := by
  cases h with
  | true => exact hn
  | false => trivial
/-- what a deed comes to is said, and held against the twin -/
theorem ok_tail {f : Addr} {cdv : Value} {A : Around} {outer : List Env} {s : Shared} {H0 : Hp} {E : XK} (G : Gx K mg) (Gk : Gk K mg) (hg : A.guards = some []) (hr : Room 14 (A.deeper (envOfC "law" (defScope s_law) s.heap.objs.size f cdv)))
    (c_by : ∀ kd, Cal P w K mg base CX0 7 "_law_by_methods" (sp_by K kd)) (c_shown : ∀ kd, CalP guardsNone P w K mg base CX0 4 "_law_shown" (sp_shown K kd)) (m_say : ∀ kd, Met P w K mg base CX0 10 (cDk K) "say" (sp_say K kd)) :
    ∃ tb, PSs (lawX P w K mg base f cdv A outer s H0 E) ((forB s_deeds).drop 5) tb ∧ ∀ (D' : Ends) (kd : Kd) (T : List NTab) (q a b D d0 d1 M : Addr) (rv : V) (R : Rec) (i : Nat) (H : Hp) (x : Ix) (nl m0 m1 : Nat) (h : Bool) (n way at_ : Int) (s0 s2 s4 s5 s10 s17 s18 s19 s20 s21 : Option V), i < 14 → 0 ≤ way → way < 3 → 0 ≤ at_ → at_ < 2 → -((i + 1 : Nat) : Int) ≤ n ∧ n ≤ 7 * ((i + 1 : Nat) : Int) →
      LS K kd T q a b D d0 d1 M rv R x ((resX x (runC kd x (cmdB h n))).wnl nl) m0 m1 m0 m1 H → Bd i (-(i : Int)) (7 * (i : Int)) x → Rk x → x.busy = false → x.R = R → m0 + m1 ≤ i →
      (∀ σ' H', DS K kd T q a b D d0 d1 M rv R (i + 1) σ' H' → D'.nx σ' H') → tb D' [s0, some (.ref q), s2, some rv, s4, s5, some (.ref a), some (.ref b), some (.ref D), some (.ref M), s10, some (.int way), some (.int at_), some (.str (if h then "hear" else "undo")), some (.int n), some (.str (resT (runC kd x (cmdB h n)))), some (.str (cmdB h n).line), s17, s18, s19, s20, s21] H := by
  refine ⟨_, pss_cons (ps_asg (pe_op op_add (pe_ix ix_list (pv 9) (pv 12) (fun _ _ => rfl)) (pe_callTy call_int1 (by rfl) G.int (by decide +kernel) (pa_cons (pe_cmpR op_lt (pv 11) pe_int (nomark _)) pa_nil))) (pg_sub (pv 9) (pv 12) set_list)) (pss_cons (ps_set (i := 17) sc_law.nd rfl (Or.inl rfl) (pe_ifExp (pt_cmpR op_lt (pv 11) pe_int (nomark _)) (PE.ex fun kd => pe_mX (m_say kd) hr (by decide) atN (pe_ix ix_list (pv 8) (pv 12) (fun _ _ => rfl)) (pa_cons (pv 16) pa_nil)) (PE.ex fun kd => pe_d (c_by kd) hr (by decide) (by rfl) (pa_cons (pv 6) (pa_cons (pv 13) (pa_cons (pv 14) pa_nil))))))
      (pss_one (ps_if (PW.pt (pw_or (pt_cmpR op_ne (pv 17) (pv 15) (nomark _)) (pw_or1 (pt_cmpR op_ne (PE.ex fun kd => pe_dP (c_shown kd) (fun _ _ _ _ _ => hg) hr (by decide) atN (by rfl) (pa_cons (pv 6) pa_nil)) (PE.ex fun kd => pe_dP (c_shown kd) (fun _ _ _ _ _ => hg) hr (by decide) atN (by rfl) (pa_cons (pv 7) pa_nil)) (nomark _))))) (pss_one (ps_ret pe_bl)) pss_nil))), ?_⟩
  intro D' kd T q a b D d0 d1 M rv R i H x nl m0 m1 h n way at_ s0 s2 s4 s5 s10 s17 s18 s19 s20 s21 hi w0 w3 t0 t2 hn ls bd rk hb hR hm k
  have bq : Bq x := ⟨bd.mono (by omega) (by omega) (by omega), by have := bd.past; omega⟩
  have dd := deed_ok (kd := kd) (h := h) hb bd rk (lo' := -((i + 1 : Nat) : Int)) (hi' := 7 * ((i + 1 : Nat) : Int)) (by omega) (by omega) hn ⟨by omega, by omega⟩ (by omega)
  have hco : CmdOk x (cmdB h n) := cmdB_ok ⟨by omega, by omega⟩
  have hM := ls.hM
  have hD := ls.hD
  have ht : at_ = 0 ∨ at_ = 1 := by omega
  have b2 : ∀ {y : Ix}, Bd (i + 1) (-((i + 1 : Nat) : Int)) (7 * ((i + 1 : Nat) : Int)) y → Bs y := fun b => b.mono (by omega) (by omega) (by omega)
  have p1 : m0 + 1 ≤ 20 := by omega
  have p2 : m1 + 1 ≤ 20 := by omega
  have en : ∀ t : Str, (!decide (V.str t = V.str t)) = false := fun t => by simp
  rcases ht with rfl | rfl
  · skip
    walk_at "w"
    refine .inr ⟨_, rfl, ?_⟩
    walk_at "w"
    refine ⟨_, _, _, 0, rfl, rfl, hM, rfl, ?_⟩
    by_cases hw : way < 2
    · have e : (HO.lst ([V.int (m0 : Int), V.int (m1 : Int)].set 0 ((fun i j => V.int (i + j)) (m0 : Int) (if decide (way < 2) = true then 1 else 0)))) = HO.lst [V.int ((m0 + 1 : Nat) : Int), V.int ((m1 : Nat) : Int)] := by rw [decide_eq_true hw]; rfl
      rw [e]
      replace ls := ls.many Gk (k0' := ((m0 + 1 : Nat) : Int)) (k1' := ((m1 : Nat) : Int))
      generalize L2.upd H M (HO.lst [V.int ((m0 + 1 : Nat) : Int), V.int ((m1 : Nat) : Int)]) = H1 at *
      obtain ⟨_, _, _, hd, _⟩ := ls.k0.ex
      have hD := ls.hD
      walk_at "w"
      refine iteDT hw ⟨kd, ?_⟩
      walk_at "w"
      refine ⟨_, a, _, x, cmdB h n, rfl, ls.k0, by omega, ls.ix, bq, hco, fun H2 ks dk2 ix2 => ?_⟩
      rw [Nat.min_eq_left p1] at dk2
      replace ls := ls.say0 Gk ks dk2 ix2
      walk_at "w"
      rw [en]
      refine iteF ?_
      refine ⟨kd, ?_⟩
      walk_at "w"
      refine ⟨a, _, rfl, ls.ix, b2 dd.1, dd.2.1, fun H5 s5 => ?_⟩
      replace ls := ls.same s5
      refine ⟨kd, ?_⟩
      walk_at "w"
      refine ⟨b, _, rfl, ls.tw, b2 (dd.1.wnl nl), dd.2.1.wnl nl, fun H6 s6 => ?_⟩
      replace ls := ls.same s6
      rw [shown_wnl]
      walk_at "w"
      rw [en]
      refine iteF ?_
      walk_at "w"
      exact k _ _ ⟨⟨_, _, _, _, _, _, _, _, _, _, _, _, _, _, _, _, rfl⟩, _, nl, _, _, ls, dd.1, dd.2.1, dd.2.2.1, dd.2.2.2.trans hR, by omega⟩
    · have e : (HO.lst ([V.int (m0 : Int), V.int (m1 : Int)].set 0 ((fun i j => V.int (i + j)) (m0 : Int) (if decide (way < 2) = true then 1 else 0)))) = HO.lst [V.int (m0 : Int), V.int (m1 : Int)] := by rw [decide_eq_false hw]; show HO.lst ([V.int (m0 : Int), V.int (m1 : Int)].set 0 (V.int ((m0 : Int) + 0))) = _; rw [Int.add_zero]; rfl
      rw [e]
      replace ls := ls.many Gk (k0' := (m0 : Int)) (k1' := (m1 : Int))
      generalize L2.upd H M (HO.lst [V.int (m0 : Int), V.int (m1 : Int)]) = H1 at *
      walk_at "w"
      refine iteDF hw ⟨kd, ?_⟩
      walk_at "w"
      refine ⟨a, x, h, n, rfl, ls.ix, bq, hb, fun H2 ka2 ix2 => ?_⟩
      replace ls := ls.inb Gk ka2 ix2
      walk_at "w"
      rw [en]
      refine iteF ?_
      refine ⟨kd, ?_⟩
      walk_at "w"
      refine ⟨a, _, rfl, ls.ix, b2 dd.1, dd.2.1, fun H5 s5 => ?_⟩
      replace ls := ls.same s5
      refine ⟨kd, ?_⟩
      walk_at "w"
      refine ⟨b, _, rfl, ls.tw, b2 (dd.1.wnl nl), dd.2.1.wnl nl, fun H6 s6 => ?_⟩
      replace ls := ls.same s6
      rw [shown_wnl]
      walk_at "w"
      rw [en]
      refine iteF ?_
      walk_at "w"
      exact k _ _ ⟨⟨_, _, _, _, _, _, _, _, _, _, _, _, _, _, _, _, rfl⟩, _, nl, _, _, ls, dd.1, dd.2.1, dd.2.2.1, dd.2.2.2.trans hR, by omega⟩
  · skip
    walk_at "w"
    refine .inr ⟨_, rfl, ?_⟩
    walk_at "w"
    refine ⟨_, _, _, 1, rfl, rfl, hM, rfl, ?_⟩
    by_cases hw : way < 2
    · have e : (HO.lst ([V.int (m0 : Int), V.int (m1 : Int)].set 1 ((fun i j => V.int (i + j)) (m1 : Int) (if decide (way < 2) = true then 1 else 0)))) = HO.lst [V.int ((m0 : Nat) : Int), V.int ((m1 + 1 : Nat) : Int)] := by rw [decide_eq_true hw]; rfl
      rw [e]
      replace ls := ls.many Gk (k0' := ((m0 : Nat) : Int)) (k1' := ((m1 + 1 : Nat) : Int))
      generalize L2.upd H M (HO.lst [V.int ((m0 : Nat) : Int), V.int ((m1 + 1 : Nat) : Int)]) = H1 at *
      obtain ⟨_, _, _, hd, _⟩ := ls.k1.ex
      have hD := ls.hD
      walk_at "w"
      refine iteDT hw ⟨kd, ?_⟩
      walk_at "w"
      refine ⟨_, a, _, x, cmdB h n, rfl, ls.k1, by omega, ls.ix, bq, hco, fun H2 ks dk2 ix2 => ?_⟩
      rw [Nat.min_eq_left p2] at dk2
      replace ls := ls.say1 Gk ks dk2 ix2
      walk_at "w"
      rw [en]
      refine iteF ?_
      refine ⟨kd, ?_⟩
      walk_at "w"
      refine ⟨a, _, rfl, ls.ix, b2 dd.1, dd.2.1, fun H5 s5 => ?_⟩
      replace ls := ls.same s5
      refine ⟨kd, ?_⟩
      walk_at "w"
      refine ⟨b, _, rfl, ls.tw, b2 (dd.1.wnl nl), dd.2.1.wnl nl, fun H6 s6 => ?_⟩
      replace ls := ls.same s6
      rw [shown_wnl]
      walk_at "w"
      rw [en]
      refine iteF ?_
      walk_at "w"
      exact k _ _ ⟨⟨_, _, _, _, _, _, _, _, _, _, _, _, _, _, _, _, rfl⟩, _, nl, _, _, ls, dd.1, dd.2.1, dd.2.2.1, dd.2.2.2.trans hR, by omega⟩
    · have e : (HO.lst ([V.int (m0 : Int), V.int (m1 : Int)].set 1 ((fun i j => V.int (i + j)) (m1 : Int) (if decide (way < 2) = true then 1 else 0)))) = HO.lst [V.int (m0 : Int), V.int (m1 : Int)] := by rw [decide_eq_false hw]; show HO.lst ([V.int (m0 : Int), V.int (m1 : Int)].set 1 (V.int ((m1 : Int) + 0))) = _; rw [Int.add_zero]; rfl
      rw [e]
      replace ls := ls.many Gk (k0' := (m0 : Int)) (k1' := (m1 : Int))
      generalize L2.upd H M (HO.lst [V.int (m0 : Int), V.int (m1 : Int)]) = H1 at *
      walk_at "w"
      refine iteDF hw ⟨kd, ?_⟩
      walk_at "w"
      refine ⟨a, x, h, n, rfl, ls.ix, bq, hb, fun H2 ka2 ix2 => ?_⟩
      replace ls := ls.inb Gk ka2 ix2
      walk_at "w"
      rw [en]
      refine iteF ?_
      refine ⟨kd, ?_⟩
      walk_at "w"
      refine ⟨a, _, rfl, ls.ix, b2 dd.1, dd.2.1, fun H5 s5 => ?_⟩
      replace ls := ls.same s5
      refine ⟨kd, ?_⟩
      walk_at "w"
      refine ⟨b, _, rfl, ls.tw, b2 (dd.1.wnl nl), dd.2.1.wnl nl, fun H6 s6 => ?_⟩
      replace ls := ls.same s6
      rw [shown_wnl]
      walk_at "w"
      rw [en]
      refine iteF ?_
      walk_at "w"
      exact k _ _ ⟨⟨_, _, _, _, _, _, _, _, _, _, _, _, _, _, _, _, rfl⟩, _, nl, _, _, ls, dd.1, dd.2.1, dd.2.2.1, dd.2.2.2.trans hR, by omega⟩
end
end K8
set_option maxHeartbeats 4000000
namespace K8
open PySem PySem.Spec PyProof.Rows L2 NdefX LamX
set_option hygiene false in
local macro_rules | `(tactic| walk_at "w") => `(tactic| (repeat (first | refine ⟨_, rfl, ?_⟩ | refine ⟨_, _, rfl, rfl, ?_⟩ | refine ⟨rfl, ?_⟩ | refine ⟨_, _, rfl, ?_⟩ | refine ⟨_, _, rfl, .of upd_same, rfl, ?_⟩ | refine ⟨_, _, rfl, .of (by assumption), rfl, ?_⟩ | refine ⟨_, _, rfl, .of (by assumption), fun q hq => ?_⟩ | refine ⟨_, _, rfl, .of (by assumption), ?_⟩ | refine ⟨_, _, rfl, .inr (.of (by assumption)), ?_⟩ | refine ⟨_, _, rfl, .inl (.of (by assumption)), ?_⟩ | refine ⟨_, _, _, _, rfl, rfl, .of (by assumption), atI_nat (j := 0) rfl, ?_⟩ | refine ⟨_, _, _, _, rfl, rfl, .of (by assumption), atI_nat (j := 1) rfl, ?_⟩ | refine ⟨_, _, _, _, rfl, rfl, .of (by assumption), atI_nat (j := 2) rfl, ?_⟩ | refine ⟨fun z => absurd z.1 (show ¬ (1 : Nat) = 0 by decide), fun _ q hq => ?_⟩ | refine ⟨fun z => absurd z.1 (show ¬ (2 : Nat) = 0 by decide), fun _ q hq => ?_⟩ | refine ⟨sz1, fun q hq => ?_⟩ | refine ⟨sz2, fun q hq => ?_⟩ | refine ⟨sz3, fun q hq => ?_⟩ | refine ⟨sz0, fun q hq => ?_⟩ | refine ⟨_, _, _, rfl, rfl, (by assumption), (by assumption), ?_⟩ | refine ⟨.inl ⟨rfl, _, .of (by assumption)⟩, ?_⟩ | refine ⟨_, _, rfl, .inl ⟨.of (by assumption), fun q hq => ?_⟩⟩ | refine ⟨⟨_, .of (by assumption)⟩, ?_⟩ | refine ⟨⟨_, rfl⟩, ?_⟩ | refine ⟨.inl ⟨rfl, _, .of upd_same⟩, ?_⟩ | refine ⟨_, _, _, _, _, rfl, (by assumption), (by assumption), (by assumption), (by rfl), ?_⟩ | refine ⟨_, _, _, _, rfl, upd_same, (by assumption), (by assumption), (by first | exact ixFs_len | exact (show (0 : Nat) < 1000 by decide) | exact (show (1 : Nat) < 1000 by decide) | exact (show (2 : Nat) < 1000 by decide) | exact (show (3 : Nat) < 1000 by decide) | exact (show (4 : Nat) < 1000 by decide) | exact (show (5 : Nat) < 1000 by decide) | exact (show (6 : Nat) < 1000 by decide)), ?_⟩ | refine ⟨_, _, _, _, rfl, (by assumption), (by assumption), (by assumption), (by first | exact ixFs_len | exact (show (0 : Nat) < 1000 by decide) | exact (show (1 : Nat) < 1000 by decide) | exact (show (2 : Nat) < 1000 by decide) | exact (show (3 : Nat) < 1000 by decide) | exact (show (4 : Nat) < 1000 by decide) | exact (show (5 : Nat) < 1000 by decide) | exact (show (6 : Nat) < 1000 by decide)), ?_⟩ | refine ⟨_, _, _, rfl, (by assumption), (by first | rfl | exact ixFs_no (by decide +kernel)), ?_⟩ | refine ⟨_, _, _, rfl, (by assumption), ?_⟩ | refine iteT ?_ | refine iteF ?_)))
section
variable {P : Program} {w : World} {K : PySem.W.Frag} {mg : Str → Option Value} {base : Heap}
theorem ok_deed {f : Addr} {cdv : Value} {A : Around} {outer : List Env} {s : Shared} {H0 : Hp} {E : XK} (G : Gx K mg) (Gk : Gk K mg) (hg : A.guards = some []) (hr : Room 14 (A.deeper (envOfC "law" (defScope s_law) s.heap.objs.size f cdv))) (c__law_dip : Cal P w K mg base CX0 1 "_law_dip" sp_dip) (c__law_pick : Cal P w K mg base CX0 2 "_law_pick" sp_pick)
    (c_by : ∀ kd, Cal P w K mg base CX0 7 "_law_by_methods" (sp_by K kd)) (c_shown : ∀ kd, CalP guardsNone P w K mg base CX0 4 "_law_shown" (sp_shown K kd)) (m_say : ∀ kd, Met P w K mg base CX0 10 (cDk K) "say" (sp_say K kd)) (p_last : ∀ kd, Prp P w K mg base 1 (Kd.C K kd) "last" (sp_last K kd)) :
    ∃ tb, PSs (lawX P w K mg base f cdv A outer s H0 E) (forB s_deeds) tb ∧ ∀ (D' : Ends) (kd : Kd) (T : List NTab) (q a b D d0 d1 M : Addr) (rv : V) (R : Rec) (i : Nat) (σ : L2.St) (H : Hp), i < 14 → DS K kd T q a b D d0 d1 M rv R i σ H → (∀ σ' H', DS K kd T q a b D d0 d1 M rv R (i + 1) σ' H' → D'.nx σ' H') → tb D' σ H := by
  obtain ⟨tt, htt, ktt⟩ := ok_tail (s := s) (outer := outer) (H0 := H0) (E := E) G Gk hg hr c_by c_shown m_say
  refine ⟨_, pss_cons (ps_par (i := 11) (j := 12) (by rfl) sc_law.nd rfl rfl (by decide) rfl rfl (pa_cons (pe_d c__law_dip hr (by decide) (by rfl) (pa_cons (pv 1) (pa_cons pe_int pa_nil))) (pa_cons (pe_d c__law_dip hr (by decide) (by rfl) (pa_cons (pv 1) (pa_cons pe_int pa_nil))) pa_nil)) (by rfl)) (pss_cons (ps_set (i := 13) sc_law.nd rfl (Or.inl rfl) (pe_d c__law_pick hr (by decide) (by rfl) (pa_cons (pv 1) (pa_cons (pe_lst (pa_cons pe_str (pa_cons pe_str (pa_cons pe_str (pa_cons pe_str pa_nil))))) pa_nil)))) (pss_cons (ps_set (i := 14) sc_law.nd rfl (Or.inl rfl) (pe_op op_add (PE.ex fun kd => pe_p (p_last kd) hr (by decide) (pv 6)) (pe_d c__law_pick hr (by decide) (by rfl) (pa_cons (pv 1) (pa_cons (pe_lst (pa_cons pe_int (pa_cons pe_int (pa_cons pe_int (pa_cons pe_int (pa_cons pe_int (pa_cons pe_int (pa_cons (pe_un un_neg pe_int) (pa_cons pe_int pa_nil))))))))) pa_nil))))) (pss_cons (ps_set (i := 15) sc_law.nd rfl (Or.inl rfl) (PE.ex fun kd => pe_d (c_by kd) hr (by decide) (by rfl) (pa_cons (pv 7) (pa_cons (pv 13) (pa_cons (pv 14) pa_nil)))))
    (pss_cons (ps_set (i := 16) sc_law.nd rfl (Or.inl rfl) (pe_ifExp (pt_cmpR op_eq (pv 13) pe_str (nomark _)) (pe_op op_add_str pe_str (pe_callTy call_str_int (by rfl) G.str (by decide +kernel) (pa_cons (pv 14) pa_nil))) pe_str)) htt)))), ?_⟩
  intro D' kd T q a b D d0 d1 M rv R i σ H hi ds k
  obtain ⟨⟨s0, s2, s4, s5, s10, s11, s12, s13, s14, s15, s16, s17, s18, s19, s20, s21, rfl⟩, x, nl, m0, m1, ls, bd, rk, hb, hR, hm⟩ := ds
  walk_at "w"
  refine ⟨ls.spr, by decide, by decide, fun H1 way ka1 sp1 w0 w3 => ?_⟩
  replace ls := ls.dip Gk ka1 sp1
  walk_at "w"
  refine ⟨ls.spr, by decide, by decide, fun H2 at_ ka2 sp2 t0 t2 => ?_⟩
  replace ls := ls.dip Gk ka2 sp2
  clear ka1 sp1 ka2 sp2
  walk_at "w"
  refine ⟨(show 4 ≤ sizeLine by decide), fun p3 hp3 => ?_⟩
  replace ls := ls.same (.new (o := .lst [.str "hear", .str "hear", .str "hear", .str "undo"]) hp3)
  have hp3' : L2.upd H2 p3 (.lst [.str "hear", .str "hear", .str "hear", .str "undo"]) p3 = some (.lst [.str "hear", .str "hear", .str "hear", .str "undo"]) := upd_same
  have np3 : p3 ≠ q := fun z => by
    obtain ⟨g, m, c, e, _⟩ := ls.spr
    rw [← z, hp3'] at e
    cases e
  generalize L2.upd H2 p3 (.lst [.str "hear", .str "hear", .str "hear", .str "undo"]) = H3 at *
  refine ⟨q, p3, _, rfl, ls.spr, hp3', np3, by decide, by decide, fun H4 wd hwd ka4 sp4 => ?_⟩
  replace ls := ls.dip Gk ka4 sp4
  have hw : ∃ h : Bool, wd = .str (if h then "hear" else "undo") := by
    simp only [List.mem_cons, List.not_mem_nil, or_false] at hwd
    rcases hwd with rfl | rfl | rfl | rfl
    · exact ⟨true, rfl⟩
    · exact ⟨true, rfl⟩
    · exact ⟨true, rfl⟩
    · exact ⟨false, rfl⟩
  obtain ⟨h, rfl⟩ := hw
  clear ka4 sp4 hwd hp3 hp3' np3
  have hb1 := bd.num.1
  refine ⟨kd, ?_⟩
  obtain ⟨dxa, _, _, _, _, _, ha, _⟩ := ls.ix.ex
  walk_at "w"
  refine ⟨a, x, rfl, ls.ix, ?_⟩
  walk_at "w"
  refine ⟨(show 8 ≤ sizeLine by decide), fun p5 hp5 => ?_⟩
  replace ls := ls.same (.new (o := .lst [.int 1, .int 2, .int 3, .int 4, .int 5, .int 0, .int (-1), .int 7]) hp5)
  have hp5' : L2.upd H4 p5 (.lst [.int 1, .int 2, .int 3, .int 4, .int 5, .int 0, .int (-1), .int 7]) p5 = some (.lst [.int 1, .int 2, .int 3, .int 4, .int 5, .int 0, .int (-1), .int 7]) := upd_same
  have np5 : p5 ≠ q := fun z => by
    obtain ⟨g, m, c, e, _⟩ := ls.spr
    rw [← z, hp5'] at e
    cases e
  generalize L2.upd H4 p5 (.lst [.int 1, .int 2, .int 3, .int 4, .int 5, .int 0, .int (-1), .int 7]) = H5 at *
  refine ⟨q, p5, _, rfl, ls.spr, hp5', np5, by decide, by decide, fun H6 wd hwd ka6 sp6 => ?_⟩
  replace ls := ls.dip Gk ka6 sp6
  have hw : ∃ j : Int, wd = .int j ∧ -1 ≤ j ∧ j ≤ 7 := by
    simp only [List.mem_cons, List.not_mem_nil, or_false] at hwd
    rcases hwd with rfl | rfl | rfl | rfl | rfl | rfl | rfl | rfl <;> exact ⟨_, rfl, by decide, by decide⟩
  obtain ⟨j, rfl, j1, j7⟩ := hw
  clear ka6 sp6 hwd hp5 hp5' np5 ha
  have bq : Bq (x.wnl nl) := ⟨(bd.mono (by omega) (by omega) (by omega)).wnl nl, by have := bd.past; show x.past.length + 1 ≤ 60; omega⟩
  have rw_ := runB_wnl kd x h (x.leaf.sd.last + j) nl
  have hn : -((i + 1 : Nat) : Int) ≤ x.leaf.sd.last + j ∧ x.leaf.sd.last + j ≤ 7 * ((i + 1 : Nat) : Int) := ⟨by omega, by omega⟩
  walk_at "w"
  refine ⟨kd, ?_⟩
  walk_at "w"
  refine ⟨b, x.wnl nl, h, x.leaf.sd.last + j, rfl, ls.tw, bq, hb, fun H7 ka7 ix7 => ?_⟩
  rw [rw_.1]
  rw [rw_.2] at ix7
  replace ls := ls.twn Gk ka7 ix7
  cases h with
  | true =>
    have hS : Sn (x.leaf.sd.last + j) := ⟨by omega, by omega⟩
    walk_at "w"
    refine ⟨log_ok hS, _, _, rfl, rfl, Nat.le_trans (Nat.add_le_add (show ("hear " : Str).length ≤ 5 by decide) (nt_ok hS).1) (by decide), ?_⟩
    exact ktt D' kd T q a b D d0 d1 M rv R i H7 x nl m0 m1 true (x.leaf.sd.last + j) way at_ s0 s2 s4 s5 s10 s17 s18 s19 s20 s21 hi w0 w3 t0 t2 hn ls bd rk hb hR hm k
  | false =>
    walk_at "w"
    exact ktt D' kd T q a b D d0 d1 M rv R i H7 x nl m0 m1 false (x.leaf.sd.last + j) way at_ s0 s2 s4 s5 s10 s17 s18 s19 s20 s21 hi w0 w3 t0 t2 hn ls bd rk hb hR hm k
end
end K8
set_option maxHeartbeats 4000000
namespace K8
open PySem PySem.Spec PyProof.Rows L2 NdefX LamX
set_option hygiene false in
local macro_rules | `(tactic| walk_at "w") => `(tactic| (repeat (first | refine ⟨_, rfl, ?_⟩ | refine ⟨_, _, rfl, rfl, ?_⟩ | refine ⟨rfl, ?_⟩ | refine ⟨_, _, rfl, ?_⟩ | refine ⟨_, _, rfl, .of upd_same, rfl, ?_⟩ | refine ⟨_, _, rfl, .of (by assumption), rfl, ?_⟩ | refine ⟨_, _, rfl, .of (by assumption), fun q hq => ?_⟩ | refine ⟨_, _, rfl, .of (by assumption), ?_⟩ | refine ⟨_, _, rfl, .inr (.of (by assumption)), ?_⟩ | refine ⟨_, _, rfl, .inl (.of (by assumption)), ?_⟩ | refine ⟨_, _, _, _, rfl, rfl, .of (by assumption), atI_nat (j := 0) rfl, ?_⟩ | refine ⟨_, _, _, _, rfl, rfl, .of (by assumption), atI_nat (j := 1) rfl, ?_⟩ | refine ⟨_, _, _, _, rfl, rfl, .of (by assumption), atI_nat (j := 2) rfl, ?_⟩ | refine ⟨fun z => absurd z.1 (show ¬ (1 : Nat) = 0 by decide), fun _ q hq => ?_⟩ | refine ⟨fun z => absurd z.1 (show ¬ (2 : Nat) = 0 by decide), fun _ q hq => ?_⟩ | refine ⟨sz1, fun q hq => ?_⟩ | refine ⟨sz2, fun q hq => ?_⟩ | refine ⟨sz3, fun q hq => ?_⟩ | refine ⟨sz0, fun q hq => ?_⟩ | refine ⟨_, _, _, rfl, rfl, (by assumption), (by assumption), ?_⟩ | refine ⟨.inl ⟨rfl, _, .of (by assumption)⟩, ?_⟩ | refine ⟨_, _, rfl, .inl ⟨.of (by assumption), fun q hq => ?_⟩⟩ | refine ⟨⟨_, .of (by assumption)⟩, ?_⟩ | refine ⟨⟨_, rfl⟩, ?_⟩ | refine ⟨.inl ⟨rfl, _, .of upd_same⟩, ?_⟩ | refine ⟨_, _, _, _, _, rfl, (by assumption), (by assumption), (by assumption), (by rfl), ?_⟩ | refine ⟨_, _, _, _, rfl, upd_same, (by assumption), (by assumption), (by first | exact ixFs_len | exact (show (0 : Nat) < 1000 by decide) | exact (show (1 : Nat) < 1000 by decide) | exact (show (2 : Nat) < 1000 by decide) | exact (show (3 : Nat) < 1000 by decide) | exact (show (4 : Nat) < 1000 by decide) | exact (show (5 : Nat) < 1000 by decide) | exact (show (6 : Nat) < 1000 by decide)), ?_⟩ | refine ⟨_, _, _, _, rfl, (by assumption), (by assumption), (by assumption), (by first | exact ixFs_len | exact (show (0 : Nat) < 1000 by decide) | exact (show (1 : Nat) < 1000 by decide) | exact (show (2 : Nat) < 1000 by decide) | exact (show (3 : Nat) < 1000 by decide) | exact (show (4 : Nat) < 1000 by decide) | exact (show (5 : Nat) < 1000 by decide) | exact (show (6 : Nat) < 1000 by decide)), ?_⟩ | refine ⟨_, _, _, rfl, (by assumption), (by first | rfl | exact ixFs_no (by decide +kernel)), ?_⟩ | refine ⟨_, _, _, rfl, (by assumption), ?_⟩ | refine iteT ?_ | refine iteF ?_)))
/-! ### the end of a turn -/
/-- between turns -/
structure TS_ (T : List NTab) (q : Addr) (σ : L2.St) (H : Hp) : Prop where
  sn : ∃ s0 s2 s3 s4 s5 s6 s7 s8 s9 s10 s11 s12 s13 s14 s15 s16 s17 s18 s19 s20 s21 : Option V, σ = [s0, some (.ref q), s2, s3, s4, s5, s6, s7, s8, s9, s10, s11, s12, s13, s14, s15, s16, s17, s18, s19, s20, s21]
  spr : Spr q H
  tb : TabsN T H
section
variable {P : Program} {w : World} {K : PySem.W.Frag} {mg : Str → Option Value} {base : Heap}
abbrev lawT (P0 : Addr) : List NTab := [(P0, fun _ _ => "_law_within.<locals>._law_look")]
theorem ok_rest {P0 : Addr} {f : Addr} {cdv : Value} {A : Around} {outer : List Env} {s : Shared} {H0 : Hp} {E : XK} (G : Gx K mg) (Gk : Gk K mg) (hr : Room 14 (A.deeper (envOfC "law" (defScope s_law) s.heap.objs.size f cdv))) (p_history : Prp P w K mg base 1 (cDk K) "history" (sp_history K))
    (m_say : ∀ kd, Met P w K mg base CX0 10 (cDk K) "say" (sp_say K kd)) (p_last : ∀ kd, Prp P w K mg base 1 (Kd.C K kd) "last" (sp_last K kd)) (p_version : ∀ kd, Prp P w K mg base 1 (Kd.C K kd) "version" (sp_version K kd)) (c__law_log_text : Cal P w K mg base CX0 1 "_law_log_text" sp_l_log_text) (c__law_ranges_text : Cal P w K mg base CX0 2 "_law_ranges_text" sp_ranges_text)
    (c_fits : Cal P w K mg base CX0 7 "fits" sp_fits) (c_log_text : Cal P w K mg base CX0 2 "log_text" sp_log_text) (c_within : ∀ kd, Cal P w K mg base CX0 14 "_law_within" (sp_within K kd (lawT P0))) (c__law_within_right : Cal P w K mg base CX0 1 "_law_within_right" sp_within_right) :
    ∃ tb, PSs (lawX P w K mg base f cdv A outer s H0 E) ((forB s_turn).drop 4) tb ∧ ∀ (D' : Ends) (kd : Kd) (q a b D d0 d1 M : Addr) (rv : V) (R : Rec) (σ : L2.St) (H : Hp), DS K kd (lawT P0) q a b D d0 d1 M rv R 14 σ H → (∀ σ' H', TS_ (lawT P0) q σ' H' → D'.nx σ' H') → tb D' σ H := by
  refine ⟨_, pss_cons (ps_if (PW.pt (pw_or (pt_cmpR (op_neD hr.units) (by exact pe_lc (own := [("_law_desk", 18)]) (by rfl) sc_law.nd (pi_list (pv 8)) (blkOk_by (N := ["_law_script", "_law_spring_here", "_law_turn", "_law_receiver_here", "_law_kind", "_law_limit", "_law_inbox", "_law_twin", "_law_desks", "_law_many", "_law_k", "_law_way", "_law_at", "_law_word", "_law_number", "_law_due", "_law_line", "_law_found", "_law_desk", "_law_text", "_law_numbers", "_law_step"]) (sc := defScope s_law) (by decide +kernel)) (fun _ _ _ _ _ => (pg_name (i := 18) sc_law.nd rfl (Or.inl rfl) (Or.inr rfl))) (fun _ _ _ _ _ => pts_nil) (fun _ _ _ _ _ => (pe_callB call_len_seqB (by rfl) G.len (by decide +kernel) (pa_cons (pe_p p_history hr (by decide) (pv 18)) pa_nil)))) (pv 9) (nomark _)) (pw_or1 (pt_cmpR op_ne (PE.ex fun kd => pe_mX (m_say kd) hr (by decide) atN (pe_ix ix_list (pv 8) pe_int (fun _ _ => rfl)) (pa_cons pe_str pa_nil)) (PE.ex fun kd => pe_mX (m_say kd) hr (by decide) atN (pe_ix ix_list (pv 8) pe_int (fun _ _ => rfl)) (pa_cons pe_str pa_nil)) (nomark _))))) (pss_one (ps_ret pe_bl)) pss_nil)
    (pss_cons (ps_set (i := 19) sc_law.nd rfl (Or.inl rfl) (pe_d c__law_log_text hr (by decide) (by rfl) (pa_cons (pe_lst (pa_cons (pe_tup (pa_cons pe_int (pa_cons pe_bl pa_nil))) pa_nil)) pa_nil))) (pss_cons (ps_set (i := 15) sc_law.nd rfl (Or.inl rfl) (pe_d c__law_ranges_text hr (by decide) (by rfl) (pa_cons (pe_d c_fits hr (by decide) (by rfl) (pa_cons (pv 3) (pa_cons (pe_tup (pa_cons (pe_tup (pa_cons pe_int (pa_cons pe_bl pa_nil))) pa_nil)) pa_nil))) pa_nil))) (pss_cons (ps_if (PW.pt (pw_or (pt_cmpR op_ne (pe_d c_log_text hr (by decide) (by rfl) (pa_cons (pe_tup (pa_cons (pe_tup (pa_cons pe_int (pa_cons pe_bl pa_nil))) pa_nil)) pa_nil)) (pv 19) (nomark _)) (pw_or1 (pt_cmpR op_ne (PE.ex fun kd => pe_mX (m_say kd) hr (by decide) atN (pe_ix ix_list (pv 8) pe_int (fun _ _ => rfl)) (pa_cons (pe_op op_add_str pe_str (pv 19)) pa_nil)) (pv 15) (nomark _))))) (pss_one (ps_ret pe_bl)) pss_nil)
    (pss_cons (ps_setLc (i := 20) (own := [("_law_step", 21)]) (by rfl) sc_law.nd rfl rfl (sw_true rfl rfl rfl (by decide +kernel)) (pi_list (pe_lst (pa_cons pe_int (pa_cons pe_int (pa_cons pe_int (pa_cons pe_int pa_nil)))))) (blkOk_by (N := ["_law_script", "_law_spring_here", "_law_turn", "_law_receiver_here", "_law_kind", "_law_limit", "_law_inbox", "_law_twin", "_law_desks", "_law_many", "_law_k", "_law_way", "_law_at", "_law_word", "_law_number", "_law_due", "_law_line", "_law_found", "_law_desk", "_law_text", "_law_numbers", "_law_step"]) (sc := defScope s_law) (by decide +kernel)) (fun _ _ _ _ _ => (pg_name (i := 21) sc_law.nd rfl (Or.inl rfl) (Or.inr rfl))) (fun _ _ _ _ _ => pts_nil) (fun _ _ _ _ _ => (pe_op op_add (PE.ex fun kd => pe_p (p_last kd) hr (by decide) (pv 6)) (pv 21)))) (pss_one (ps_if (PW.pt (pw_and (pt_cmpR op_lt (PE.ex fun kd => pe_p (p_version kd) hr (by decide) (pv 6)) pe_int (nomark _)) (pw_and1 (pt_not (pt_val (pe_d c__law_within_right hr (by decide) (by rfl) (pa_cons (PE.ex fun kd => pe_d (c_within kd) hr (by decide) (by rfl) (pa_cons (pv 6) (pa_cons (pe_ix ix_list (pv 8) pe_int (fun _ _ => rfl)) (pa_cons (pv 20) pa_nil)))) (pa_cons (pv 15) pa_nil)))))))) (pss_one (ps_ret pe_bl)) pss_nil)))))), ?_⟩
  intro D' kd qs a b D d0 d1 M rv R σ H ds k
  obtain ⟨⟨s0, s2, s4, s5, s10, s11, s12, s13, s14, s15, s16, s17, s18, s19, s20, s21, rfl⟩, x, nl, m0, m1, ls, bd, rk, hb, hR, hm⟩ := ds
  have hD := ls.hD
  have hM := ls.hM
  walk_at "w"
  intro Ln hLn
  refine lc_list (xs := [.ref d0, .ref d1]) (fun i H' => Same H H' ∧ H' Ln = some (.lst ((([m0, m1] : List Nat).take i).map fun (k : Nat) => V.int (k : Int)))) ?_ ?_ ?_ ?_
  · exact ⟨.new hLn, upd_same⟩
  · rintro i H' hi ⟨sm, _⟩
    exact .of (sm _ _ hD)
  · rintro i v H' hx ⟨sm, hl⟩
    rcases i with _ | _ | i
    · cases hx
      have ls' := ls.same sm
      obtain ⟨_, _, _, hd, _⟩ := ls'.k0.ex
      walk_at "w"
      refine ⟨_, a, _, rfl, ls'.k0, fun p ps hp hpl => ?_⟩
      walk_at "w"
      rw [hpl]
      exact ⟨_, hl, (show 0 < sizeLine by decide), sm.own hLn, upd_same⟩
    · cases hx
      have ls' := ls.same sm
      obtain ⟨_, _, _, hd, _⟩ := ls'.k1.ex
      walk_at "w"
      refine ⟨_, a, _, rfl, ls'.k1, fun p ps hp hpl => ?_⟩
      walk_at "w"
      rw [hpl]
      exact ⟨_, hl, (show 1 < sizeLine by decide), sm.own hLn, upd_same⟩
    · cases hx
  · rintro H' ⟨sm, hl⟩
    replace ls := ls.same sm
    have hD := ls.hD
    have hM := ls.hM
    walk_at "w"
    have hl : H' Ln = some (.lst [.int (m0 : Int), .int (m1 : Int)]) := hl
    refine ⟨.list [.int m0, .int m1], .list [.int m0, .int m1], .lst (.of hl) (.cons (.int _) (.cons (.int _) .nil)), .lst (.of hM) (.cons (.int _) (.cons (.int _) .nil)), rfl, rfl, ⟨false, congrArg V.bl (by simp [PyData.eqv, PyData.eqvAll]), ?_⟩⟩
    refine iteF ⟨kd, ?_⟩
    have bq : Bq x := ⟨bd.mono (by omega) (by omega) (by omega), by have := bd.past; omega⟩
    have en : ∀ t : Str, (!decide (V.str t = V.str t)) = false := fun t => by simp
    obtain ⟨_, _, _, hd, _⟩ := ls.k0.ex
    walk_at "w"
    refine ⟨d0, a, m0, x, .last, rfl, ls.k0, by omega, ls.ix, bq, trivial, fun H2 ks dk2 ix2 => ?_⟩
    replace ls := ls.say0 Gk ks dk2 (show IxR K kd H2 a x from ix2)
    refine ⟨kd, ?_⟩
    obtain ⟨_, _, _, hd, _⟩ := ls.k1.ex
    have hD := ls.hD
    walk_at "w"
    refine ⟨d1, a, m1, x, .last, rfl, ls.k1, by omega, ls.ix, bq, trivial, fun H3 ks dk3 ix3 => ?_⟩
    replace ls := ls.say1 Gk ks dk3 (show IxR K kd H3 a x from ix3)
    have hc0 : min (m0 + 1) 20 ≤ 20 := Nat.min_le_right _ _
    have hc1 : min (m1 + 1) 20 ≤ 20 := Nat.min_le_right _ _
    generalize min (m0 + 1) 20 = c0 at *
    generalize min (m1 + 1) 20 = c1 at *
    clear ks dk2 dk3 ix2 ix3 hl sm hLn
    walk_at "w"
    rw [en]
    refine iteF ?_
    refine ⟨sz2, fun t1 ht1 => ?_⟩
    have td1 : Td (L2.upd H3 t1 (.tup [.int 0, .bl true])) (.ref t1) (.tuple [.int 0, .bool true]) := .of2 upd_same (.int _) (.bl _)
    replace ls := ls.same (.new (o := .tup [.int 0, .bl true]) ht1)
    generalize L2.upd H3 t1 (.tup [.int 0, .bl true]) = H4 at *
    refine ⟨sz1, fun t2 ht2 => ?_⟩
    replace ls := ls.same (.new (o := .lst [.ref t1]) ht2)
    have td2 := td1.same (L2.Same.new (o := .lst [.ref t1]) ht2)
    have hl2 : L2.upd H4 t2 (.lst [.ref t1]) t2 = some (.lst [.ref t1]) := upd_same
    generalize L2.upd H4 t2 (.lst [.ref t1]) = H5 at *
    refine ⟨t2, .ref t1, rfl, hl2, td2, fun H6 s6 => ?_⟩
    replace ls := ls.same s6
    clear ht1 td1 ht2 td2 hl2 s6
    obtain ⟨_, r, _, _, _, _, _, hru, _⟩ := ls.ix.ex
    have hok := hru.ok
    rw [hR] at hok
    refine ⟨_, rfl, ?_⟩
    refine ⟨sz2, fun t3 ht1 => ?_⟩
    have td1 : Td (L2.upd H6 t3 (.tup [.int 0, .bl true])) (.ref t3) (.tuple [.int 0, .bool true]) := .of2 upd_same (.int _) (.bl _)
    replace ls := ls.same (.new (o := .tup [.int 0, .bl true]) ht1)
    generalize L2.upd H6 t3 (.tup [.int 0, .bl true]) = H4 at *
    refine ⟨sz1, fun t4 ht2 => ?_⟩
    replace ls := ls.same (.new (o := .tup [.ref t3]) ht2)
    have td2 : Td (L2.upd H4 t4 (.tup [.ref t3])) (.ref t4) (.tuple [.tuple [.int 0, .bool true]]) := .of1 upd_same (td1.same (.new ht2))
    generalize L2.upd H4 t4 (.tup [.ref t3]) = H5 at *
    clear ht1 td1 ht2
    refine ⟨rv, .ref t4, R, rfl, ls.rv_, hok, td2, fun H7 o s7 to => ?_⟩
    replace ls := ls.same s7
    clear td2 hru
    refine ⟨o, fitsF R, rfl, to, (fits_ok R).1, (fits_ok R).2, fun H8 s8 => ?_⟩
    replace ls := ls.same s8
    clear s7 to s8
    refine ⟨sz2, fun t5 ht1 => ?_⟩
    have td1 : Td (L2.upd H8 t5 (.tup [.int 0, .bl true])) (.ref t5) (.tuple [.int 0, .bool true]) := .of2 upd_same (.int _) (.bl _)
    replace ls := ls.same (.new (o := .tup [.int 0, .bl true]) ht1)
    generalize L2.upd H8 t5 (.tup [.int 0, .bl true]) = H4 at *
    refine ⟨sz1, fun t6 ht2 => ?_⟩
    replace ls := ls.same (.new (o := .tup [.ref t5]) ht2)
    have td2 : Td (L2.upd H4 t6 (.tup [.ref t5])) (.ref t6) (.tuple [.tuple [.int 0, .bool true]]) := .of1 upd_same (td1.same (.new ht2))
    generalize L2.upd H4 t6 (.tup [.ref t5]) = H5 at *
    clear ht1 td1 ht2
    refine ⟨.ref t6, rfl, td2, fun H9 s9 => ?_⟩
    replace ls := ls.same s9
    clear td2 s9
    obtain ⟨_, _, _, hd, _⟩ := ls.k0.ex
    have hD := ls.hD
    walk_at "w"
    refine ⟨kd, ?_⟩
    walk_at "w"
    refine ⟨(show ("fits " : Str).length + lt0.length ≤ sizeLine by decide +kernel), ?_⟩
    refine ⟨d0, a, c0, x, .fits, rfl, ls.k0, hc0, ls.ix, bq, trivial, fun H10 ks dk ix => ?_⟩
    replace ls := ls.say0 Gk ks dk (show IxR K kd H10 a x from ix)
    have ef : resT (runC kd x .fits) = rst (fitsF R) := by show rst (fitsF x.R) = _; rw [hR]
    rw [ef]
    clear ks dk ix hd hD
    walk_at "w"
    rw [en]
    refine iteF ?_
    have hb2 := bd.num.1
    refine ⟨(show 4 ≤ sizeLine by decide), fun Lm hLm => ?_⟩
    replace ls := ls.same (.new (o := .lst [.int 1, .int 2, .int 3, .int 5]) hLm)
    have hlm : L2.upd H10 Lm (.lst [.int 1, .int 2, .int 3, .int 5]) Lm = some (.lst (([1, 2, 3, 5] : List Int).map V.int)) := upd_same
    generalize L2.upd H10 Lm (.lst [.int 1, .int 2, .int 3, .int 5]) = H11 at *
    refine ⟨Lm, rfl, ⟨_, .of hlm⟩, ?_⟩
    intro Lq hLq
    refine lc_list (xs := ([1, 2, 3, 5] : List Int).map V.int) (fun i H' => Same H11 H' ∧ H' Lq = some (.lst ((([1, 2, 3, 5] : List Int).take i).map fun (k : Int) => V.int (x.leaf.sd.last + k)))) ?_ ?_ ?_ ?_
    · exact ⟨.new hLq, upd_same⟩
    · rintro i H' hi ⟨sm, _⟩
      exact .of (sm _ _ hlm)
    · rintro i v H' hx ⟨sm, hl⟩
      rw [List.getElem?_map] at hx
      obtain ⟨j, hj, rfl⟩ := Option.map_eq_some_iff.mp hx
      have ls' := ls.same sm
      obtain ⟨_, _, _, _, _, _, ha, _⟩ := ls'.ix.ex
      walk_at "w"
      refine ⟨kd, ?_⟩
      walk_at "w"
      refine ⟨a, x, rfl, ls'.ix, ?_⟩
      walk_at "w"
      refine ⟨_, hl, small1000 (by rw [List.length_map, List.length_take]; show min i 4 ≤ 1000; omega), sm.own hLq, ?_⟩
      rw [upd_same, take_snoc hj, List.map_append]
      rfl
    · rintro H' ⟨sm, hl⟩
      replace ls := ls.same sm
      clear sm hLq hlm hLm
      obtain ⟨_, _, _, _, _, _, ha, _⟩ := ls.ix.ex
      have hD := ls.hD
      have hp14 := bd.past
      refine ⟨kd, ?_⟩
      walk_at "w"
      refine ⟨a, x, rfl, ls.ix, ?_⟩
      walk_at "w"
      refine iteDT (by omega) ⟨kd, ?_⟩
      walk_at "w"
      refine ⟨a, d1, Lq, c1, x, x.leaf.sd.last + 1, [x.leaf.sd.last + 2, x.leaf.sd.last + 3, x.leaf.sd.last + 5], rfl, ls.tb, hl, (show 4 ≤ 20 by decide), ?_, ls.ix, hb, bd.mono (by decide) (by decide) (by decide), (show x.past.length + 4 + 1 ≤ 60 by omega), ls.k1, hc1, fun H12 fl xs hh kx tT hxl prs hfl => ?_⟩
      · intro m hm9
        simp only [List.mem_cons, List.not_mem_nil, or_false] at hm9
        rcases hm9 with rfl | rfl | rfl | rfl <;> exact ⟨by omega, by omega⟩
      rw [hR] at prs
      have sp12 : Spr qs H12 := by
        obtain ⟨g, mm, c, e, r⟩ := ls.spr
        have nd := nd7 ls.nd
        exact ⟨g, mm, c, kx.at_ _ _ (nm2 nd.1.2.2.2.2.1 nd.1.1) (fun _ z => by cases z) e, r⟩
      walk_at "w"
      refine ⟨fl, _, xs, hh, rfl, hfl, hxl, prs, .fits R, fun H13 s13 => ?_⟩
      walk_at "w"
      exact k _ _ ⟨⟨_, _, _, _, _, _, _, _, _, _, _, _, _, _, _, _, _, _, _, _, _, rfl⟩, sp12.same s13, tT.ext s13⟩
end
end K8
set_option maxHeartbeats 4000000
namespace K8
open PySem PySem.Spec PyProof.Rows L2 NdefX LamX
set_option hygiene false in
local macro_rules | `(tactic| walk_at "w") => `(tactic| (repeat (first | refine ⟨_, rfl, ?_⟩ | refine ⟨_, _, rfl, rfl, ?_⟩ | refine ⟨rfl, ?_⟩ | refine ⟨_, _, rfl, ?_⟩ | refine ⟨_, _, rfl, .of upd_same, rfl, ?_⟩ | refine ⟨_, _, rfl, .of (by assumption), rfl, ?_⟩ | refine ⟨_, _, rfl, .of (by assumption), fun q hq => ?_⟩ | refine ⟨_, _, rfl, .of (by assumption), ?_⟩ | refine ⟨_, _, rfl, .inr (.of (by assumption)), ?_⟩ | refine ⟨_, _, rfl, .inl (.of (by assumption)), ?_⟩ | refine ⟨_, _, _, _, rfl, rfl, .of (by assumption), atI_nat (j := 0) rfl, ?_⟩ | refine ⟨_, _, _, _, rfl, rfl, .of (by assumption), atI_nat (j := 1) rfl, ?_⟩ | refine ⟨_, _, _, _, rfl, rfl, .of (by assumption), atI_nat (j := 2) rfl, ?_⟩ | refine ⟨fun z => absurd z.1 (show ¬ (1 : Nat) = 0 by decide), fun _ q hq => ?_⟩ | refine ⟨fun z => absurd z.1 (show ¬ (2 : Nat) = 0 by decide), fun _ q hq => ?_⟩ | refine ⟨sz1, fun q hq => ?_⟩ | refine ⟨sz2, fun q hq => ?_⟩ | refine ⟨sz3, fun q hq => ?_⟩ | refine ⟨sz0, fun q hq => ?_⟩ | refine ⟨_, _, _, rfl, rfl, (by assumption), (by assumption), ?_⟩ | refine ⟨.inl ⟨rfl, _, .of (by assumption)⟩, ?_⟩ | refine ⟨_, _, rfl, .inl ⟨.of (by assumption), fun q hq => ?_⟩⟩ | refine ⟨⟨_, .of (by assumption)⟩, ?_⟩ | refine ⟨⟨_, rfl⟩, ?_⟩ | refine ⟨.inl ⟨rfl, _, .of upd_same⟩, ?_⟩ | refine ⟨_, _, _, _, _, rfl, (by assumption), (by assumption), (by assumption), (by rfl), ?_⟩ | refine ⟨_, _, _, _, rfl, upd_same, (by assumption), (by assumption), (by first | exact ixFs_len | exact (show (0 : Nat) < 1000 by decide) | exact (show (1 : Nat) < 1000 by decide) | exact (show (2 : Nat) < 1000 by decide) | exact (show (3 : Nat) < 1000 by decide) | exact (show (4 : Nat) < 1000 by decide) | exact (show (5 : Nat) < 1000 by decide) | exact (show (6 : Nat) < 1000 by decide)), ?_⟩ | refine ⟨_, _, _, _, rfl, (by assumption), (by assumption), (by assumption), (by first | exact ixFs_len | exact (show (0 : Nat) < 1000 by decide) | exact (show (1 : Nat) < 1000 by decide) | exact (show (2 : Nat) < 1000 by decide) | exact (show (3 : Nat) < 1000 by decide) | exact (show (4 : Nat) < 1000 by decide) | exact (show (5 : Nat) < 1000 by decide) | exact (show (6 : Nat) < 1000 by decide)), ?_⟩ | refine ⟨_, _, _, rfl, (by assumption), (by first | rfl | exact ixFs_no (by decide +kernel)), ?_⟩ | refine ⟨_, _, _, rfl, (by assumption), ?_⟩ | refine iteT ?_ | refine iteF ?_)))
/-! ### a turn -/
section
variable {P : Program} {w : World} {K : PySem.W.Frag} {mg : Str → Option Value} {base : Heap}
theorem obj_ne {H : Hp} {x y : Addr} {o : HO} (h : H x = some o) (n : H y = none) : x ≠ y := fun z => by rw [z, n] at h; cases h
theorem spr_ne {H : Hp} {x y : Addr} (h : Spr x H) (n : H y = none) : x ≠ y := let ⟨_, _, _, e, _⟩ := h; obj_ne e n
theorem ix_ne {kd : Kd} {H : Hp} {x y : Addr} {i : Ix} (h : IxR K kd H x i) (n : H y = none) : x ≠ y := let ⟨_, _, _, _, _, _, e, _⟩ := h.ex; obj_ne e n
theorem dk_ne {H : Hp} {x y a : Addr} {m : Nat} (h : DkR K H x a m) (n : H y = none) : x ≠ y := let ⟨_, _, _, e, _⟩ := h.ex; obj_ne e n
theorem new_bd (R : Rec) (nl : Nat) (mo : Option Nat) : Bd 0 (-((0 : Nat) : Int)) (7 * ((0 : Nat) : Int)) (ixNew R nl 0 mo) ∧ Rk (ixNew R nl 0 mo) := ⟨⟨Nat.le_refl _, Nat.le_refl _, ⟨Nat.le_refl _, Nat.le_refl _⟩, (fun l h => nomatch h), ⟨⟨(show (-((0 : Nat) : Int)) ≤ 0 by decide), (show (0 : Int) ≤ 7 * ((0 : Nat) : Int) by decide)⟩, fun n h => nomatch h⟩, fun l h => nomatch h⟩, (fun k h => nomatch h), (fun l h => nomatch h), fun d h => nomatch h⟩
theorem ok_turn {P0 : Addr} {f : Addr} {cdv : Value} {A : Around} {outer : List Env} {s : Shared} {H0 : Hp} {E : XK} (G : Gx K mg) (Gk : Gk K mg) (hg : A.guards = some []) (hr : Room 14 (A.deeper (envOfC "law" (defScope s_law) s.heap.objs.size f cdv))) (c__law_dip : Cal P w K mg base CX0 1 "_law_dip" sp_dip) (c__law_pick : Cal P w K mg base CX0 2 "_law_pick" sp_pick)
    (c_by : ∀ kd, Cal P w K mg base CX0 7 "_law_by_methods" (sp_by K kd)) (c_shown : ∀ kd, CalP guardsNone P w K mg base CX0 4 "_law_shown" (sp_shown K kd)) (p_history : Prp P w K mg base 1 (cDk K) "history" (sp_history K))
    (m_say : ∀ kd, Met P w K mg base CX0 10 (cDk K) "say" (sp_say K kd)) (p_last : ∀ kd, Prp P w K mg base 1 (Kd.C K kd) "last" (sp_last K kd)) (p_version : ∀ kd, Prp P w K mg base 1 (Kd.C K kd) "version" (sp_version K kd)) (c__law_log_text : Cal P w K mg base CX0 1 "_law_log_text" sp_l_log_text) (c__law_ranges_text : Cal P w K mg base CX0 2 "_law_ranges_text" sp_ranges_text)
    (c_fits : Cal P w K mg base CX0 7 "fits" sp_fits) (c_log_text : Cal P w K mg base CX0 2 "log_text" sp_log_text) (c_within : ∀ kd, Cal P w K mg base CX0 14 "_law_within" (sp_within K kd (lawT P0))) (c__law_within_right : Cal P w K mg base CX0 1 "_law_within_right" sp_within_right)
    (c__law_receiver : Cal P w K mg base CX0 4 "_law_receiver" sp_l_receiver) (c__law_gate : Cal P w K mg base CX0 9 "_law_gate" (sp_gate K)) (k_Desk : Mkr P w K mg base 1 "Desk" (cDk K) (sp_Desk K)) :
    ∃ tb, PSs (lawX P w K mg base f cdv A outer s H0 E) (forB s_turn) tb ∧ ∀ (D' : Ends) (q : Addr) (σ : L2.St) (H : Hp), TS_ (lawT P0) q σ H → (∀ σ' H', TS_ (lawT P0) q σ' H' → D'.nx σ' H') → tb D' σ H := by
  obtain ⟨tb, htb, ktb⟩ := ok_deed (s := s) (outer := outer) (H0 := H0) (E := E) G Gk hg hr c__law_dip c__law_pick c_by c_shown m_say p_last
  obtain ⟨tr, htr, ktr⟩ := ok_rest (s := s) (outer := outer) (H0 := H0) (E := E) G Gk hr p_history m_say p_last p_version c__law_log_text c__law_ranges_text c_fits c_log_text c_within c__law_within_right
  refine ⟨_, pss_cons (ps_par3 (i := 3) (j := 4) (l := 5) (by rfl) sc_law.nd rfl rfl rfl (by decide) (by decide) (by decide) rfl rfl rfl (pa_cons (pe_d c__law_receiver hr (by decide) (by rfl) (pa_cons (pv 1) (pa_cons pe_int (pa_cons pe_int pa_nil)))) (pa_cons (pe_d c__law_dip hr (by decide) (by rfl) (pa_cons (pv 1) (pa_cons pe_int pa_nil))) (pa_cons (pe_op op_add pe_int (pe_d c__law_dip hr (by decide) (by rfl) (pa_cons (pv 1) (pa_cons pe_int pa_nil)))) pa_nil))) (by rfl)) (pss_cons (ps_asg (pe_tup (pa_cons (pe_d c__law_gate hr (by decide) (by rfl) (pa_cons (pv 4) (pa_cons (pv 3) (pa_cons pe_int (pa_cons (pv 5) pa_nil))))) (pa_cons (pe_d c__law_gate hr (by decide) (by rfl) (pa_cons (pv 4) (pa_cons (pv 3) (pa_cons pe_int (pa_cons (pv 5) pa_nil))))) pa_nil))) (pg_tup (n := 2) rfl (pgs_cons (pg_name (i := 6) sc_law.nd rfl (Or.inr rfl)) (pgs_cons (pg_name (i := 7) sc_law.nd rfl (Or.inl rfl)) pgs_nil)))) (pss_cons (ps_par (i := 8) (j := 9) (by rfl) sc_law.nd rfl rfl (by decide) rfl rfl (pa_cons (pe_lst (pa_cons (pe_mk k_Desk hr (by decide) (by rfl) (pa_cons (pv 6) pa_nil)) (pa_cons (pe_mk k_Desk hr (by decide) (by rfl) (pa_cons (pv 6) pa_nil)) pa_nil))) (pa_cons (pe_lst (pa_cons pe_int (pa_cons pe_int pa_nil))) pa_nil)) (by rfl)) (pss_cons (ps_for PassesOwn.never rfl (pi_range1 (by rfl) G.range (pa_cons pe_int pa_nil)) (pg_name (i := 10) sc_law.nd rfl (Or.inl rfl)) htb) htr))), ?_⟩
  intro D' qs σ H ts k
  obtain ⟨⟨s0, s2, s3, s4, s5, s6, s7, s8, s9, s10, s11, s12, s13, s14, s15, s16, s17, s18, s19, s20, s21, rfl⟩, spr, tT⟩ := ts
  have step : ∀ {H1 H2 : Hp}, Spr qs H1 → TabsN (lawT P0) H1 → Ka qs H1 H2 → TabsN (lawT P0) H2 ∧ TupK H1 H2 := fun {H1 H2} sp tt ka => by
    obtain ⟨g, m, c, e, _⟩ := sp
    exact ⟨tabs_kas tt (kas1 ka) (fun b z => by rw [List.mem_singleton.mp z]; exact .inr ⟨_, e⟩), (ka.fz (K := K) e (fun z => z)).tupK⟩
  walk_at "w"
  refine ⟨spr, fun H1 rv R okR ka1 sp1 tv => ?_⟩
  have t1 := (step spr tT ka1).1
  walk_at "w"
  refine ⟨sp1, by decide, by decide, fun H2 c ka2 sp2 c0 c4 => ?_⟩
  have t2 := step sp1 t1 ka2
  replace tv := tv.mono t2.2
  walk_at "w"
  refine ⟨sp2, by decide, by decide, fun H3 l ka3 sp3 l0 l9 => ?_⟩
  have t3 := step sp2 t2.1 ka3
  replace tv := tv.mono t3.2
  replace t3 := t3.1
  obtain ⟨cn, rfl⟩ : ∃ cn : Nat, c = cn := ⟨c.toNat, by omega⟩
  obtain ⟨ln, rfl⟩ : ∃ ln : Nat, l = ln := ⟨l.toNat, by omega⟩
  clear ka1 sp1 ka2 sp2 ka3 t1 t2 spr tT
  refine ⟨_, _, rfl, rfl, ?_⟩
  refine ⟨_, _, _, rfl, ?_⟩
  refine ⟨_, rfl, ?_⟩
  refine ⟨_, rfl, ?_⟩
  refine ⟨_, rfl, ?_⟩
  refine ⟨cn, 1 + ln, rv, R, rfl, tv, okR, by omega, by omega, by omega, fun H4 a nl s4 ga ix => ?_⟩
  replace tv := tv.same s4
  replace t3 := t3.ext s4
  have ix4 := ix
  have sp4 := sp3.same s4
  refine ⟨_, rfl, ?_⟩
  refine ⟨_, rfl, ?_⟩
  refine ⟨_, rfl, ?_⟩
  refine ⟨cn, 1 + ln, rv, R, rfl, tv, okR, by omega, by omega, by omega, fun H5 b nb s5 gb iy => ?_⟩
  replace tv := tv.same s5
  replace t3 := t3.ext s5
  have sp5 := sp4.same s5
  replace ix := ix.same s5
  have nqa : qs ≠ a := spr_ne sp3 ga
  have nqb : qs ≠ b := spr_ne sp4 gb
  have nab : a ≠ b := ix_ne ix4 gb
  refine ⟨sz2, fun tq htq => ?_⟩
  have s6 : Same H5 (L2.upd H5 tq (.tup [.ref a, .ref b])) := .new htq
  have htq' : L2.upd H5 tq (.tup [.ref a, .ref b]) tq = some (.tup [.ref a, .ref b]) := upd_same
  generalize L2.upd H5 tq (.tup [.ref a, .ref b]) = H6 at *
  replace tv := tv.same s6
  replace t3 := t3.ext s6
  replace sp5 := sp5.same s6
  replace ix := ix.same s6
  replace iy := iy.same s6
  walk_at "w"
  intro d0 e0 g0 ge0 ne0
  have nq0 := spr_ne sp5 g0
  have na0 := ix_ne ix g0
  have nb0 := ix_ne iy g0
  have g01 : L2.upd H6 e0 (.own d0) d0 = none := (upd_ne ne0.symm).trans g0
  have s7 : Same H6 (L2.upd (L2.upd H6 e0 (.own d0)) d0 (.ins (cDk K) e0 [])) := (L2.Same.new ge0).upd g01
  refine ⟨d0, e0, a, rfl, upd_same, fun H7 ka7 k0 => ⟨rfl, ?_⟩⟩
  have s67 : Same H6 H7 := fun b o e => ka7.at_ b o (fun z => by rw [z, g0] at e; cases e) (s7 b o e)
  replace tv := tv.same s67
  replace t3 := t3.ext s67
  replace sp5 := sp5.same s67
  replace ix := ix.same s67
  replace iy := iy.same s67
  clear s7 ka7 g01
  walk_at "w"
  intro d1 e1 g1 ge1 ne1
  have nq1 := spr_ne sp5 g1
  have na1 := ix_ne ix g1
  have nb1 := ix_ne iy g1
  have n01 := dk_ne k0 g1
  have g11 : L2.upd H7 e1 (.own d1) d1 = none := (upd_ne ne1.symm).trans g1
  have s8 : Same H7 (L2.upd (L2.upd H7 e1 (.own d1)) d1 (.ins (cDk K) e1 [])) := (L2.Same.new ge1).upd g11
  refine ⟨d1, e1, a, rfl, upd_same, fun H8 ka8 k1 => ⟨rfl, ?_⟩⟩
  have s78 : Same H7 H8 := fun b o e => ka8.at_ b o (fun z => by rw [z, g1] at e; cases e) (s8 b o e)
  replace tv := tv.same s78
  replace t3 := t3.ext s78
  replace sp5 := sp5.same s78
  replace ix := ix.same s78
  replace iy := iy.same s78
  replace k0 := k0.same s78
  clear s8 ka8 g11
  refine ⟨sz2, fun D gD => ?_⟩
  have nqD := spr_ne sp5 gD
  have naD := ix_ne ix gD
  have nbD := ix_ne iy gD
  have n0D := dk_ne k0 gD
  have n1D := dk_ne k1 gD
  have s9 : Same H8 (L2.upd H8 D (.lst [.ref d0, .ref d1])) := .new gD
  have hD : L2.upd H8 D (.lst [.ref d0, .ref d1]) D = some (.lst [.ref d0, .ref d1]) := upd_same
  generalize L2.upd H8 D (.lst [.ref d0, .ref d1]) = H9 at *
  replace tv := tv.same s9
  replace t3 := t3.ext s9
  replace sp5 := sp5.same s9
  replace ix := ix.same s9
  replace iy := iy.same s9
  replace k0 := k0.same s9
  replace k1 := k1.same s9
  refine ⟨sz2, fun M gM => ?_⟩
  have nqM := spr_ne sp5 gM
  have naM := ix_ne ix gM
  have nbM := ix_ne iy gM
  have n0M := dk_ne k0 gM
  have n1M := dk_ne k1 gM
  have nDM := obj_ne hD gM
  have s10 : Same H9 (L2.upd H9 M (.lst [.int 0, .int 0])) := .new gM
  have hM : L2.upd H9 M (.lst [.int 0, .int 0]) M = some (.lst [.int 0, .int 0]) := upd_same
  generalize L2.upd H9 M (.lst [.int 0, .int 0]) = H10 at *
  replace tv := tv.same s10
  replace t3 := t3.ext s10
  replace sp5 := sp5.same s10
  replace ix := ix.same s10
  replace iy := iy.same s10
  replace k0 := k0.same s10
  replace k1 := k1.same s10
  replace hD := s10 _ _ hD
  have ls : LS K (kdN cn) (lawT P0) qs a b D d0 d1 M rv R (ixNew R nl 0 (moK (kdN cn) (1 + ln))) ((ixNew R nl 0 (moK (kdN cn) (1 + ln))).wnl nb) 0 0 0 0 H10 := by
    refine ⟨?_, sp5, tv, ix, iy, hD, k0, k1, hM, t3⟩
    simp only [List.nodup_cons, List.mem_cons, List.not_mem_nil, or_false, not_or, List.nodup_nil, and_true, not_false_eq_true]
    exact ⟨⟨nqa, nqb, nqD, nq0, nq1, nqM⟩, ⟨nab, naD, na0, na1, naM⟩, ⟨nbD, nb0, nb1, nbM⟩, ⟨Ne.symm n0D, Ne.symm n1D, nDM⟩, ⟨n01, n0M⟩, n1M⟩
  clear nqa nqb nqD nq0 nq1 nqM nab naD na0 na1 naM nbD nb0 nb1 nbM n0D n1D nDM n01 n0M n1M
  obtain ⟨bd, rk⟩ := new_bd R nl (moK (kdN cn) (1 + ln))
  walk_at "w"
  refine ⟨by decide, by decide, ?_⟩
  refine for_range (fun i σ H' => DS K (kdN cn) (lawT P0) qs a b D d0 d1 M rv R i σ H') ?_ ?_ ?_
  · exact ⟨⟨_, _, _, _, _, _, _, _, _, _, _, _, _, _, _, _, rfl⟩, _, nb, 0, 0, ls, bd, rk, rfl, rfl, Nat.le_refl _⟩
  · rintro i σ H' hi ⟨⟨z0, z2, z4, z5, z10, z11, z12, z13, z14, z15, z16, z17, z18, z19, z20, z21, rfl⟩, ex⟩
    exact ktb _ (kdN cn) (lawT P0) qs a b D d0 d1 M rv R i _ H' hi ⟨⟨_, _, _, _, _, _, _, _, _, _, _, _, _, _, _, _, rfl⟩, ex⟩ fun σ' H' d => d
  · intro σ H' ds
    exact ktr D' (kdN cn) qs a b D d0 d1 M rv R σ H' ds k
end
end K8
set_option maxHeartbeats 4000000
namespace K8
open PySem PySem.Spec PyProof.Rows L2 NdefX LamX
set_option hygiene false in
local macro_rules | `(tactic| walk_at "w") => `(tactic| (repeat (first | refine ⟨_, rfl, ?_⟩ | refine ⟨_, _, rfl, rfl, ?_⟩ | refine ⟨rfl, ?_⟩ | refine ⟨_, _, rfl, ?_⟩ | refine ⟨_, _, rfl, .of upd_same, rfl, ?_⟩ | refine ⟨_, _, rfl, .of (by assumption), rfl, ?_⟩ | refine ⟨_, _, rfl, .of (by assumption), fun q hq => ?_⟩ | refine ⟨_, _, rfl, .of (by assumption), ?_⟩ | refine ⟨_, _, rfl, .inr (.of (by assumption)), ?_⟩ | refine ⟨_, _, rfl, .inl (.of (by assumption)), ?_⟩ | refine ⟨_, _, _, _, rfl, rfl, .of (by assumption), atI_nat (j := 0) rfl, ?_⟩ | refine ⟨_, _, _, _, rfl, rfl, .of (by assumption), atI_nat (j := 1) rfl, ?_⟩ | refine ⟨_, _, _, _, rfl, rfl, .of (by assumption), atI_nat (j := 2) rfl, ?_⟩ | refine ⟨fun z => absurd z.1 (show ¬ (1 : Nat) = 0 by decide), fun _ q hq => ?_⟩ | refine ⟨fun z => absurd z.1 (show ¬ (2 : Nat) = 0 by decide), fun _ q hq => ?_⟩ | refine ⟨sz1, fun q hq => ?_⟩ | refine ⟨sz2, fun q hq => ?_⟩ | refine ⟨sz3, fun q hq => ?_⟩ | refine ⟨sz0, fun q hq => ?_⟩ | refine ⟨_, _, _, rfl, rfl, (by assumption), (by assumption), ?_⟩ | refine ⟨.inl ⟨rfl, _, .of (by assumption)⟩, ?_⟩ | refine ⟨_, _, rfl, .inl ⟨.of (by assumption), fun q hq => ?_⟩⟩ | refine ⟨⟨_, .of (by assumption)⟩, ?_⟩ | refine ⟨⟨_, rfl⟩, ?_⟩ | refine ⟨.inl ⟨rfl, _, .of upd_same⟩, ?_⟩ | refine ⟨_, _, _, _, _, rfl, (by assumption), (by assumption), (by assumption), (by rfl), ?_⟩ | refine ⟨_, _, _, _, rfl, upd_same, (by assumption), (by assumption), (by first | exact ixFs_len | exact (show (0 : Nat) < 1000 by decide) | exact (show (1 : Nat) < 1000 by decide) | exact (show (2 : Nat) < 1000 by decide) | exact (show (3 : Nat) < 1000 by decide) | exact (show (4 : Nat) < 1000 by decide) | exact (show (5 : Nat) < 1000 by decide) | exact (show (6 : Nat) < 1000 by decide)), ?_⟩ | refine ⟨_, _, _, _, rfl, (by assumption), (by assumption), (by assumption), (by first | exact ixFs_len | exact (show (0 : Nat) < 1000 by decide) | exact (show (1 : Nat) < 1000 by decide) | exact (show (2 : Nat) < 1000 by decide) | exact (show (3 : Nat) < 1000 by decide) | exact (show (4 : Nat) < 1000 by decide) | exact (show (5 : Nat) < 1000 by decide) | exact (show (6 : Nat) < 1000 by decide)), ?_⟩ | refine ⟨_, _, _, rfl, (by assumption), (by first | rfl | exact ixFs_no (by decide +kernel)), ?_⟩ | refine ⟨_, _, _, rfl, (by assumption), ?_⟩ | refine iteT ?_ | refine iteF ?_)))
/-! ### the law -/
section
variable {P : Program} {w : World} {K : PySem.W.Frag} {mg : Str → Option Value} {base : Heap}
def sp_law (K : PySem.W.Frag) (P0 : Addr) : Sp := fun vs H Q _ => ∃ (p : Addr) (ns : List Int), vs = [.ref p] ∧ SqL K H p (ns.map V.int) ∧ TabsN (lawT P0) H ∧ ∀ H', Q (.bl true) H'
theorem ok_law {P0 : Addr} (D : Df K mg "law" s_law) (G : Gx K mg) (Gk : Gk K mg) (c__law_spring : Cal P w K mg base CX0 1 "_law_spring" (sp_spring K)) (c__law_dip : Cal P w K mg base CX0 1 "_law_dip" sp_dip) (c__law_pick : Cal P w K mg base CX0 2 "_law_pick" sp_pick)
    (c_by : ∀ kd, Cal P w K mg base CX0 7 "_law_by_methods" (sp_by K kd)) (c_shown : ∀ kd, CalP guardsNone P w K mg base CX0 4 "_law_shown" (sp_shown K kd)) (p_history : Prp P w K mg base 1 (cDk K) "history" (sp_history K))
    (m_say : ∀ kd, Met P w K mg base CX0 10 (cDk K) "say" (sp_say K kd)) (p_last : ∀ kd, Prp P w K mg base 1 (Kd.C K kd) "last" (sp_last K kd)) (p_version : ∀ kd, Prp P w K mg base 1 (Kd.C K kd) "version" (sp_version K kd)) (c__law_log_text : Cal P w K mg base CX0 1 "_law_log_text" sp_l_log_text) (c__law_ranges_text : Cal P w K mg base CX0 2 "_law_ranges_text" sp_ranges_text)
    (c_fits : Cal P w K mg base CX0 7 "fits" sp_fits) (c_log_text : Cal P w K mg base CX0 2 "log_text" sp_log_text) (c_within : ∀ kd, Cal P w K mg base CX0 14 "_law_within" (sp_within K kd (lawT P0))) (c__law_within_right : Cal P w K mg base CX0 1 "_law_within_right" sp_within_right)
    (c__law_receiver : Cal P w K mg base CX0 4 "_law_receiver" sp_l_receiver) (c__law_gate : Cal P w K mg base CX0 9 "_law_gate" (sp_gate K)) (k_Desk : Mkr P w K mg base 1 "Desk" (cDk K) (sp_Desk K)) :
    CalP guardsNone P w K mg base CX0 15 "law" (sp_law K P0) := by
  refine calP0 D sc_law (fun _ _ _ _ _ _ us hl => match us, hl with | [_], _ => rfl) (fun vs H Q E h => ?_) (fun f cdv A outer s H vs Q E hg hr h => ?_)
  · obtain ⟨_, _, rfl, _⟩ := h
    rfl
  · obtain ⟨p, ns, rfl, hp, tT, k⟩ := h
    obtain ⟨tb, htb, ktb⟩ := ok_turn (P0 := P0) (cdv := cdv) (s := s) (outer := outer) (H0 := H) (E := E) G Gk hg hr c__law_dip c__law_pick c_by c_shown p_history m_say p_last p_version c__law_log_text c__law_ranges_text c_fits c_log_text c_within c__law_within_right c__law_receiver c__law_gate k_Desk
    refine ⟨_, pss_cons (ps_set (i := 1) sc_law.nd rfl (Or.inl rfl) (pe_d c__law_spring hr (by decide) (by rfl) (pa_cons (pv 0) pa_nil))) (pss_cons (ps_for PassesOwn.never rfl (pi_range1 (by rfl) G.range (pa_cons pe_int pa_nil)) (pg_name (i := 2) sc_law.nd rfl (Or.inl rfl)) htb) (pss_one (ps_ret pe_bl))), ?_⟩
    walk_at "w"
    refine ⟨p, ns, rfl, hp, fun H1 q s1 hq sp1 => ?_⟩
    have tT1 := tT.ext s1
    walk_at "w"
    refine ⟨by decide, by decide, ?_⟩
    refine for_range (fun i σ H' => TS_ (lawT P0) q σ H') ?_ ?_ ?_
    · exact ⟨⟨_, _, _, _, _, _, _, _, _, _, _, _, _, _, _, _, _, _, _, _, _, rfl⟩, sp1, tT1⟩
    · rintro i σ H' hi ⟨⟨s0, s2, s3, s4, s5, s6, s7, s8, s9, s10, s11, s12, s13, s14, s15, s16, s17, s18, s19, s20, s21, rfl⟩, spr, tt⟩
      exact ktb _ q _ H' ⟨⟨_, _, _, _, _, _, _, _, _, _, _, _, _, _, _, _, _, _, _, _, _, rfl⟩, spr, tt⟩ fun σ' H'' d => d
    · rintro σ H' ⟨_, spr, tt⟩
      exact k H'
end
end K8
set_option maxHeartbeats 4000000
namespace K8
open PySem PySem.Spec PyProof.Rows L2 NdefX LamX
/-! ### the end of the row: a promise with a condition, and one table -/
/-- the heap in which the script p (frozen, if it is not in K) and the table T are tracked -/
structure Trk (K : PySem.W.Frag) (h : Heap) (H : Hp) (a T : Addr) : Prop where
  tab : H T = some (.tbl #[])
  one : ∀ b, H b ≠ none → b = a ∨ b = T
  frz : ∀ b, b ≠ T → H b = none ∨ ∃ o xs, H b = some (.frz o (.lst xs))
  nK : H a ≠ none → K.lookup a = none
section
variable {P : Program} {w : World} {K : PySem.W.Frag} {mg mb : Str → Option Value} {CX : CXT} {k : Nat} {fa a c T : Addr} {x : Str} {sp : Sp} {s₁ : Shared} {vs : List Value} {ns : List Int} {H : Hp}
theorem Trk.base {h : Heap} (t : Trk K h H a T) (ha : h.get? a = some { cls := .type "list", data := .seq vs.toArray }) (hT : h.get? T = some { cls := .none, data := .fields #[] })
    {b : Addr} {o : Obj} (e : h.get? b = some o) (h1 : ∀ vs n, o.data ≠ .seq vs n) (h2 : o.data ≠ .fields #[]) : (hidT h H).get? b = some o := by
  refine hidT_get e ?_
  cases q : H b with
  | none => rfl
  | some u =>
    rcases t.one b (by rw [q]; simp) with e' | e'
    · subst e'
      rw [ha] at e
      cases e
      exact (h1 _ _ rfl).elim
    · subst e'
      rw [hT] at e
      cases e
      exact (h2 rfl).elim
theorem Trk.nsp {h : Heap} (t : Trk K h H a T) (ha : h.get? a = some { cls := .type "list", data := .seq vs.toArray }) (hT : h.get? T = some { cls := .none, data := .fields #[] })
    {b : Addr} {m : Str → Option Value} (n : h.Ns b m) : (hidT h H).Ns b m := by
  obtain ⟨o, es, ep, e, d, r⟩ := n
  exact ⟨o, es, ep, t.base ha hT e (fun vs n z => by rw [d] at z; cases z) (fun z => by rw [d] at z; cases z), d, r⟩
theorem law_callG (KX : K.In s₁.heap) (hns : s₁.heap.Ns mainGlobals mg) (hb : s₁.heap.Ns builtinsNs mb) (hbb : ∀ x : Str, x ≠ "__name__" → mb x = bootBuiltins x) (hlim : s₁.heap.NoLimit) (hg : s₁.gens = #[])
    (hT : s₁.heap.get? T = some { cls := .none, data := .fields #[] }) (nT : K.lookup T = none) (C : PySem.W.CodeHd s₁.heap c T)
    (hbm : ∃ (bm : Addr) (ob : Obj), mg "__builtins__" = some (.ref bm) ∧ bm ≠ builtinsNs ∧ s₁.heap.get? bm = some ob ∧ ob.cls = .type "module" ∧ ob.dict = some builtinsNs ∧ ob.data = .plain)
    (ha : s₁.heap.get? a = some { cls := .type "list", data := .seq vs.toArray }) (hi : IntsAre vs ns) (hl : ns.length ≤ sizeLine) (hr : Room k callerA)
    (hfa : mg x = some (.ref fa)) (F : ∀ base : Heap, K.In base → base.Ns mainGlobals mg → TabB base mg c T → CalP guardsNone P w K mg base CX k x sp)
    (hsp : ∀ H : Hp, H T = some (.tbl #[]) → SqL K H a (ns.map V.int) → sp [.ref a] H (fun v _ => v = .bl true) fun _ _ _ => False)
    (hCX : ∀ H e s', CX [] H s₁ (fun _ _ _ => False) e s' → False) :
    codeAny (model P w) callerA (.call (.ref fa) ⟨[.ref a], []⟩) (fun r s' => r = .ok (.ret (.bool true)) ∧ OldK s₁.heap s'.heap ∧ s'.os = s₁.os ∧ AllBare s'.gens) s₁ := by
  have rv := vals_ints hi
  have aT : a ≠ T := fun z => by
    rw [← z, ha] at hT
    have z' : Data.seq vs.toArray _ = Data.fields #[] := congrArg Obj.data (Option.some.inj hT)
    cases z'
  have core : ∀ H : Hp, Trk K s₁.heap H a T → SqL K H a (ns.map V.int) → HOk P w H s₁.heap →
      codeAny (model P w) callerA (.call (.ref fa) ⟨[.ref a], []⟩) (fun r s' => r = .ok (.ret (.bool true)) ∧ OldK s₁.heap s'.heap ∧ s'.os = s₁.os ∧ AllBare s'.gens) s₁ := by
    intro H t hS hok
    have hKb : K.In (hidT s₁.heap H) := fun b o e => hidT_get (KX b o e) (by
      cases q : H b with
      | none => rfl
      | some u =>
        rcases t.one b (by rw [q]; simp) with e' | e'
        · subst e'
          rw [t.nK (by rw [q]; simp)] at e
          cases e
        · subst e'
          rw [nT] at e
          cases e)
    have hM : L2.Mod K mg (hidT s₁.heap H) := ⟨hKb, t.nsp ha hT hns, ⟨mb, t.nsp ha hT hb, hbb⟩, let ⟨mc, h1, h2⟩ := hlim; ⟨mc, t.nsp ha hT h1, h2⟩⟩
    have TB : TabB (hidT s₁.heap H) mg c T := by
      refine ⟨?_, ?_, fun z => ?_⟩
      · obtain ⟨o, us, file, tf, flags, tg, inF, text, tt, e1, r1, r2, r3, r4, r5, r6, r7, r8, hne⟩ := C
        exact ⟨o, us, file, tf, flags, tg, inF, text, tt, t.base ha hT e1 (fun vs n z => by rw [r2] at z; cases z) (fun z => by rw [r2] at z; cases z; simp at r3), r1, r2, r3, r4, r5, r6, r7, r8, hne⟩
      · obtain ⟨bm, ob, b1, b2, b3, b4, b5, b6⟩ := hbm
        have nG : bm ≠ mainGlobals := fun q => by
          obtain ⟨o, es, ep, e, hd, _⟩ := hns
          rw [q, e] at b3
          cases b3
          rw [hd] at b6
          cases b6
        have nP : bm ≠ T := fun q => by
          rw [q, hT] at b3
          cases b3
          cases b6
        exact ⟨bm, ob, b1, b2, nG, nP, t.base ha hT b3 (fun vs n z => by rw [b6] at z; cases z) (fun z => by rw [b6] at z; cases z), b4, b5, b6⟩
      · obtain ⟨o, es, ep, e, hd, _⟩ := hns
        rw [z, hT] at e
        cases e
        cases hd
    have e0 : Env0 P w K mg (hidT s₁.heap H) callerA [] s₁ H := ⟨rfl, hM, fun b o e => of_hidT e, Nat.le_of_eq (hidT_size _ _), trivial, fun b hb => absurd (show b ∈ ([] : List Addr) from hb) (by simp), hok, .of_eq hg⟩
    obtain ⟨f, fd, ps, Fn, ef, _, hbind⟩ := F _ hKb (t.nsp ha hT hns) TB
    cases (hfa.symm.trans ef : some (Value.ref fa) = some (Value.ref f))
    have hl1 : ([.ref a] : List Value).length = ps.length := (show ([.ref a] : List V).length = ps.length from Fn.len _ _ _ _ (hsp H t.tab hS))
    refine codeAny_mono (Fn.run callerA [] s₁ H ⟨[.ref a], []⟩ [.ref a] [.ref a] _ _ rfl hr e0 (hbind s₁ [.ref a] KX hl1) (.cons rfl .nil) (hsp H t.tab hS)) fun r s' h => ?_
    cases r with
    | error e => exact (hCX H e s' h).elim
    | ok fl =>
      cases fl with
      | next => exact False.elim h
      | brk => exact False.elim h
      | cont => exact False.elim h
      | ret u =>
        obtain ⟨v, H', os, bare, un, hok', r', q⟩ := h
        have q' : v = .bl true := q
        subst q'
        obtain rfl : u = Value.bool true := r'
        have key : ∀ b o, b ≠ T → s₁.heap.get? b = some o → s'.heap.get? b = some o := fun b o nb e => by
          rcases t.frz b nb with z | ⟨ob, xs, z⟩
          · exact un.keep b o e z (by intro z; exact absurd (show b ∈ ([] : List Addr) from z) (by simp)) (by simp)
          · obtain ⟨e1, _⟩ := hok b _ z
            obtain ⟨e2, _⟩ := hok' b _ (un.frzs b ob _ z)
            rw [e] at e1
            cases e1
            exact e2
        obtain ⟨more, z⟩ := un.tbls T #[] t.tab
        have grown : s'.heap.get? T = some { cls := .none, data := .fields (#[] ++ more) } := hok' T _ z
        refine ⟨rfl, ⟨fun b o e => ?_, fun b o e => ?_⟩, os, bare⟩
        · by_cases hb : b = T
          · subst hb
            rw [hT] at e
            cases e
            exact .inr (.inl ⟨(C.tab hT).isCodeTable, rfl, #[], _, rfl, by first | exact grown | (rw [grown]; simp)⟩)
          · exact .inl (key b o hb e)
        · by_cases hb : b = T
          · subst hb
            exact ⟨_, grown⟩
          · exact ⟨o, key b o hb e⟩
  cases hk : K.lookup a with
  | some o =>
    have e := KX a o hk
    rw [ha] at e
    cases e
    refine core (fun b => if b = T then some (.tbl #[]) else none) ⟨if_pos rfl, fun b hb => ?_, fun b hb => .inl (if_neg hb), fun z => absurd (if_neg aT) z⟩ (.inr ⟨_, vs.toArray, _, hk, rfl, rfl, rfl, by rw [List.size_toArray, hi.length]; exact hl, by simpa using rv⟩) fun b u z => ?_
    · by_cases h : b = T
      · exact .inr h
      · exact absurd (if_neg h) hb
    · by_cases hb : b = T
      · have z' := (if_pos hb).symm.trans z
        cases z'
        rw [hb]
        exact hT
      · have z' := (if_neg hb).symm.trans z
        cases z'
  | none =>
    refine core (fun b => if b = T then some (.tbl #[]) else if b = a then some (.frz { cls := .type "list", data := .seq vs.toArray } (.lst (ns.map V.int))) else none) ⟨if_pos rfl, fun b hb => ?_, fun b hb => ?_, fun _ => hk⟩
      (.inl (.inr ⟨{ cls := .type "list", data := .seq vs.toArray }, (if_neg aT).trans (if_pos rfl)⟩)) fun b u z => ?_
    · by_cases h : b = T
      · exact .inr h
      · by_cases h2 : b = a
        · exact .inl h2
        · exact absurd ((if_neg h).trans (if_neg h2)) hb
    · by_cases h2 : b = a
      · exact .inr ⟨_, _, (if_neg hb).trans (if_pos h2)⟩
      · exact .inl ((if_neg hb).trans (if_neg h2))
    · by_cases hb : b = T
      · have z' := (if_pos hb).symm.trans z
        cases z'
        rw [hb]
        exact hT
      · have z1 := (if_neg hb).symm.trans z
        by_cases h2 : b = a
        · have z' := (if_pos h2).symm.trans z1
          cases z'
          rw [h2]
          exact ⟨ha, by rw [List.length_map]; exact hl, vs, _, rv, ha⟩
        · have z' := (if_neg h2).symm.trans z1
          cases z'
/-- the walk of a row: one promise with a condition, one table -/
theorem walk_G {l : PySem.W.OpenLaw} {n k : Nat} {q : Program} {loose : List Str} {XP : (Str → Option Value) → Heap → Prop} {YP : World → Heap → Prop} {d : DefRec} (hn : l.most = some n) (hn2 : n ≤ sizeLine) (hdf : d.params.defaults = []) (hr : Room k callerA)
    (F : ∀ (w : World) (mg : Str → Option Value) (fa : Addr) (h : Heap), YP w h → h.Ns mainGlobals mg → mg d.name = some (.ref fa) → ∃ (K : PySem.W.Frag) (c T : Addr) (sp : Sp), K.In h ∧ h.get? T = some { cls := .none, data := .fields #[] } ∧ K.lookup T = none ∧ PySem.W.CodeHd h c T ∧
      (∀ (H : Hp) (a : Addr) (ns : List Int), H T = some (.tbl #[]) → SqL K H a (ns.map V.int) → sp [.ref a] H (fun v _ => v = .bl true) fun _ _ _ => False) ∧ ∀ base : Heap, K.In base → base.Ns mainGlobals mg → TabB base mg c T → CalP guardsNone l.prog w K mg base CX0 k d.name sp) :
    PySem.W.WalkO q loose XP YP l.row.toRowW d [] (fun f vs => PySem.call f vs) := by
  refine Att.attach_callB hn hdf fun w s₀ s₁ mg mb fa o pm cd doc a vs ns G Y ho hd hcd hmg hobj hints hlen hbits hg => ?_
  obtain ⟨K, c, T, sp, KX, hT, nT, C, hsp, hF⟩ := F w mg fa _ Y G.T.g hmg
  exact law_callG (CX := CX0) KX G.T.g G.T.b G.T.builtins G.T.nolimit hg hT nT C G.T.bmain hobj hints (Nat.le_trans hlen hn2) hr hmg hF (fun H hH hS => hsp H a ns hH hS) fun _ _ _ z => z
end
end K8
set_option maxHeartbeats 4000000
namespace K8
open PySem PySem.Spec PyProof.Rows L2 NdefX LamX
/-! ### from the head's facts to the premises of the proofs -/
section
variable {P : Program} {w : World} {h : Heap} {K : PySem.W.Frag} {mg : Str → Option Value} {base : Heap}
theorem mem_of_i {α : Type} {x a b d : α} (h : x = a ∨ x = b ∨ x = d) : x ∈ [a, b, d] := by simpa using h
theorem SaysY.glo (c : SaysY h K) (KX : K.In h) (NS : h.Ns mainGlobals mg) (x : Str) (hx : x ∈ gloL := by decide +kernel) : mg x = some (.ref (He.ga K x)) := He.glo_ok KX NS (List.all_eq_true.mp (c.ex 0) x hx)
theorem SaysY.free (c : SaysY h K) (KX : K.In h) (NS : h.Ns mainGlobals mg) (x : Str) (hx : x ∈ freeL := by decide +kernel) : mg x = none := He.free_ok KX NS (List.all_eq_true.mp (c.ex 1) x hx)
theorem SaysY.int (c : SaysY h K) (KX : K.In h) (NS : h.Ns mainGlobals mg) (x : Str) (i : Int) (hx : (x, i) ∈ intL := by decide +kernel) : ∃ t, mg x = some (.int i t) := He.int_ok KX NS (List.all_eq_true.mp (c.ex 2) (x, i) hx)
theorem SaysY.str (c : SaysY h K) (KX : K.In h) (NS : h.Ns mainGlobals mg) (x z : Str) (hx : (x, z) ∈ strL := by decide +kernel) : ∃ t, mg x = some (.str z t) := He.str_ok KX NS (List.all_eq_true.mp (c.ex 3) (x, z) hx)
theorem SaysY.tup (c : SaysY h K) (x : Str) (vs : List He.Dv) (H : Hp) (hx : (x, vs) ∈ tupL := by exact mem_of_i (by first | exact Or.inl rfl | exact Or.inr (Or.inl rfl) | exact Or.inr (Or.inr rfl))) : SqT K H (He.ga K x) (vs.map (He.Dv.v K)) := He.tupB_ok (List.all_eq_true.mp (c.ex 4) (x, vs) hx) H
theorem SaysY.cls (c : SaysY h K) (x : Str) (hx : x ∈ clsL := by decide +kernel) : Cls K (He.ga K x) := He.cls_ok (List.all_eq_true.mp (c.ex 5) x hx)
theorem SaysY.noat (c : SaysY h K) (x f : Str) (hx : (x, f) ∈ noatL := by decide +kernel) : NoAttr K (He.ga K x) f := He.noat_ok (List.all_eq_true.mp (c.ex 6) (x, f) hx)
theorem SaysY.meth (c : SaysY h K) (x m : Str) (hx : (x, m) ∈ methL := by decide +kernel) : Meth K (He.ga K x) m (He.ma K (He.ga K x) m) := He.meth_ok (List.all_eq_true.mp (c.ex 7) (x, m) hx)
theorem SaysY.mkr (c : SaysY h K) (x : Str) (hx : x ∈ mkrL := by decide +kernel) : Mk K (He.ga K x) (He.ma K (He.ga K x) "__init__") := He.mkr_ok (List.all_eq_true.mp (c.ex 8) x hx)
theorem SaysY.exc (c : SaysY h K) (KX : K.In h) (NS : h.Ns mainGlobals mg) (x : Str) (hx : x ∈ excL := by decide +kernel) (hy : x ∈ gloL := by decide +kernel) : ExcN K mg x := by
  obtain ⟨a, b, d, e⟩ := He.exc_ok (List.all_eq_true.mp (c.ex 9) x hx)
  exact ⟨_, _, _, _, PySem.F.excBase_ValueError, a, c.glo KX NS x hy, b, d, e⟩
theorem SaysY.exm (c : SaysY h K) (x y : Str) (b : Bool) (hx : (x, y, b) ∈ exmL := by decide +kernel) : PySem.W.exmOne K (.ref (He.ga K x)) (.ref (He.ga K y)) = some b := He.exm_ok (List.all_eq_true.mp (c.ex 10) (x, y, b) hx)
theorem SaysY.kit (c : SaysY h K) (x y : Str) (b : Bool) (hx : (x, y, b) ∈ kitL := by decide +kernel) : PySem.W.kitOne K (.ref (He.ga K x)) (.ref (He.ga K y)) = some b := of_decide_eq_true (List.all_eq_true.mp (c.ex 11) (x, y, b) hx)
theorem SaysY.prop (c : SaysY h K) (x f : Str) (hx : (x, f) ∈ propL := by decide +kernel) : PropOf K (He.ga K x) f (pA K (He.ga K x) f) (gA K (He.ga K x) f) := prop_ok (List.all_eq_true.mp (c.ex 12) (x, f) hx)
theorem SaysY.excC (c : SaysY h K) (x : Str) (hx : x ∈ excL := by decide +kernel) : ExcC K (He.ga K x) := excC_ok (List.all_eq_true.mp (c.ex 14) x hx)
theorem SaysY.fd (c : SaysY h K) (i : Nat) (ad : PySem.W.Frag → Addr) (m qual : Str) (st : Stmt) (q : feL[i]? = some ⟨ad, m, qual, st, fun _ => []⟩ := by rfl) : Fd K (ad K) m qual st := by
  obtain ⟨oc, od, kV, doc, pm, an, cdv, ct, osl, lk, hc, hk⟩ := c.fe i q
  exact ⟨_, fun_mk lk hc hk⟩
theorem SaysY.df (c : SaysY h K) (KX : K.In h) (NS : h.Ns mainGlobals mg) (i : Nat) (x : Str) (st : Stmt) (q : feL[i]? = some ⟨fun K => He.ga K x, x, x, st, fun _ => []⟩ := by rfl) (hx : x ∈ gloL := by decide +kernel) : Df K mg x st := by
  obtain ⟨fd, F⟩ := c.fd i _ _ _ _ q
  exact ⟨_, fd, F, c.glo KX NS x hx⟩
theorem SaysY.md (c : SaysY h K) (i : Nat) (C m qual : Str) (st : Stmt) (q : feL[i]? = some ⟨fun K => He.ma K (He.ga K C) m, m, qual, st, fun _ => []⟩ := by rfl) (hC : C ∈ clsL := by decide +kernel) (hm : (C, m) ∈ methL := by decide +kernel) : Md K (He.ga K C) m qual st := by
  obtain ⟨fd, F⟩ := c.fd i _ _ _ _ q
  exact ⟨_, fd, F, c.cls C hC, c.meth C m hm⟩
theorem SaysY.pf (c : SaysY h K) (i : Nat) (C f qual : Str) (st : Stmt) (q : feL[i]? = some ⟨fun K => gA K (He.ga K C) f, f, qual, st, fun _ => []⟩ := by rfl) (hm : (C, f) ∈ propL := by decide +kernel) : Pf K (He.ga K C) f qual st := ⟨_, _, c.prop C f hm, c.fd i _ _ _ _ q⟩

theorem SaysY.gx (c : SaysY h K) (KX : K.In h) (NS : h.Ns mainGlobals mg) : Gx K mg where
  enumerate := c.free KX NS "enumerate"
  int := c.free KX NS "int"
  bool := c.free KX NS "bool"
  str := c.free KX NS "str"
  list := c.free KX NS "list"
  tuple := c.free KX NS "tuple"
  isinstance := c.free KX NS "isinstance"
  len := c.free KX NS "len"
  range := c.free KX NS "range"
  zip := c.free KX NS "zip"
  abs := c.free KX NS "abs"
  all := c.free KX NS "all"
  repr := c.free KX NS "repr"
  FAR := c.int KX NS "FAR" 13
  MAX_BOUND := c.int KX NS "MAX_BOUND" 6
  MAX_STATES := c.int KX NS "MAX_STATES" 4
  MAX_ROWS := c.int KX NS "MAX_ROWS" 6
  MAX_LOG := c.int KX NS "MAX_LOG" 40
  MAX_DEEDS := c.int KX NS "MAX_DEEDS" 60
  MAX_ROW := c.int KX NS "MAX_ROW" 20
  LONG := c.int KX NS "LONG" 40
  SPLIT := c.int KX NS "SPLIT" 1000000000000000000
  KEPT := c.int KX NS "KEPT" 20
  MOST_LIMIT := c.int KX NS "MOST_LIMIT" 9
  DIGITS := c.str KX NS "DIGITS" "0123456789"
  UNKNOWN := c.str KX NS "UNKNOWN" "unknown command"
  DEEDS := c.glo KX NS "DEEDS"
  DEEDSt := fun H => c.tup "DEEDS" [.str "take", .str "keep", .str "leave", .str "drop"] H
  NUMBERED := c.glo KX NS "NUMBERED"
  NUMBEREDt := fun H => c.tup "NUMBERED" [.str "hear", .str "restart", .str "would", .str "wait", .str "most"] H
  ALONE := c.glo KX NS "ALONE"
  ALONEt := fun H => c.tup "ALONE" [.str "undo", .str "last", .str "taken", .str "form", .str "wait"] H
theorem SaysY.gk (c : SaysY h K) : Gk K mg where
  cl := fun x hx => by
    obtain ⟨n, hn, rfl⟩ := List.mem_map.mp (show x ∈ [("Leaf" : Str), "Rules", "Desk", "Inbox", "LoggedInbox", "HaltedInbox", "LoggedHaltedInbox"].map (He.ga K) from hx)
    exact c.cls n hn
  nd := of_decide_eq_true (show decide ((clsL.map (He.ga K)).Nodup) = true from c.ex 13)
  naL := fun f hf => c.noat "Leaf" f ((by decide +kernel : ∀ f ∈ (["own_stand", "numbers", "refused"] : List Str), (("Leaf" : Str), f) ∈ noatL) f hf)
  naR := fun f hf => c.noat "Rules" f ((by decide +kernel : ∀ f ∈ (["held", "least"] : List Str), (("Rules" : Str), f) ∈ noatL) f hf)
  naD := fun f hf => c.noat "Desk" f ((by decide +kernel : ∀ f ∈ (["inbox", "pairs"] : List Str), (("Desk" : Str), f) ∈ noatL) f hf)
  naI := fun kd f hf => by
    cases kd
    · exact c.noat "Inbox" f ((by decide +kernel : ∀ f ∈ (["own_rules", "leaf", "past", "rows", "is_busy", "most"] : List Str), (("Inbox" : Str), f) ∈ noatL) f hf)
    · exact c.noat "LoggedInbox" f ((by decide +kernel : ∀ f ∈ (["own_rules", "leaf", "past", "rows", "is_busy", "most"] : List Str), (("LoggedInbox" : Str), f) ∈ noatL) f hf)
    · exact c.noat "HaltedInbox" f ((by decide +kernel : ∀ f ∈ (["own_rules", "leaf", "past", "rows", "is_busy", "most"] : List Str), (("HaltedInbox" : Str), f) ∈ noatL) f hf)
    · exact c.noat "LoggedHaltedInbox" f ((by decide +kernel : ∀ f ∈ (["own_rules", "leaf", "past", "rows", "is_busy", "most"] : List Str), (("LoggedHaltedInbox" : Str), f) ∈ noatL) f hf)
theorem SaysY.ty (c : SaysY h K) (x : Str) (hx : x ∈ clsL := by decide +kernel) {H : Hp} {a dx : Addr} {fs : List (Str × V)} (e : H a = some (.ins (He.ga K x) dx fs)) : TyX K H (.ref a) (.ref (He.ga K x)) := by
  have z := List.all_eq_true.mp (c.ex 15) x hx
  obtain ⟨h1, z⟩ := He.ba z
  obtain ⟨h2, z⟩ := He.ba z
  obtain ⟨h3, h4⟩ := He.ba z
  exact .base (.ins e (c.cls x hx) (He.eqO_ok h1) (He.eqO_ok h2) (of_decide_eq_true h3) (of_decide_eq_true h4))
theorem SaysY.lg (c : SaysY h K) (KX : K.In h) (NS : h.Ns mainGlobals mg) : LgG K mg where
  nm := c.glo KX NS "LoggedInbox"
  ty := fun kd H a dx fs e => by
    cases kd
    · exact c.ty "Inbox" (e := e)
    · exact c.ty "LoggedInbox" (e := e)
    · exact c.ty "HaltedInbox" (e := e)
    · exact c.ty "LoggedHaltedInbox" (e := e)
  is := fun kd => by
    cases kd
    · exact c.kit "Inbox" "LoggedInbox" false
    · exact c.kit "LoggedInbox" "LoggedInbox" true
    · exact c.kit "HaltedInbox" "LoggedInbox" false
    · exact c.kit "LoggedHaltedInbox" "LoggedInbox" true
theorem SaysY.er (c : SaysY h K) (KX : K.In h) (NS : h.Ns mainGlobals mg) : ErG K mg where
  nm := fun x hx => c.glo KX NS x ((by decide +kernel : ∀ x ∈ kNames, x ∈ gloL) x hx)
  ex := fun e => by
    cases e
    · exact c.excC "Busy"
    · exact c.excC "Halted"
    · exact c.excC "NothingToUndo"
  ki := fun e x hx => by
    cases e
    · exact c.kit "Busy" x (x == "Busy") ((by decide +kernel : ∀ x ∈ kNames, (("Busy" : Str), x, x == ("Busy" : Str)) ∈ kitL) x hx)
    · exact c.kit "Halted" x (x == "Halted") ((by decide +kernel : ∀ x ∈ kNames, (("Halted" : Str), x, x == ("Halted" : Str)) ∈ kitL) x hx)
    · exact c.kit "NothingToUndo" x (x == "NothingToUndo") ((by decide +kernel : ∀ x ∈ kNames, (("NothingToUndo" : Str), x, x == ("NothingToUndo" : Str)) ∈ kitL) x hx)
theorem SaysY.xg (c : SaysY h K) (KX : K.In h) (NS : h.Ns mainGlobals mg) : ExG K mg where
  nm := fun x hx => c.glo KX NS x ((by decide +kernel : ∀ x ∈ (["Halted", "TooManyDeeds", "NothingToUndo"] : List Str), x ∈ gloL) x hx)
  m1 := c.exm "Halted" "Halted" true
  m2 := c.exm "NothingToUndo" "Halted" false
  m3 := c.exm "NothingToUndo" "TooManyDeeds" false
  m4 := c.exm "NothingToUndo" "NothingToUndo" true
theorem SaysY.gX (c : SaysY h K) (e : Ec) : PySem.W.exmOne K (e.val K) (.ref (He.ga K "PostError")) = some true := by
  cases e
  · exact c.exm "Busy" "PostError" true
  · exact c.exm "Halted" "PostError" true
  · exact c.exm "NothingToUndo" "PostError" true
theorem SaysY.dfC (c : SaysY h K) (KX : K.In h) (NS : h.Ns mainGlobals mg) : DfC K mg "_law_within" s_l_within (He.codeOf K ("_law_within", none)) := by
  obtain ⟨oc, od, kV, doc, pm, an, cdv, ct, osl, lk, hc, hk⟩ := c.fe 53
  obtain ⟨cc, rfl⟩ := He.codeIn_ref hc
  exact ⟨_, _, fun_mk lk hc hk, c.glo KX NS "_law_within", congrArg Value.ref (He.codeOf_eq (p := ("_law_within", none)) lk rfl).symm⟩
theorem SaysY.fi (c : SaysY h K) (kd : Kd) (f : Addr) (m : Meth K (kd.C K) "__call__" f) : PySem.W.fnIn K f = true := by
  have key : ∀ x : Str, x ∈ clsL → PySem.W.findIn K (.ref (He.ga K x)) "__call__" = some (some (.ref f)) → PySem.W.fnIn K f = true := fun x hx e => by
    have z := List.all_eq_true.mp (c.ex 19) x hx
    rw [e] at z
    exact z
  cases kd
  · exact key "Inbox" (by decide +kernel) m.at_
  · exact key "LoggedInbox" (by decide +kernel) m.at_
  · exact key "HaltedInbox" (by decide +kernel) m.at_
  · exact key "LoggedHaltedInbox" (by decide +kernel) m.at_
abbrev iniB (K : PySem.W.Frag) : Addr := He.ma K (He.ga K "Inbox") "__init__"
theorem SaysY.sup (c : SaysY h K) (KX : K.In h) (NS : h.Ns mainGlobals mg) (hP : P.main.file = PySem.Challenge.pw_lateposts_k80_whole_desks.main.file) (htop : (P.main.scope.names.lookup ("super" : Str)).isSome = false) (D : Str) (i : Nat) (st : Stmt) (qual : Str)
    (q : feL[i]? = some ⟨fun K => He.ma K (He.ga K D) "__init__", "__init__", qual, st, fun K => [("__class__", cellA K D)]⟩) (hpar : ∃ ar, ((defArgs st).posonlyargs ++ (defArgs st).args).head? = some ar ∧ ar.arg = ("self" : Str)) :
    ∃ cc, ∀ C : Str, supC K D C = true → SupF P K mg (nfI qual st (cellA K D) cc) (He.ma K (He.ga K D) "__init__") (cellA K D) (He.ga K D) (He.ga K C) (iniB K) := by
  obtain ⟨oc, od, kV, doc, pm, an, cdv, ct, osl, lk, hc, hk⟩ := c.fe i q
  obtain ⟨cc, rfl⟩ := He.codeIn_ref hc
  obtain ⟨o1, o2⟩ := He.ba (c.ex 17)
  obtain ⟨o3, o4⟩ := He.ba o2
  refine ⟨cc, fun C hs => ?_⟩
  obtain ⟨s1, hs⟩ := He.ba hs
  obtain ⟨s2, hs⟩ := He.ba hs
  obtain ⟨s3, hs⟩ := He.ba hs
  obtain ⟨s4, s5⟩ := He.ba hs
  dsimp only at lk
  rw [lk] at s1
  obtain ⟨t1, s1⟩ := He.ba s1
  obtain ⟨t2, t3⟩ := He.ba s1
  have e1 : kV = .none := of_decide_eq_true t1
  have e2 : an = none := of_decide_eq_true t2
  subst e1 e2
  have cell : ∃ ccl cld csl, K.lookup (cellA K D) = some ⟨ccl, cld, .cell (some (.ref (He.ga K D))), csl⟩ := by
    split at s2
    · rename_i ccl cld v csl e
      rw [of_decide_eq_true s2] at e
      exact ⟨ccl, cld, csl, e⟩
    · cases s2
  have file : ∃ occ vs file tf, K.lookup cc = some occ ∧ occ.data = .fields vs ∧ vs[2]? = some (.str file tf) ∧ ((P.main.file : Str) == file) = true := by
    dsimp only at t3
    split at t3
    · rename_i occ od2 vs sl e
      split at t3
      · rename_i file tf e3
        rw [← hP] at t3
        exact ⟨_, vs, file, tf, e, rfl, e3, t3⟩
      · cases t3
    · cases t3
  have clC : ∃ cdC, PySem.W.clsIn K (He.ga K C) = some cdC ∧ PySem.W.alongIn K "__init__" ((cdC.mro.dropWhile (· != .ref (He.ga K D))).drop 1) = some (some (.ref (iniB K))) := by
    split at s4
    · rename_i cd e
      exact ⟨cd, e, He.eqO_ok s4⟩
    · cases s4
  exact ⟨⟨oc, od, osl, doc, pm, ct, lk⟩, hc, file, cell, rfl, Option.isSome_iff_exists.mp s3, clC, of_decide_eq_true s5, htop, c.free KX NS "super", He.eqO_ok o1, o3, of_decide_eq_true o4, hpar⟩
theorem SaysY.crd (c : SaysY h K) : ClX.CRead K (Kd.C K .h) (.type "type") ∧ ClX.CVal K (Kd.C K .h) (.type "type") "__init__" (.ref (He.ma K (He.ga K "HaltedInbox") "__init__")) (.ref (He.ma K (He.ga K "HaltedInbox") "__init__")) := by
  obtain ⟨h1, z⟩ := He.ba (c.ex 18)
  obtain ⟨h2, h3⟩ := He.ba z
  refine ⟨⟨h1, He.eqO_ok h2⟩, ⟨?_, rfl⟩⟩
  split at h3
  · rename_i u e
    rw [of_decide_eq_true h3] at e
    exact e
  · cases h3
end
end K8
set_option maxHeartbeats 40000000
namespace K8
open PySem PySem.Spec PyProof.Rows L2 NdefX LamX
/-! ### all promises, from the first def to the law -/
theorem law_keeps {P : Program} {w : World} {h : Heap} {K : PySem.W.Frag} {mg : Str → Option Value} {base : Heap} (c : SaysY h K) (KX : K.In h) (NS : h.Ns mainGlobals mg) (hP : P.main.file = PySem.Challenge.pw_lateposts_k80_whole_desks.main.file) (htop : (P.main.scope.names.lookup ("super" : Str)).isSome = false)
    {P0 : Addr} (TB : TabB base mg (He.codeOf K ("_law_within", none)) P0) : CalP guardsNone P w K mg base CX0 15 "law" (sp_law K P0) := by
  have G : Gx K mg := c.gx KX NS
  have Gk : Gk K mg := c.gk
  have r_rest_of : Cal P w K mg base CX0 1 "rest_of" sp_rest_of := ok_rest_of (c.df KX NS 3 "rest_of" s_rest_of) G
  have r_lies_in : Cal P w K mg base CX0 1 "lies_in" sp_lies_in := ok_lies_in (c.df KX NS 4 "lies_in" s_lies_in) G
  have r_counting_row : Cal P w K mg base CX0 2 "counting_row" sp_counting_row := ok_counting_row (c.df KX NS 5 "counting_row" s_counting_row) G r_lies_in
  have r_step_from : Cal P w K mg base CX0 3 "step_from" sp_step_from := ok_step_from (c.df KX NS 6 "step_from" s_step_from) G r_counting_row
  have r_is_integer : Cal P w K mg base CX0 1 "is_integer" sp_is_integer := ok_is_integer (c.df KX NS 13 "is_integer" s_is_integer) G
  have r_is_bound : Cal P w K mg base CX0 2 "is_bound" sp_is_bound := ok_is_bound (c.df KX NS 14 "is_bound" s_is_bound) G r_is_integer
  have r_is_range : Cal P w K mg base CX0 3 "is_range" sp_is_range := ok_is_range (c.df KX NS 15 "is_range" s_is_range) G r_is_bound
  have r_is_deed : Cal P w K mg base CX0 1 "is_deed" sp_is_deed := ok_is_deed (c.df KX NS 16 "is_deed" s_is_deed) G
  have r_row_word : Cal P w K mg base CX0 4 "row_word" sp_row_word := ok_row_word (c.df KX NS 17 "row_word" s_row_word) G r_is_integer r_is_range r_is_deed
  have r_state_error : Cal P w K mg base CX0 5 "state_error" sp_state_error := ok_state_error (c.df KX NS 18 "state_error" s_state_error) G r_row_word
  have r_receiver_error : Cal P w K mg base CX0 6 "receiver_error" sp_receiver_error := ok_receiver_error (c.df KX NS 19 "receiver_error" s_receiver_error) G r_state_error
  have r_all_steps : Cal P w K mg base CX0 1 "all_steps" sp_all_steps := ok_all_steps (c.df KX NS 7 "all_steps" s_all_steps) G
  have r_hear : Cal P w K mg base CX0 4 "hear" sp_hear := ok_hear (c.df KX NS 9 "hear" s_hear) G r_step_from r_rest_of
  have r_beginning : Cal P w K mg base CX0 1 "beginning" sp_beginning := ok_beginning (c.df KX NS 10 "beginning" s_beginning) G
  have r_walked : Cal P w K mg base CX0 5 "walked" sp_walked := ok_walked (c.df KX NS 11 "walked" s_walked) G r_beginning r_hear
  have r_answers : CalK P w K mg base CX0 6 "answers" 2 ["last"] sp_answers := ok_answers (c.df KX NS 12 "answers" s_answers) G r_walked
  have r_place_of : Cal P w K mg base CX0 1 "place_of" sp_place_of := ok_place_of (c.df KX NS 0 "place_of" s_place_of) G
  have r_rests_met : Cal P w K mg base CX0 4 "rests_met" sp_rests_met := ok_rests_met (c.df KX NS 8 "rests_met" s_rests_met) G r_all_steps r_step_from
  have r_table_of : Cal P w K mg base CX0 5 "table_of" sp_table_of := ok_table_of (c.df KX NS 24 "table_of" s_table_of) G r_all_steps r_step_from r_rests_met r_place_of
  have r_classes_of : Cal P w K mg base CX0 2 "classes_of" sp_classes_of := ok_classes_of (c.df KX NS 25 "classes_of" s_classes_of) G r_place_of
  have r_runs_of : Cal P w K mg base CX0 2 "runs_of" sp_runs_of := ok_runs_of (c.df KX NS 26 "runs_of" s_runs_of) G r_all_steps
  have r_least_of : Cal P w K mg base CX0 3 "least_of" sp_least_of := ok_least_of (c.df KX NS 27 "least_of" s_least_of) G r_place_of r_classes_of r_runs_of
  have r_form_of : Cal P w K mg base CX0 6 "form_of" sp_form_of := ok_form_of (c.df KX NS 28 "form_of" s_form_of) G r_table_of r_least_of
  have r_number_text : Cal P w K mg base CX0 1 "number_text" sp_number_text := ok_number_text (c.df KX NS 29 "number_text" s_number_text) G
  have r_bound_text : Cal P w K mg base CX0 2 "bound_text" sp_bound_text := ok_bound_text (c.df KX NS 30 "bound_text" s_bound_text) G r_number_text
  have r_range_text : Cal P w K mg base CX0 3 "range_text" sp_range_text := ok_range_text (c.df KX NS 31 "range_text" s_range_text) G r_bound_text
  have r_l_range_text : Cal P w K mg base CX0 1 "_law_range_text" sp_range_text := ok_l_range_text (c.df KX NS 47 "_law_range_text" s_l_range_text) G
  have r_ranges_text : Cal P w K mg base CX0 4 "ranges_text" sp_ranges_text := ok_ranges_text (c.df KX NS 32 "ranges_text" s_ranges_text) G r_range_text
  have r_l_ranges_text : Cal P w K mg base CX0 2 "_law_ranges_text" sp_ranges_text := ok_l_ranges_text (c.df KX NS 49 "_law_ranges_text" s_l_ranges_text) G r_l_range_text
  have r_log_text : Cal P w K mg base CX0 2 "log_text" sp_log_text := ok_log_text (c.df KX NS 33 "log_text" s_log_text) G r_number_text
  have r_l_log_text : Cal P w K mg base CX0 1 "_law_log_text" sp_l_log_text := ok_l_log_text (c.df KX NS 48 "_law_log_text" s_l_log_text) G
  have r_parse_number : Cal P w K mg base CX0 1 "parse_number" sp_parse_number := ok_parse_number (c.df KX NS 34 "parse_number" s_parse_number) G
  have r_parse_log : Cal P w K mg base CX0 2 "parse_log" sp_parse_log := ok_parse_log (c.df KX NS 35 "parse_log" s_parse_log) G r_parse_number
  have r_merged : Cal P w K mg base CX0 1 "merged" sp_merged := ok_merged (c.df KX NS 1 "merged" s_merged) G
  have r_in_order : Cal P w K mg base CX0 2 "in_order" sp_in_order := ok_in_order (c.df KX NS 2 "in_order" s_in_order) G r_merged
  have r_stretches : Cal P w K mg base CX0 3 "stretches" sp_stretches := ok_stretches (c.df KX NS 20 "stretches" s_stretches) G r_in_order
  have r_one_of : Cal P w K mg base CX0 1 "one_of" sp_one_of := ok_one_of (c.df KX NS 21 "one_of" s_one_of) G
  have r_joined : Cal P w K mg base CX0 1 "joined" sp_joined := ok_joined (c.df KX NS 22 "joined" s_joined) G
  have r_fits : Cal P w K mg base CX0 7 "fits" sp_fits := ok_fits (c.df KX NS 23 "fits" s_fits) G r_joined r_stretches r_answers r_one_of
  have k_Leaf : Mkr P w K mg base 1 "Leaf" (cLf K) (sp_Leaf K) := ok_Leaf (c.mkr "Leaf") (c.glo KX NS "Leaf") (c.fd 143 (fun K => He.ma K (He.ga K "Leaf") "__init__") "__init__" "Leaf.__init__" s_Leaf_init) G
  have p_rules_s_Inbox_rules : ∀ kd : Kd, Pf K (kd.C K) "rules" "Inbox.rules" s_Inbox_rules := fun kd => match kd with | .i => c.pf 119 "Inbox" "rules" "Inbox.rules" s_Inbox_rules | .l => c.pf 124 "LoggedInbox" "rules" "Inbox.rules" s_Inbox_rules | .h => c.pf 130 "HaltedInbox" "rules" "Inbox.rules" s_Inbox_rules | .b => c.pf 135 "LoggedHaltedInbox" "rules" "Inbox.rules" s_Inbox_rules
  have r_rules : ∀ kd : Kd, Prp P w K mg base 1 (kd.C K) "rules" (sp_rules K kd) := fun kd => ok_rules kd (p_rules_s_Inbox_rules kd) G Gk
  have p_stand_s_Inbox_stand : ∀ kd : Kd, Pf K (kd.C K) "stand" "Inbox.stand" s_Inbox_stand := fun kd => match kd with | .i => c.pf 120 "Inbox" "stand" "Inbox.stand" s_Inbox_stand | .l => c.pf 125 "LoggedInbox" "stand" "Inbox.stand" s_Inbox_stand | .h => c.pf 131 "HaltedInbox" "stand" "Inbox.stand" s_Inbox_stand | .b => c.pf 136 "LoggedHaltedInbox" "stand" "Inbox.stand" s_Inbox_stand
  have r_stand : ∀ kd : Kd, Prp P w K mg base 1 (kd.C K) "stand" (sp_stand K kd) := fun kd => ok_stand kd (p_stand_s_Inbox_stand kd) G Gk
  have p_taken_s_Inbox_taken : ∀ kd : Kd, Pf K (kd.C K) "taken" "Inbox.taken" s_Inbox_taken := fun kd => match kd with | .i => c.pf 121 "Inbox" "taken" "Inbox.taken" s_Inbox_taken | .l => c.pf 126 "LoggedInbox" "taken" "Inbox.taken" s_Inbox_taken | .h => c.pf 132 "HaltedInbox" "taken" "Inbox.taken" s_Inbox_taken | .b => c.pf 137 "LoggedHaltedInbox" "taken" "Inbox.taken" s_Inbox_taken
  have r_taken : ∀ kd : Kd, Prp P w K mg base 1 (kd.C K) "taken" (sp_taken K kd) := fun kd => ok_taken kd (p_taken_s_Inbox_taken kd) G Gk
  have p_version_s_Inbox_version : ∀ kd : Kd, Pf K (kd.C K) "version" "Inbox.version" s_Inbox_version := fun kd => match kd with | .i => c.pf 122 "Inbox" "version" "Inbox.version" s_Inbox_version | .l => c.pf 127 "LoggedInbox" "version" "Inbox.version" s_Inbox_version | .h => c.pf 133 "HaltedInbox" "version" "Inbox.version" s_Inbox_version | .b => c.pf 138 "LoggedHaltedInbox" "version" "Inbox.version" s_Inbox_version
  have r_version : ∀ kd : Kd, Prp P w K mg base 1 (kd.C K) "version" (sp_version K kd) := fun kd => ok_version kd (p_version_s_Inbox_version kd) G Gk
  have p_last_s_Inbox_last : ∀ kd : Kd, Pf K (kd.C K) "last" "Inbox.last" s_Inbox_last := fun kd => match kd with | .i => c.pf 123 "Inbox" "last" "Inbox.last" s_Inbox_last | .l => c.pf 128 "LoggedInbox" "last" "Inbox.last" s_Inbox_last | .h => c.pf 134 "HaltedInbox" "last" "Inbox.last" s_Inbox_last | .b => c.pf 139 "LoggedHaltedInbox" "last" "Inbox.last" s_Inbox_last
  have r_last : ∀ kd : Kd, Prp P w K mg base 1 (kd.C K) "last" (sp_last K kd) := fun kd => ok_last kd (p_last_s_Inbox_last kd) G Gk
  have p_log_s_LoggedInbox_log : ∀ kd : Kd, kd.logs = true → Pf K (kd.C K) "log" "LoggedInbox.log" s_LoggedInbox_log := fun kd z => match kd, z with | .i, z => nomatch z | .l, _ => c.pf 129 "LoggedInbox" "log" "LoggedInbox.log" s_LoggedInbox_log | .h, z => nomatch z | .b, _ => c.pf 140 "LoggedHaltedInbox" "log" "LoggedInbox.log" s_LoggedInbox_log
  have r_log : ∀ kd : Kd, kd.logs = true → Prp P w K mg base 1 (kd.C K) "log" (sp_log K kd) := fun kd hk => ok_log kd (p_log_s_LoggedInbox_log kd hk) G Gk
  have r_receiver : Prp P w K mg base 1 (cRu K) "receiver" (sp_receiver K) := ok_receiver (c.pf 141 "Rules" "receiver" "Rules.receiver" s_Rules_receiver) G Gk
  have d_require_idle_s_Inbox_require_idle : ∀ kd : Kd, Md K (kd.C K) "require_idle" "Inbox.require_idle" s_Inbox_require_idle := fun kd => match kd with | .i => c.md 56 "Inbox" "require_idle" "Inbox.require_idle" s_Inbox_require_idle | .l => c.md 70 "LoggedInbox" "require_idle" "Inbox.require_idle" s_Inbox_require_idle | .h => c.md 84 "HaltedInbox" "require_idle" "Inbox.require_idle" s_Inbox_require_idle | .b => c.md 98 "LoggedHaltedInbox" "require_idle" "Inbox.require_idle" s_Inbox_require_idle
  have r_require_idle : ∀ kd : Kd, Met P w K mg base (L2N.CX P w) 1 (kd.C K) "require_idle" (sp_require_idle K kd) := fun kd => ok_require_idle kd (d_require_idle_s_Inbox_require_idle kd) G Gk (c.exc KX NS "Busy")
  have d_require_room_s_Inbox_require_room : ∀ kd : Kd, Md K (kd.C K) "require_room" "Inbox.require_room" s_Inbox_require_room := fun kd => match kd with | .i => c.md 57 "Inbox" "require_room" "Inbox.require_room" s_Inbox_require_room | .l => c.md 71 "LoggedInbox" "require_room" "Inbox.require_room" s_Inbox_require_room | .h => c.md 85 "HaltedInbox" "require_room" "Inbox.require_room" s_Inbox_require_room | .b => c.md 99 "LoggedHaltedInbox" "require_room" "Inbox.require_room" s_Inbox_require_room
  have r_require_room : ∀ kd : Kd, Met P w K mg base CX0 1 (kd.C K) "require_room" (sp_require_room K kd) := fun kd => ok_require_room kd (d_require_room_s_Inbox_require_room kd) G Gk
  have d_is_open_s_Inbox_is_open : ∀ kd : Kd, kd.halts = false → Md K (kd.C K) "is_open" "Inbox.is_open" s_Inbox_is_open := fun kd z => match kd, z with | .i, _ => c.md 68 "Inbox" "is_open" "Inbox.is_open" s_Inbox_is_open | .l, _ => c.md 82 "LoggedInbox" "is_open" "Inbox.is_open" s_Inbox_is_open | .h, z => nomatch z | .b, z => nomatch z
  have r_is_open0 : ∀ kd : Kd, kd.halts = false → Met P w K mg base CX0 1 (kd.C K) "is_open" (sp_is_open K kd) := fun kd hk => ok_is_open0 kd hk (d_is_open_s_Inbox_is_open kd hk) G Gk
  have d_is_open_s_HaltedInbox_is_open : ∀ kd : Kd, kd.halts = true → Md K (kd.C K) "is_open" "HaltedInbox.is_open" s_HaltedInbox_is_open := fun kd z => match kd, z with | .i, z => nomatch z | .l, z => nomatch z | .h, _ => c.md 96 "HaltedInbox" "is_open" "HaltedInbox.is_open" s_HaltedInbox_is_open | .b, _ => c.md 110 "LoggedHaltedInbox" "is_open" "HaltedInbox.is_open" s_HaltedInbox_is_open
  have r_is_open1 : ∀ kd : Kd, kd.halts = true → Met P w K mg base CX0 1 (kd.C K) "is_open" (sp_is_open K kd) := fun kd hk => ok_is_open1 kd hk (d_is_open_s_HaltedInbox_is_open kd hk) G Gk
  have r_is_open : ∀ kd : Kd, Met P w K mg base CX0 1 (kd.C K) "is_open" (sp_is_open K kd) := fun kd => (match e : kd.halts with | true => r_is_open1 kd e | false => r_is_open0 kd e)
  have d_require_open_s_Inbox_require_open : ∀ kd : Kd, Md K (kd.C K) "require_open" "Inbox.require_open" s_Inbox_require_open := fun kd => match kd with | .i => c.md 58 "Inbox" "require_open" "Inbox.require_open" s_Inbox_require_open | .l => c.md 72 "LoggedInbox" "require_open" "Inbox.require_open" s_Inbox_require_open | .h => c.md 86 "HaltedInbox" "require_open" "Inbox.require_open" s_Inbox_require_open | .b => c.md 100 "LoggedHaltedInbox" "require_open" "Inbox.require_open" s_Inbox_require_open
  have r_require_open : ∀ kd : Kd, Met P w K mg base (L2N.CX P w) 2 (kd.C K) "require_open" (sp_require_open K kd) := fun kd => ok_require_open kd (d_require_open_s_Inbox_require_open kd) G Gk (r_is_open kd) (c.exc KX NS "Halted")
  have d_note_s_Inbox_note : ∀ kd : Kd, kd.logs = false → Md K (kd.C K) "note" "Inbox.note" s_Inbox_note := fun kd z => match kd, z with | .i, _ => c.md 69 "Inbox" "note" "Inbox.note" s_Inbox_note | .l, z => nomatch z | .h, _ => c.md 97 "HaltedInbox" "note" "Inbox.note" s_Inbox_note | .b, z => nomatch z
  have r_note0 : ∀ kd : Kd, kd.logs = false → Met P w K mg base CX0 1 (kd.C K) "note" (sp_note K kd) := fun kd hk => ok_note0 kd hk (d_note_s_Inbox_note kd hk) G Gk
  have d_note_s_LoggedInbox_note : ∀ kd : Kd, kd.logs = true → Md K (kd.C K) "note" "LoggedInbox.note" s_LoggedInbox_note := fun kd z => match kd, z with | .i, z => nomatch z | .l, _ => c.md 83 "LoggedInbox" "note" "LoggedInbox.note" s_LoggedInbox_note | .h, z => nomatch z | .b, _ => c.md 111 "LoggedHaltedInbox" "note" "LoggedInbox.note" s_LoggedInbox_note
  have r_note1 : ∀ kd : Kd, kd.logs = true → Met P w K mg base CX0 1 (kd.C K) "note" (sp_note K kd) := fun kd hk => ok_note1 kd hk (d_note_s_LoggedInbox_note kd hk) G Gk
  have r_note : ∀ kd : Kd, Met P w K mg base CX0 1 (kd.C K) "note" (sp_note K kd) := fun kd => (match e : kd.logs with | true => r_note1 kd e | false => r_note0 kd e)
  have d_hear_one_s_Inbox_hear_one : ∀ kd : Kd, Md K (kd.C K) "hear_one" "Inbox.hear_one" s_Inbox_hear_one := fun kd => match kd with | .i => c.md 59 "Inbox" "hear_one" "Inbox.hear_one" s_Inbox_hear_one | .l => c.md 73 "LoggedInbox" "hear_one" "Inbox.hear_one" s_Inbox_hear_one | .h => c.md 87 "HaltedInbox" "hear_one" "Inbox.hear_one" s_Inbox_hear_one | .b => c.md 101 "LoggedHaltedInbox" "hear_one" "Inbox.hear_one" s_Inbox_hear_one
  have r_hear_one : ∀ kd : Kd, Met P w K mg base (L2N.CX P w) 5 (kd.C K) "hear_one" (sp_hear_one K kd) := fun kd => ok_hear_one kd (d_hear_one_s_Inbox_hear_one kd) G Gk (r_require_open kd) r_hear r_receiver k_Leaf
  have r_require_number : Cal P w K mg base CX0 2 "require_number" sp_require_number := ok_require_number (c.df KX NS 38 "require_number" s_require_number) G r_is_integer
  have d___call___s_Inbox_call : ∀ kd : Kd, Md K (kd.C K) "__call__" "Inbox.__call__" s_Inbox_call := fun kd => match kd with | .i => c.md 60 "Inbox" "__call__" "Inbox.__call__" s_Inbox_call | .l => c.md 74 "LoggedInbox" "__call__" "Inbox.__call__" s_Inbox_call | .h => c.md 88 "HaltedInbox" "__call__" "Inbox.__call__" s_Inbox_call | .b => c.md 102 "LoggedHaltedInbox" "__call__" "Inbox.__call__" s_Inbox_call
  have r_call : ∀ kd : Kd, Met P w K mg base (L2N.CX P w) 6 (kd.C K) "__call__" (sp_call K kd) := fun kd => ok_call kd (d___call___s_Inbox_call kd) G Gk (r_require_idle kd) (r_require_open kd) (r_require_room kd) (r_hear_one kd) (r_note kd) r_require_number
  have d_undo_s_Inbox_undo : ∀ kd : Kd, Md K (kd.C K) "undo" "Inbox.undo" s_Inbox_undo := fun kd => match kd with | .i => c.md 61 "Inbox" "undo" "Inbox.undo" s_Inbox_undo | .l => c.md 75 "LoggedInbox" "undo" "Inbox.undo" s_Inbox_undo | .h => c.md 89 "HaltedInbox" "undo" "Inbox.undo" s_Inbox_undo | .b => c.md 103 "LoggedHaltedInbox" "undo" "Inbox.undo" s_Inbox_undo
  have r_undo : ∀ kd : Kd, Met P w K mg base (L2N.CX P w) 2 (kd.C K) "undo" (sp_undo K kd) := fun kd => ok_undo kd (d_undo_s_Inbox_undo kd) G Gk (r_require_idle kd) (r_note kd) (c.exc KX NS "NothingToUndo")
  have d___contains___s_Inbox_contains : ∀ kd : Kd, Md K (kd.C K) "__contains__" "Inbox.__contains__" s_Inbox_contains := fun kd => match kd with | .i => c.md 62 "Inbox" "__contains__" "Inbox.__contains__" s_Inbox_contains | .l => c.md 76 "LoggedInbox" "__contains__" "Inbox.__contains__" s_Inbox_contains | .h => c.md 90 "HaltedInbox" "__contains__" "Inbox.__contains__" s_Inbox_contains | .b => c.md 104 "LoggedHaltedInbox" "__contains__" "Inbox.__contains__" s_Inbox_contains
  have r_contains : ∀ kd : Kd, Met P w K mg base CX0 5 (kd.C K) "__contains__" (sp_contains K kd) := fun kd => ok_contains kd (d___contains___s_Inbox_contains kd) G Gk r_is_integer (r_is_open kd) r_hear r_receiver
  have d___len___s_Inbox_len : ∀ kd : Kd, Md K (kd.C K) "__len__" "Inbox.__len__" s_Inbox_len := fun kd => match kd with | .i => c.md 63 "Inbox" "__len__" "Inbox.__len__" s_Inbox_len | .l => c.md 77 "LoggedInbox" "__len__" "Inbox.__len__" s_Inbox_len | .h => c.md 91 "HaltedInbox" "__len__" "Inbox.__len__" s_Inbox_len | .b => c.md 105 "LoggedHaltedInbox" "__len__" "Inbox.__len__" s_Inbox_len
  have r_len : ∀ kd : Kd, Met P w K mg base CX0 1 (kd.C K) "__len__" (sp_len K kd) := fun kd => ok_len kd (d___len___s_Inbox_len kd) G Gk
  have r_rlen : Met P w K mg base CX0 1 (cRu K) "__len__" (sp_rlen K) := ok_rlen (c.md 118 "Rules" "__len__" "Rules.__len__" s_Rules_len) G Gk
  have d___str___s_Inbox_str : ∀ kd : Kd, Md K (kd.C K) "__str__" "Inbox.__str__" s_Inbox_str := fun kd => match kd with | .i => c.md 64 "Inbox" "__str__" "Inbox.__str__" s_Inbox_str | .l => c.md 78 "LoggedInbox" "__str__" "Inbox.__str__" s_Inbox_str | .h => c.md 92 "HaltedInbox" "__str__" "Inbox.__str__" s_Inbox_str | .b => c.md 106 "LoggedHaltedInbox" "__str__" "Inbox.__str__" s_Inbox_str
  have r_str : ∀ kd : Kd, Met P w K mg base CX0 1 (kd.C K) "__str__" (sp_str K kd) := fun kd => ok_str kd (d___str___s_Inbox_str kd) G Gk
  have d_restart_s_Inbox_restart : ∀ kd : Kd, Md K (kd.C K) "restart" "Inbox.restart" s_Inbox_restart := fun kd => match kd with | .i => c.md 65 "Inbox" "restart" "Inbox.restart" s_Inbox_restart | .l => c.md 79 "LoggedInbox" "restart" "Inbox.restart" s_Inbox_restart | .h => c.md 93 "HaltedInbox" "restart" "Inbox.restart" s_Inbox_restart | .b => c.md 107 "LoggedHaltedInbox" "restart" "Inbox.restart" s_Inbox_restart
  have r_restart : ∀ kd : Kd, Met P w K mg base (L2N.CX P w) 2 (kd.C K) "restart" (sp_restart K kd) := fun kd => ok_restart kd (d_restart_s_Inbox_restart kd) G Gk (r_require_idle kd)
  have i_Rules : Ini P w K mg base 7 (He.ma K (He.ga K "Rules") "__init__") (sp_Rules K) := ok_Rules (c.fd 144 (fun K => He.ma K (He.ga K "Rules") "__init__") "__init__" "Rules.__init__" s_Rules_init) G Gk r_receiver_error r_form_of
  have k_Rules : Mkr P w K mg base 7 "Rules" (cRu K) (sp_Rules K) := i_Rules.mkr (c.mkr "Rules") (c.glo KX NS "Rules")
  have i_Inbox : Ini P w K mg base 3 (He.ma K (He.ga K "Inbox") "__init__") (fun vs H Q E => ∃ kd, sp_Inbox K kd vs H Q E) := ok_Inbox (c.fd 145 (fun K => He.ma K (He.ga K "Inbox") "__init__") "__init__" "Inbox.__init__" s_Inbox_init) G Gk r_require_number r_beginning k_Leaf
  have k_Inbox : Mkr P w K mg base 3 "Inbox" (Kd.C K .i) (fun vs H Q E => ∃ kd, sp_Inbox K kd vs H Q E) := i_Inbox.mkr (c.mkr "Inbox") (c.glo KX NS "Inbox")
  obtain ⟨ccL, supL⟩ := c.sup (P := P) KX NS hP htop "LoggedInbox" 148 s_LoggedInbox_init "LoggedInbox.__init__" (by rfl) ⟨_, rfl, rfl⟩
  have supT := c.ex 16
  obtain ⟨sT1, sT2⟩ := He.ba supT
  obtain ⟨sT3, sT4⟩ := He.ba sT2
  have i_LoggedInbox : Ini P w K mg base 4 (He.ma K (He.ga K "LoggedInbox") "__init__") (sp_Logged K) := ok_Logged (supL "LoggedInbox" sT1) G Gk i_Inbox
  have k_LoggedInbox : Mkr P w K mg base 4 "LoggedInbox" (Kd.C K .l) (sp_Logged K) := i_LoggedInbox.mkr (c.mkr "LoggedInbox") (c.glo KX NS "LoggedInbox")
  obtain ⟨ccH, supH⟩ := c.sup (P := P) KX NS hP htop "HaltedInbox" 149 s_HaltedInbox_init "HaltedInbox.__init__" (by rfl) ⟨_, rfl, rfl⟩
  have kpH : PySem.W.keepIn K (.ref (He.ma K (He.ga K "HaltedInbox") "__init__")) = true := (c.fe 149 (e := ⟨fun K => He.ma K (He.ga K "HaltedInbox") "__init__", "__init__", "HaltedInbox.__init__", s_HaltedInbox_init, fun K => [("__class__", cellA K "HaltedInbox")]⟩) (by rfl)).elim fun _ z => by obtain ⟨_, _, _, _, _, _, _, _, _, _, k⟩ := z; exact k
  have i_HaltedInbox : Ini P w K mg base 4 (He.ma K (He.ga K "HaltedInbox") "__init__") (fun vs H Q E => ∃ kd : Kd, kd.halts = true ∧ sp_Halted K kd vs H Q E) := ok_Halted (fun kd z => match kd, z with | .i, z => nomatch z | .l, z => nomatch z | .h, _ => supH "HaltedInbox" sT3 | .b, _ => supH "LoggedHaltedInbox" sT4) G Gk r_is_integer i_Inbox
  have k_HaltedInbox : Mkr P w K mg base 4 "HaltedInbox" (Kd.C K .h) (fun vs H Q E => ∃ kd : Kd, kd.halts = true ∧ sp_Halted K kd vs H Q E) := i_HaltedInbox.mkr (c.mkr "HaltedInbox") (c.glo KX NS "HaltedInbox")
  have i_LoggedHaltedInbox : Ini P w K mg base 5 (He.ma K (He.ga K "LoggedHaltedInbox") "__init__") (sp_Halted K .b) := ok_LoggedHalted (c.fd 147 (fun K => He.ma K (He.ga K "LoggedHaltedInbox") "__init__") "__init__" "LoggedHaltedInbox.__init__" s_LoggedHaltedInbox_init) G Gk i_HaltedInbox c.crd.1 c.crd.2 kpH (c.glo KX NS "HaltedInbox")
  have k_LoggedHaltedInbox : Mkr P w K mg base 5 "LoggedHaltedInbox" (Kd.C K .b) (sp_Halted K .b) := i_LoggedHaltedInbox.mkr (c.mkr "LoggedHaltedInbox") (c.glo KX NS "LoggedHaltedInbox")
  have i_Desk : Ini P w K mg base 1 (He.ma K (He.ga K "Desk") "__init__") (sp_Desk K) := ok_Desk (c.fd 146 (fun K => He.ma K (He.ga K "Desk") "__init__") "__init__" "Desk.__init__" s_Desk_init) G Gk 
  have k_Desk : Mkr P w K mg base 1 "Desk" (cDk K) (sp_Desk K) := i_Desk.mkr (c.mkr "Desk") (c.glo KX NS "Desk")
  have r_yes_or_no : Cal P w K mg base CX0 1 "yes_or_no" sp_yes_or_no := ok_yes_or_no (c.df KX NS 36 "yes_or_no" s_yes_or_no) G
  have r_do_deed : ∀ kd : Kd, Met P w K mg base (L2N.CX P w) 7 (cDk K) "do_deed" (sp_do_deed K kd) := fun kd => ok_do_deed kd (c.md 112 "Desk" "do_deed" "Desk.do_deed" s_Desk_do_deed) G Gk r_yes_or_no (r_call kd) (c.fi kd) (r_restart kd)
  have r_told_by : ∀ kd : Kd, Met P w K mg base CX0 6 (cDk K) "told_by" (sp_told_by K kd) := fun kd => ok_told_by kd (c.md 113 "Desk" "told_by" "Desk.told_by" s_Desk_told_by) G Gk r_yes_or_no (r_contains kd) (r_rules kd) r_receiver
  have r_told_alone : ∀ kd : Kd, Met P w K mg base (L2N.CX P w) 4 (cDk K) "told_alone" (sp_told_alone K kd) := fun kd => ok_told_alone kd (c.md 114 "Desk" "told_alone" "Desk.told_alone" s_Desk_told_alone) G Gk r_number_text (r_undo kd) (r_len kd) r_rlen (r_rules kd) (r_last kd) (r_taken kd)
  have r_answer : ∀ kd : Kd, Met P w K mg base (L2N.CX P w) 8 (cDk K) "answer" (sp_answer K kd) := fun kd => ok_answer kd (c.md 115 "Desk" "answer" "Desk.answer" s_Desk_answer) G Gk r_ranges_text r_fits r_parse_log r_parse_number (r_do_deed kd) (r_told_by kd) (r_told_alone kd) (r_rules kd) r_receiver
  have r_spring : Cal P w K mg base CX0 1 "_law_spring" (sp_spring K) := ok_spring (c.df KX NS 39 "_law_spring" s_l_spring) G
  have r_dip : Cal P w K mg base CX0 1 "_law_dip" sp_dip := ok_dip (c.df KX NS 40 "_law_dip" s_l_dip) G
  have r_pick : Cal P w K mg base CX0 2 "_law_pick" sp_pick := ok_pick (c.df KX NS 41 "_law_pick" s_l_pick) G r_dip
  have r_range : Cal P w K mg base CX0 2 "_law_range" sp_range := ok_range (c.df KX NS 42 "_law_range" s_l_range) G r_dip
  have r_row : Cal P w K mg base CX0 3 "_law_row" sp_row := ok_row (c.df KX NS 43 "_law_row" s_l_row) G r_dip r_pick r_range
  have r_window : Cal P w K mg base CX0 1 "_law_window" sp_window := ok_window (c.df KX NS 44 "_law_window" s_l_window) G
  have r_paired : Cal P w K mg base CX0 1 "_law_paired" sp_paired := ok_paired (c.df KX NS 45 "_law_paired" s_l_paired) G
  have r_l_receiver : Cal P w K mg base CX0 4 "_law_receiver" sp_l_receiver := ok_l_receiver (c.df KX NS 46 "_law_receiver" s_l_receiver) G r_dip r_window r_paired r_row
  have r_history : Prp P w K mg base 1 (cDk K) "history" (sp_history K) := ok_history (c.pf 142 "Desk" "history" "Desk.history" s_Desk_history) G Gk
  have r_gate : Cal P w K mg base CX0 9 "_law_gate" (sp_gate K) := ok_gate (c.df KX NS 50 "_law_gate" s_l_gate) G Gk k_Rules k_Inbox k_LoggedInbox k_HaltedInbox k_LoggedHaltedInbox
  have r_by : ∀ kd : Kd, Cal P w K mg base CX0 7 "_law_by_methods" (sp_by K kd) := fun kd => ok_by kd (c.df KX NS 51 "_law_by_methods" s_l_by_methods) G Gk (c.xg KX NS) (r_call kd) (c.fi kd) (r_undo kd)
  have r_shown1 : ∀ kd : Kd, kd.logs = true → CalP guardsNone P w K mg base CX0 4 "_law_shown" (sp_shown K kd) := fun kd hk => ok_shown1 kd hk (c.df KX NS 52 "_law_shown" s_l_shown) G Gk (c.lg KX NS) (r_stand kd) (r_taken kd) (r_version kd) (r_last kd) (r_log kd hk) (r_str kd) (r_len kd)
  have r_shown0 : ∀ kd : Kd, kd.logs = false → CalP guardsNone P w K mg base CX0 4 "_law_shown" (sp_shown K kd) := fun kd hk => ok_shown0 kd hk (c.df KX NS 52 "_law_shown" s_l_shown) G Gk (c.lg KX NS) (r_stand kd) (r_taken kd) (r_version kd) (r_last kd) (r_str kd) (r_len kd)
  have r_shown : ∀ kd : Kd, CalP guardsNone P w K mg base CX0 4 "_law_shown" (sp_shown K kd) := fun kd => (match e : kd.logs with | true => r_shown1 kd e | false => r_shown0 kd e)
  have r_error_name : CalE P w K mg base 3 := ok_error_name (c.df KX NS 37 "error_name" s_error_name) G (c.er KX NS)
  have d_hear_all_s_Inbox_hear_all : ∀ kd : Kd, Md K (kd.C K) "hear_all" "Inbox.hear_all" s_Inbox_hear_all := fun kd => match kd with | .i => c.md 66 "Inbox" "hear_all" "Inbox.hear_all" s_Inbox_hear_all | .l => c.md 80 "LoggedInbox" "hear_all" "Inbox.hear_all" s_Inbox_hear_all | .h => c.md 94 "HaltedInbox" "hear_all" "Inbox.hear_all" s_Inbox_hear_all | .b => c.md 108 "LoggedHaltedInbox" "hear_all" "Inbox.hear_all" s_Inbox_hear_all
  have d_hear_row_s_Inbox_hear_row : ∀ kd : Kd, Md K (kd.C K) "hear_row" "Inbox.hear_row" s_Inbox_hear_row := fun kd => match kd with | .i => c.md 67 "Inbox" "hear_row" "Inbox.hear_row" s_Inbox_hear_row | .l => c.md 81 "LoggedInbox" "hear_row" "Inbox.hear_row" s_Inbox_hear_row | .h => c.md 95 "HaltedInbox" "hear_row" "Inbox.hear_row" s_Inbox_hear_row | .b => c.md 109 "LoggedHaltedInbox" "hear_row" "Inbox.hear_row" s_Inbox_hear_row
  have r_within_right : Cal P w K mg base CX0 1 "_law_within_right" sp_within_right := ok_within_right (c.df KX NS 54 "_law_within_right" s_l_within_right) G
  have r_answer_safely : ∀ kd : Kd, Met P w K mg base CX0 9 (cDk K) "answer_safely" (sp_answer_safely K kd) := fun kd => ok_answer_safely kd (c.md 116 "Desk" "answer_safely" "Desk.answer_safely" s_Desk_answer_safely) G Gk (c.glo KX NS "PostError") c.gX r_error_name (r_answer kd)
  have r_say : ∀ kd : Kd, Met P w K mg base CX0 10 (cDk K) "say" (sp_say K kd) := fun kd => ok_say kd (c.md 117 "Desk" "say" "Desk.say" s_Desk_say) G Gk (r_answer_safely kd)
  have r_HaP : ∀ kd : Kd, HaP P w K mg base kd := fun kd => ok_HaP kd (d_hear_all_s_Inbox_hear_all kd) (d_hear_row_s_Inbox_hear_row kd) G Gk (r_require_idle kd) (r_require_open kd) (r_require_room kd) (r_note kd) r_require_number (r_hear_one kd) (r_say kd) (r_last kd) (r_taken kd) (r_rules kd) (r_contains kd) r_rlen
  have r_within : ∀ kd : Kd, Cal P w K mg base CX0 14 "_law_within" (sp_within K kd [(P0, fun _ _ => "_law_within.<locals>._law_look")]) := fun kd => ok_within kd (c.dfC KX NS) TB G Gk (c.glo KX NS "Halted") (c.exm "Halted" "Halted" true) (r_HaP kd)
  exact ok_law (c.df KX NS 55 "law" s_law) G Gk r_spring r_dip r_pick r_by r_shown r_history r_say r_last r_version r_l_log_text r_l_ranges_text r_fits r_log_text r_within r_within_right r_l_receiver r_gate k_Desk
end K8
set_option maxHeartbeats 40000000
namespace K8
open PySem PySem.Spec PyProof.Rows L2 NdefX LamX
/-! ### the walk of the row -/
abbrev lawR : PySem.W.OpenLaw := PySem.Challenge.rw_lateposts_k80_whole_desks
theorem law_facts {w : World} {K : PySem.W.Frag} {h : Heap} {mg : Str → Option Value} (KX : K.In h) (NS : h.Ns mainGlobals mg) (c : SaysY h K) :
    ∃ (K : PySem.W.Frag) (cc T : Addr) (sp : Sp), K.In h ∧ h.get? T = some { cls := .none, data := .fields #[] } ∧ K.lookup T = none ∧ PySem.W.CodeHd h cc T ∧
      (∀ (H : Hp) (a : Addr) (ns : List Int), H T = some (.tbl #[]) → SqL K H a (ns.map V.int) → sp [.ref a] H (fun v _ => v = .bl true) fun _ _ _ => False) ∧ ∀ base : Heap, K.In base → base.Ns mainGlobals mg → TabB base mg cc T → CalP guardsNone lawR.prog w K mg base CX0 15 "law" sp := by
  have hp : (("_law_within", none) : He.Defn) ∈ tfL := List.mem_cons_self
  refine ⟨K, (He.cT K ("_law_within", none)).1, (He.cT K ("_law_within", none)).2, sp_law K (He.cT K ("_law_within", none)).2, KX, c.empty _ hp, c.out _ hp, PySem.W.codeHd_of_K KX (c.hd _ hp), fun H a ns hT hS => ⟨a, ns, rfl, hS, fun p hq => ?_, fun _ => rfl⟩, fun base _ _ TB => law_keeps c KX NS (by kernel_rfl) (by kernel_rfl) TB⟩
  obtain rfl := List.mem_singleton.mp hq
  exact TabN.nil hT
theorem law_name : (HandSHeadRun.topDef (PySem.W.OpenLaw.row lawR).prog 137).name = ("law" : Str) := by kernel_rfl
theorem law_walk {q : Program} {loose : List Str} {XP : (Str → Option Value) → Heap → Prop} : PySem.W.WalkO q loose XP hookY.says (PySem.W.OpenLaw.row lawR).toRowW (HandSHeadRun.topDef (PySem.W.OpenLaw.row lawR).prog 137) [] (fun f vs => PySem.call f vs) := by
  refine walk_G (l := lawR) (k := 15) rfl (by decide) (by kernel_rfl) ⟨rfl, by decide, by decide⟩ ?_
  intro w mg fa h Y NS hmg
  obtain ⟨K, KX, c⟩ := Y
  rw [law_name]
  exact law_facts KX NS c
end K8
set_option maxHeartbeats 0
namespace K8
theorem runR (w : PySem.World) : HandSHeadRun.RunEq rowR rowQ hookY obR 20000 rowNames w := runR_of (run0 w) (run1a w) (run1b w) (run2a w) (run2b w)
end K8
set_option maxHeartbeats 0
open PySem PySem.W PySem.Calls PyProof.Rows
theorem PySem.Challenge.cw_lateposts_k80_whole_desks_holds : PySem.Challenge.rw_lateposts_k80_whole_desks.Holds := by
  w_on; o_law
  refine HandSHeadRun.head_any (r := OpenLaw.row PySem.Challenge.rw_lateposts_k80_whole_desks) (q := K8.rowQ) (H := K8.hookY) (ob := K8.obR) (M := 20000) (loose := K8.rowNames) (d := HandSHeadRun.topDef (OpenLaw.row PySem.Challenge.rw_lateposts_k80_whole_desks).prog 137) (kwd := []) K8.obR_eq
    (by kernel_rfl) (fun s => by kernel_rfl) K8.runR (by kernel_rfl) (by kernel_rfl) (by kernel_rfl) (by rfl) (by first | assumption | decide +kernel) (by decide +kernel) ⟨rfl, rfl, rfl, rfl, rfl, K8.tabs_whole⟩ ?hw ?hc
  case hw => w_witness2
  case hc => exact K8.law_walk
