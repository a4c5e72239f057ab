import PyProof.Rows.All
import Wide.All
import OpenK.AllK
import Wide.FinOn
import HandS.ForMost
import HandS.Codes
import HandS.Evl
import HandS.Steps
import HandS.TupAny
import HandS.StrMore
import HandS.IsInst
import HandS.RevRange
import HandS.Style
import HandS.ReplaceLit
import HandS.ReplaceDef
import HandS.More
import HandS.Iter
import KE.GoesEnum
import HandS.ReplaceList
import HandS.Walk
import KE.KStateDown
import HandS.Head0
import HandS.Head1
import HandS.Head2
import HandS.HeadEnd
import HandS.HeadHook1
import HandS.HeadHook2
import PySem.Challenge.RW_tagmend_k47_whole_reading
set_option Elab.async false
set_option linter.all false
set_option maxRecDepth 100000
set_option maxHeartbeats 0
namespace Tg
open PySem L2
def top (i : Nat) : Stmt := PySem.Challenge.pw_tagmend_k47_whole_reading.main.body.getD i (.Pass ⟨0, 0, 0, 0⟩)
abbrev s_row_with : Stmt := top 1
abbrev N_row_with : List Str := ["rows", "name", "row"]
theorem sc_row_with : FnScope N_row_with ["rows", "name"] (defScope s_row_with) := ⟨rfl, rfl, rfl, by decide +kernel, rfl, by decide +kernel, by decide +kernel⟩
abbrev s_sort_of : Stmt := top 2
abbrev N_sort_of : List Str := ["book", "name", "row"]
theorem sc_sort_of : FnScope N_sort_of ["book", "name"] (defScope s_sort_of) := ⟨rfl, rfl, rfl, by decide +kernel, rfl, by decide +kernel, by decide +kernel⟩
abbrev s_host_of : Stmt := top 3
abbrev N_host_of : List Str := ["book", "name"]
theorem sc_host_of : FnScope N_host_of ["book", "name"] (defScope s_host_of) := ⟨rfl, rfl, rfl, by decide +kernel, rfl, by decide +kernel, by decide +kernel⟩
abbrev s_frame_of : Stmt := top 4
abbrev N_frame_of : List Str := ["book", "name", "row"]
theorem sc_frame_of : FnScope N_frame_of ["book", "name"] (defScope s_frame_of) := ⟨rfl, rfl, rfl, by decide +kernel, rfl, by decide +kernel, by decide +kernel⟩
abbrev s_belongs : Stmt := top 5
abbrev N_belongs : List Str := ["book", "name", "frame", "here"]
theorem sc_belongs : FnScope N_belongs ["book", "name", "frame"] (defScope s_belongs) := ⟨rfl, rfl, rfl, by decide +kernel, rfl, by decide +kernel, by decide +kernel⟩
abbrev s_near_of : Stmt := top 7
abbrev N_near_of : List Str := ["book", "names", "near", "name"]
theorem sc_near_of : FnScope N_near_of ["book", "names"] (defScope s_near_of) := ⟨rfl, rfl, rfl, by decide +kernel, rfl, by decide +kernel, by decide +kernel⟩
abbrev s_is_wall : Stmt := top 10
abbrev N_is_wall : List Str := ["book", "name"]
theorem sc_is_wall : FnScope N_is_wall ["book", "name"] (defScope s_is_wall) := ⟨rfl, rfl, rfl, by decide +kernel, rfl, by decide +kernel, by decide +kernel⟩
abbrev s_row_in : Stmt := top 11
abbrev N_row_in : List Str := ["book", "name", "one"]
theorem sc_row_in : FnScope N_row_in ["book", "name"] (defScope s_row_in) := ⟨rfl, rfl, rfl, by decide +kernel, rfl, by decide +kernel, by decide +kernel⟩
abbrev s_last_one : Stmt := top 12
abbrev N_last_one : List Str := ["book", "names", "name", "k"]
theorem sc_last_one : FnScope N_last_one ["book", "names", "name"] (defScope s_last_one) := ⟨rfl, rfl, rfl, by decide +kernel, rfl, by decide +kernel, by decide +kernel⟩
abbrev s_closing : Stmt := top 13
abbrev N_closing : List Str := ["book", "names", "name"]
theorem sc_closing : FnScope N_closing ["book", "names", "name"] (defScope s_closing) := ⟨rfl, rfl, rfl, by decide +kernel, rfl, by decide +kernel, by decide +kernel⟩
abbrev s_hosts_in : Stmt := top 14
abbrev N_hosts_in : List Str := ["book", "names", "hosts"]
theorem sc_hosts_in : FnScope N_hosts_in ["book", "names"] (defScope s_hosts_in) := ⟨rfl, rfl, rfl, by decide +kernel, rfl, by decide +kernel, by decide +kernel⟩
abbrev s_shut_from : Stmt := top 15
abbrev N_shut_from : List Str := ["book", "names", "name", "near", "shuts", "k", "other"]
theorem sc_shut_from : FnScope N_shut_from ["book", "names", "name"] (defScope s_shut_from) := ⟨rfl, rfl, rfl, by decide +kernel, rfl, by decide +kernel, by decide +kernel⟩
abbrev s_wanted_by : Stmt := top 16
abbrev N_wanted_by : List Str := ["book", "names", "name", "frame", "number", "kept", "put", "hosts"]
theorem sc_wanted_by : FnScope N_wanted_by ["book", "names", "name"] (defScope s_wanted_by) := ⟨rfl, rfl, rfl, by decide +kernel, rfl, by decide +kernel, by decide +kernel⟩
abbrev s_is_barred : Stmt := top 17
abbrev N_is_barred : List Str := ["book", "names", "name", "bars", "other"]
theorem sc_is_barred : FnScope N_is_barred ["book", "names", "name"] (defScope s_is_barred) := ⟨rfl, rfl, rfl, by decide +kernel, rfl, by decide +kernel, by decide +kernel⟩
abbrev s_opening : Stmt := top 18
abbrev N_opening : List Str := ["book", "names", "name", "kept", "put", "stays", "one"]
theorem sc_opening : FnScope N_opening ["book", "names", "name"] (defScope s_opening) := ⟨rfl, rfl, rfl, by decide +kernel, rfl, by decide +kernel, by decide +kernel⟩
abbrev s_hosts_for : Stmt := top 19
abbrev N_hosts_for : List Str := ["book", "names", "hosts"]
theorem sc_hosts_for : FnScope N_hosts_for ["book", "names"] (defScope s_hosts_for) := ⟨rfl, rfl, rfl, by decide +kernel, rfl, by decide +kernel, by decide +kernel⟩
abbrev s_escaped : Stmt := top 22
abbrev N_escaped : List Str := ["text"]
theorem sc_escaped : FnScope N_escaped ["text"] (defScope s_escaped) := ⟨rfl, rfl, rfl, by decide +kernel, rfl, by decide +kernel, by decide +kernel⟩
abbrev s_told_by : Stmt := top 23
abbrev N_told_by : List Str := ["run"]
theorem sc_told_by : FnScope N_told_by ["run"] (defScope s_told_by) := ⟨rfl, rfl, rfl, by decide +kernel, rfl, by decide +kernel, by decide +kernel⟩
abbrev s_lone_ones : Stmt := top 24
abbrev N_lone_ones : List Str := ["run", "numbers", "number", "sign"]
theorem sc_lone_ones : FnScope N_lone_ones ["run"] (defScope s_lone_ones) := ⟨rfl, rfl, rfl, by decide +kernel, rfl, by decide +kernel, by decide +kernel⟩
abbrev s_tag_from : Stmt := top 27
abbrev N_tag_from : List Str := ["text", "start", "kind", "first", "last"]
theorem sc_tag_from : FnScope N_tag_from ["text", "start"] (defScope s_tag_from) := ⟨rfl, rfl, rfl, by decide +kernel, rfl, by decide +kernel, by decide +kernel⟩
abbrev s_run_of : Stmt := top 28
abbrev N_run_of : List Str := ["text", "start", "stop"]
theorem sc_run_of : FnScope N_run_of ["text", "start", "stop"] (defScope s_run_of) := ⟨rfl, rfl, rfl, by decide +kernel, rfl, by decide +kernel, by decide +kernel⟩
abbrev s_tokens_of : Stmt := top 29
abbrev N_tokens_of : List Str := ["text", "tokens", "done", "start", "tag", "further"]
theorem sc_tokens_of : FnScope N_tokens_of ["text"] (defScope s_tokens_of) := ⟨rfl, rfl, rfl, by decide +kernel, rfl, by decide +kernel, by decide +kernel⟩
abbrev s_R_init : Stmt := inClass (top 31) 0
abbrev N_R_init : List Str := ["self", "book"]
theorem sc_R_init : FnScope N_R_init ["self", "book"] (defScope s_R_init) := ⟨rfl, rfl, rfl, by decide +kernel, rfl, by decide +kernel, by decide +kernel⟩
abbrev s_R_wall_key : Stmt := inClass (top 31) 1
abbrev N_R_wall_key : List Str := ["self", "k"]
theorem sc_R_wall_key : FnScope N_R_wall_key ["self"] (defScope s_R_wall_key) := ⟨rfl, rfl, rfl, by decide +kernel, rfl, by decide +kernel, by decide +kernel⟩
abbrev s_R_lie_in : Stmt := inClass (top 31) 2
abbrev N_R_lie_in : List Str := ["self", "thing", "heap"]
theorem sc_R_lie_in : FnScope N_R_lie_in ["self", "thing"] (defScope s_R_lie_in) := ⟨rfl, rfl, rfl, by decide +kernel, rfl, by decide +kernel, by decide +kernel⟩
abbrev s_R_begin_one : Stmt := inClass (top 31) 3
abbrev N_R_begin_one : List Str := ["self", "name"]
theorem sc_R_begin_one : FnScope N_R_begin_one ["self", "name"] (defScope s_R_begin_one) := ⟨rfl, rfl, rfl, by decide +kernel, rfl, by decide +kernel, by decide +kernel⟩
abbrev s_R_end_one : Stmt := inClass (top 31) 4
abbrev N_R_end_one : List Str := ["self", "name", "heap"]
theorem sc_R_end_one : FnScope N_R_end_one ["self"] (defScope s_R_end_one) := ⟨rfl, rfl, rfl, by decide +kernel, rfl, by decide +kernel, by decide +kernel⟩
abbrev s_R_put_open : Stmt := inClass (top 31) 5
abbrev N_R_put_open : List Str := ["self", "start", "name", "rule"]
theorem sc_R_put_open : FnScope N_R_put_open ["self", "start", "name", "rule"] (defScope s_R_put_open) := ⟨rfl, rfl, rfl, by decide +kernel, rfl, by decide +kernel, by decide +kernel⟩
abbrev s_R_put_closed : Stmt := inClass (top 31) 6
abbrev N_R_put_closed : List Str := ["self", "start", "kept", "rule"]
theorem sc_R_put_closed : FnScope N_R_put_closed ["self", "start", "kept", "rule"] (defScope s_R_put_closed) := ⟨rfl, rfl, rfl, by decide +kernel, rfl, by decide +kernel, by decide +kernel⟩
abbrev s_R_those_to_wait : Stmt := inClass (top 31) 7
abbrev N_R_those_to_wait : List Str := ["self", "kept", "found", "name"]
theorem sc_R_those_to_wait : FnScope N_R_those_to_wait ["self", "kept"] (defScope s_R_those_to_wait) := ⟨rfl, rfl, rfl, by decide +kernel, rfl, by decide +kernel, by decide +kernel⟩
abbrev s_R_open_token : Stmt := inClass (top 31) 8
abbrev N_R_open_token : List Str := ["self", "start", "stop", "name", "plan", "waits", "one"]
theorem sc_R_open_token : FnScope N_R_open_token ["self", "start", "stop", "name"] (defScope s_R_open_token) := ⟨rfl, rfl, rfl, by decide +kernel, rfl, by decide +kernel, by decide +kernel⟩
abbrev s_R_late_or_stray : Stmt := inClass (top 31) 9
abbrev N_R_late_or_stray : List Str := ["self", "name", "row", "at"]
theorem sc_R_late_or_stray : FnScope N_R_late_or_stray ["self", "name"] (defScope s_R_late_or_stray) := ⟨rfl, rfl, rfl, by decide +kernel, rfl, by decide +kernel, by decide +kernel⟩
abbrev s_R_close_token : Stmt := inClass (top 31) 10
abbrev N_R_close_token : List Str := ["self", "start", "stop", "name", "kept", "waits"]
theorem sc_R_close_token : FnScope N_R_close_token ["self", "start", "stop", "name"] (defScope s_R_close_token) := ⟨rfl, rfl, rfl, by decide +kernel, rfl, by decide +kernel, by decide +kernel⟩
abbrev s_R_open_anew : Stmt := inClass (top 31) 11
abbrev N_R_open_anew : List Str := ["self", "start", "key", "row", "name", "near", "stays", "free"]
theorem sc_R_open_anew : FnScope N_R_open_anew ["self", "start"] (defScope s_R_open_anew) := ⟨rfl, rfl, rfl, by decide +kernel, rfl, by decide +kernel, by decide +kernel⟩
abbrev s_R_run_token : Stmt := inClass (top 31) 12
abbrev N_R_run_token : List Str := ["self", "start", "stop", "told", "raw", "hosts", "host", "k"]
theorem sc_R_run_token : FnScope N_R_run_token ["self", "start", "stop", "told", "raw"] (defScope s_R_run_token) := ⟨rfl, rfl, rfl, by decide +kernel, rfl, by decide +kernel, by decide +kernel⟩
abbrev s_R_piece : Stmt := inClass (top 31) 13
abbrev N_R_piece : List Str := ["self", "kind", "start", "stop", "told", "raw"]
theorem sc_R_piece : FnScope N_R_piece ["self", "kind", "start", "stop", "told", "raw"] (defScope s_R_piece) := ⟨rfl, rfl, rfl, by decide +kernel, rfl, by decide +kernel, by decide +kernel⟩
abbrev s_R_finish : Stmt := inClass (top 31) 14
abbrev N_R_finish : List Str := ["self", "stop"]
theorem sc_R_finish : FnScope N_R_finish ["self", "stop"] (defScope s_R_finish) := ⟨rfl, rfl, rfl, by decide +kernel, rfl, by decide +kernel, by decide +kernel⟩
abbrev s_R_whole : Stmt := inClass (top 31) 15
abbrev N_R_whole : List Str := ["self"]
theorem sc_R_whole : FnScope N_R_whole ["self"] (defScope s_R_whole) := ⟨rfl, rfl, rfl, by decide +kernel, rfl, by decide +kernel, by decide +kernel⟩
abbrev s_read_text : Stmt := top 32
abbrev N_read_text : List Str := ["book", "text", "reader", "mends", "kind", "start", "stop", "told"]
theorem sc_read_text : FnScope N_read_text ["book", "text"] (defScope s_read_text) := ⟨rfl, rfl, rfl, by decide +kernel, rfl, by decide +kernel, by decide +kernel⟩
abbrev s_l_cell_at : Stmt := top 34
abbrev N_l_cell_at : List Str := ["_law_script", "_law_k"]
theorem sc_l_cell_at : FnScope N_l_cell_at ["_law_script", "_law_k"] (defScope s_l_cell_at) := ⟨rfl, rfl, rfl, by decide +kernel, rfl, by decide +kernel, by decide +kernel⟩
abbrev s_l_mixed : Stmt := top 35
abbrev N_l_mixed : List Str := ["_law_cell", "_law_k", "_law_half", "_law_number"]
theorem sc_l_mixed : FnScope N_l_mixed ["_law_cell", "_law_k"] (defScope s_l_mixed) := ⟨rfl, rfl, rfl, by decide +kernel, rfl, by decide +kernel, by decide +kernel⟩
abbrev s_l_letters : Stmt := top 36
abbrev N_l_letters : List Str := ["_law_number", "_law_signs_here", "_law_width", "_law_j"]
theorem sc_l_letters : FnScope N_l_letters ["_law_number"] (defScope s_l_letters) := ⟨rfl, rfl, rfl, by decide +kernel, rfl, by decide +kernel, by decide +kernel⟩
abbrev s_l_names : Stmt := top 37
abbrev N_l_names : List Str := ["_law_cell", "_law_letters_here", "_law_names_here", "_law_k", "_law_signs_here", "_law_name", "_law_spare", "_law_letter", "_law_j"]
theorem sc_l_names : FnScope N_l_names ["_law_cell"] (defScope s_l_names) := ⟨rfl, rfl, rfl, by decide +kernel, rfl, by decide +kernel, by decide +kernel⟩
abbrev s_l_sorts : Stmt := top 38
abbrev N_l_sorts : List Str := ["_law_script", "_law_names_here", "_law_count", "_law_some", "_law_sorts_here", "_law_hosts_here", "_law_taken", "_law_k", "_law_able", "_law_j"]
theorem sc_l_sorts : FnScope N_l_sorts ["_law_script", "_law_names_here", "_law_count"] (defScope s_l_sorts) := ⟨rfl, rfl, rfl, by decide +kernel, rfl, by decide +kernel, by decide +kernel⟩
abbrev s_l_book : Stmt := top 39
abbrev N_l_book : List Str := ["_law_script", "_law_names_here", "_law_count", "_law_sorts_here", "_law_hosts_here", "_law_taken", "_law_rows", "_law_k", "_law_own", "_law_able", "_law_shuts", "_law_bars", "_law_row_here", "_law_j"]
theorem sc_l_book : FnScope N_l_book ["_law_script"] (defScope s_l_book) := ⟨rfl, rfl, rfl, by decide +kernel, rfl, by decide +kernel, by decide +kernel⟩
abbrev s_l_row : Stmt := top 40
abbrev N_l_row : List Str := ["_law_book_here", "_law_name", "_law_row_here"]
theorem sc_l_row : FnScope N_l_row ["_law_book_here", "_law_name"] (defScope s_l_row) := ⟨rfl, rfl, rfl, by decide +kernel, rfl, by decide +kernel, by decide +kernel⟩
abbrev s_l_frame : Stmt := top 41
abbrev N_l_frame : List Str := ["_law_book_here", "_law_name", "_law_row_here"]
theorem sc_l_frame : FnScope N_l_frame ["_law_book_here", "_law_name"] (defScope s_l_frame) := ⟨rfl, rfl, rfl, by decide +kernel, rfl, by decide +kernel, by decide +kernel⟩
abbrev s_l_fence : Stmt := top 42
abbrev N_l_fence : List Str := ["_law_book_here", "_law_name", "_law_row_here"]
theorem sc_l_fence : FnScope N_l_fence ["_law_book_here", "_law_name"] (defScope s_l_fence) := ⟨rfl, rfl, rfl, by decide +kernel, rfl, by decide +kernel, by decide +kernel⟩
abbrev s_l_belongs : Stmt := top 43
abbrev N_l_belongs : List Str := ["_law_book_here", "_law_name", "_law_frame_here", "_law_there"]
theorem sc_l_belongs : FnScope N_l_belongs ["_law_book_here", "_law_name", "_law_frame_here"] (defScope s_l_belongs) := ⟨rfl, rfl, rfl, by decide +kernel, rfl, by decide +kernel, by decide +kernel⟩
abbrev s_l_near : Stmt := top 44
abbrev N_l_near : List Str := ["_law_book_here", "_law_names_here", "_law_near_here", "_law_name"]
theorem sc_l_near : FnScope N_l_near ["_law_book_here", "_law_names_here"] (defScope s_l_near) := ⟨rfl, rfl, rfl, by decide +kernel, rfl, by decide +kernel, by decide +kernel⟩
abbrev s_l_last : Stmt := top 45
abbrev N_l_last : List Str := ["_law_book_here", "_law_names_here", "_law_name", "_law_k"]
theorem sc_l_last : FnScope N_l_last ["_law_book_here", "_law_names_here", "_law_name"] (defScope s_l_last) := ⟨rfl, rfl, rfl, by decide +kernel, rfl, by decide +kernel, by decide +kernel⟩
abbrev s_l_hosts : Stmt := top 46
abbrev N_l_hosts : List Str := ["_law_book_here", "_law_names_here", "_law_hosts_here", "_law_last_here"]
theorem sc_l_hosts : FnScope N_l_hosts ["_law_book_here", "_law_names_here"] (defScope s_l_hosts) := ⟨rfl, rfl, rfl, by decide +kernel, rfl, by decide +kernel, by decide +kernel⟩
abbrev s_l_wanted : Stmt := top 47
abbrev N_l_wanted : List Str := ["_law_book_here", "_law_names_here", "_law_name", "_law_frame_here", "_law_at", "_law_kept", "_law_put", "_law_hosts_here", "_law_first", "_law_k"]
theorem sc_l_wanted : FnScope N_l_wanted ["_law_book_here", "_law_names_here", "_law_name"] (defScope s_l_wanted) := ⟨rfl, rfl, rfl, by decide +kernel, rfl, by decide +kernel, by decide +kernel⟩
abbrev s_l_plan : Stmt := top 48
abbrev N_l_plan : List Str := ["_law_book_here", "_law_names_here", "_law_name", "_law_kept", "_law_put", "_law_there", "_law_one", "_law_other"]
theorem sc_l_plan : FnScope N_l_plan ["_law_book_here", "_law_names_here", "_law_name"] (defScope s_l_plan) := ⟨rfl, rfl, rfl, by decide +kernel, rfl, by decide +kernel, by decide +kernel⟩
abbrev s_l_name_end : Stmt := top 49
abbrev N_l_name_end : List Str := ["_law_text_here", "_law_start", "_law_end_here"]
theorem sc_l_name_end : FnScope N_l_name_end ["_law_text_here", "_law_start"] (defScope s_l_name_end) := ⟨rfl, rfl, rfl, by decide +kernel, rfl, by decide +kernel, by decide +kernel⟩
abbrev s_l_tokens : Stmt := top 50
abbrev N_l_tokens : List Str := ["_law_text_here", "_law_found", "_law_begun", "_law_at", "_law_slash", "_law_end_here"]
theorem sc_l_tokens : FnScope N_l_tokens ["_law_text_here"] (defScope s_l_tokens) := ⟨rfl, rfl, rfl, by decide +kernel, rfl, by decide +kernel, by decide +kernel⟩
abbrev s_l_units : Stmt := top 51
abbrev N_l_units : List Str := ["_law_raw", "_law_units_here", "_law_at", "_law_sign", "_law_long"]
theorem sc_l_units : FnScope N_l_units ["_law_raw"] (defScope s_l_units) := ⟨rfl, rfl, rfl, by decide +kernel, rfl, by decide +kernel, by decide +kernel⟩
abbrev s_l_key : Stmt := top 52
abbrev N_l_key : List Str := ["_law_book_here", "_law_names_here"]
theorem sc_l_key : FnScope N_l_key ["_law_book_here", "_law_names_here"] (defScope s_l_key) := ⟨rfl, rfl, rfl, by decide +kernel, rfl, by decide +kernel, by decide +kernel⟩
abbrev s_l_begin : Stmt := top 53
abbrev N_l_begin : List Str := ["_law_state", "_law_name"]
theorem sc_l_begin : FnScope N_l_begin ["_law_state", "_law_name"] (defScope s_l_begin) := ⟨rfl, rfl, rfl, by decide +kernel, rfl, by decide +kernel, by decide +kernel⟩
abbrev s_l_lie : Stmt := top 54
abbrev N_l_lie : List Str := ["_law_state", "_law_thing", "_law_heap"]
theorem sc_l_lie : FnScope N_l_lie ["_law_state", "_law_thing"] (defScope s_l_lie) := ⟨rfl, rfl, rfl, by decide +kernel, rfl, by decide +kernel, by decide +kernel⟩
abbrev s_l_end : Stmt := top 55
abbrev N_l_end : List Str := ["_law_state", "_law_name", "_law_heap"]
theorem sc_l_end : FnScope N_l_end ["_law_state"] (defScope s_l_end) := ⟨rfl, rfl, rfl, by decide +kernel, rfl, by decide +kernel, by decide +kernel⟩
abbrev s_l_shut : Stmt := top 56
abbrev N_l_shut : List Str := ["_law_state", "_law_kept", "_law_at", "_law_rule", "_law_own", "_law_names_here", "_law_waits", "_law_k", "_law_near_here", "_law_key_here"]
theorem sc_l_shut : FnScope N_l_shut ["_law_state", "_law_kept", "_law_at", "_law_rule", "_law_own"] (defScope s_l_shut) := ⟨rfl, rfl, rfl, by decide +kernel, rfl, by decide +kernel, by decide +kernel⟩
abbrev s_l_open_tag : Stmt := top 57
abbrev N_l_open_tag : List Str := ["_law_state", "_law_start", "_law_stop", "_law_name", "_law_book_here", "_law_plan_here", "_law_one"]
theorem sc_l_open_tag : FnScope N_l_open_tag ["_law_state", "_law_start", "_law_stop", "_law_name"] (defScope s_l_open_tag) := ⟨rfl, rfl, rfl, by decide +kernel, rfl, by decide +kernel, by decide +kernel⟩
abbrev s_l_close_tag : Stmt := top 58
abbrev N_l_close_tag : List Str := ["_law_state", "_law_start", "_law_stop", "_law_name", "_law_kept", "_law_waits", "_law_rule", "_law_k"]
theorem sc_l_close_tag : FnScope N_l_close_tag ["_law_state", "_law_start", "_law_stop", "_law_name"] (defScope s_l_close_tag) := ⟨rfl, rfl, rfl, by decide +kernel, rfl, by decide +kernel, by decide +kernel⟩
abbrev s_l_anew : Stmt := top 59
abbrev N_l_anew : List Str := ["_law_state", "_law_start", "_law_book_here", "_law_key_here", "_law_waits", "_law_name", "_law_near_here", "_law_row_here", "_law_against", "_law_other"]
theorem sc_l_anew : FnScope N_l_anew ["_law_state", "_law_start"] (defScope s_l_anew) := ⟨rfl, rfl, rfl, by decide +kernel, rfl, by decide +kernel, by decide +kernel⟩
abbrev s_l_run : Stmt := top 60
abbrev N_l_run : List Str := ["_law_state", "_law_start", "_law_raw", "_law_hosts_here", "_law_rule", "_law_host", "_law_told", "_law_at", "_law_long", "_law_sign", "_law_new"]
theorem sc_l_run : FnScope N_l_run ["_law_state", "_law_start", "_law_raw"] (defScope s_l_run) := ⟨rfl, rfl, rfl, by decide +kernel, rfl, by decide +kernel, by decide +kernel⟩
abbrev s_l_read : Stmt := top 61
abbrev N_l_read : List Str := ["_law_book_here", "_law_text_here", "_law_state", "_law_kind", "_law_start", "_law_stop"]
theorem sc_l_read : FnScope N_l_read ["_law_book_here", "_law_text_here"] (defScope s_l_read) := ⟨rfl, rfl, rfl, by decide +kernel, rfl, by decide +kernel, by decide +kernel⟩
abbrev s_l_signs : Stmt := top 62
abbrev N_l_signs : List Str := ["_law_number", "_law_some", "_law_text_here", "_law_k"]
theorem sc_l_signs : FnScope N_l_signs ["_law_number"] (defScope s_l_signs) := ⟨rfl, rfl, rfl, by decide +kernel, rfl, by decide +kernel, by decide +kernel⟩
abbrev s_l_piece : Stmt := top 63
abbrev N_l_piece : List Str := ["_law_script", "_law_cell", "_law_book_here", "_law_lately", "_law_number", "_law_name", "_law_some", "_law_way", "_law_k"]
theorem sc_l_piece : FnScope N_l_piece ["_law_script", "_law_cell", "_law_book_here", "_law_lately"] (defScope s_l_piece) := ⟨rfl, rfl, rfl, by decide +kernel, rfl, by decide +kernel, by decide +kernel⟩
abbrev s_l_text : Stmt := top 64
abbrev N_l_text : List Str := ["_law_script", "_law_start", "_law_book_here", "_law_text_here", "_law_lately", "_law_cell", "_law_piece_here", "_law_times"]
theorem sc_l_text : FnScope N_l_text ["_law_script", "_law_start", "_law_book_here"] (defScope s_l_text) := ⟨rfl, rfl, rfl, by decide +kernel, rfl, by decide +kernel, by decide +kernel⟩
abbrev s_law : Stmt := top 65
abbrev N_law : List Str := ["_law_script", "_law_book_here", "_law_text_here", "_law_due", "_law_found", "_law_mend"]
theorem sc_law : FnScope N_law ["_law_script"] (defScope s_law) := ⟨rfl, rfl, rfl, by decide +kernel, rfl, by decide +kernel, by decide +kernel⟩
end Tg

namespace Tg
open PySem PySem.Spec PyProof.Rows L2
def fn0 : List He.FnD := [⟨("row_with", none), "row_with", "row_with", defArgs s_row_with, defBody s_row_with, defScope s_row_with⟩,
  ⟨("sort_of", none), "sort_of", "sort_of", defArgs s_sort_of, defBody s_sort_of, defScope s_sort_of⟩,
  ⟨("host_of", none), "host_of", "host_of", defArgs s_host_of, defBody s_host_of, defScope s_host_of⟩,
  ⟨("frame_of", none), "frame_of", "frame_of", defArgs s_frame_of, defBody s_frame_of, defScope s_frame_of⟩,
  ⟨("belongs", none), "belongs", "belongs", defArgs s_belongs, defBody s_belongs, defScope s_belongs⟩,
  ⟨("near_of", none), "near_of", "near_of", defArgs s_near_of, defBody s_near_of, defScope s_near_of⟩,
  ⟨("is_wall", none), "is_wall", "is_wall", defArgs s_is_wall, defBody s_is_wall, defScope s_is_wall⟩,
  ⟨("row_in", none), "row_in", "row_in", defArgs s_row_in, defBody s_row_in, defScope s_row_in⟩,
  ⟨("last_one", none), "last_one", "last_one", defArgs s_last_one, defBody s_last_one, defScope s_last_one⟩,
  ⟨("closing", none), "closing", "closing", defArgs s_closing, defBody s_closing, defScope s_closing⟩,
  ⟨("hosts_in", none), "hosts_in", "hosts_in", defArgs s_hosts_in, defBody s_hosts_in, defScope s_hosts_in⟩,
  ⟨("shut_from", none), "shut_from", "shut_from", defArgs s_shut_from, defBody s_shut_from, defScope s_shut_from⟩,
  ⟨("wanted_by", none), "wanted_by", "wanted_by", defArgs s_wanted_by, defBody s_wanted_by, defScope s_wanted_by⟩,
  ⟨("is_barred", none), "is_barred", "is_barred", defArgs s_is_barred, defBody s_is_barred, defScope s_is_barred⟩,
  ⟨("opening", none), "opening", "opening", defArgs s_opening, defBody s_opening, defScope s_opening⟩,
  ⟨("hosts_for", none), "hosts_for", "hosts_for", defArgs s_hosts_for, defBody s_hosts_for, defScope s_hosts_for⟩,
  ⟨("escaped", none), "escaped", "escaped", defArgs s_escaped, defBody s_escaped, defScope s_escaped⟩,
  ⟨("told_by", none), "told_by", "told_by", defArgs s_told_by, defBody s_told_by, defScope s_told_by⟩,
  ⟨("lone_ones", none), "lone_ones", "lone_ones", defArgs s_lone_ones, defBody s_lone_ones, defScope s_lone_ones⟩,
  ⟨("tag_from", none), "tag_from", "tag_from", defArgs s_tag_from, defBody s_tag_from, defScope s_tag_from⟩]
def fn1 : List He.FnD := [⟨("run_of", none), "run_of", "run_of", defArgs s_run_of, defBody s_run_of, defScope s_run_of⟩,
  ⟨("tokens_of", none), "tokens_of", "tokens_of", defArgs s_tokens_of, defBody s_tokens_of, defScope s_tokens_of⟩,
  ⟨("Reader", some "__init__"), "__init__", "Reader.__init__", defArgs s_R_init, defBody s_R_init, defScope s_R_init⟩,
  ⟨("Reader", some "wall_key"), "wall_key", "Reader.wall_key", defArgs s_R_wall_key, defBody s_R_wall_key, defScope s_R_wall_key⟩,
  ⟨("Reader", some "lie_in"), "lie_in", "Reader.lie_in", defArgs s_R_lie_in, defBody s_R_lie_in, defScope s_R_lie_in⟩,
  ⟨("Reader", some "begin_one"), "begin_one", "Reader.begin_one", defArgs s_R_begin_one, defBody s_R_begin_one, defScope s_R_begin_one⟩,
  ⟨("Reader", some "end_one"), "end_one", "Reader.end_one", defArgs s_R_end_one, defBody s_R_end_one, defScope s_R_end_one⟩,
  ⟨("Reader", some "put_open"), "put_open", "Reader.put_open", defArgs s_R_put_open, defBody s_R_put_open, defScope s_R_put_open⟩,
  ⟨("Reader", some "put_closed"), "put_closed", "Reader.put_closed", defArgs s_R_put_closed, defBody s_R_put_closed, defScope s_R_put_closed⟩,
  ⟨("Reader", some "those_to_wait"), "those_to_wait", "Reader.those_to_wait", defArgs s_R_those_to_wait, defBody s_R_those_to_wait, defScope s_R_those_to_wait⟩,
  ⟨("Reader", some "open_token"), "open_token", "Reader.open_token", defArgs s_R_open_token, defBody s_R_open_token, defScope s_R_open_token⟩,
  ⟨("Reader", some "late_or_stray"), "late_or_stray", "Reader.late_or_stray", defArgs s_R_late_or_stray, defBody s_R_late_or_stray, defScope s_R_late_or_stray⟩,
  ⟨("Reader", some "close_token"), "close_token", "Reader.close_token", defArgs s_R_close_token, defBody s_R_close_token, defScope s_R_close_token⟩,
  ⟨("Reader", some "open_anew"), "open_anew", "Reader.open_anew", defArgs s_R_open_anew, defBody s_R_open_anew, defScope s_R_open_anew⟩,
  ⟨("Reader", some "run_token"), "run_token", "Reader.run_token", defArgs s_R_run_token, defBody s_R_run_token, defScope s_R_run_token⟩,
  ⟨("Reader", some "piece"), "piece", "Reader.piece", defArgs s_R_piece, defBody s_R_piece, defScope s_R_piece⟩,
  ⟨("Reader", some "finish"), "finish", "Reader.finish", defArgs s_R_finish, defBody s_R_finish, defScope s_R_finish⟩,
  ⟨("Reader", some "whole"), "whole", "Reader.whole", defArgs s_R_whole, defBody s_R_whole, defScope s_R_whole⟩,
  ⟨("read_text", none), "read_text", "read_text", defArgs s_read_text, defBody s_read_text, defScope s_read_text⟩,
  ⟨("_law_cell_at", none), "_law_cell_at", "_law_cell_at", defArgs s_l_cell_at, defBody s_l_cell_at, defScope s_l_cell_at⟩]
def fn2 : List He.FnD := [⟨("_law_mixed", none), "_law_mixed", "_law_mixed", defArgs s_l_mixed, defBody s_l_mixed, defScope s_l_mixed⟩,
  ⟨("_law_letters", none), "_law_letters", "_law_letters", defArgs s_l_letters, defBody s_l_letters, defScope s_l_letters⟩,
  ⟨("_law_names", none), "_law_names", "_law_names", defArgs s_l_names, defBody s_l_names, defScope s_l_names⟩,
  ⟨("_law_sorts", none), "_law_sorts", "_law_sorts", defArgs s_l_sorts, defBody s_l_sorts, defScope s_l_sorts⟩,
  ⟨("_law_book", none), "_law_book", "_law_book", defArgs s_l_book, defBody s_l_book, defScope s_l_book⟩,
  ⟨("_law_row", none), "_law_row", "_law_row", defArgs s_l_row, defBody s_l_row, defScope s_l_row⟩,
  ⟨("_law_frame", none), "_law_frame", "_law_frame", defArgs s_l_frame, defBody s_l_frame, defScope s_l_frame⟩,
  ⟨("_law_fence", none), "_law_fence", "_law_fence", defArgs s_l_fence, defBody s_l_fence, defScope s_l_fence⟩,
  ⟨("_law_belongs", none), "_law_belongs", "_law_belongs", defArgs s_l_belongs, defBody s_l_belongs, defScope s_l_belongs⟩,
  ⟨("_law_near", none), "_law_near", "_law_near", defArgs s_l_near, defBody s_l_near, defScope s_l_near⟩,
  ⟨("_law_last", none), "_law_last", "_law_last", defArgs s_l_last, defBody s_l_last, defScope s_l_last⟩,
  ⟨("_law_hosts", none), "_law_hosts", "_law_hosts", defArgs s_l_hosts, defBody s_l_hosts, defScope s_l_hosts⟩,
  ⟨("_law_wanted", none), "_law_wanted", "_law_wanted", defArgs s_l_wanted, defBody s_l_wanted, defScope s_l_wanted⟩,
  ⟨("_law_plan", none), "_law_plan", "_law_plan", defArgs s_l_plan, defBody s_l_plan, defScope s_l_plan⟩,
  ⟨("_law_name_end", none), "_law_name_end", "_law_name_end", defArgs s_l_name_end, defBody s_l_name_end, defScope s_l_name_end⟩,
  ⟨("_law_tokens", none), "_law_tokens", "_law_tokens", defArgs s_l_tokens, defBody s_l_tokens, defScope s_l_tokens⟩,
  ⟨("_law_units", none), "_law_units", "_law_units", defArgs s_l_units, defBody s_l_units, defScope s_l_units⟩,
  ⟨("_law_key", none), "_law_key", "_law_key", defArgs s_l_key, defBody s_l_key, defScope s_l_key⟩,
  ⟨("_law_begin", none), "_law_begin", "_law_begin", defArgs s_l_begin, defBody s_l_begin, defScope s_l_begin⟩,
  ⟨("_law_lie", none), "_law_lie", "_law_lie", defArgs s_l_lie, defBody s_l_lie, defScope s_l_lie⟩]
def fn3 : List He.FnD := [⟨("_law_end", none), "_law_end", "_law_end", defArgs s_l_end, defBody s_l_end, defScope s_l_end⟩,
  ⟨("_law_shut", none), "_law_shut", "_law_shut", defArgs s_l_shut, defBody s_l_shut, defScope s_l_shut⟩,
  ⟨("_law_open_tag", none), "_law_open_tag", "_law_open_tag", defArgs s_l_open_tag, defBody s_l_open_tag, defScope s_l_open_tag⟩,
  ⟨("_law_close_tag", none), "_law_close_tag", "_law_close_tag", defArgs s_l_close_tag, defBody s_l_close_tag, defScope s_l_close_tag⟩,
  ⟨("_law_anew", none), "_law_anew", "_law_anew", defArgs s_l_anew, defBody s_l_anew, defScope s_l_anew⟩,
  ⟨("_law_run", none), "_law_run", "_law_run", defArgs s_l_run, defBody s_l_run, defScope s_l_run⟩,
  ⟨("_law_read", none), "_law_read", "_law_read", defArgs s_l_read, defBody s_l_read, defScope s_l_read⟩,
  ⟨("_law_signs", none), "_law_signs", "_law_signs", defArgs s_l_signs, defBody s_l_signs, defScope s_l_signs⟩,
  ⟨("_law_piece", none), "_law_piece", "_law_piece", defArgs s_l_piece, defBody s_l_piece, defScope s_l_piece⟩,
  ⟨("_law_text", none), "_law_text", "_law_text", defArgs s_l_text, defBody s_l_text, defScope s_l_text⟩,
  ⟨("law", none), "law", "law", defArgs s_law, defBody s_law, defScope s_law⟩]
def fn : List He.FnD := (fn0 : List He.FnD) ++ (fn1 : List He.FnD) ++ (fn2 : List He.FnD) ++ (fn3 : List He.FnD)
def fa0 : List He.Fa := [.glo "row_with", .glo "sort_of", .glo "host_of", .glo "frame_of", .glo "belongs", .glo "near_of", .glo "is_wall", .glo "row_in", .glo "last_one", .glo "closing", .glo "hosts_in", .glo "shut_from", .glo "wanted_by", .glo "is_barred", .glo "opening", .glo "hosts_for", .glo "escaped", .glo "told_by", .glo "lone_ones", .glo "tag_from", .glo "run_of", .glo "tokens_of", .meth "Reader" "wall_key", .meth "Reader" "lie_in", .meth "Reader" "begin_one", .meth "Reader" "end_one", .meth "Reader" "put_open", .meth "Reader" "put_closed", .meth "Reader" "those_to_wait", .meth "Reader" "open_token"]
def fa1 : List He.Fa := [.meth "Reader" "late_or_stray", .meth "Reader" "close_token", .meth "Reader" "open_anew", .meth "Reader" "run_token", .meth "Reader" "piece", .meth "Reader" "finish", .meth "Reader" "whole", .glo "read_text", .glo "_law_cell_at", .glo "_law_mixed", .glo "_law_letters", .glo "_law_names", .glo "_law_sorts", .glo "_law_book", .glo "_law_row", .glo "_law_frame", .glo "_law_fence", .glo "_law_belongs", .glo "_law_near", .glo "_law_last", .glo "_law_hosts", .glo "_law_wanted", .glo "_law_plan", .glo "_law_name_end", .glo "_law_tokens", .glo "_law_units", .glo "_law_key", .glo "_law_begin", .glo "_law_lie", .glo "_law_end"]
def fa2 : List He.Fa := [.glo "_law_shut", .glo "_law_open_tag", .glo "_law_close_tag", .glo "_law_anew", .glo "_law_run", .glo "_law_read", .glo "_law_signs", .glo "_law_piece", .glo "_law_text", .glo "law", .glo "Reader", .mkr "Reader", .cls "Reader", .noat "Reader" "book", .noat "Reader" "names", .noat "Reader" "heaps", .noat "Reader" "waiting", .noat "Reader" "mends", .free "len", .free "tuple", .free "reversed", .free "range", .free "any", .free "enumerate", .free "isinstance", .free "int", .free "list", .free "sorted", .free "str", .int "DEEPEST" 20]
def fa3 : List He.Fa := [.str "LETTERS" "abcdefghijklmnopqrstuvwxyz", .glo "ESCAPES", .keep "row_with", .keep "sort_of", .keep "host_of", .keep "frame_of", .keep "belongs", .keep "near_of", .keep "is_wall", .keep "row_in", .keep "last_one", .keep "closing", .keep "hosts_in", .keep "shut_from", .keep "wanted_by", .keep "is_barred", .keep "opening", .keep "hosts_for", .keep "escaped", .keep "told_by", .keep "lone_ones", .keep "tag_from", .keep "run_of", .keep "tokens_of", .keep "read_text", .keep "_law_cell_at", .keep "_law_mixed", .keep "_law_letters", .keep "_law_names", .keep "_law_sorts"]
def fa4 : List He.Fa := [.keep "_law_book", .keep "_law_row", .keep "_law_frame", .keep "_law_fence", .keep "_law_belongs", .keep "_law_near", .keep "_law_last", .keep "_law_hosts", .keep "_law_wanted", .keep "_law_plan", .keep "_law_name_end", .keep "_law_tokens", .keep "_law_units", .keep "_law_key", .keep "_law_begin", .keep "_law_lie", .keep "_law_end", .keep "_law_shut", .keep "_law_open_tag", .keep "_law_close_tag", .keep "_law_anew", .keep "_law_run", .keep "_law_read", .keep "_law_signs", .keep "_law_piece", .keep "_law_text", .keep "law"]
def fa : List He.Fa := (fa0 : List He.Fa) ++ (fa1 : List He.Fa) ++ (fa2 : List He.Fa) ++ (fa3 : List He.Fa) ++ (fa4 : List He.Fa)
def nm0 : List PySem.Str := ["row_with", "sort_of", "host_of", "frame_of", "belongs", "near_of", "DEEPEST", "is_wall", "row_in", "last_one", "closing", "hosts_in", "shut_from", "wanted_by", "is_barred"]
def nm1 : List PySem.Str := ["opening", "hosts_for", "ESCAPES", "escaped", "told_by", "lone_ones", "LETTERS", "tag_from", "run_of", "tokens_of", "Reader", "read_text", "_law_cell_at", "_law_mixed", "_law_letters"]
def nm2 : List PySem.Str := ["_law_names", "_law_sorts", "_law_book", "_law_row", "_law_frame", "_law_fence", "_law_belongs", "_law_near", "_law_last", "_law_hosts", "_law_wanted", "_law_plan", "_law_name_end", "_law_tokens", "_law_units"]
def nm3 : List PySem.Str := ["_law_key", "_law_begin", "_law_lie", "_law_end", "_law_shut", "_law_open_tag", "_law_close_tag", "_law_anew", "_law_run", "_law_read", "_law_signs", "_law_piece", "_law_text"]
def nms : List PySem.Str := (nm0 : List PySem.Str) ++ (nm1 : List PySem.Str) ++ (nm2 : List PySem.Str) ++ (nm3 : List PySem.Str)
abbrev Rr : PySem.W.OpenRow := PySem.W.OpenLaw.row PySem.Challenge.rw_tagmend_k47_whole_reading
def escB (K : PySem.W.Frag) : Bool := He.tupB K "ESCAPES" [.str "&l;", .str "&a;"] && PySem.W.keepIn K (.ref (He.ma K (He.ga K "Reader") "__init__"))
def hookM (n : Nat) (fa : List He.Fa) (fn : List He.FnD) : PySem.W.Hook where
  α := He.Al × Bool
  obs := fun s => (He.obsG n fa fn s.heap.get?, escB (He.frG s.heap.get? (He.asG s.heap.get? n)))
  val := fun _ => (He.valE fn, true)
  says := fun _ h => ∃ K : PySem.W.Frag, K.In h ∧ He.SaysE fa fn K ∧ escB K = true
  of := fun _ s e => ⟨He.frG s.heap.get? (He.asG s.heap.get? n), He.frG_in, congrArg Prod.fst e, congrArg Prod.snd e⟩
  keeps := fun _ _ _ ⟨K, hK, c⟩ k => ⟨K, PySem.W.Frag.In.keeps hK k, c⟩
abbrev hk : PySem.W.Hook := hookM 5 fa fn
def ob (s : PySem.W.SharedT) : He.Al × Bool := (He.obsG 5 fa fn (HandSHeadRun.getT s), escB (He.frG (HandSHeadRun.getT s) (He.asG (HandSHeadRun.getT s) 5)))
theorem ob_eq (s : PySem.W.SharedT) : ob s = hk.obs s.abs := by
  have e : HandSHeadRun.getT s = s.abs.heap.get? := funext (HandSHeadRun.getT_eq s)
  unfold ob
  rw [e] <;> rfl
theorem run (w : World) : HandSHeadRun.RunEq Rr (PySem.W.view Rr.prog [65]) hk ob 3000 nms w := by
  intro os
  kernel_rfl
end Tg

namespace Tg
open PySem PySem.Spec PyProof.Rows L2
/-! ### heaps -/
theorem sm_new {H : Hp} {p : Addr} {o : HO} (hp : H p = none) : Same H (upd H p o) := fun b u q => by
  rw [upd_ne (ne_of_none q hp)]
  exact q
/-- all but what stands at l is as it was -/
def But (l : Addr) (H H' : Hp) : Prop := ∀ b o, b ≠ l → H b = some o → H' b = some o
theorem but_upd {l : Addr} {H : Hp} {o : HO} : But l H (upd H l o) := fun b u n q => by
  rw [upd_ne n]
  exact q
theorem sm_but {H0 H1 H2 : Hp} {l : Addr} (a : Same H0 H1) (n : H0 l = none) (c : But l H1 H2) : Same H0 H2 := fun b o q => c b o (ne_of_none q n) (a b o q)
theorem none_back {H H' : Hp} {l : Addr} (e : Same H H') (h : H' l = none) : H l = none := e.free h
/-- values that may be None -/
@[reducible] def ov : Option Str → V
  | none => .non
  | some s => .str s
@[reducible] def oi : Option Nat → V
  | none => .non
  | some n => .int (n : Int)
theorem sz1000 {n : Nat} (h : n ≤ 1000) : n ≤ sizeLine := Nat.le_trans h (by decide)
theorem szM {n : Nat} (h : n ≤ 1000000) : n ≤ sizeLine := Nat.le_trans h (by decide)
theorem szM' {n : Nat} (h : n ≤ 1000000) : n < sizeLine := Nat.lt_of_le_of_lt h (by decide)
/-! ### readings with names -/
def rAddS : R2 := fun x y H Q => ∃ i j, x = .str i ∧ y = .str j ∧ i.length + j.length ≤ sizeLine ∧ Q (.str (i ++ j)) H
theorem op_addS {X : Cx} : OpR X (binaryOp .Add) rAddS := op_add_str
def rMulS : R2 := fun x y H Q => ∃ a n, x = .str a ∧ y = .int n ∧ MulOk a n ∧ Q (.str (Txt.mul a n)) H
theorem op_mulS {X : Cx} : OpR X (binaryOp .Mult) rMulS := by
  intro pins s σ H x y v u Q I rx ry h
  obtain ⟨a, n, rfl, rfl, hk, q⟩ := h
  obtain ⟨t, rfl⟩ := rx
  obtain ⟨t2, rfl⟩ := ry
  exact PySem.SB.mul hk fun t' k => ⟨.str _, H, I.tok k, ⟨t', rfl⟩, q⟩
def rInSg : R2 := rInS
def rLenQ (K : PySem.W.Frag) : List V → Hp → VK → Prop := fun xs H Q => ∃ p ys, xs = [.ref p] ∧ (SqL K H p ys ∨ SqT K H p ys) ∧ Q (.int ys.length) H
theorem call_lenQ {X : Cx} : CallR X (.builtin "len") (rLenQ X.K) := call_len_seq
def rLenS : List V → Hp → VK → Prop := fun xs H Q => ∃ z : Str, xs = [.str z] ∧ z.length ≤ sizeLine ∧ Q (.int z.length) H
theorem call_lenS {X : Cx} : CallR X (.builtin "len") rLenS := call_len_str
def rListQ (K : PySem.W.Frag) : List V → Hp → VK → Prop := fun xs H Q => ∃ p ys, xs = [.ref p] ∧ (SqL K H p ys ∨ SqT K H p ys) ∧ ∀ l, H l = none → Q (.ref l) (upd H l (.lst ys))
theorem call_listQ {X : Cx} : CallR X (.type "list") (rListQ X.K) := call_list_of
def rTupQ (K : PySem.W.Frag) : List V → Hp → VK → Prop := fun xs H Q => ∃ p ys, xs = [.ref p] ∧ ((SqL K H p ys ∧ ∀ l, H l = none → Q (.ref l) (upd H l (.tup ys))) ∨ (SqT K H p ys ∧ Q (.ref p) H))
theorem call_tupQ {X : Cx} : CallR X (.type "tuple") (rTupQ X.K) := call_tuple_of
def rIntB : List V → Hp → VK → Prop := fun xs H Q => (∃ i, xs = [.int i] ∧ Q (.int i) H) ∨ ∃ k, xs = [.bl k] ∧ Q (.int (if k then 1 else 0)) H
theorem call_intB {X : Cx} : CallR X (.type "int") rIntB := call_int1
def rFind : V → List V → Hp → VK → Prop := fun x xs H Q => ∃ a b, x = .str a ∧ xs = [.str b] ∧ Q (.int (Txt.find a b)) H
theorem mt_findQ {X : Cx} : MtR X "str.find" rFind := mt_find
def rFind3 : V → List V → Hp → VK → Prop := fun x xs H Q => ∃ (a b : Str) (i : Int), x = .str a ∧ xs = [.str b, .int i] ∧ Q (.int (Txt.find3 a b i)) H
theorem mt_find3Q {X : Cx} : MtR X "str.find" rFind3 := mt_find3
def rStripC : V → List V → Hp → VK → Prop := fun x xs H Q => ∃ a b, x = .str a ∧ xs = [.str b] ∧ a.length ≤ sizeLine ∧ Q (.str (Txt.stripChars a b)) H
theorem mt_stripQ {X : Cx} : MtR X "str.strip" rStripC := mt_stripChars
def rJoin (K : PySem.W.Frag) : V → List V → Hp → VK → Prop := fun x xs H Q => ∃ a p, ∃ ys : List Str, x = .str a ∧ xs = [.ref p] ∧ (SqL K H p (ys.map V.str) ∨ SqT K H p (ys.map V.str)) ∧
    (ys.map (·.length)).sum + ys.length * a.length ≤ 16777216 ∧ Q (.str (Txt.join a ys)) H
theorem mt_joinQ {X : Cx} : MtR X "str.join" (rJoin X.K) := mt_join
def rInsert : V → List V → Hp → VK → Prop := fun x vs H Q => ∃ (l : Addr) (xs : List V) (i : Int) (y : V), x = .ref l ∧ vs = [.int i, y] ∧ H l = some (.lst xs) ∧ xs.length < sizeLine ∧ 0 ≤ i ∧ i < 2 ^ 63 ∧
    Q .non (upd H l (.lst (xs.take i.toNat ++ [y] ++ xs.drop i.toNat)))
theorem mt_insertQ {X : Cx} : MtR X "list.insert" rInsert := mt_insert
theorem hu64 {A : Around} {k : Nat} (hr : Room k A) : A.units + 64 < cLine := hr.units
/-! ### steps through readings -/
section
variable {K : PySem.W.Frag} {σ : L2.St} {H : Hp} {Q : VK} {D : Ends} {ta tb tc te tv td ty tx : TE} {t u : TS} {ts tr : TA} {c d : TT} {tl th : TO} {r r' : R2} {v : V} {i : Nat} {x y : V} {R : Bool → Hp → Prop} {QA : List V → Hp → Prop} {QO : Option Int → Hp → Prop}
theorem w_seq (k : t { D with nx := u D } σ H) : tSeq t u D σ H := k
theorem w_next (k : D.nx σ H) : tNext D σ H := k
theorem w_brk (k : D.bk σ H) : tBreak D σ H := k
theorem w_cut {M : L2.St → Hp → Prop} (k : t { D with nx := M } σ H) (k2 : ∀ σ' H', M σ' H' → u D σ' H') : Evl.tCut t u D σ H := ⟨M, k, k2⟩
theorem w_set (k : te σ H fun x H1 => D.nx (σ.set i (some x)) H1) : tAsg te (gName i) D σ H := k
theorem w_asg {g : TG} (k : te σ H fun x H1 => g x σ H1 D.nx) : tAsg te g D σ H := k
theorem w_ret (k : te σ H D.rt) : tRet te D σ H := k
theorem w_retN (k : D.rt .non H) : tRetN D σ H := k
theorem w_drop (k : te σ H fun _ H1 => D.nx σ H1) : tDrop te D σ H := k
theorem w_if (k : c σ H fun b H1 => if b = true then t D σ H1 else u D σ H1) : tIfS c t u D σ H := k
theorem w_var (h : σ[i]? = some (some v)) (k : Q v H) : tVar i σ H Q := ⟨v, h, k⟩
theorem w_c (k : Q v H) : tC v σ H Q := k
theorem w_op (k : ta σ H fun x H1 => tb σ H1 fun y H2 => r x y H2 Q) : tOp r ta tb σ H Q := k
theorem w_un {r : V → Hp → VK → Prop} (k : ta σ H fun x H1 => r x H1 Q) : tUn r ta σ H Q := k
theorem w_cons (k : ta σ H fun x H1 => tr σ H1 fun xs H2 => QA (x :: xs) H2) : tCons ta tr σ H QA := k
theorem w_nil (k : QA [] H) : tNil σ H QA := k
def MkT (xs : List V) (H : Hp) (Q : VK) : Prop := xs.length ≤ sizeLine ∧ ∀ p, H p = none → Q (.ref p) (upd H p (.tup xs))
def MkL (xs : List V) (H : Hp) (Q : VK) : Prop := xs.length ≤ sizeLine ∧ ∀ p, H p = none → Q (.ref p) (upd H p (.lst xs))
theorem w_tup (k : ts σ H fun xs H1 => MkT xs H1 Q) : tTup ts σ H Q := k
theorem w_lst (k : ts σ H fun xs H1 => MkL xs H1 Q) : tLst ts σ H Q := k
theorem w_mkT {xs : List V} (k : ∀ p H1, H p = none → Same H H1 → H1 p = some (.tup xs) → Q (.ref p) H1) (h : Nat.ble xs.length 1000 = true := by rfl) : MkT xs H Q :=
  ⟨sz1000 (Nat.le_of_ble_eq_true h), fun p hp => k p _ hp (sm_new hp) upd_same⟩
theorem w_mkL {xs : List V} (k : ∀ p H1, H p = none → Same H H1 → H1 p = some (.lst xs) → Q (.ref p) H1) (h : Nat.ble xs.length 1000 = true := by rfl) : MkL xs H Q :=
  ⟨sz1000 (Nat.le_of_ble_eq_true h), fun p hp => k p _ hp (sm_new hp) upd_same⟩
theorem w_call {sp : Sp} {E : XK} (k : ts σ H fun vs H1 => sp vs H1 Q E) : tCall sp [] E ts σ H Q := by
  have e : (fun vs H1 => sp (vs ++ []) H1 Q E) = fun vs H1 => sp vs H1 Q E := by
    funext vs H1
    rw [List.append_nil]
  show ts σ H fun vs H1 => sp (vs ++ []) H1 Q E
  rw [e]
  exact k
theorem w_meth {C : Addr} {m : Str} {sp : Sp} {E : XK} (k : ta σ H fun x H1 => ∃ a dx fs, x = .ref a ∧ H1 a = some (.ins C dx fs) ∧ fs.lookup m = none ∧ ts σ H1 fun vs H2 => sp (x :: vs) H2 Q E) : tMeth C m sp [] E ta ts σ H Q := by
  have e : (fun x H1 => ∃ a dx fs, x = V.ref a ∧ H1 a = some (.ins C dx fs) ∧ fs.lookup m = none ∧ ts σ H1 fun vs H2 => sp (x :: (vs ++ [])) H2 Q E) = fun x H1 => ∃ a dx fs, x = V.ref a ∧ H1 a = some (.ins C dx fs) ∧ fs.lookup m = none ∧ ts σ H1 fun vs H2 => sp (x :: vs) H2 Q E := by
    funext x H1
    simp only [List.append_nil]
  show ta σ H fun x H1 => ∃ a dx fs, x = V.ref a ∧ H1 a = some (.ins C dx fs) ∧ fs.lookup m = none ∧ ts σ H1 fun vs H2 => sp (x :: (vs ++ [])) H2 Q E
  rw [e]
  exact k
theorem w_cb {r : List V → Hp → VK → Prop} (k : ts σ H fun vs H1 => r vs H1 Q) : tCB r ts σ H Q := k
theorem w_bm {T : String} {r : V → List V → Hp → VK → Prop} (k : ta σ H fun x H1 => tyV K T x H1 ∧ ts σ H1 fun xs H2 => r x xs H2 Q) : tBM K T r ta ts σ H Q := k
theorem w_bm0 {T : String} {r : V → List V → Hp → VK → Prop} (k : ta σ H fun x H1 => tyV K T x H1 ∧ r x [] H1 Q) : tBM0 K T r ta σ H Q := k
theorem w_m1 {r : V → List V → Hp → VK → Prop} (k : ta σ H fun x H1 => (∃ a, x = .str a) ∧ te σ H1 fun y H2 => r x [y] H2 Q) : tM1 r ta te σ H Q := k
/-- a list that stands: its type -/
theorem w_tyL {l : Addr} {xs : List V} {P : Prop} (h : H l = some (.lst xs)) (k : P) : tyV K "list" (.ref l) H ∧ P := ⟨Or.inl ⟨rfl, _, SqL.of h⟩, k⟩
theorem w_tyLq {l : Addr} {xs : List V} {P : Prop} (h : SqL K H l xs) (k : P) : tyV K "list" (.ref l) H ∧ P := ⟨Or.inl ⟨rfl, _, h⟩, k⟩
theorem w_tyS {a : Str} {P : Prop} (k : P) : (∃ b, V.str a = .str b) ∧ P := ⟨⟨a, rfl⟩, k⟩
theorem w_sl {r : V → Option Int → Option Int → Hp → VK → Prop} (k : te σ H fun x H1 => tl σ H1 fun l H2 => th σ H2 fun u H3 => r x l u H3 Q) : tSl r te tl th σ H Q := k
theorem w_noP (k : QO none H) : tNoPart σ H QO := k
theorem w_part (k : te σ H fun x H1 => ∃ i, x = .int i ∧ QO (some i) H1) : tPart te σ H QO := k
theorem w_exI {n : Int} {P : Int → Prop} (k : P n) : ∃ i, V.int n = .int i ∧ P i := ⟨n, rfl, k⟩
theorem w_exB {b : Bool} {P : Bool → Prop} (k : P b) : ∃ i, V.bl b = .bl i ∧ P i := ⟨b, rfl, k⟩
theorem w_test (k : te σ H fun x H' => ∃ k, x = .bl k ∧ R k H') : tTest te σ H R := k
theorem w_B (k : te σ H fun x H' => ∃ k, x = .bl k ∧ R k H') : tB te σ H R := k
theorem w_and (k : c σ H fun b H1 => if b = true then d σ H1 R else R false H1) : tAnd c d σ H R := k
theorem w_or (k : c σ H fun b H1 => if b = true then R true H1 else d σ H1 R) : tOr c d σ H R := k
theorem w_not (k : c σ H fun b H1 => R (!b) H1) : tNot c σ H R := k
theorem w_andV (k : ta σ H fun x H1 => ∃ c, x = .bl c ∧ if c = true then tb σ H1 Q else Q (.bl false) H1) : tAndV ta tb σ H Q := k
theorem w_notV (k : ta σ H fun x H1 => ∃ c, x = .bl c ∧ Q (.bl (!c)) H1) : tNotV ta σ H Q := k
theorem w_chain (k : ta σ H fun x H1 => tb σ H1 fun y H2 => r x y H2 fun z H3 => ∃ k, z = .bl k ∧ (if k = true then tc σ H3 fun w' H4 => r' y w' H4 Q else Q (.bl false) H3)) : tChain r r' ta tb tc σ H Q := k
def FldW (K : PySem.W.Frag) (f : Str) (x : V) (H : Hp) (Q : VK) : Prop := ∃ a C dx fs v, x = .ref a ∧ H a = some (.ins C dx fs) ∧ Cls K C ∧ NoAttr K C f ∧ fs.lookup f = some v ∧ Q v H
def SfW (K : PySem.W.Frag) (f : Str) (x y : V) (H : Hp) (P : Hp → Prop) : Prop := ∃ a C dx fs, x = .ref a ∧ H a = some (.ins C dx fs) ∧ Cls K C ∧ NoAttr K C f ∧ fs.length < 1000 ∧ P (upd H a (.ins C dx (putF f y fs)))
def DgW (x y : V) (H : Hp) (Q : VK) : Prop := ∃ a v, x = .ref a ∧ DGet H a y (some v) ∧ Q v H
def DpW (x y v : V) (H : Hp) (P : Hp → Prop) : Prop := ∃ a H4, x = .ref a ∧ DPut H a y v H4 ∧ P H4
theorem w_fld {f : Str} (k : ta σ H fun x H1 => FldW K f x H1 Q) : tFld K ta f σ H Q := k
theorem w_sfld {f : Str} (k : tv σ H fun y H1 => ta σ H1 fun x H2 => SfW K f x y H2 (D.nx σ)) : sFld K ta tv f D σ H := k
theorem w_dget (k : td σ H fun x H1 => ty σ H1 fun y H2 => DgW x y H2 Q) : tDGet td ty σ H Q := k
theorem w_dput (k : tv σ H fun v H1 => td σ H1 fun x H2 => ty σ H2 fun y H3 => DpW x y v H3 (D.nx σ)) : sDPut td ty tv D σ H := k
theorem w_aug {tip : TIp} (h : σ[i]? = some (some v)) (k : te σ H fun y H1 => tip v y H1 fun z H2 => D.nx (σ.set i (some z)) H2) : tAug i te tip D σ H := ⟨v, h, k⟩
/-! values -/
theorem w_I0 {g : Int → Int → V} {a b : Int} (k : Q (g a b) H) : rI0 g (.int a) (.int b) H Q := ⟨a, b, rfl, rfl, k⟩
theorem w_I {C : Int → Int → Prop} {g : Int → Int → V} {a b : Int} (hc : C a b) (k : Q (g a b) H) : rI C g (.int a) (.int b) H Q := ⟨a, b, rfl, rfl, hc, k⟩
theorem w_ipI {f : Int → Int → Int} {a b : Int} (k : Q (.int (f a b)) H) : ipI f (.int a) (.int b) H Q := ⟨a, b, rfl, rfl, k⟩
theorem w_neg {a : Int} {g : Int → V} (k : Q (g a) H) : rU g (.int a) H Q := ⟨a, rfl, k⟩
theorem w_eqS {a b : Str} (k : Q (.bl (decide (a = b))) H) : rEq (.str a) (.str b) H Q := ⟨rfl, by rw [dec_str, Bool.beq_eq_decide_eq]; exact k⟩
theorem w_neS {a b : Str} (k : Q (.bl (!decide (a = b))) H) : rNe (.str a) (.str b) H Q := ⟨rfl, by rw [dec_str, Bool.beq_eq_decide_eq]; exact k⟩
theorem w_eqI {a b : Int} (k : Q (.bl (decide (a = b))) H) : rEq (.int a) (.int b) H Q := ⟨rfl, by rw [dec_int, Bool.beq_eq_decide_eq]; exact k⟩
theorem w_neI {a b : Int} (k : Q (.bl (!decide (a = b))) H) : rNe (.int a) (.int b) H Q := ⟨rfl, by rw [dec_int, Bool.beq_eq_decide_eq]; exact k⟩
theorem dec_ov {o : Option Str} {b : Str} : decide (ov o = V.str b) = decide (o = some b) := by
  cases o with
  | none => exact decide_eq_decide.mpr ⟨fun h => (nomatch h), fun h => (nomatch h)⟩
  | some a => exact decide_eq_decide.mpr ⟨fun h => congrArg some (V.str.inj h), fun h => congrArg V.str (Option.some.inj h)⟩
theorem w_eqO {o : Option Str} {b : Str} (k : Q (.bl (decide (o = some b))) H) : rEq (ov o) (.str b) H Q := ⟨by cases o <;> rfl, by rw [dec_ov]; exact k⟩
theorem w_neO {o : Option Str} {b : Str} (k : Q (.bl (!decide (o = some b))) H) : rNe (ov o) (.str b) H Q := ⟨by cases o <;> rfl, by rw [dec_ov]; exact k⟩
theorem w_isN (k : Q (.bl (decide (x = .non))) H) : rIsN x .non H Q := ⟨rfl, k⟩
theorem w_isNn (k : Q (.bl true) H) : rIsN .non .non H Q := ⟨rfl, k⟩
theorem w_isNr {a : Addr} (k : Q (.bl false) H) : rIsN (.ref a) .non H Q := ⟨rfl, k⟩
theorem w_notNn (k : Q (.bl false) H) : rNotN .non .non H Q := ⟨rfl, k⟩
theorem w_notNr {a : Addr} (k : Q (.bl true) H) : rNotN (.ref a) .non H Q := ⟨rfl, k⟩
theorem w_notNi {n : Int} (k : Q (.bl true) H) : rNotN (.int n) .non H Q := ⟨rfl, k⟩
theorem w_isNi {n : Int} (k : Q (.bl false) H) : rIsN (.int n) .non H Q := ⟨rfl, k⟩
theorem w_notNs {n : Str} (k : Q (.bl true) H) : rNotN (.str n) .non H Q := ⟨rfl, k⟩
theorem w_isNs {n : Str} (k : Q (.bl false) H) : rIsN (.str n) .non H Q := ⟨rfl, k⟩
theorem w_isNo {o : Option Str} (k : Q (.bl o.isNone) H) : rIsN (ov o) .non H Q := by
  cases o with
  | none => exact ⟨rfl, k⟩
  | some z => exact ⟨rfl, k⟩
theorem w_notNo {o : Option Str} (k : Q (.bl o.isSome) H) : rNotN (ov o) .non H Q := by
  cases o with
  | none => exact ⟨rfl, k⟩
  | some z => exact ⟨rfl, k⟩
theorem w_isNoi {o : Option Nat} (k : Q (.bl o.isNone) H) : rIsN (oi o) .non H Q := by
  cases o with
  | none => exact ⟨rfl, k⟩
  | some z => exact ⟨rfl, k⟩
theorem w_notNoi {o : Option Nat} (k : Q (.bl o.isSome) H) : rNotN (oi o) .non H Q := by
  cases o with
  | none => exact ⟨rfl, k⟩
  | some z => exact ⟨rfl, k⟩
theorem w_notN (k : Q (.bl (!decide (x = .non))) H) : rNotN x .non H Q := ⟨rfl, k⟩
theorem w_addS {a b : Str} (h : a.length + b.length ≤ sizeLine) (k : Q (.str (a ++ b)) H) : rAddS (.str a) (.str b) H Q := ⟨a, b, rfl, rfl, h, k⟩
theorem w_mulS {a : Str} {n : Int} (h : MulOk a n) (k : Q (.str (Txt.mul a n)) H) : rMulS (.str a) (.int n) H Q := ⟨a, n, rfl, rfl, h, k⟩
theorem w_inS {a : Nat} {z : Str} (k : Q (.bl (decide (a ∈ z.cps.toList))) H) : rInS (.str ⟨#[a]⟩) (.str z) H Q := ⟨a, z, rfl, rfl, k⟩
theorem w_notInS {a : Nat} {z : Str} (k : Q (.bl (!decide (a ∈ z.cps.toList))) H) : rNotInS (.str ⟨#[a]⟩) (.str z) H Q := ⟨a, z, rfl, rfl, k⟩
theorem w_ixT {p : Addr} {xs : List V} {n : Int} (h : SqT K H p xs) (ha : atI xs n = some v) (k : Q v H) : rIxT K (.ref p) (.int n) H Q := ⟨p, xs, n, v, rfl, rfl, h, ha, k⟩
theorem w_ixL {p : Addr} {xs : List V} {n : Int} (h : SqL K H p xs) (ha : atI xs n = some v) (k : Q v H) : rIxL K (.ref p) (.int n) H Q := ⟨p, xs, n, v, rfl, rfl, h, ha, k⟩
theorem w_ixS {z : Str} {n : Int} {a : Nat} (h : z.length ≤ sizeLine) (ha : atI z.cps.toList n = some a) (k : Q (.str ⟨#[a]⟩) H) : rIxS (.str z) (.int n) H Q := ⟨z, n, a, rfl, rfl, h, ha, k⟩
theorem w_slS {z : Str} {lo hi : Option Int} (h : z.length ≤ sizeLine) (k : Q (.str (cutS z lo hi)) H) : rSlS (.str z) lo hi H Q := ⟨z, rfl, h, k⟩
theorem w_slL {a : Addr} {xs : List V} {lo hi : Option Int} (h : SqL K H a xs) (k : ∀ p H1, H p = none → Same H H1 → H1 p = some (.lst (cutV xs lo hi)) → Q (.ref p) H1) : rSlL K (.ref a) lo hi H Q :=
  ⟨a, xs, rfl, h, fun p hp => k p _ hp (sm_new hp) upd_same⟩
theorem w_slT {a : Addr} {xs : List V} {lo hi : Option Int} (h : H a = some (.tup xs)) (k : ∀ p H1, Same H H1 → H1 p = some (.tup (cutV xs lo hi)) → Q (.ref p) H1) : rSlA K (.ref a) lo hi H Q :=
  ⟨a, xs, rfl, SqT.of h, fun ⟨e1, e2⟩ => k a H (Same.refl H) (by
    rw [h]
    unfold cutV
    rw [e1, e2, List.drop_zero, Nat.sub_zero, List.take_of_length_le (Nat.le_refl _)]), fun _ p hp => k p _ (sm_new hp) upd_same⟩
theorem w_catT {a b : Addr} {xs ys : List V} (ha : H a = some (.tup xs)) (hb : H b = some (.tup ys)) (hl : xs.length + ys.length ≤ sizeLine) (k : ∀ p H1, Same H H1 → H1 p = some (.tup (xs ++ ys)) → Q (.ref p) H1) : rCatA K (.ref a) (.ref b) H Q :=
  ⟨a, b, xs, ys, rfl, rfl, SqT.of ha, SqT.of hb, hl, fun e => k b H (Same.refl H) (by rw [e, List.nil_append]; exact hb), fun _ e => k a H (Same.refl H) (by rw [e, List.append_nil]; exact ha), fun _ _ p hp => k p _ (sm_new hp) upd_same⟩
theorem w_cat {a b : Addr} {xs ys : List V} (ha : H a = some (.lst xs)) (hb : H b = some (.lst ys)) (hl : xs.length + ys.length ≤ sizeLine) (k : ∀ p H1, H p = none → Same H H1 → H1 p = some (.lst (xs ++ ys)) → Q (.ref p) H1) : rCat (.ref a) (.ref b) H Q :=
  ⟨a, b, xs, ys, rfl, rfl, ha, hb, hl, fun p hp => k p _ hp (sm_new hp) upd_same⟩
theorem w_neD {d e : PyData} (hd : Dp K H x d) (he : Dp K H y e) (sd : SeqAt.shaped d = true) (se : SeqAt.shaped e = true) (k : Q (.bl (!PyData.eqv d e)) H) : rNeD K x y H Q := ⟨d, e, hd, he, sd, se, k⟩
theorem w_eqD {d e : PyData} (hd : Dp K H x d) (he : Dp K H y e) (sd : SeqAt.shaped d = true) (se : SeqAt.shaped e = true) (k : Q (.bl (PyData.eqv d e)) H) : rEqD K x y H Q := ⟨d, e, hd, he, sd, se, k⟩
abbrev sOk (z : Str) : Bool := PyData.strOk z
theorem dp_strs (ys : List Str) : DpAll K H (ys.map V.str) (ys.map PyData.str) := by
  induction ys with
  | nil => exact .nil
  | cons y ys ih => exact .cons (.str y) ih
theorem lay_strs {ys : List Str} (h : ∀ y ∈ ys, sOk y = true) : PyData.canLayAll0 (ys.map PyData.str) = true := by
  induction ys with
  | nil => rfl
  | cons y ys ih =>
    show (PyData.canLay0 (.str y) && PyData.canLayAll0 (ys.map PyData.str)) = true
    rw [ih fun z hz => h z (List.mem_cons_of_mem _ hz), Bool.and_true]
    have e : PyData.canLay0 (.str y) = PyData.strOk y := by simp only [PyData.canLay0]
    rw [e]
    exact h y List.mem_cons_self
theorem dep_strs (ys : List Str) : PyData.depthAll (ys.map PyData.str) = 0 := by
  induction ys with
  | nil => rfl
  | cons y ys ih =>
    show max (PyData.depth (.str y)) (PyData.depthAll (ys.map PyData.str)) = 0
    rw [ih]
    have e : PyData.depth (.str y) = 0 := by simp only [PyData.depth]
    rw [e] <;> rfl
theorem shaped_tup {ds : List PyData} (h : PyData.canLayAll0 ds = true) (hd : PyData.depthAll ds ≤ 63) : SeqAt.shaped (.tuple ds) = true := by
  unfold SeqAt.shaped
  have e1 : PyData.canLay0 (.tuple ds) = true := by simpa only [PyData.canLay0] using h
  have e2 : PyData.depth (.tuple ds) = PyData.depthAll ds + 1 := by simp only [PyData.depth]
  rw [e1, e2, Bool.true_and]
  exact decide_eq_true (by omega)
theorem shaped_lst {ds : List PyData} (h : PyData.canLayAll0 ds = true) (hd : PyData.depthAll ds ≤ 63) : SeqAt.shaped (.list ds) = true := by
  unfold SeqAt.shaped
  have e1 : PyData.canLay0 (.list ds) = true := by simpa only [PyData.canLay0] using h
  have e2 : PyData.depth (.list ds) = PyData.depthAll ds + 1 := by simp only [PyData.depth]
  rw [e1, e2, Bool.true_and]
  exact decide_eq_true (by omega)
theorem eqv_tnil (ds : List PyData) : PyData.eqv (.tuple ds) (.tuple []) = ds.isEmpty := by
  cases ds <;> simp [PyData.eqv, PyData.eqvAll]
theorem eqv_lnil (ds : List PyData) : PyData.eqv (.list ds) (.list []) = ds.isEmpty := by
  cases ds <;> simp [PyData.eqv, PyData.eqvAll]
/-- xs != () of texts; xs != [] -/
theorem w_neT0 {p q : Addr} {ys : List Str} (h : H p = some (.tup (ys.map V.str))) (h0 : H q = some (.tup [])) (hy : ∀ y ∈ ys, sOk y = true) (k : Q (.bl (!ys.isEmpty)) H) : rNeD K (.ref p) (.ref q) H Q :=
  w_neD (.tup (SqT.of h) (dp_strs ys)) (.tup (SqT.of h0) .nil) (shaped_tup (lay_strs hy) (by rw [dep_strs]; omega)) (by decide) (by rw [eqv_tnil, List.isEmpty_map]; exact k)
theorem w_neL0 {p q : Addr} {ys : List Str} (h : SqL K H p (ys.map V.str)) (h0 : H q = some (.lst [])) (hy : ∀ y ∈ ys, sOk y = true) (k : Q (.bl (!ys.isEmpty)) H) : rNeD K (.ref p) (.ref q) H Q :=
  w_neD (.lst h (dp_strs ys)) (.lst (SqL.of h0) .nil) (shaped_lst (lay_strs hy) (by rw [dep_strs]; omega)) (by decide) (by rw [eqv_lnil, List.isEmpty_map]; exact k)
theorem flat_strs (ys : List Str) : (ys.map V.str).all flatV = true := by
  rw [List.all_map]
  exact List.all_eq_true.mpr fun _ _ => rfl
theorem flat_ints (ys : List Int) : (ys.map V.int).all flatV = true := by
  rw [List.all_map]
  exact List.all_eq_true.mpr fun _ _ => rfl
theorem inV_strs (a : Str) (ys : List Str) : inV (.str a) (ys.map V.str) = decide (a ∈ ys) := by
  unfold inV
  rw [List.any_map]
  induction ys with
  | nil => rfl
  | cons y ys ih =>
    rw [List.any_cons, ih]
    show ((y == a) || decide (a ∈ ys)) = decide (a ∈ y :: ys)
    by_cases e : a = y
    · subst e
      simp
    · have : (y == a) = false := beq_eq_false_iff_ne.mpr fun q => e q.symm
      rw [this, Bool.false_or]
      exact decide_eq_decide.mpr ⟨fun h => List.mem_cons_of_mem _ h, fun h => (List.mem_cons.mp h).resolve_left e⟩
theorem inV_ints (a : Int) (ys : List Int) : inV (.int a) (ys.map V.int) = decide (a ∈ ys) := by
  unfold inV
  rw [List.any_map]
  induction ys with
  | nil => rfl
  | cons y ys ih =>
    rw [List.any_cons, ih]
    show ((y == a) || decide (a ∈ ys)) = decide (a ∈ y :: ys)
    by_cases e : a = y
    · subst e
      simp
    · have : (y == a) = false := beq_eq_false_iff_ne.mpr fun q => e q.symm
      rw [this, Bool.false_or]
      exact decide_eq_decide.mpr ⟨fun h => List.mem_cons_of_mem _ h, fun h => (List.mem_cons.mp h).resolve_left e⟩
theorem inV_non (ys : List Str) : inV .non (ys.map V.str) = false := by
  unfold inV
  rw [List.any_map]
  induction ys with
  | nil => rfl
  | cons y ys ih => rw [List.any_cons, ih] <;> rfl
/-- whether a text that may be None is one of some texts -/
def memO (o : Option Str) (ys : List Str) : Bool := match o with
  | some a => decide (a ∈ ys)
  | none => false
theorem inV_ov (o : Option Str) (ys : List Str) : inV (ov o) (ys.map V.str) = memO o ys := by
  cases o with
  | none => exact inV_non ys
  | some a => exact inV_strs a ys
theorem flat_ov (o : Option Str) : flatV (ov o) = true := by cases o <;> rfl
theorem w_inO {o : Option Str} {p : Addr} {ys : List Str} (h : SqL K H p (ys.map V.str) ∨ SqT K H p (ys.map V.str)) (k : Q (.bl (memO o ys)) H) : rIn K false (ov o) (.ref p) H Q :=
  ⟨p, _, rfl, h, flat_ov o, flat_strs ys, by rw [inV_ov]; exact k⟩
theorem w_inSs {a : Str} {p : Addr} {ys : List Str} (h : SqL K H p (ys.map V.str) ∨ SqT K H p (ys.map V.str)) (k : Q (.bl (decide (a ∈ ys))) H) : rIn K false (.str a) (.ref p) H Q :=
  ⟨p, _, rfl, h, rfl, flat_strs ys, by rw [inV_strs]; exact k⟩
theorem w_notInSs {a : Str} {p : Addr} {ys : List Str} (h : SqL K H p (ys.map V.str) ∨ SqT K H p (ys.map V.str)) (k : Q (.bl (!decide (a ∈ ys))) H) : rIn K true (.str a) (.ref p) H Q :=
  ⟨p, _, rfl, h, rfl, flat_strs ys, by rw [inV_strs]; exact k⟩
theorem w_inIs {a : Int} {p : Addr} {ys : List Int} (h : SqL K H p (ys.map V.int)) (k : Q (.bl (decide (a ∈ ys))) H) : rIn K false (.int a) (.ref p) H Q :=
  ⟨p, _, rfl, Or.inl h, rfl, flat_ints ys, by rw [inV_ints]; exact k⟩
theorem w_notInIs {a : Int} {p : Addr} {ys : List Int} (h : SqL K H p (ys.map V.int)) (k : Q (.bl (!decide (a ∈ ys))) H) : rIn K true (.int a) (.ref p) H Q :=
  ⟨p, _, rfl, Or.inl h, rfl, flat_ints ys, by rw [inV_ints]; exact k⟩
theorem w_app {l : Addr} {xs : List V} (h : H l = some (.lst xs)) (hl : xs.length < sizeLine) (k : ∀ H1, But l H H1 → H1 l = some (.lst (xs ++ [y])) → Q .non H1) : rAppend (.ref l) [y] H Q :=
  ⟨l, xs, y, rfl, rfl, h, hl, k _ but_upd upd_same⟩
theorem w_ext {l b : Addr} {xs zs : List V} (h : H l = some (.lst xs)) (hb : H b = some (.lst zs)) (hl : xs.length + zs.length ≤ sizeLine) (k : ∀ H1, But l H H1 → H1 l = some (.lst (xs ++ zs)) → Q .non H1) : rExtend (.ref l) [.ref b] H Q :=
  ⟨l, b, xs, zs, rfl, rfl, h, hb, hl, k _ but_upd upd_same⟩
theorem w_pop {l : Addr} {xs : List V} (h : H l = some (.lst xs)) (hy : xs[xs.length - 1]? = some y) (k : ∀ H1, But l H H1 → H1 l = some (.lst xs.dropLast) → Q y H1) : rPop (.ref l) [] H Q :=
  ⟨l, xs, y, rfl, rfl, h, hy, k _ but_upd upd_same⟩
theorem w_popAt {l : Addr} {xs : List V} {j : Nat} (h : H l = some (.lst xs)) (hy : xs[j]? = some y) (hz : xs.length ≤ 1000000) (k : ∀ H1, But l H H1 → H1 l = some (.lst (xs.eraseIdx j)) → Q y H1) : rPopAt (.ref l) [.int (j : Int)] H Q := by
  have hj : j < xs.length := (List.getElem?_eq_some_iff.mp hy).1
  refine ⟨l, xs, (j : Int), j, y, rfl, rfl, h, by omega, by omega, ?_, hy, k _ but_upd upd_same⟩
  have e : ixN xs.length (j : Int) = some j := by
    unfold ixN
    rw [if_pos (by omega), if_pos (by omega)]
    simp
  exact (ixN_seq e).1
theorem w_clear {l : Addr} {xs : List V} (h : H l = some (.lst xs)) (k : ∀ H1, But l H H1 → H1 l = some (.lst []) → Q .non H1) : rClear (.ref l) [] H Q :=
  ⟨l, xs, rfl, rfl, h, k _ but_upd upd_same⟩
theorem w_insert {l : Addr} {xs : List V} {n : Int} (h : H l = some (.lst xs)) (hl : xs.length < sizeLine) (h0 : 0 ≤ n) (h1 : n < 2 ^ 63) (k : ∀ H1, But l H H1 → H1 l = some (.lst (xs.take n.toNat ++ [y] ++ xs.drop n.toNat)) → Q .non H1) : rInsert (.ref l) [.int n, y] H Q :=
  ⟨l, xs, n, y, rfl, rfl, h, hl, h0, h1, k _ but_upd upd_same⟩
/-- xs[n] = v -/
theorem w_setL {l : Addr} {xs : List V} {n : Int} {j : Nat} {P : Hp → Prop} (h : H l = some (.lst xs)) (hj : ixN xs.length n = some j) (k : ∀ H1, But l H H1 → H1 l = some (.lst (xs.set j v)) → P H1) : rSetL (.ref l) (.int n) v H P :=
  ⟨l, xs, n, j, rfl, rfl, h, hj, k _ but_upd upd_same⟩
theorem w_lenL {p : Addr} {ys : List V} (h : SqL K H p ys) (k : Q (.int ys.length) H) : rLenQ K [.ref p] H Q := ⟨p, ys, rfl, Or.inl h, k⟩
theorem w_lenT {p : Addr} {ys : List V} (h : SqT K H p ys) (k : Q (.int ys.length) H) : rLenQ K [.ref p] H Q := ⟨p, ys, rfl, Or.inr h, k⟩
theorem w_lenS {z : Str} (h : z.length ≤ sizeLine) (k : Q (.int z.length) H) : rLenS [.str z] H Q := ⟨z, rfl, h, k⟩
theorem w_tupL {p : Addr} {ys : List V} (h : SqL K H p ys) (k : ∀ l H1, H l = none → Same H H1 → H1 l = some (.tup ys) → Q (.ref l) H1) : rTupQ K [.ref p] H Q :=
  ⟨p, ys, rfl, Or.inl ⟨h, fun l hl => k l _ hl (sm_new hl) upd_same⟩⟩
theorem w_listL {p : Addr} {ys : List V} (h : SqL K H p ys ∨ SqT K H p ys) (k : ∀ l H1, H l = none → Same H H1 → H1 l = some (.lst ys) → Q (.ref l) H1) : rListQ K [.ref p] H Q :=
  ⟨p, ys, rfl, h, fun l hl => k l _ hl (sm_new hl) upd_same⟩
theorem w_any {p : Addr} {bs : List Bool} (h : SqL K H p (bs.map V.bl)) (k : Q (.bl (bs.any id)) H) : rAny K [.ref p] H Q := ⟨p, bs, rfl, h, k⟩
theorem w_intB {b : Bool} (k : Q (.int (if b then 1 else 0)) H) : rIntB [.bl b] H Q := Or.inr ⟨b, rfl, k⟩
theorem w_find {a b : Str} (k : Q (.int (Txt.find a b)) H) : rFind (.str a) [.str b] H Q := ⟨a, b, rfl, rfl, k⟩
theorem w_find3 {a b : Str} {n : Int} (k : Q (.int (Txt.find3 a b n)) H) : rFind3 (.str a) [.str b, .int n] H Q := ⟨a, b, n, rfl, rfl, k⟩
theorem w_strip {a b : Str} (h : a.length ≤ sizeLine) (k : Q (.str (Txt.stripChars a b)) H) : rStripC (.str a) [.str b] H Q := ⟨a, b, rfl, rfl, h, k⟩
theorem w_tySt {a : Str} {P : Prop} (k : P) : tyV K "str" (.str a) H ∧ P := ⟨rfl, k⟩
/-! loops -/
/-- what a loop asks, its iterator made -/
def ForW (J : It) (σ : L2.St) (H : Hp) (g : TG) (tb : TS) (D : Ends) : Prop := ∃ W : Nat → Nat → L2.St → Hp → Prop, (∃ m, W 0 m σ H) ∧ ∀ i m σ H, W i m σ H →
  (J.stop i H ∧ D.nx σ H) ∨ (J.go i H ∧ ∃ N : L2.St → Hp → Prop, (∀ σ' H', N σ' H' → ∃ m', m' < m ∧ W (i + 1) m' σ' H') ∧ ∀ x H', J.yld i H x H' → g x σ H' fun σ2 H2 => tb { D with nx := N, ct := N, bk := D.nx } σ2 H2)
/-- what a comprehension asks, its iterator made -/
def LcW (J : It) (σ : L2.St) (H1 : Hp) (g : TG) (tt : TT) (te : TE) (vs : List Nat) (Q : VK) : Prop := ∀ D, H1 D = none → ∃ W : Nat → Nat → Hp → Prop, (∃ m, W 0 m (upd H1 D (.lst []))) ∧ ∀ i m H, W i m H →
  (J.stop i H ∧ Q (.ref D) H) ∨ (J.go i H ∧ ∃ Nx : Hp → Prop, (∀ H', Nx H' → ∃ m', m' < m ∧ W (i + 1) m' H') ∧ ∀ x H', J.yld i H x H' → g x (wipe σ vs) H' fun σ2 H2 => wipe σ2 vs = wipe σ vs ∧ tt σ2 H2 fun b H3 =>
    if b = true then te σ2 H3 fun y H4 => ∃ acc, H4 D = some (.lst acc) ∧ acc.length < sizeLine ∧ Nx (upd H4 D (.lst (acc ++ [y]))) else Nx H3)
theorem w_for {wi : TI} {g : TG} {tb : TS} (k : wi σ H fun J H1 => ForW J σ H1 g tb D) : tFor wi g tb D σ H := k
theorem w_lc {wi : TI} {g : TG} {tt : TT} {vs : List Nat} (k : wi σ H fun J H1 => LcW J σ H1 g tt te vs Q) : tLc wi g tt te vs σ H Q := k
theorem w_iTup {RI : It → Hp → Prop} (k : te σ H fun x H1 => ∃ a, x = .ref a ∧ (∃ xs, SqT K H1 a xs) ∧ RI (Itt K a) H1) : iTup K te σ H RI := k
theorem w_iList {RI : It → Hp → Prop} (k : te σ H fun x H1 => ∃ a, x = .ref a ∧ (∃ xs, SqL K H1 a xs) ∧ RI (Itl K a) H1) : iList K te σ H RI := k
theorem w_iStr {RI : It → Hp → Prop} (k : te σ H fun v H1 => ∃ x, v = .str x ∧ RI (Its x) H1) : iStr te σ H RI := k
theorem w_iRng1 {RI : It → Hp → Prop} (k : ts σ H fun vs H1 => ∃ j : Int, vs = [.int j] ∧ -(2 ^ 62) ≤ j ∧ j < 2 ^ 62 ∧ RI (Itr 0 j.toNat) H1) : iRng1 ts σ H RI := k
theorem w_iRng2 {RI : It → Hp → Prop} (k : ts σ H fun vs H1 => ∃ i j : Int, vs = [.int i, .int j] ∧ (-(2 ^ 62) ≤ i ∧ i < 2 ^ 62 ∧ -(2 ^ 62) ≤ j ∧ j < 2 ^ 62) ∧ RI (Itr i (j - i).toNat) H1) : iRng2 ts σ H RI := k
theorem w_iRevR {tq : L2.St → Hp → (Int → Int → Hp → Prop) → Prop} {RI : It → Hp → Prop} (k : tq σ H fun a b H1 => -(2 ^ 62) ≤ a ∧ a < 2 ^ 62 ∧ -(2 ^ 62) ≤ b ∧ b < 2 ^ 62 ∧ RI (Itc (a + (((b - a).toNat : Nat) : Int) - 1) (-1) (b - a).toNat) H1) : iRevR tq σ H RI := k
theorem w_rg1 {QR : Int → Int → Hp → Prop} (k : ta σ H fun x H1 => ∃ n, x = .int n ∧ QR 0 n H1) : tRg1 ta σ H QR := k
theorem w_rg2 {QR : Int → Int → Hp → Prop} (k : ta σ H fun x H1 => tb σ H1 fun y H2 => ∃ i j, x = .int i ∧ y = .int j ∧ QR i j H2) : tRg2 ta tb σ H QR := k
theorem w_itV1 {n : Int} {P : Int → Prop} (k : P n) : ∃ m, V.int n = .int m ∧ P m := ⟨n, rfl, k⟩
theorem w_forT {a : Addr} {xs : List V} {g : TG} {tb : TS} (h : SqT K H a xs) (Pv : Nat → L2.St → Hp → Prop) (h0 : Pv 0 σ H) (hl : ∀ i σ H, i ≤ xs.length → Pv i σ H → SqT K H a xs)
    (hs : ∀ i x σ H, xs[i]? = some x → Pv i σ H → g x σ H fun σ2 H2 => tb { D with nx := Pv (i + 1), ct := Pv (i + 1), bk := D.nx } σ2 H2) (hd : ∀ σ H, Pv xs.length σ H → D.nx σ H) :
    ∃ b, V.ref a = .ref b ∧ (∃ xs, SqT K H b xs) ∧ ForW (Itt K b) σ H g tb D := ⟨a, rfl, ⟨xs, h⟩, for_tup Pv h0 hl hs hd⟩
theorem w_forL {a : Addr} {xs : List V} {g : TG} {tb : TS} (h : SqL K H a xs) (Pv : Nat → L2.St → Hp → Prop) (h0 : Pv 0 σ H) (hl : ∀ i σ H, i ≤ xs.length → Pv i σ H → SqL K H a xs)
    (hs : ∀ i x σ H, xs[i]? = some x → Pv i σ H → g x σ H fun σ2 H2 => tb { D with nx := Pv (i + 1), ct := Pv (i + 1), bk := D.nx } σ2 H2) (hd : ∀ σ H, Pv xs.length σ H → D.nx σ H) :
    ∃ b, V.ref a = .ref b ∧ (∃ xs, SqL K H b xs) ∧ ForW (Itl K b) σ H g tb D := ⟨a, rfl, ⟨xs, h⟩, for_list Pv h0 hl hs hd⟩
theorem w_forR {lo : Int} {n : Nat} {g : TG} {tb : TS} (Pv : Nat → L2.St → Hp → Prop) (h0 : Pv 0 σ H)
    (hs : ∀ i σ H, i < n → Pv i σ H → g (.int (lo + (i : Nat))) σ H fun σ2 H2 => tb { D with nx := Pv (i + 1), ct := Pv (i + 1), bk := D.nx } σ2 H2) (hd : ∀ σ H, Pv n σ H → D.nx σ H) : ForW (Itr lo n) σ H g tb D := for_range Pv h0 hs hd
theorem w_forR1 {n : Int} {g : TG} {tb : TS} (h : -(2 ^ 62) ≤ n ∧ n < 2 ^ 62) (k : ForW (Itr 0 n.toNat) σ H g tb D) : ∃ j : Int, [V.int n] = [.int j] ∧ -(2 ^ 62) ≤ j ∧ j < 2 ^ 62 ∧ ForW (Itr 0 j.toNat) σ H g tb D := ⟨n, rfl, h.1, h.2, k⟩
theorem w_forR2 {m n : Int} {g : TG} {tb : TS} (h : -(2 ^ 62) ≤ m ∧ m < 2 ^ 62 ∧ -(2 ^ 62) ≤ n ∧ n < 2 ^ 62) (k : ForW (Itr m (n - m).toNat) σ H g tb D) : ∃ i j : Int, [V.int m, V.int n] = [.int i, .int j] ∧ (-(2 ^ 62) ≤ i ∧ i < 2 ^ 62 ∧ -(2 ^ 62) ≤ j ∧ j < 2 ^ 62) ∧ ForW (Itr i (j - i).toNat) σ H g tb D := ⟨m, n, rfl, h, k⟩
theorem w_forC {lo c : Int} {n : Nat} {g : TG} {tb : TS} (Pv : Nat → L2.St → Hp → Prop) (h0 : Pv 0 σ H)
    (hs : ∀ i σ H, i < n → Pv i σ H → g (.int (lo + (i : Nat) * c)) σ H fun σ2 H2 => tb { D with nx := Pv (i + 1), ct := Pv (i + 1), bk := D.nx } σ2 H2) (hd : ∀ σ H, Pv n σ H → D.nx σ H) : ForW (Itc lo c n) σ H g tb D := for_rangeC Pv h0 hs hd
/-- reversed(range(n)): the places from the last on -/
theorem w_forV {n : Nat} {g : TG} {tb : TS} (hn : n ≤ 1000000) (Pv : Nat → L2.St → Hp → Prop) (h0 : Pv 0 σ H)
    (hs : ∀ i σ H, i < n → Pv i σ H → g (.int ((n - 1 - i : Nat) : Int)) σ H fun σ2 H2 => tb { D with nx := Pv (i + 1), ct := Pv (i + 1), bk := D.nx } σ2 H2) (hd : ∀ σ H, Pv n σ H → D.nx σ H) :
    ∃ m, V.int (n : Int) = .int m ∧ -(2 ^ 62) ≤ (0 : Int) ∧ (0 : Int) < 2 ^ 62 ∧ -(2 ^ 62) ≤ m ∧ m < 2 ^ 62 ∧ ForW (Itc (0 + (((m - 0).toNat : Nat) : Int) - 1) (-1) (m - 0).toNat) σ H g tb D := by
  refine ⟨(n : Int), rfl, by omega, by omega, by omega, by omega, ?_⟩
  have e : ((n : Int) - 0).toNat = n := by omega
  rw [e]
  refine w_forC Pv h0 (fun i σ H hi p => ?_) hd
  have e2 : 0 + (n : Int) - 1 + (i : Nat) * (-1) = ((n - 1 - i : Nat) : Int) := by omega
  rw [e2]
  exact hs i σ H hi p
theorem w_while {c : TT} (Pv : Nat → L2.St → Hp → Prop) (m0 : Nat) (h0 : Pv m0 σ H) (hs : ∀ m σ H, Pv m σ H → c σ H fun b H1 => if b = true then ∃ N : L2.St → Hp → Prop, (∀ σ' H', N σ' H' → ∃ m', m' < m ∧ Pv m' σ' H') ∧ t { D with nx := N, ct := N, bk := D.nx } σ H1 else D.nx σ H1) : tWhile c t D σ H := ⟨Pv, ⟨m0, h0⟩, hs⟩
theorem w_N {m : Nat} {Pv : Nat → L2.St → Hp → Prop} (k : t { D with nx := fun σ' H' => ∃ m', m' < m ∧ Pv m' σ' H', ct := fun σ' H' => ∃ m', m' < m ∧ Pv m' σ' H', bk := D.nx } σ H) : ∃ N : L2.St → Hp → Prop, (∀ σ' H', N σ' H' → ∃ m', m' < m ∧ Pv m' σ' H') ∧ t { D with nx := N, ct := N, bk := D.nx } σ H := ⟨_, fun _ _ n => n, k⟩
/-! comprehensions: Dl the new list -/
theorem w_lcT {a : Addr} {xs : List V} {g : TG} {tt : TT} {vs : List Nat} (h : SqT K H a xs) (Pv : Addr → Nat → Hp → Prop) (h0 : ∀ Dl, H Dl = none → Pv Dl 0 (upd H Dl (.lst []))) (hl : ∀ Dl i H', i ≤ xs.length → Pv Dl i H' → SqT K H' a xs)
    (hs : ∀ Dl i x H', xs[i]? = some x → Pv Dl i H' → g x (wipe σ vs) H' fun σ2 H2 => wipe σ2 vs = wipe σ vs ∧ tt σ2 H2 fun b H3 => if b = true then te σ2 H3 fun y H4 => ∃ acc, H4 Dl = some (.lst acc) ∧ acc.length < sizeLine ∧ Pv Dl (i + 1) (upd H4 Dl (.lst (acc ++ [y]))) else Pv Dl (i + 1) H3)
    (hd : ∀ Dl H', Pv Dl xs.length H' → Q (.ref Dl) H') : ∃ b, V.ref a = .ref b ∧ (∃ xs, SqT K H b xs) ∧ LcW (Itt K b) σ H g tt te vs Q :=
  ⟨a, rfl, ⟨xs, h⟩, fun Dl hD => lc_tup (Pv Dl) (h0 Dl hD) (hl Dl) (hs Dl) (hd Dl)⟩
theorem w_lcL {a : Addr} {xs : List V} {g : TG} {tt : TT} {vs : List Nat} (h : SqL K H a xs) (Pv : Addr → Nat → Hp → Prop) (h0 : ∀ Dl, H Dl = none → Pv Dl 0 (upd H Dl (.lst []))) (hl : ∀ Dl i H', i ≤ xs.length → Pv Dl i H' → SqL K H' a xs)
    (hs : ∀ Dl i x H', xs[i]? = some x → Pv Dl i H' → g x (wipe σ vs) H' fun σ2 H2 => wipe σ2 vs = wipe σ vs ∧ tt σ2 H2 fun b H3 => if b = true then te σ2 H3 fun y H4 => ∃ acc, H4 Dl = some (.lst acc) ∧ acc.length < sizeLine ∧ Pv Dl (i + 1) (upd H4 Dl (.lst (acc ++ [y]))) else Pv Dl (i + 1) H3)
    (hd : ∀ Dl H', Pv Dl xs.length H' → Q (.ref Dl) H') : ∃ b, V.ref a = .ref b ∧ (∃ xs, SqL K H b xs) ∧ LcW (Itl K b) σ H g tt te vs Q :=
  ⟨a, rfl, ⟨xs, h⟩, fun Dl hD => lc_list (Pv Dl) (h0 Dl hD) (hl Dl) (hs Dl) (hd Dl)⟩
theorem w_lcR {lo : Int} {n : Nat} {g : TG} {tt : TT} {vs : List Nat} (Pv : Addr → Nat → Hp → Prop) (h0 : ∀ Dl, H Dl = none → Pv Dl 0 (upd H Dl (.lst [])))
    (hs : ∀ Dl i H', i < n → Pv Dl i H' → g (.int (lo + (i : Nat))) (wipe σ vs) H' fun σ2 H2 => wipe σ2 vs = wipe σ vs ∧ tt σ2 H2 fun b H3 => if b = true then te σ2 H3 fun y H4 => ∃ acc, H4 Dl = some (.lst acc) ∧ acc.length < sizeLine ∧ Pv Dl (i + 1) (upd H4 Dl (.lst (acc ++ [y]))) else Pv Dl (i + 1) H3)
    (hd : ∀ Dl H', Pv Dl n H' → Q (.ref Dl) H') : LcW (Itr lo n) σ H g tt te vs Q :=
  fun Dl hD => lc_range (Pv Dl) (h0 Dl hD) (hs Dl) (hd Dl)
theorem w_lcR1 {n : Int} {g : TG} {tt : TT} {vs : List Nat} (h : -(2 ^ 62) ≤ n ∧ n < 2 ^ 62) (k : LcW (Itr 0 n.toNat) σ H g tt te vs Q) : ∃ j : Int, [V.int n] = [.int j] ∧ -(2 ^ 62) ≤ j ∧ j < 2 ^ 62 ∧ LcW (Itr 0 j.toNat) σ H g tt te vs Q := ⟨n, rfl, h.1, h.2, k⟩
theorem w_lcR2 {m n : Int} {g : TG} {tt : TT} {vs : List Nat} (h : -(2 ^ 62) ≤ m ∧ m < 2 ^ 62 ∧ -(2 ^ 62) ≤ n ∧ n < 2 ^ 62) (k : LcW (Itr m (n - m).toNat) σ H g tt te vs Q) : ∃ i j : Int, [V.int m, V.int n] = [.int i, .int j] ∧ (-(2 ^ 62) ≤ i ∧ i < 2 ^ 62 ∧ -(2 ^ 62) ≤ j ∧ j < 2 ^ 62) ∧ LcW (Itr i (j - i).toNat) σ H g tt te vs Q := ⟨m, n, rfl, h, k⟩
theorem w_yes (k : R true H) : tYes σ H R := k
theorem w_gT {a : Addr} {xs : List V} {n : Nat} {g : TGs} {QG : L2.St → Hp → Prop} (h : SqT K H a xs) (hl : xs.length = n) (k : g xs σ H QG) : gTup K n g (.ref a) σ H QG := ⟨a, xs, rfl, h, hl, k⟩
theorem w_gC {g : TG} {gs : TGs} {vs : List V} {QG : L2.St → Hp → Prop} (k : g v σ H fun σ' H' => gs vs σ' H' QG) : gCons g gs (v :: vs) σ H QG := ⟨v, vs, rfl, k⟩
theorem w_gN {QG : L2.St → Hp → Prop} (k : QG σ H) : gNil [] σ H QG := ⟨rfl, k⟩
theorem w_gS {r3 : TSet} {QG : L2.St → Hp → Prop} (k : tb σ H fun o H1 => tc σ H1 fun j H2 => r3 o j v H2 fun H3 => QG σ H3) : gSub tb tc r3 v σ H QG := k
theorem w_gn {QG : L2.St → Hp → Prop} (k : QG (σ.set i (some v)) H) : gName i v σ H QG := k
/-! dicts -/
theorem w_dgI {a : Addr} {kvs : List (Key × V)} {n : Int} (h : H a = some (.dK kvs)) (hv : valV kvs (Sum.inl n) = some v) (k : Q v H) : DgW (.ref a) (.int n) H Q :=
  ⟨a, v, rfl, by rw [← hv]; exact DGet.k (k := Sum.inl n) h, k⟩
theorem w_dgS {a : Addr} {kvs : List (Key × V)} {z : Str} (h : H a = some (.dK kvs)) (hv : valV kvs (Sum.inr z) = some v) (k : Q v H) : DgW (.ref a) (.str z) H Q :=
  ⟨a, v, rfl, by rw [← hv]; exact DGet.k (k := Sum.inr z) h, k⟩
theorem w_dpI {a : Addr} {kvs : List (Key × V)} {n : Int} {P : Hp → Prop} (h : H a = some (.dK kvs)) (hl : kvs.length < sizeLine) (k : ∀ H1, But a H H1 → H1 a = some (.dK (putK kvs (Sum.inl n) v)) → P H1) : DpW (.ref a) (.int n) v H P :=
  ⟨a, _, rfl, DPut.k (k := Sum.inl n) h hl, k _ but_upd upd_same⟩
/-! fields -/
theorem w_fldV {C a dx : Addr} {fs : List (Str × V)} {f : Str} (h : H a = some (.ins C dx fs)) (hc : Cls K C) (hn : NoAttr K C f) (hl : fs.lookup f = some v) (k : Q v H) : FldW K f (.ref a) H Q :=
  ⟨a, C, dx, fs, v, rfl, h, hc, hn, hl, k⟩
theorem w_sfldV {C a dx : Addr} {fs : List (Str × V)} {f : Str} {P : Hp → Prop} (h : H a = some (.ins C dx fs)) (hc : Cls K C) (hn : NoAttr K C f) (hl : fs.length < 1000) (k : ∀ H1, But a H H1 → H1 a = some (.ins C dx (putF f v fs)) → P H1) : SfW K f (.ref a) v H P :=
  ⟨a, C, dx, fs, rfl, h, hc, hn, hl, k _ but_upd upd_same⟩
/-- if with a known side -/
theorem w_T {A B : Prop} (h : A) : if true = true then A else B := iteT h
theorem w_F {A B : Prop} (h : B) : if false = true then A else B := iteF h
theorem w_2 {b : Bool} {A B : Prop} (h1 : b = true → A) (h2 : b = false → B) : if b = true then A else B := by
  cases b with
  | true => exact iteT (h1 rfl)
  | false => exact iteF (h2 rfl)
end
/-! ### defs, methods, the class, as the top leaves them -/
structure Glo (K : PySem.W.Frag) (mg : Str → Option Value) (x : Str) (st : Stmt) (ps : List Str) : Prop where
  ex : ∃ (f : Addr) (fd : FuncData), Fun K x x st f fd ∧ mg x = some (.ref f) ∧ Binds K fd ps []
structure Mth (K : PySem.W.Frag) (C : Addr) (m qual : Str) (st : Stmt) (ps : List Str) : Prop where
  ex : ∃ (f : Addr) (fd : FuncData), Fun K m qual st f fd ∧ Meth K C m f ∧ Binds K fd ps []
structure Ini (K : PySem.W.Frag) (mg : Str → Option Value) (C : Addr) (x : Str) (st : Stmt) (ps : List Str) : Prop where
  ex : ∃ (f : Addr) (fd : FuncData), Fun K "__init__" "Reader.__init__" st f fd ∧ Mk K C f ∧ mg x = some (.ref C) ∧ Binds K fd ps []
/-- the built-ins and constants that the text reads -/
structure Tx (K : PySem.W.Frag) (mg : Str → Option Value) (C ea : Addr) : Prop where
  b_len : mg "len" = none
  b_tuple : mg "tuple" = none
  b_reversed : mg "reversed" = none
  b_range : mg "range" = none
  b_any : mg "any" = none
  b_enumerate : mg "enumerate" = none
  b_isinstance : mg "isinstance" = none
  b_int : mg "int" = none
  b_list : mg "list" = none
  b_sorted : mg "sorted" = none
  b_str : mg "str" = none
  deep : ∃ u, mg "DEEPEST" = some u ∧ RelV (.int 20) u
  letters : ∃ u, mg "LETTERS" = some u ∧ RelV (.str "abcdefghijklmnopqrstuvwxyz") u
  esc : ∃ u, mg "ESCAPES" = some u ∧ RelV (.ref ea) u
  escT : ∀ H : Hp, SqT K H ea [.str "&l;", .str "&a;"]
  cl : Cls K C
  nBook : NoAttr K C "book"
  nNames : NoAttr K C "names"
  nHeaps : NoAttr K C "heaps"
  nWaiting : NoAttr K C "waiting"
  nMends : NoAttr K C "mends"
section
variable {P : Program} {w : World} {K : PySem.W.Frag} {mg : Str → Option Value} {base : Heap} {C : Addr}
theorem Glo.cal {x : Str} {st : Stmt} {N ps : List Str} {k : Nat} {sp : Sp} (g : Glo K mg x st ps) (S : FnScope N ps (defScope st)) (len : ∀ vs H Q E, sp vs H Q E → vs.length = ps.length)
    (hbody : ∀ (f : Addr) (cdv : Value) (A : Around) (outer : List Env) (s : Shared) (H : Hp) (vs : List V) (Q : VK) (E : XK), Room k (A.deeper (envOfC x (defScope st) s.heap.objs.size f cdv)) → sp vs H Q E →
      ∃ t, PSs (cxOf CX0 P w K mg base N x (defScope st) f cdv A outer s H E).nox (defBody st) t ∧ t { nx := fun _ H' => Q .non H', rt := Q } (start N vs) H) : C8.Cal P w K mg base (k + 1) x sp [] := by
  obtain ⟨f, fd, F, hm, b⟩ := g.ex
  exact ⟨f, fd, ps, [], F.ok S len (hbody f), hm, F.kp, b, .nil⟩
theorem cal_mono {x : Str} {k j : Nat} {sp : Sp} (c : C8.Cal P w K mg base k x sp []) (h : k ≤ j) : C8.Cal P w K mg base j x sp [] := by
  obtain ⟨f, fd, ps, ds, F, a⟩ := c.ex
  exact ⟨f, fd, ps, ds, F.mono h, a⟩
theorem cal_imp {x : Str} {k : Nat} {sp sp' : Sp} (c : C8.Cal P w K mg base k x sp []) (h : ∀ vs H Q E, sp' vs H Q E → sp vs H Q E) : C8.Cal P w K mg base k x sp' [] := by
  obtain ⟨f, fd, ps, ds, F, a⟩ := c.ex
  exact ⟨f, fd, ps, ds, F.imp h, a⟩
theorem Glo.never {x : Str} {st : Stmt} {ps : List Str} {k : Nat} {sp : Sp} (g : Glo K mg x st ps) (no : ∀ vs H Q E, ¬ sp vs H Q E) : C8.Cal P w K mg base k x sp [] := by
  obtain ⟨f, fd, F, hm, b⟩ := g.ex
  exact ⟨f, fd, ps, [], ⟨fun vs H Q E h => absurd h (no vs H Q E), fun A outer s H args us vs Q E _ _ _ _ h => absurd h (no vs H Q E)⟩, hm, F.kp, b, .nil⟩
theorem Mth.met {m qual : Str} {st : Stmt} {N ps : List Str} {k : Nat} {sp : Sp} (g : Mth K C m qual st ps) (c : Cls K C) (S : FnScope N ps (defScope st)) (len : ∀ vs H Q E, sp vs H Q E → vs.length = ps.length)
    (hbody : ∀ (f : Addr) (cdv : Value) (A : Around) (outer : List Env) (s : Shared) (H : Hp) (vs : List V) (Q : VK) (E : XK), Room k (A.deeper (envOfC qual (defScope st) s.heap.objs.size f cdv)) → sp vs H Q E →
      ∃ t, PSs (cxOf CX0 P w K mg base N qual (defScope st) f cdv A outer s H E).nox (defBody st) t ∧ t { nx := fun _ H' => Q .non H', rt := Q } (start N vs) H) : C8.Met P w K mg base (k + 1) C m sp [] := by
  obtain ⟨f, fd, F, hm, b⟩ := g.ex
  exact ⟨f, fd, ps, [], c, hm, F.ok S len (hbody f), b, .nil⟩
theorem Ini.mak {st : Stmt} {N ps : List Str} {k : Nat} {x : Str} {sp : Sp} (g : Ini K mg C x st ps) (S : FnScope N ps (defScope st)) (len : ∀ vs H Q E, sp vs H Q E → vs.length = ps.length)
    (hbody : ∀ (f : Addr) (cdv : Value) (A : Around) (outer : List Env) (s : Shared) (H : Hp) (vs : List V) (Q : VK) (E : XK), Room k (A.deeper (envOfC "Reader.__init__" (defScope st) s.heap.objs.size f cdv)) → sp vs H Q E →
      ∃ t, PSs (cxOf CX0 P w K mg base N "Reader.__init__" (defScope st) f cdv A outer s H E).nox (defBody st) t ∧ t { nx := fun _ H' => Q .non H', rt := Q } (start N vs) H) : C8.Mak P w K mg base (k + 1) x C sp [] := by
  obtain ⟨f, fd, F, M, hm, b⟩ := g.ex
  exact ⟨f, fd, ps, [], M, F.ok S len (hbody f), hm, b, .nil⟩
end
structure Defs (K : PySem.W.Frag) (mg : Str → Option Value) (C : Addr) : Prop where
  d_row_with : Glo K mg "row_with" s_row_with ["rows", "name"]
  d_sort_of : Glo K mg "sort_of" s_sort_of ["book", "name"]
  d_host_of : Glo K mg "host_of" s_host_of ["book", "name"]
  d_frame_of : Glo K mg "frame_of" s_frame_of ["book", "name"]
  d_belongs : Glo K mg "belongs" s_belongs ["book", "name", "frame"]
  d_near_of : Glo K mg "near_of" s_near_of ["book", "names"]
  d_is_wall : Glo K mg "is_wall" s_is_wall ["book", "name"]
  d_row_in : Glo K mg "row_in" s_row_in ["book", "name"]
  d_last_one : Glo K mg "last_one" s_last_one ["book", "names", "name"]
  d_closing : Glo K mg "closing" s_closing ["book", "names", "name"]
  d_hosts_in : Glo K mg "hosts_in" s_hosts_in ["book", "names"]
  d_shut_from : Glo K mg "shut_from" s_shut_from ["book", "names", "name"]
  d_wanted_by : Glo K mg "wanted_by" s_wanted_by ["book", "names", "name"]
  d_is_barred : Glo K mg "is_barred" s_is_barred ["book", "names", "name"]
  d_opening : Glo K mg "opening" s_opening ["book", "names", "name"]
  d_hosts_for : Glo K mg "hosts_for" s_hosts_for ["book", "names"]
  d_escaped : Glo K mg "escaped" s_escaped ["text"]
  d_told_by : Glo K mg "told_by" s_told_by ["run"]
  d_lone_ones : Glo K mg "lone_ones" s_lone_ones ["run"]
  d_tag_from : Glo K mg "tag_from" s_tag_from ["text", "start"]
  d_run_of : Glo K mg "run_of" s_run_of ["text", "start", "stop"]
  d_tokens_of : Glo K mg "tokens_of" s_tokens_of ["text"]
  d_R_init : Ini K mg C "Reader" s_R_init ["self", "book"]
  d_R_wall_key : Mth K C "wall_key" "Reader.wall_key" s_R_wall_key ["self"]
  d_R_lie_in : Mth K C "lie_in" "Reader.lie_in" s_R_lie_in ["self", "thing"]
  d_R_begin_one : Mth K C "begin_one" "Reader.begin_one" s_R_begin_one ["self", "name"]
  d_R_end_one : Mth K C "end_one" "Reader.end_one" s_R_end_one ["self"]
  d_R_put_open : Mth K C "put_open" "Reader.put_open" s_R_put_open ["self", "start", "name", "rule"]
  d_R_put_closed : Mth K C "put_closed" "Reader.put_closed" s_R_put_closed ["self", "start", "kept", "rule"]
  d_R_those_to_wait : Mth K C "those_to_wait" "Reader.those_to_wait" s_R_those_to_wait ["self", "kept"]
  d_R_open_token : Mth K C "open_token" "Reader.open_token" s_R_open_token ["self", "start", "stop", "name"]
  d_R_late_or_stray : Mth K C "late_or_stray" "Reader.late_or_stray" s_R_late_or_stray ["self", "name"]
  d_R_close_token : Mth K C "close_token" "Reader.close_token" s_R_close_token ["self", "start", "stop", "name"]
  d_R_open_anew : Mth K C "open_anew" "Reader.open_anew" s_R_open_anew ["self", "start"]
  d_R_run_token : Mth K C "run_token" "Reader.run_token" s_R_run_token ["self", "start", "stop", "told", "raw"]
  d_R_piece : Mth K C "piece" "Reader.piece" s_R_piece ["self", "kind", "start", "stop", "told", "raw"]
  d_R_finish : Mth K C "finish" "Reader.finish" s_R_finish ["self", "stop"]
  d_R_whole : Mth K C "whole" "Reader.whole" s_R_whole ["self"]
  d_read_text : Glo K mg "read_text" s_read_text ["book", "text"]
  d_l_cell_at : Glo K mg "_law_cell_at" s_l_cell_at ["_law_script", "_law_k"]
  d_l_mixed : Glo K mg "_law_mixed" s_l_mixed ["_law_cell", "_law_k"]
  d_l_letters : Glo K mg "_law_letters" s_l_letters ["_law_number"]
  d_l_names : Glo K mg "_law_names" s_l_names ["_law_cell"]
  d_l_sorts : Glo K mg "_law_sorts" s_l_sorts ["_law_script", "_law_names_here", "_law_count"]
  d_l_book : Glo K mg "_law_book" s_l_book ["_law_script"]
  d_l_row : Glo K mg "_law_row" s_l_row ["_law_book_here", "_law_name"]
  d_l_frame : Glo K mg "_law_frame" s_l_frame ["_law_book_here", "_law_name"]
  d_l_fence : Glo K mg "_law_fence" s_l_fence ["_law_book_here", "_law_name"]
  d_l_belongs : Glo K mg "_law_belongs" s_l_belongs ["_law_book_here", "_law_name", "_law_frame_here"]
  d_l_near : Glo K mg "_law_near" s_l_near ["_law_book_here", "_law_names_here"]
  d_l_last : Glo K mg "_law_last" s_l_last ["_law_book_here", "_law_names_here", "_law_name"]
  d_l_hosts : Glo K mg "_law_hosts" s_l_hosts ["_law_book_here", "_law_names_here"]
  d_l_wanted : Glo K mg "_law_wanted" s_l_wanted ["_law_book_here", "_law_names_here", "_law_name"]
  d_l_plan : Glo K mg "_law_plan" s_l_plan ["_law_book_here", "_law_names_here", "_law_name"]
  d_l_name_end : Glo K mg "_law_name_end" s_l_name_end ["_law_text_here", "_law_start"]
  d_l_tokens : Glo K mg "_law_tokens" s_l_tokens ["_law_text_here"]
  d_l_units : Glo K mg "_law_units" s_l_units ["_law_raw"]
  d_l_key : Glo K mg "_law_key" s_l_key ["_law_book_here", "_law_names_here"]
  d_l_begin : Glo K mg "_law_begin" s_l_begin ["_law_state", "_law_name"]
  d_l_lie : Glo K mg "_law_lie" s_l_lie ["_law_state", "_law_thing"]
  d_l_end : Glo K mg "_law_end" s_l_end ["_law_state"]
  d_l_shut : Glo K mg "_law_shut" s_l_shut ["_law_state", "_law_kept", "_law_at", "_law_rule", "_law_own"]
  d_l_open_tag : Glo K mg "_law_open_tag" s_l_open_tag ["_law_state", "_law_start", "_law_stop", "_law_name"]
  d_l_close_tag : Glo K mg "_law_close_tag" s_l_close_tag ["_law_state", "_law_start", "_law_stop", "_law_name"]
  d_l_anew : Glo K mg "_law_anew" s_l_anew ["_law_state", "_law_start"]
  d_l_run : Glo K mg "_law_run" s_l_run ["_law_state", "_law_start", "_law_raw"]
  d_l_read : Glo K mg "_law_read" s_l_read ["_law_book_here", "_law_text_here"]
  d_l_signs : Glo K mg "_law_signs" s_l_signs ["_law_number"]
  d_l_piece : Glo K mg "_law_piece" s_l_piece ["_law_script", "_law_cell", "_law_book_here", "_law_lately"]
  d_l_text : Glo K mg "_law_text" s_l_text ["_law_script", "_law_start", "_law_book_here"]
  d_law : Glo K mg "law" s_law ["_law_script"]
end Tg

/-! ### enumerate over a tuple, over a text (turned from the library's rules for a list) -/
namespace Tg
open PySem PySem.Spec PyProof.Rows L2
open Sem (wp)
set_option maxHeartbeats 4000000 in
theorem meets_enum1 {v : Value} {o : Obj} {H : Heap → Prop} (B : Begins v o H) :
    Meets (Builtin.«enumerate.__new__» ⟨[.type "enumerate", v], []⟩) (fun _ R s => H s.heap ∧
      R (.ok (.ret (.ref (s.heap.push o).objs.size))) { s with heap := (s.heap.push o).push { cls := .type "enumerate", data := .fields #[.none, .bool false, .ref s.heap.objs.size, rawInt 0, .none, .none] } }) :=
  .of_wp fun prog w A R s h => by
    obtain ⟨hp, g, d, tk, os⟩ := s; obtain ⟨h1, h⟩ := h
    have hsub := sub_enumerate
    have q1 : ∀ {A' : Around} {E : Value → Shared → Prop} {Q : Value → Shared → Prop}, Q (.ref hp.objs.size) ⟨hp.push o, g, d, tk, os⟩ → wpAny (model prog w) A' (pyIter v) Q E ⟨hp, g, d, tk, os⟩ :=
      fun q => B.iter prog w _ _ ⟨hp, g, d, tk, os⟩ _ h1 q
    wp_walk using q1
    refine wpAny_stack_any fun st => wpAny_pure ?_
    split
    · rename_i c _ _ _ _ _
      cases (c == Value.type "enumerate")
      · wp_walk using q1
        exact ⟨_, rfl, h⟩
      · wp_walk using q1
        exact ⟨_, rfl, h⟩
    · wp_walk using q1
      exact ⟨_, rfl, h⟩
section
variable {prog : Program} {w : World} {A : Around} {E : Value → Shared → Prop} {s : Shared}
theorem enum_begins1 {v : Value} {o : Obj} {H : Heap → Prop} {Q : Value → Shared → Prop} (B : Begins v o H) (h1 : H s.heap)
    (h : ∀ h', IsEnum h' (s.heap.objs.size + 1) s.heap.objs.size 0 .none → h'.get? s.heap.objs.size = some o → h'.objs.size = s.heap.objs.size + 2 →
      (∀ b o, s.heap.get? b = some o → h'.get? b = some o) → Q (.ref (s.heap.objs.size + 1)) { s with heap := h' }) :
    wpAny (model prog w) A (call (.type "enumerate") [v]) Q E s := by
  refine callType_new F.called_enumerate (by decide) (F.typeCall_enumerate_1 _) (F.newCall_enumerate_1 _) (fun obj => F.args_object_init_2 obj _) F.entry_enumerate_new
    (meets_enum1 B) ⟨h1, ?_⟩
  have hz : (s.heap.push o).objs.size = s.heap.objs.size + 1 := Heap.size_push ..
  show _ ∧ _
  rw [hz]
  have he : IsEnum ((s.heap.push o).push { cls := .type "enumerate", data := .fields #[.none, .bool false, .ref s.heap.objs.size, rawInt 0, .none, .none] }) (s.heap.objs.size + 1) s.heap.objs.size 0 .none := by
    have := Heap.get?_push_size (s.heap.push o) (o := { cls := .type "enumerate", data := .fields #[.none, .bool false, .ref s.heap.objs.size, rawInt 0, .none, .none] }) rfl
    rw [hz] at this; exact this
  refine ⟨⟨_, he, rfl⟩, h _ he (Heap.get?_push_of_some _ (Heap.get?_push_size _ B.free)) (by rw [Heap.size_push, hz]) fun b o x => Heap.get?_push_of_some _ (Heap.get?_push_of_some _ x)⟩
end
/-- what a turn of enumerate yields: a new pair -/
def ItE (n : Nat) (f : Nat → Option V) (Gd : Hp → Prop) : It :=
  ⟨fun i H => i < n ∧ Gd H, fun i H v H' => ∃ T x, v = .ref T ∧ H T = none ∧ H' = upd H T (.tup [.int (i : Nat), x]) ∧ f i = some x, fun i H => n ≤ i ∧ Gd H⟩
/-- the turns, by what the inner iterator draws -/
theorem turn_enumD {P : Program} {w : World} {K : PySem.W.Frag} {elts : List Expr} {kk : Nat} {tpos : Pos} (e it : Addr) {n : Nat} {f : Nat → Option V} {fp2 : List Addr} {Sl : Nat → Heap → Prop} {Gd : Hp → Prop}
    (hne : e ≠ it) (hef : e ∉ fp2)
    (hS : ∀ i h, Sl i h → (∃ o, h.get? it = some o ∧ ∀ v, o.data ≠ .cell v))
    (hk : ∀ i h h', Sl i h → (∀ o, h.get? it = some o → h'.get? it = some o) → Sl i h')
    (up : ∀ (X : Cx) (i : Nat) (pins : List (Addr × Obj)) (s : Shared) (σ : L2.St) (H : Hp), X.prog = P → X.w = w → X.K = K → Inv X pins σ H s → Gd H → Sl i s.heap → ∃ (Pd : Nat → Value → Prop) (St : Nat → Heap → Prop),
      (∀ A : Around, A.handled = none → Draws P w A it fp2 n Pd St) ∧ St i s.heap ∧ (∀ u, Pd i u → ∃ x, f i = some x ∧ RelV x u) ∧ (∀ j h, St j h → Sl j h) ∧ ∀ (j : Nat) (h h' : Heap), St j h → Heap.SameBut e h h' → St j h') :
    Turn P w K (.Tuple elts kk tpos) (ItE n f Gd) [e, it] e (fun i h => (∃ old, IsEnum h e it ((i : Nat) : Int) old) ∧ Sl i h ∧ i ≤ n) where
  mem := by simp
  obj := fun i h st b hb => by
    obtain ⟨⟨old, he⟩, hsl, _⟩ := st
    have e' : b = e ∨ b = it := by simpa using hb
    rcases e' with z | z
    · rw [z]; exact ⟨_, he, fun v q => nomatch q⟩
    · rw [z]; exact hS i h hsl
  keep := fun i h h' st k => let ⟨⟨old, he⟩, hi, hle⟩ := st; ⟨⟨old, k e (by simp) _ he⟩, hk i h h' hi fun o q => k it (by simp) o q, hle⟩
  item := by
    intro X hP' hw hK hc i pins s σ H E I hf st hg
    obtain ⟨Pd, St, D, hst, hP, down, stay⟩ := up X i pins s σ H hP' hw hK I hg.2 st.2.1
    subst hP' hw hK
    obtain ⟨⟨old, he⟩, hsl, hle⟩ := st
    have hlt : i < n := hg.1
    have hel : e < s.heap.objs.size := Heap.lt_size he
    have hil : it < s.heap.objs.size := by obtain ⟨_, q, _⟩ := hS _ _ hsl; exact Heap.lt_size q
    refine wpAny_pyNext_enum_itemC (D X.A.in1 (I.ok.hd hc)) he hst hlt hne hef fun u h' tk hPu ho hst' hT hsz hk' => ?_
    obtain ⟨x, hx, ru⟩ := hP u hPu
    refine ⟨_, rfl, wpAny_letOwnedTupleGo_enum (s := { s with heap := h', toks := tk + 1 }) ho fun h'' he' sb => ?_⟩
    have hT2 : h''.get? s.heap.objs.size = some { cls := .type "tuple", data := .seq #[.int i tk, u] } := (sb.2 _ (Nat.ne_of_gt hel)).trans hT
    have new : ObjOk X.prog X.w (upd H s.heap.objs.size (.tup [.int (i : Nat), x])) h'' s.heap.objs.size (.tup [.int (i : Nat), x]) :=
      ⟨by show 2 ≤ sizeLine; decide, [.int i tk, u], .cons ⟨_, rfl⟩ (.cons ru .nil), ⟨_, hT2, rfl, _, rfl⟩⟩
    have I1 : Inv X pins σ (upd H s.heap.objs.size (.tup [.int (i : Nat), x])) { s with heap := h'', toks := tk + 1 } :=
      I.turnedNew (ch := [e, it]) (fun b ob hb q => (sb.2 b (fun z => hb (by simp [z]))).trans (hk' b ob (fun z => hb (by simp [z])) (fun z => hb (by simp [z])) q)) hf (Nat.le_refl _) new
    refine ⟨.ref s.heap.objs.size, _, I1, rfl, ⟨_, x, rfl, I.hok.fresh (Nat.le_refl _), rfl, hx⟩, ⟨⟨u, ?_⟩, ?_, hlt⟩, fun b hb => ?_⟩
    · have e1 : ((i + 1 : Nat) : Int) = (i : Int) + 1 := by omega
      rw [e1]; exact he'
    · exact down _ _ (stay _ _ _ hst' sb)
    · have hb' : b < s.heap.objs.size := by
        have e' : b = e ∨ b = it := by simpa using hb
        rcases e' with z | z
        · rw [z]; exact hel
        · rw [z]; exact hil
      rw [upd_ne (Nat.ne_of_lt hb')]
      exact (hf b hb).1
  done := by
    intro X hP' hw hK hc i pins s σ H E I hf st hg
    obtain ⟨Pd, St, D, hst, hP, down, stay⟩ := up X i pins s σ H hP' hw hK I hg.2 st.2.1
    subst hP' hw hK
    obtain ⟨⟨old, he⟩, hsl, hle⟩ := st
    have hin : i = n := Nat.le_antisymm hle hg.1
    subst hin
    obtain ⟨f0, f1, f2, f3, f4, f5⟩ := hf it (by simp)
    refine wpAny_pyNext_enum_endD (D X.A.in1 (I.ok.hd hc)) he hst fun h' eb => ⟨rfl, I.turned (t' := s.toks) (fun b o hb q => eb b o hb q) f0 f1 f3 f4 f5⟩
  self := fun A i s Q E st h => let ⟨⟨_, he⟩, _⟩ := st; wpAny_pyIter_enum he h
def iEnumT (K : PySem.W.Frag) (ta : TA) : TI := fun σ H R => ta σ H fun vs H1 => ∃ a xs, vs = [.ref a] ∧ H1 a = some (.tup xs) ∧ R (ItE xs.length (fun i => xs[i]?) fun H => H a = some (.tup xs)) H1
def iEnumS (ta : TA) : TI := fun σ H R => ta σ H fun vs H1 => ∃ x, vs = [.str x] ∧ R (ItE x.cps.size (fun i => x.cps[i]?.map fun c => .str ⟨#[c]⟩) fun _ => True) H1
theorem pi_enumS {X : Cx} {e : Expr} {ta : TA} {p pos tpos : Pos} {elts : List Expr} {kk : Nat} (hg : Gl X "enumerate") (hm : X.mg "enumerate" = none) (ha : PA X [e] ta) (hs : starEach [e] X.env = [(false, eval e X.env)] := by rfl) :
    PI X (.Tuple elts kk tpos) (.Call (.Name "enumerate" p) [e] [] pos) (iEnumS ta) := by
  refine ⟨fun pins s σ H R I h => ?_⟩
  refine Call_ (ld_blt I hg hm boot_enumerate (PyProof.Rows.callWith_type1 (thn (ha.run pos pins s σ H _ I h) fun us s1 ⟨vs, H1, I1, r1, q1⟩ => ?_) hs rfl))
  obtain ⟨x, ex, q⟩ := q1
  subst ex
  cases r1 with
  | cons r rr =>
    cases rr
    obtain ⟨t, rfl⟩ := r
    refine enum_begins1 (begins_text x t) trivial fun h' he hit hsz hk => wpAny_pyIter_enum he ?_
    have I2 : Inv X pins σ H1 { s1 with heap := h' } := I1.kept (t' := s1.toks) hk
    refine ⟨s1.heap.objs.size + 1, [s1.heap.objs.size + 1, s1.heap.objs.size], _, _, H1, rfl, I2,
      turn_enumD (s1.heap.objs.size + 1) s1.heap.objs.size (n := x.cps.size) (f := fun i => x.cps[i]?.map fun c => .str ⟨#[c]⟩) (fp2 := [s1.heap.objs.size]) (Sl := fun i h => h.IsStrIter s1.heap.objs.size (strIterType x) x t i) (Nat.succ_ne_self _) (by simp)
        (fun i h ⟨o, ho, hc, hd⟩ => ⟨o, ho, fun v z => by rw [hd] at z; cases z⟩) (fun i h h' ⟨o, ho, hr⟩ k => ⟨o, k o ho, hr⟩)
        (fun X i pins s σ H _ _ _ _ _ h => ⟨_, _, fun A hh => Draws.text hh _ x t, h, fun u ⟨c, u', h1, h2⟩ => ⟨.str ⟨#[c]⟩, by rw [h1] <;> rfl, by rw [h2]; exact ⟨_, rfl⟩⟩, fun _ _ z => z, fun j h h' ⟨o, ho, hr⟩ sb => ⟨o, (sb.2 _ (Nat.succ_ne_self _).symm).trans ho, hr⟩⟩),
      ⟨⟨.none, he⟩, ⟨_, hit, rfl, rfl⟩, Nat.zero_le _⟩, fun b hb => ?_, q⟩
    · have e' : b = s1.heap.objs.size + 1 ∨ b = s1.heap.objs.size := by simpa using hb
      have hle : s1.heap.objs.size ≤ b := by
        rcases e' with z | z
        · rw [z]; exact Nat.le_add_right _ _
        · rw [z]; exact Nat.le_refl _
      exact I1.fpOk hle (I1.hok.fresh hle)
theorem pi_enumT {X : Cx} {e : Expr} {ta : TA} {p pos tpos : Pos} {elts : List Expr} {kk : Nat} (hg : Gl X "enumerate") (hm : X.mg "enumerate" = none) (ha : PA X [e] ta) (hs : starEach [e] X.env = [(false, eval e X.env)] := by rfl) :
    PI X (.Tuple elts kk tpos) (.Call (.Name "enumerate" p) [e] [] pos) (iEnumT X.K ta) := by
  refine ⟨fun pins s σ H R I h => ?_⟩
  refine Call_ (ld_blt I hg hm boot_enumerate (PyProof.Rows.callWith_type1 (thn (ha.run pos pins s σ H _ I h) fun us s1 ⟨vs, H1, I1, r1, q1⟩ => ?_) hs rfl))
  obtain ⟨a, xs, ex, hq, q⟩ := q1
  subst ex
  cases r1 with
  | cons r rr =>
    cases rr
    cases r
    obtain ⟨_, its, rv, htup⟩ := (show ObjOk X.prog X.w H1 s1.heap a (.tup xs) from I1.hok a _ hq)
    have hal : a < s1.heap.objs.size := by obtain ⟨o, ho, _⟩ := id htup; exact Heap.lt_size ho
    refine enum_begins1 (begins_tuple a its.toArray) htup fun h' he hit hsz hk => wpAny_pyIter_enum he ?_
    have I2 : Inv X pins σ H1 { s1 with heap := h' } := I1.kept (t' := s1.toks) hk
    have hlen : its.toArray.size = xs.length := by rw [List.size_toArray]; exact rv.length.symm
    refine ⟨s1.heap.objs.size + 1, [s1.heap.objs.size + 1, s1.heap.objs.size], _, _, H1, rfl, I2,
      turn_enumD (s1.heap.objs.size + 1) s1.heap.objs.size (n := xs.length) (f := fun i => xs[i]?) (Gd := fun H => H a = some (.tup xs)) (fp2 := [s1.heap.objs.size, a]) (Sl := fun i h => h.IsTupleIter s1.heap.objs.size a i) (Nat.succ_ne_self _) (fun z => ?_)
        (fun i h ⟨o, ho, hc, hd⟩ => ⟨o, ho, fun v z => by rw [hd] at z; cases z⟩)
        (fun i h h' ⟨o, ho, hr⟩ k => ⟨o, k o ho, hr⟩) (fun X2 i pins2 s2 σ2 H2 hp2 hw2 hk2 J hgd h => ?_),
      ⟨⟨.none, he⟩, ⟨_, hit, rfl, rfl⟩, Nat.zero_le _⟩, fun b hb => ?_, q⟩
    · rcases List.mem_cons.mp z with z | z
      · exact absurd z (Nat.succ_ne_self _)
      · have z := List.mem_singleton.mp z
        have : a < s1.heap.objs.size + 1 := Nat.lt_succ_of_lt hal
        rw [← z] at this
        exact absurd this (Nat.lt_irrefl _)
    · obtain ⟨_, its2, rv2, htup2⟩ := (show ObjOk X2.prog X2.w H2 s2.heap a (.tup xs) from J.hok a _ hgd)
      have hlen2 : its2.toArray.size = xs.length := by rw [List.size_toArray]; exact rv2.length.symm
      refine ⟨fun i v => its2.toArray[i]? = some v, fun i h => h.IsTupleIter s1.heap.objs.size a i ∧ h.IsTuple a its2.toArray, fun A hh => ?_, ⟨h, htup2⟩, fun u hu => ?_, fun j h z => z.1, fun j h h' st sb => ⟨?_, ?_⟩⟩
      · rw [← hlen2]
        exact Draws.tuple hh _ a (Nat.ne_of_lt hal) its2.toArray
      · have hu' : its2[i]? = some u := by simpa using hu
        have hi : i < xs.length := by
          have := (List.getElem?_eq_some_iff.mp hu').1
          rw [rv2.length]
          exact this
        have hx : xs[i]? = some xs[i] := List.getElem?_eq_getElem hi
        obtain ⟨u2, h1, h2⟩ := Vals.get rv2 hx
        rw [hu'] at h1
        cases h1
        exact ⟨_, hx, h2⟩
      · obtain ⟨⟨o, ho, hr⟩, _⟩ := st
        exact ⟨o, (sb.2 _ (Nat.succ_ne_self _).symm).trans ho, hr⟩
      · obtain ⟨_, o, ho, hr⟩ := st
        exact ⟨o, (sb.2 _ (Nat.ne_of_lt (Nat.lt_succ_of_lt hal))).trans ho, hr⟩
    · have e' : b = s1.heap.objs.size + 1 ∨ b = s1.heap.objs.size := by simpa using hb
      have hle : s1.heap.objs.size ≤ b := by
        rcases e' with z | z
        · rw [z]; exact Nat.le_add_right _ _
        · rw [z]; exact Nat.le_refl _
      exact I1.fpOk hle (I1.hok.fresh hle)
section
variable {σ : L2.St} {H : Hp} {D : Ends} {K : PySem.W.Frag} {ta : TA}
theorem w_iEnumT {RI : It → Hp → Prop} (k : ta σ H fun vs H1 => ∃ a xs, vs = [.ref a] ∧ H1 a = some (.tup xs) ∧ RI (ItE xs.length (fun i => xs[i]?) fun H => H a = some (.tup xs)) H1) : iEnumT K ta σ H RI := k
theorem w_iEnumS {RI : It → Hp → Prop} (k : ta σ H fun vs H1 => ∃ x, vs = [.str x] ∧ RI (ItE x.cps.size (fun i => x.cps[i]?.map fun c => .str ⟨#[c]⟩) fun _ => True) H1) : iEnumS ta σ H RI := k
theorem for_enumE {n : Nat} {f : Nat → Option V} {Gd : Hp → Prop} {g : TG} {tb : TS} (Pv : Nat → L2.St → Hp → Prop) (hf : ∀ i, i < n → ∃ x, f i = some x) (h0 : Pv 0 σ H) (hG : ∀ i σ H, i ≤ n → Pv i σ H → Gd H)
    (hs : ∀ i x σ H, i < n → f i = some x → Pv i σ H → ∀ T, H T = none → g (.ref T) σ (upd H T (.tup [.int (i : Nat), x])) fun σ2 H2 => tb { D with nx := Pv (i + 1), ct := Pv (i + 1), bk := D.nx } σ2 H2) (hd : ∀ σ H, Pv n σ H → D.nx σ H) :
    ForW (ItE n f Gd) σ H g tb D := by
  refine ⟨fun i m σ H => m = n - i ∧ i ≤ n ∧ Pv i σ H, ⟨n, by simp, Nat.zero_le _, h0⟩, ?_⟩
  rintro i m σ H ⟨rfl, hi, p⟩
  have q := hG i σ H hi p
  by_cases hlt : i < n
  · refine .inr ⟨⟨hlt, q⟩, Pv (i + 1), fun σ' H' p' => ⟨n - (i + 1), by omega, rfl, hlt, p'⟩, fun x H' y => ?_⟩
    obtain ⟨T, y', e1, e2, e3, e4⟩ := y
    subst e1 e3
    exact hs i y' σ H hlt e4 p T e2
  · have e : i = n := by omega
    subst e
    exact .inl ⟨⟨Nat.le_refl _, q⟩, hd σ H p⟩
theorem w_forET {a : Addr} {xs : List V} {g : TG} {tb : TS} (h : H a = some (.tup xs)) (Pv : Nat → L2.St → Hp → Prop) (h0 : Pv 0 σ H) (hG : ∀ i σ H, i ≤ xs.length → Pv i σ H → H a = some (.tup xs))
    (hs : ∀ i x σ H, xs[i]? = some x → Pv i σ H → ∀ T, H T = none → g (.ref T) σ (upd H T (.tup [.int (i : Nat), x])) fun σ2 H2 => tb { D with nx := Pv (i + 1), ct := Pv (i + 1), bk := D.nx } σ2 H2) (hd : ∀ σ H, Pv xs.length σ H → D.nx σ H) :
    ∃ b ys, [V.ref a] = [.ref b] ∧ H b = some (.tup ys) ∧ ForW (ItE ys.length (fun i => ys[i]?) fun H => H b = some (.tup ys)) σ H g tb D :=
  ⟨a, xs, rfl, h, for_enumE Pv (fun i hi => ⟨xs[i], List.getElem?_eq_getElem hi⟩) h0 hG (fun i x σ H _ e p T hT => hs i x σ H e p T hT) hd⟩
theorem w_forES {z : Str} {g : TG} {tb : TS} (Pv : Nat → L2.St → Hp → Prop) (h0 : Pv 0 σ H)
    (hs : ∀ i c σ H, z.cps.toList[i]? = some c → Pv i σ H → ∀ T, H T = none → g (.ref T) σ (upd H T (.tup [.int (i : Nat), .str ⟨#[c]⟩])) fun σ2 H2 => tb { D with nx := Pv (i + 1), ct := Pv (i + 1), bk := D.nx } σ2 H2) (hd : ∀ σ H, Pv z.cps.toList.length σ H → D.nx σ H) :
    ∃ x, [V.str z] = [.str x] ∧ ForW (ItE x.cps.size (fun i => x.cps[i]?.map fun c => .str ⟨#[c]⟩) fun _ => True) σ H g tb D := by
  refine ⟨z, rfl, for_enumE Pv (fun i hi => ⟨.str ⟨#[z.cps[i]]⟩, by rw [Array.getElem?_eq_getElem hi] <;> rfl⟩) h0 (fun _ _ _ _ _ => trivial) (fun i x σ H _ e p T hT => ?_) (by simpa using hd)⟩
  cases e2 : z.cps[i]? with
  | none =>
    rw [e2] at e
    cases e
  | some c =>
    rw [e2] at e
    have e3 : V.str ⟨#[c]⟩ = x := Option.some.inj e
    rw [← e3]
    exact hs i c σ H (by simpa using e2) p T hT
end
end Tg

local macro_rules | `(tactic| walk_at "go1") => `(tactic| with_reducible refine Tg.w_iEnumS ?_)
local macro_rules | `(tactic| walk_at "go1") => `(tactic| with_reducible refine Tg.w_iEnumT ?_)
local macro_rules | `(tactic| walk_at "go1") => `(tactic| with_reducible refine Tg.w_gN ?_)
local macro_rules | `(tactic| walk_at "go1") => `(tactic| with_reducible refine Tg.w_gC ?_)
local macro_rules | `(tactic| walk_at "go1") => `(tactic| with_reducible refine Tg.w_yes ?_)
local macro_rules | `(tactic| walk_at "go1") => `(tactic| with_reducible refine Tg.w_gS ?_)
local macro_rules | `(tactic| walk_at "go1") => `(tactic| with_reducible refine Tg.w_gn ?_)
local macro_rules | `(tactic| walk_at "go1") => `(tactic| with_reducible refine Tg.w_lc ?_)
local macro_rules | `(tactic| walk_at "go1") => `(tactic| with_reducible refine Tg.w_asg ?_)
local macro_rules | `(tactic| walk_at "go1") => `(tactic| with_reducible refine Tg.w_F ?_)
local macro_rules | `(tactic| walk_at "go1") => `(tactic| with_reducible refine Tg.w_T ?_)
local macro_rules | `(tactic| walk_at "go1") => `(tactic| ((with_reducible refine Tg.w_aug (v := ?vv) ?hv ?kk); (case hv => exact rfl)))
local macro_rules | `(tactic| walk_at "go1") => `(tactic| with_reducible refine Tg.w_ipI ?_)
local macro_rules | `(tactic| walk_at "go1") => `(tactic| with_reducible refine Tg.w_intB ?_)
local macro_rules | `(tactic| walk_at "go1") => `(tactic| with_reducible refine Tg.w_find3 ?_)
local macro_rules | `(tactic| walk_at "go1") => `(tactic| with_reducible refine Tg.w_find ?_)
local macro_rules | `(tactic| walk_at "go1") => `(tactic| with_reducible refine Tg.w_notInS ?_)
local macro_rules | `(tactic| walk_at "go1") => `(tactic| with_reducible refine Tg.w_inS ?_)
local macro_rules | `(tactic| walk_at "go1") => `(tactic| with_reducible refine Tg.w_dput ?_)
local macro_rules | `(tactic| walk_at "go1") => `(tactic| with_reducible refine Tg.w_dget ?_)
local macro_rules | `(tactic| walk_at "go1") => `(tactic| with_reducible refine Tg.w_sfld ?_)
local macro_rules | `(tactic| walk_at "go1") => `(tactic| with_reducible refine Tg.w_chain ?_)
local macro_rules | `(tactic| walk_at "go1") => `(tactic| with_reducible refine Tg.w_notV ?_)
local macro_rules | `(tactic| walk_at "go1") => `(tactic| with_reducible refine Tg.w_andV ?_)
local macro_rules | `(tactic| walk_at "go1") => `(tactic| with_reducible refine Tg.w_not ?_)
local macro_rules | `(tactic| walk_at "go1") => `(tactic| with_reducible refine Tg.w_or ?_)
local macro_rules | `(tactic| walk_at "go1") => `(tactic| with_reducible refine Tg.w_and ?_)
local macro_rules | `(tactic| walk_at "go1") => `(tactic| with_reducible refine Tg.w_B ?_)
local macro_rules | `(tactic| walk_at "go1") => `(tactic| with_reducible refine Tg.w_neg ?_)
local macro_rules | `(tactic| walk_at "go1") => `(tactic| with_reducible refine Tg.w_un ?_)
local macro_rules | `(tactic| walk_at "go1") => `(tactic| with_reducible refine Tg.w_exI ?_)
local macro_rules | `(tactic| walk_at "go1") => `(tactic| with_reducible refine Tg.w_part ?_)
local macro_rules | `(tactic| walk_at "go1") => `(tactic| with_reducible refine Tg.w_noP ?_)
local macro_rules | `(tactic| walk_at "go1") => `(tactic| with_reducible refine Tg.w_sl ?_)
local macro_rules | `(tactic| walk_at "go1") => `(tactic| with_reducible refine Tg.w_tySt ?_)
local macro_rules | `(tactic| walk_at "go1") => `(tactic| with_reducible refine Tg.w_tyS ?_)
local macro_rules | `(tactic| walk_at "go1") => `(tactic| with_reducible refine Tg.w_m1 ?_)
local macro_rules | `(tactic| walk_at "go1") => `(tactic| with_reducible refine Tg.w_bm0 ?_)
local macro_rules | `(tactic| walk_at "go1") => `(tactic| with_reducible refine Tg.w_bm ?_)
local macro_rules | `(tactic| walk_at "go1") => `(tactic| with_reducible refine Tg.w_drop ?_)
local macro_rules | `(tactic| walk_at "go1") => `(tactic| with_reducible refine Tg.w_meth ?_)
local macro_rules | `(tactic| walk_at "go1") => `(tactic| with_reducible refine Tg.w_fld ?_)
local macro_rules | `(tactic| walk_at "go1") => `(tactic| with_reducible refine Tg.w_lst ?_)
local macro_rules | `(tactic| walk_at "go1") => `(tactic| with_reducible refine Tg.w_tup ?_)
local macro_rules | `(tactic| walk_at "go1") => `(tactic| with_reducible refine Tg.w_rg2 ?_)
local macro_rules | `(tactic| walk_at "go1") => `(tactic| with_reducible refine Tg.w_rg1 ?_)
local macro_rules | `(tactic| walk_at "go1") => `(tactic| with_reducible refine Tg.w_iRevR ?_)
local macro_rules | `(tactic| walk_at "go1") => `(tactic| with_reducible refine Tg.w_iRng2 ?_)
local macro_rules | `(tactic| walk_at "go1") => `(tactic| with_reducible refine Tg.w_iRng1 ?_)
local macro_rules | `(tactic| walk_at "go1") => `(tactic| with_reducible refine Tg.w_iStr ?_)
local macro_rules | `(tactic| walk_at "go1") => `(tactic| with_reducible refine Tg.w_iList ?_)
local macro_rules | `(tactic| walk_at "go1") => `(tactic| with_reducible refine Tg.w_iTup ?_)
local macro_rules | `(tactic| walk_at "go1") => `(tactic| with_reducible refine Tg.w_for ?_)
local macro_rules | `(tactic| walk_at "go1") => `(tactic| with_reducible refine Tg.w_brk ?_)
local macro_rules | `(tactic| walk_at "go1") => `(tactic| with_reducible refine Tg.w_next ?_)
local macro_rules | `(tactic| walk_at "go1") => `(tactic| with_reducible refine Tg.w_retN ?_)
local macro_rules | `(tactic| walk_at "go1") => `(tactic| with_reducible refine Tg.w_ret ?_)
local macro_rules | `(tactic| walk_at "go1") => `(tactic| with_reducible refine Tg.w_I0 ?_)
local macro_rules | `(tactic| walk_at "go1") => `(tactic| with_reducible refine Tg.w_notNoi ?_)
local macro_rules | `(tactic| walk_at "go1") => `(tactic| with_reducible refine Tg.w_isNoi ?_)
local macro_rules | `(tactic| walk_at "go1") => `(tactic| with_reducible refine Tg.w_notNo ?_)
local macro_rules | `(tactic| walk_at "go1") => `(tactic| with_reducible refine Tg.w_isNo ?_)
local macro_rules | `(tactic| walk_at "go1") => `(tactic| with_reducible refine Tg.w_notNs ?_)
local macro_rules | `(tactic| walk_at "go1") => `(tactic| with_reducible refine Tg.w_isNs ?_)
local macro_rules | `(tactic| walk_at "go1") => `(tactic| with_reducible refine Tg.w_notNi ?_)
local macro_rules | `(tactic| walk_at "go1") => `(tactic| with_reducible refine Tg.w_isNi ?_)
local macro_rules | `(tactic| walk_at "go1") => `(tactic| with_reducible refine Tg.w_notNr ?_)
local macro_rules | `(tactic| walk_at "go1") => `(tactic| with_reducible refine Tg.w_notNn ?_)
local macro_rules | `(tactic| walk_at "go1") => `(tactic| with_reducible refine Tg.w_isNr ?_)
local macro_rules | `(tactic| walk_at "go1") => `(tactic| with_reducible refine Tg.w_isNn ?_)
local macro_rules | `(tactic| walk_at "go1") => `(tactic| with_reducible refine Tg.w_neI ?_)
local macro_rules | `(tactic| walk_at "go1") => `(tactic| with_reducible refine Tg.w_eqI ?_)
local macro_rules | `(tactic| walk_at "go1") => `(tactic| with_reducible refine Tg.w_neO ?_)
local macro_rules | `(tactic| walk_at "go1") => `(tactic| with_reducible refine Tg.w_eqO ?_)
local macro_rules | `(tactic| walk_at "go1") => `(tactic| with_reducible refine Tg.w_neS ?_)
local macro_rules | `(tactic| walk_at "go1") => `(tactic| with_reducible refine Tg.w_eqS ?_)
local macro_rules | `(tactic| walk_at "go1") => `(tactic| with_reducible refine Tg.w_exB ?_)
local macro_rules | `(tactic| walk_at "go1") => `(tactic| with_reducible refine Tg.w_test ?_)
local macro_rules | `(tactic| walk_at "go1") => `(tactic| with_reducible refine Tg.w_if ?_)
local macro_rules | `(tactic| walk_at "go1") => `(tactic| with_reducible refine Tg.w_cb ?_)
local macro_rules | `(tactic| walk_at "go1") => `(tactic| with_reducible refine Tg.w_call ?_)
local macro_rules | `(tactic| walk_at "go1") => `(tactic| with_reducible refine Tg.w_set ?_)
local macro_rules | `(tactic| walk_at "go1") => `(tactic| with_reducible refine Tg.w_nil ?_)
local macro_rules | `(tactic| walk_at "go1") => `(tactic| with_reducible refine Tg.w_cons ?_)
local macro_rules | `(tactic| walk_at "go1") => `(tactic| with_reducible refine Tg.w_op ?_)
local macro_rules | `(tactic| walk_at "go1") => `(tactic| with_reducible refine Tg.w_c ?_)
local macro_rules | `(tactic| walk_at "go1") => `(tactic| ((with_reducible refine Tg.w_var (v := ?vv) ?hv ?kk); (case hv => exact rfl)))
local macro_rules | `(tactic| walk_at "go1") => `(tactic| with_reducible refine Tg.w_seq ?_)
local macro_rules | `(tactic| walk_at "go") => `(tactic| repeat (walk_at "go1"))

namespace Tg
open PySem L2
/-! ### the mirror: books -/
structure Row where
  name : Str
  sort : Str
  host : Str
  shuts : List Str
  bars : List Str
def rowOf (rows : List Row) (x : Str) : Option Row := rows.find? fun r => decide (r.name = x)
def sortOf (rows : List Row) (x : Str) : Option Str := (rowOf rows x).map (·.sort)
def hostOf (rows : List Row) (x : Str) : Option Str := match rowOf rows x with
  | some r => if r.sort = "frame" then some r.host else none
  | none => none
def frameOf (rows : List Row) (x : Str) : Option Str := (rows.find? fun r => decide (hostOf rows r.name = some x)).map (·.name)
def wall (rows : List Row) (x : Str) : Bool := memO (sortOf rows x) ["room", "frame"]
def shutsOf (rows : List Row) (x : Str) : List Str := match rowOf rows x with
  | some r => r.shuts
  | none => []
def barsOf (rows : List Row) (x : Str) : List Str := match rowOf rows x with
  | some r => r.bars
  | none => []
/-- what the law's books are -/
structure Good (rows : List Row) (rk : Str → Nat) : Prop where
  len : rows.length ≤ 12
  nd : ∀ (i j : Nat) (r s : Row), rows[i]? = some r → rows[j]? = some s → r.name = s.name → i = j
  nm : ∀ r ∈ rows, r.name ≠ "" ∧ r.name.length ≤ 8 ∧ PyData.strOk r.name = true
  host : ∀ r ∈ rows, r.sort = "frame" → (∃ q ∈ rows, q.name = r.host) ∧ rk r.name < rk r.host ∧ rk r.host ≤ 12
  noh : ∀ r ∈ rows, r.sort ≠ "frame" → r.host = ""
  rkb : ∀ r ∈ rows, rk r.name ≤ 12
section
variable (rows : List Row) (rk : Str → Nat)
def belongs (x f : Str) : Bool := match frameOf rows x with
  | none => false
  | some g => if g = f then true else if rk g < rk x then belongs g f else false
termination_by rk x
def hostsFrom (x : Str) : List Str := match hostOf rows x with
  | none => []
  | some h => if rk x < rk h ∧ rk h ≤ 12 then h :: hostsFrom h else []
termination_by 13 - rk x
/-! stacks: the last one first -/
def near : List Str → List Str
  | [] => []
  | x :: r => if wall rows x = true then [] else near r ++ [x]
def wallKey : List Str → Nat
  | [] => 0
  | x :: r => if wall rows x = true then r.length + 1 else wallKey r
def keys : List Str → List Nat
  | [] => [0]
  | x :: r => if wall rows x = true then (r.length + 1) :: keys r else keys r
def lastOne (x : Str) : List Str → Option Nat
  | [] => none
  | y :: r => if y = x then some r.length else if (wall rows y && !belongs rows rk y x) = true then none else lastOne x r
def hostsIn : List Str → List Str
  | [] => []
  | x :: _ => hostsFrom rows rk x
def shutFrom (rn : List Str) (x : Str) : Nat := match (near rows rn).findIdx? fun y => decide (y ∈ shutsOf rows x) with
  | some k => rn.length - (near rows rn).length + k
  | none => rn.length
def barred (rn : List Str) (x : Str) : Bool := (near rows rn).any fun y => decide (y ∈ barsOf rows x)
def wanted (rn : List Str) (x : Str) : Nat × List Str := match frameOf rows x with
  | some f => (match lastOne rows rk f rn with
    | some n => (n + 1, [x])
    | none => if rk f < rk x then ((wanted rn f).1, (wanted rn f).2 ++ [x]) else (0, []))
  | none => if hostsIn rows rk rn ≠ [] then (rn.length, hostsIn rows rk rn ++ [x]) else (shutFrom rows rn x, [x])
termination_by rk x
def barStep : List Str → List Str → Bool
  | _, [] => false
  | rn, p :: ps => barred rows rn p || barStep (p :: rn) ps
inductive Plan where
  | drop (rule : Str)
  | opn (kept : Nat) (put : List Str)
def opening (rn : List Str) (x : Str) : Plan :=
  if barStep rows (rn.drop (rn.length - (wanted rows rk rn x).1)) (wanted rows rk rn x).2 = true then .drop "barred"
  else if (rn.drop (rn.length - (wanted rows rk rn x).1)).length + (wanted rows rk rn x).2.length > 20 then .drop "deep"
  else .opn (wanted rows rk rn x).1 (wanted rows rk rn x).2
def hostsFor (rn : List Str) : Option (List Str) := if rn.length + (hostsIn rows rk rn).length > 20 then none else some (hostsIn rows rk rn)
/-- those that wait when all but the first kept are closed: outermost first -/
def toWait (rn : List Str) (kept : Nat) : List Str := ((rn.reverse.drop kept).takeWhile fun y => !wall rows y).filter fun y => decide (sortOf rows y = some ("anew" : Str))
end
/-! ### the mirror: trees, mends, the state of reading -/
inductive Tree where
  | text (s : Str)
  | node (name : Str) (parts : List Tree)
structure Mend where
  start : Nat
  stop : Nat
  new : Str
  rule : Str
/-- rn: the open ones, the last first; top: the parts of the last open one; outer: those of the ones around it, the nearest first; wtop: what waits at the last open wall; wouter: at those around it -/
structure St where
  rn : List Str
  top : List Tree
  outer : List (List Tree)
  wtop : List Str
  wouter : List (List Str)
def lieHeap (h : List Tree) (t : Tree) : List Tree := match t, h.getLast? with
  | .text s, some (.text u) => h.dropLast ++ [.text (u ++ s)]
  | t, _ => h ++ [t]
def lieIn (st : St) (t : Tree) : St := { st with top := lieHeap st.top t }
section
variable (rows : List Row) (rk : Str → Nat)
def beginOne (st : St) (x : Str) : St :=
  { rn := x :: st.rn, top := [], outer := st.top :: st.outer, wtop := if wall rows x = true then [] else st.wtop, wouter := if wall rows x = true then st.wtop :: st.wouter else st.wouter }
def endOne (st : St) : St := match st.rn with
  | [] => st
  | x :: r => { rn := r, top := lieHeap (st.outer.headD []) (.node x st.top), outer := st.outer.tail, wtop := if wall rows x = true then st.wouter.headD [] else st.wtop, wouter := if wall rows x = true then st.wouter.tail else st.wouter }
def mOpen (at_ : Nat) (x rule : Str) : Mend := ⟨at_, at_, "<" ++ x ++ ">", rule⟩
def mClose (at_ : Nat) (x rule : Str) : Mend := ⟨at_, at_, "</" ++ x ++ ">", rule⟩
/-- the last n are closed -/
def closeN (at_ : Nat) (rule : Str) : Nat → St → St × List Mend
  | 0, st => (st, [])
  | n + 1, st => ((closeN at_ rule n (endOne rows st)).1, mClose at_ (st.rn.headD "") rule :: (closeN at_ rule n (endOne rows st)).2)
def closeTo (at_ : Nat) (rule : Str) (kept : Nat) (st : St) : St × List Mend := closeN rows at_ rule (st.rn.length - kept) st
def putOpens (at_ : Nat) (rule : Str) : List Str → St → St × List Mend
  | [], st => (st, [])
  | x :: xs, st => ((putOpens at_ rule xs (beginOne rows st x)).1, mOpen at_ x rule :: (putOpens at_ rule xs (beginOne rows st x)).2)
def waitMore (st : St) (ws : List Str) : St := { st with wtop := st.wtop ++ ws }
def openTok (st : St) (start stop : Nat) (x : Str) : St × List Mend :=
  if sortOf rows x = none then (st, [⟨start, stop, "", "strange"⟩]) else
  match opening rows rk st.rn x with
  | .drop rule => (st, [⟨start, stop, "", rule⟩])
  | .opn kept put =>
    let c := closeTo rows start "shut" kept st
    let o := putOpens rows start "frame" put.dropLast (waitMore c.1 (toWait rows st.rn kept))
    (if sortOf rows x = some ("bare" : Str) then lieIn o.1 (.node x []) else beginOne rows o.1 x, c.2 ++ o.2)
/-- the place of the last one -/
def lastIdx (row : List Str) (x : Str) : Option Nat := match row.reverse.findIdx? fun y => decide (y = x) with
  | some k => some (row.length - 1 - k)
  | none => none
def closeTok (st : St) (start stop : Nat) (x : Str) : St × List Mend := match lastOne rows rk x st.rn with
  | some kept =>
    let c := closeTo rows start "left" (kept + 1) st
    (waitMore (endOne rows c.1) (if wall rows x = true then [] else toWait rows st.rn (kept + 1)), c.2)
  | none => (match lastIdx st.wtop x with
    | some k => ({ st with wtop := st.wtop.eraseIdx k }, [⟨start, stop, "", "late"⟩])
    | none => (st, [⟨start, stop, "", "stray"⟩]))
def mayAnew (rn : List Str) (x : Str) : Bool := !decide (x ∈ near rows rn) && (decide (shutFrom rows rn x = rn.length) && !barred rows rn x) && decide (rn.length < 20)
def anews (at_ : Nat) : List Str → St → St × List Mend
  | [], st => (st, [])
  | x :: xs, st => if mayAnew rows st.rn x = true then ((anews at_ xs (beginOne rows st x)).1, mOpen at_ x "anew" :: (anews at_ xs (beginOne rows st x)).2) else anews at_ xs st
def openAnew (st : St) (at_ : Nat) : St × List Mend := anews rows at_ st.wtop { st with wtop := [] }
/-! texts: lists of signs -/
/-- & 38, < 60, ; 59, l 108, a 97 -/
def told : List Nat → List Nat
  | 38 :: 108 :: 59 :: r => 60 :: told r
  | 38 :: 97 :: 59 :: r => 38 :: told r
  | c :: r => c :: told r
  | [] => []
/-- the lone ones, with their places -/
def lones : Nat → List Nat → List (Nat × Nat)
  | i, 38 :: 108 :: 59 :: r => lones (i + 3) r
  | i, 38 :: 97 :: 59 :: r => lones (i + 3) r
  | i, c :: r => if c = 60 ∨ c = 38 then (i, c) :: lones (i + 1) r else lones (i + 1) r
  | _, [] => []
def mSign (start : Nat) (p : Nat × Nat) : Mend := ⟨start + p.1, start + p.1 + 1, if p.2 = 60 then "&l;" else "&a;", "sign"⟩
def runTok (st : St) (start stop : Nat) (raw : List Nat) : St × List Mend :=
  if hostsIn rows rk st.rn ≠ [] ∧ raw.all (fun c => decide (c = 32 ∨ c = 10)) = true then (st, [⟨start, stop, "", "blank"⟩])
  else match hostsFor rows rk st.rn with
  | none => (st, [⟨start, stop, "", "deep"⟩])
  | some hs =>
    let o := putOpens rows start "host" hs st
    let a := openAnew rows o.1 start
    (lieIn a.1 (.text ⟨(told raw).toArray⟩), o.2 ++ (a.2 ++ (lones 0 raw).map (mSign start)))
/-! tokens -/
inductive Kind where
  | opn | cls | run
  deriving DecidableEq
structure Tok3 where
  kind : Kind
  start : Nat
  stop : Nat
def isLet (c : Nat) : Bool := decide (97 ≤ c ∧ c ≤ 122)
/-- how many letters there are from a place on -/
def letters (cs : List Nat) : Nat := (cs.takeWhile isLet).length
/-- the tag that begins at the head: whether it closes, and how many letters it has -/
def tagAt : List Nat → Option (Bool × Nat)
  | 60 :: 47 :: r => if 1 ≤ letters r ∧ letters r ≤ 8 ∧ (r.drop (letters r)).head? = some 62 then some (true, letters r) else none
  | 60 :: r => if 1 ≤ letters r ∧ letters r ≤ 8 ∧ (r.drop (letters r)).head? = some 62 then some (false, letters r) else none
  | _ => none
def tagLen (t : Bool × Nat) : Nat := (if t.1 then 3 else 2) + t.2
def runIf (b e : Nat) : List Tok3 := if b < e then [⟨.run, b, e⟩] else []
def toks (cs : List Nat) (at_ begun : Nat) : List Tok3 :=
  if at_ < cs.length then
    match tagAt (cs.drop at_) with
    | some t => runIf begun at_ ++ ⟨if t.1 then .cls else .opn, at_, at_ + tagLen t⟩ :: toks cs (at_ + tagLen t) (at_ + tagLen t)
    | none => toks cs (at_ + 1) begun
  else runIf begun cs.length
termination_by cs.length - at_
decreasing_by
  · unfold tagLen
    split <;> omega
  · omega
/-- the signs from b to e -/
def cut (cs : List Nat) (b e : Nat) : List Nat := (cs.drop b).take (e - b)
def sOf (cs : List Nat) : Str := ⟨cs.toArray⟩
def stepTok (cs : List Nat) (st : St) (t : Tok3) : St × List Mend := match t.kind with
  | .opn => openTok rows rk st t.start t.stop (sOf (cut cs (t.start + 1) (t.stop - 1)))
  | .cls => closeTok rows rk st t.start t.stop (sOf (cut cs (t.start + 2) (t.stop - 1)))
  | .run => runTok rows rk st t.start t.stop (cut cs t.start t.stop)
def steps (cs : List Nat) : List Tok3 → St → St × List Mend
  | [], st => (st, [])
  | t :: ts, st => ((steps cs ts (stepTok rows rk cs st t).1).1, (stepTok rows rk cs st t).2 ++ (steps cs ts (stepTok rows rk cs st t).1).2)
def st0 : St := ⟨[], [], [], [], []⟩
def readAll (cs : List Nat) : List Tree × List Mend :=
  let s := steps rows rk cs (toks cs 0 0) st0
  let e := closeTo rows cs.length "end" 0 s.1
  (e.1.top, s.2 ++ e.2)
end
end Tg

namespace Tg
open PySem L2
section
variable {rows : List Row} {rk : Str → Nat}
theorem row_mem (g : Good rows rk) {r : Row} (h : r ∈ rows) : rowOf rows r.name = some r := by
  unfold rowOf
  cases e : rows.find? fun q => decide (q.name = r.name) with
  | none =>
    have := List.find?_eq_none.mp e r h
    exact absurd (decide_eq_true rfl) this
  | some q =>
    have h1 : decide (q.name = r.name) = true := List.find?_some (p := fun q : Row => decide (q.name = r.name)) e
    have h2 : q ∈ rows := List.mem_of_find?_eq_some e
    obtain ⟨i, hi, ei⟩ := List.mem_iff_getElem.mp h2
    obtain ⟨j, hj, ej⟩ := List.mem_iff_getElem.mp h
    have hi' : rows[i]? = some q := by rw [List.getElem?_eq_getElem hi, ei]
    have hj' : rows[j]? = some r := by rw [List.getElem?_eq_getElem hj, ej]
    have := g.nd i j q r hi' hj' (of_decide_eq_true h1)
    subst this
    rw [hi'] at hj'
    exact hj'
theorem row_some {x : Str} {r : Row} (h : rowOf rows x = some r) : r ∈ rows ∧ r.name = x :=
  ⟨List.mem_of_find?_eq_some h, of_decide_eq_true (List.find?_some (p := fun q : Row => decide (q.name = x)) h)⟩
theorem host_row (g : Good rows rk) {r : Row} (h : r ∈ rows) (x : Str) : hostOf rows r.name = some x ↔ r.host = x ∧ x ≠ "" := by
  unfold hostOf
  rw [row_mem g h]
  show (if r.sort = "frame" then some r.host else none) = some x ↔ _
  by_cases hs : r.sort = "frame"
  · rw [if_pos hs]
    constructor
    · intro e
      have e := Option.some.inj e
      refine ⟨e, ?_⟩
      obtain ⟨⟨q, hq, hn⟩, _⟩ := g.host r h hs
      rw [← e, ← hn]
      exact (g.nm q hq).1
    · intro e
      rw [e.1]
  · rw [if_neg hs]
    constructor
    · intro e
      cases e
    · intro e
      exact absurd ((g.noh r h hs).symm.trans e.1).symm e.2
theorem frame_some {x f : Str} (h : frameOf rows x = some f) : ∃ r ∈ rows, r.name = f ∧ hostOf rows f = some x := by
  unfold frameOf at h
  cases e : rows.find? fun r => decide (hostOf rows r.name = some x) with
  | none =>
    rw [e] at h
    cases h
  | some r =>
    rw [e] at h
    have h := Option.some.inj h
    refine ⟨r, List.mem_of_find?_eq_some e, h, ?_⟩
    rw [← h]
    exact of_decide_eq_true (List.find?_some (p := fun r : Row => decide (hostOf rows r.name = some x)) e)
theorem host_some (g : Good rows rk) {x h : Str} (e : hostOf rows x = some h) : (∃ r ∈ rows, r.name = x ∧ r.sort = "frame" ∧ r.host = h) ∧ (∃ q ∈ rows, q.name = h) ∧ rk x < rk h ∧ rk h ≤ 12 := by
  unfold hostOf at e
  cases er : rowOf rows x with
  | none =>
    rw [er] at e
    cases e
  | some r =>
    rw [er] at e
    obtain ⟨hm, hn⟩ := row_some er
    have e2 : (if r.sort = "frame" then some r.host else none) = some h := e
    by_cases hs : r.sort = "frame"
    · rw [if_pos hs] at e2
      have e3 := Option.some.inj e2
      obtain ⟨h1, h2, h3⟩ := g.host r hm hs
      rw [e3] at h1 h2 h3
      rw [hn] at h2
      exact ⟨⟨r, hm, hn, hs, e3⟩, h1, h2, h3⟩
    · rw [if_neg hs] at e2
      cases e2
theorem frame_rk (g : Good rows rk) {x f : Str} (h : frameOf rows x = some f) : rk f < rk x := by
  obtain ⟨r, hr, hn, hh⟩ := frame_some h
  exact (host_some g hh).2.2.1
def beOf (rows : List Row) (rk : Str → Nat) (o : Option Str) (f : Str) : Bool := match o with
  | none => false
  | some g => if g = f then true else belongs rows rk g f
theorem belongs_eq (g : Good rows rk) (x f : Str) : belongs rows rk x f = beOf rows rk (frameOf rows x) f := by
  rw [belongs]
  unfold beOf
  cases e : frameOf rows x with
  | none => rfl
  | some h =>
    show (if h = f then true else if rk h < rk x then belongs rows rk h f else false) = if h = f then true else belongs rows rk h f
    rw [if_pos (frame_rk g e)]
theorem hostsFrom_eq (g : Good rows rk) (x : Str) : hostsFrom rows rk x = match hostOf rows x with
    | none => []
    | some h => h :: hostsFrom rows rk h := by
  rw [hostsFrom]
  cases e : hostOf rows x with
  | none => rfl
  | some h =>
    obtain ⟨_, _, h1, h2⟩ := host_some g e
    show (if rk x < rk h ∧ rk h ≤ 12 then h :: hostsFrom rows rk h else []) = h :: hostsFrom rows rk h
    rw [if_pos ⟨h1, h2⟩]
theorem near_len (rn : List Str) : (near rows rn).length ≤ rn.length := by
  induction rn with
  | nil => exact Nat.le_refl _
  | cons x r ih =>
    unfold near
    split
    · exact Nat.zero_le _
    · rw [List.length_append, List.length_singleton, List.length_cons]
      omega
/-- a stack by its first k, forward -/
theorem take_rev_succ {α : Type} {xs : List α} {i : Nat} {x : α} (h : xs[i]? = some x) : (xs.take (i + 1)).reverse = x :: (xs.take i).reverse := by
  rw [List.take_add_one, h, List.reverse_append] <;> rfl
theorem drop_of_get {α : Type} {xs : List α} {i : Nat} {x : α} (h : xs[i]? = some x) : xs.drop i = x :: xs.drop (i + 1) := by
  obtain ⟨hi, e⟩ := List.getElem?_eq_some_iff.mp h
  rw [List.drop_eq_getElem_cons hi, e]
theorem get_lt {α : Type} {xs : List α} {i : Nat} (h : i < xs.length) : ∃ x, xs[i]? = some x := ⟨xs[i], List.getElem?_eq_getElem h⟩
theorem rev_get {α : Type} {xs : List α} {i : Nat} (h : i < xs.length) : xs.reverse[xs.length - 1 - i]? = xs[i]? := by
  rw [List.getElem?_reverse (by omega)]
  congr 1
  omega
/-- all of these are names of the book -/
def Inb (rows : List Row) (xs : List Str) : Prop := ∀ y ∈ xs, ∃ r ∈ rows, r.name = y
theorem Inb.ok (g : Good rows rk) {xs : List Str} (h : Inb rows xs) : ∀ y ∈ xs, PyData.strOk y = true := fun y hy => by
  obtain ⟨r, hr, e⟩ := h y hy
  rw [← e]
  exact (g.nm r hr).2.2
theorem Inb.short (g : Good rows rk) {xs : List Str} (h : Inb rows xs) : ∀ y ∈ xs, y.length ≤ 8 := fun y hy => by
  obtain ⟨r, hr, e⟩ := h y hy
  rw [← e]
  exact (g.nm r hr).2.1
theorem Inb.row (g : Good rows rk) {xs : List Str} (h : Inb rows xs) {y : Str} (hy : y ∈ xs) : ∃ r, rowOf rows y = some r := by
  obtain ⟨r, hr, e⟩ := h y hy
  exact ⟨r, by rw [← e]; exact row_mem g hr⟩
theorem hosts_in (g : Good rows rk) : ∀ (n : Nat) (x : Str), 13 - rk x ≤ n → Inb rows (hostsFrom rows rk x) ∧ (hostsFrom rows rk x).length ≤ n
  | 0, x, hn => by
    rw [hostsFrom_eq g]
    cases e : hostOf rows x with
    | none => exact ⟨fun _ h => (nomatch h), Nat.zero_le _⟩
    | some h =>
      obtain ⟨_, _, h1, h2⟩ := host_some g e
      omega
  | n + 1, x, hn => by
    rw [hostsFrom_eq g]
    cases e : hostOf rows x with
    | none => exact ⟨fun _ h => (nomatch h), Nat.zero_le _⟩
    | some h =>
      obtain ⟨_, h0, h1, h2⟩ := host_some g e
      obtain ⟨a, b⟩ := hosts_in g n h (by omega)
      refine ⟨fun y hy => ?_, Nat.succ_le_succ b⟩
      rcases List.mem_cons.mp hy with rfl | hy
      · exact h0
      · exact a y hy
theorem hostsIn_ok (g : Good rows rk) (rn : List Str) : Inb rows (hostsIn rows rk rn) ∧ (hostsIn rows rk rn).length ≤ 13 := by
  cases rn with
  | nil => exact ⟨fun _ h => (nomatch h), Nat.zero_le _⟩
  | cons x r =>
    obtain ⟨a, b⟩ := hosts_in g 13 x (by omega)
    exact ⟨a, b⟩
end
end Tg
namespace Tg
open PySem L2
section
variable {rows : List Row} {rk : Str → Nat}
theorem host_of_sort (g : Good rows rk) {x : Str} (h : sortOf rows x = some ("frame" : Str)) : ∃ y, hostOf rows x = some y := by
  unfold sortOf at h
  unfold hostOf
  cases er : rowOf rows x with
  | none =>
    rw [er] at h
    cases h
  | some r =>
    rw [er] at h
    exact ⟨r.host, if_pos (Option.some.inj h)⟩
theorem host_none {x : Str} (h : ¬ sortOf rows x = some ("frame" : Str)) : hostOf rows x = none := by
  unfold sortOf at h
  unfold hostOf
  cases er : rowOf rows x with
  | none => rfl
  | some r =>
    rw [er] at h
    exact if_neg fun q => h (congrArg some q)
theorem fidx_take {α : Type} {p : α → Bool} {xs : List α} {i : Nat} {x : α} (h : (xs.take i).findIdx? p = none) (hi : xs[i]? = some x) : (p x = true → xs.findIdx? p = some i) ∧ (p x = false → (xs.take (i + 1)).findIdx? p = none) := by
  have hlt : i < xs.length := (List.getElem?_eq_some_iff.mp hi).1
  refine ⟨fun hp => ?_, fun hp => ?_⟩
  · have e : xs = xs.take i ++ xs.drop i := (List.take_append_drop i xs).symm
    have d : xs.drop i = x :: xs.drop (i + 1) := drop_of_get hi
    rw [e, List.findIdx?_append, h, d, List.findIdx?_cons, hp]
    simp
    omega
  · rw [List.take_add_one, hi, List.findIdx?_append, h]
    simp [List.findIdx?_cons, hp]
theorem lastOne_drop {x y : Str} {rn : List Str} {i : Nat} (h : rn[i]? = some y) : lastOne rows rk x (rn.drop i) = if y = x then some (rn.length - 1 - i) else if (wall rows y && !belongs rows rk y x) = true then none else lastOne rows rk x (rn.drop (i + 1)) := by
  rw [drop_of_get h]
  have e : (rn.drop (i + 1)).length = rn.length - 1 - i := by
    rw [List.length_drop]
    omega
  show (if y = x then some (rn.drop (i + 1)).length else _) = _
  rw [e]
theorem lastOne_lt {x : Str} : ∀ {rn : List Str} {n : Nat}, lastOne rows rk x rn = some n → n < rn.length
  | [], n, h => by cases h
  | y :: r, n, h => by
    unfold lastOne at h
    split at h
    · cases h
      exact Nat.lt_succ_self _
    · split at h
      · cases h
      · exact Nat.lt_succ_of_lt (lastOne_lt h)
theorem wanted_eq (g : Good rows rk) (rn : List Str) (x : Str) : wanted rows rk rn x = match frameOf rows x with
    | some f => (match lastOne rows rk f rn with
      | some n => (n + 1, [x])
      | none => ((wanted rows rk rn f).1, (wanted rows rk rn f).2 ++ [x]))
    | none => if hostsIn rows rk rn ≠ [] then (rn.length, hostsIn rows rk rn ++ [x]) else (shutFrom rows rn x, [x]) := by
  rw [wanted]
  cases e : frameOf rows x with
  | none => rfl
  | some f =>
    have q := frame_rk g e
    show (match lastOne rows rk f rn with
      | some n => (n + 1, [x])
      | none => if rk f < rk x then ((wanted rows rk rn f).1, (wanted rows rk rn f).2 ++ [x]) else (0, [])) = _
    rw [if_pos q]
theorem shutFrom_le (rn : List Str) (x : Str) : shutFrom rows rn x ≤ rn.length := by
  unfold shutFrom
  have h := near_len (rows := rows) rn
  cases e : (near rows rn).findIdx? fun y => decide (y ∈ shutsOf rows x) with
  | none => exact Nat.le_refl _
  | some k =>
    have := (List.findIdx?_eq_some_iff_findIdx_eq.mp e).1
    show rn.length - (near rows rn).length + k ≤ rn.length
    omega
theorem inb_app {xs ys : List Str} (h1 : Inb rows xs) (h2 : Inb rows ys) : Inb rows (xs ++ ys) := fun y hy => by
  rcases List.mem_append.mp hy with h | h
  · exact h1 y h
  · exact h2 y h
theorem inb_one {x : Str} (h : ∃ r ∈ rows, r.name = x) : Inb rows [x] := fun y hy => by
  rw [List.mem_singleton.mp hy]
  exact h
theorem frame_in {x f : Str} (h : frameOf rows x = some f) : ∃ r ∈ rows, r.name = f := by
  obtain ⟨r, hr, hn, _⟩ := frame_some h
  exact ⟨r, hr, hn⟩
theorem wanted_ok (g : Good rows rk) (rn : List Str) : ∀ (n : Nat) (x : Str), rk x ≤ n → (∃ r ∈ rows, r.name = x) →
    (wanted rows rk rn x).1 ≤ rn.length ∧ Inb rows (wanted rows rk rn x).2 ∧ (wanted rows rk rn x).2.length ≤ 14 + n ∧ ∃ pre, (wanted rows rk rn x).2 = pre ++ [x]
  | n, x, hn, hx => by
    rw [wanted_eq g]
    cases e : frameOf rows x with
    | none =>
      by_cases hh : hostsIn rows rk rn ≠ []
      · simp only [if_pos hh]
        obtain ⟨a, b⟩ := hostsIn_ok g rn
        refine ⟨Nat.le_refl _, inb_app a (inb_one hx), ?_, _, rfl⟩
        rw [List.length_append, List.length_singleton]
        omega
      · simp only [if_neg hh]
        exact ⟨shutFrom_le rn x, inb_one hx, by simp; omega, [], rfl⟩
    | some f =>
      cases e2 : lastOne rows rk f rn with
      | some k =>
        simp only [e2]
        exact ⟨lastOne_lt e2, inb_one hx, by simp; omega, [], rfl⟩
      | none =>
        simp only [e2]
        have q := frame_rk g e
        obtain ⟨m, rfl⟩ : ∃ m, n = m + 1 := ⟨n - 1, by omega⟩
        obtain ⟨h1, h2, h3, _⟩ := wanted_ok g rn m f (by omega) (frame_in e)
        refine ⟨h1, inb_app h2 (inb_one hx), ?_, _, rfl⟩
        show ((wanted rows rk rn f).2 ++ [x]).length ≤ _
        rw [List.length_append, List.length_singleton]
        omega
theorem inb_drop {xs : List Str} (h : Inb rows xs) (n : Nat) : Inb rows (xs.drop n) := fun y hy => h y (List.mem_of_mem_drop hy)
/-- the first k of a forward stack -/
theorem rev_take {rn : List Str} {k : Nat} (h : k ≤ rn.length) : rn.reverse.take k = (rn.drop (rn.length - k)).reverse := by
  rw [List.reverse_drop]
  congr 1
  omega
end
end Tg

namespace Tg
open PySem L2
open PySem.StrLaws (replL replL_hit replL_miss replL_nil replace_list)
theorem get_of_len {α β : Type} {xs : List α} {ys : List β} (e : xs.length = ys.length) {i : Nat} {x : α} (h : xs[i]? = some x) : ∃ y, ys[i]? = some y := by
  have := (List.getElem?_eq_some_iff.mp h).1
  exact ⟨ys[i]'(by omega), List.getElem?_eq_getElem (by omega)⟩
/-! ### texts: the plain laws -/
theorem sOf_toList (l : List Nat) : (sOf l).cps.toList = l := by simp [sOf]
theorem sOf_eta (z : Str) : sOf z.cps.toList = z := by
  obtain ⟨a⟩ := z
  simp [sOf]
theorem sOf_len (l : List Nat) : (sOf l).length = l.length := by
  show (sOf l).cps.size = l.length
  simp [sOf]
theorem len_toList (z : Str) : z.cps.toList.length = z.length := by
  show z.cps.toList.length = z.cps.size
  simp
theorem sOf_inj {a b : List Nat} (h : sOf a = sOf b) : a = b := by
  have := congrArg (fun z : Str => z.cps.toList) h
  simpa [sOf] using this
theorem cut_len (cs : List Nat) (a b : Nat) : (cut cs a b).length ≤ b - a := by
  unfold cut
  rw [List.length_take]
  exact Nat.min_le_left _ _
theorem cut_len2 (cs : List Nat) (a b : Nat) : (cut cs a b).length ≤ cs.length := by
  unfold cut
  rw [List.length_take, List.length_drop]
  omega
theorem cutS_nat (z : Str) (a b : Nat) : cutS z (some (a : Int)) (some (b : Int)) = sOf (cut z.cps.toList a b) := by
  unfold cutS
  rw [HT.sIx_nat, HT.sIx_nat]
  show sOf _ = sOf _
  congr 1
  unfold cut
  have hn : z.cps.toList.length = z.length := len_toList z
  by_cases h : a ≤ z.length
  · rw [Nat.min_eq_left h]
    by_cases h2 : b ≤ z.length
    · rw [Nat.min_eq_left h2]
    · rw [Nat.min_eq_right (by omega), List.take_of_length_le (by rw [List.length_drop]; omega), List.take_of_length_le (by rw [List.length_drop]; omega)]
  · rw [Nat.min_eq_right (show z.length ≤ a by omega), List.drop_eq_nil_of_le (show z.cps.toList.length ≤ z.length by omega), List.drop_eq_nil_of_le (show z.cps.toList.length ≤ a by omega)] <;> simp
/-! told -/
abbrev t1 (l : List Nat) : List Nat := replL [38, 108, 59] [60] l
abbrev t2 (l : List Nat) : List Nat := replL [38, 97, 59] [38] l
theorem t1_hit (r : List Nat) : t1 (38 :: 108 :: 59 :: r) = 60 :: t1 r := replL_hit (y := [38, 108, 59]) (by decide) rfl
theorem t2_hit (r : List Nat) : t2 (38 :: 97 :: 59 :: r) = 38 :: t2 r := replL_hit (y := [38, 97, 59]) (by decide) rfl
theorem t1_miss {c : Nat} {r : List Nat} (h : ¬ (c :: r).take 3 = [38, 108, 59]) : t1 (c :: r) = c :: t1 r := replL_miss h
theorem t2_miss {c : Nat} {r : List Nat} (h : ¬ (c :: r).take 3 = [38, 97, 59]) : t2 (c :: r) = c :: t2 r := replL_miss h
theorem take3_form {l : List Nat} {a b c : Nat} (h : l.take 3 = [a, b, c]) : ∃ r, l = a :: b :: c :: r := by
  match l, h with
  | x :: y :: z :: r, h =>
    simp at h
    exact ⟨r, by rw [h.1, h.2.1, h.2.2]⟩
  | [], h => cases h
  | [x], h => cases h
  | [x, y], h => cases h
theorem t1_head {c : Nat} {r : List Nat} (h : (t1 r).head? = some c) (h2 : c ≠ 60) : r.head? = some c := by
  cases r with
  | nil => exact h
  | cons x r =>
    by_cases q : (x :: r).take 3 = [38, 108, 59]
    · obtain ⟨s, e⟩ := take3_form q
      rw [e, t1_hit] at h
      exact absurd (Option.some.inj h).symm h2
    · rw [t1_miss q] at h
      exact h
theorem t1_pre {r : List Nat} (h : (t1 r).take 2 = [97, 59]) : r.take 2 = [97, 59] := by
  cases r with
  | nil => cases h
  | cons x r =>
    by_cases q : (x :: r).take 3 = [38, 108, 59]
    · obtain ⟨s, e⟩ := take3_form q
      rw [e, t1_hit] at h
      cases h
    · rw [t1_miss q] at h
      simp only [List.take_succ_cons, List.cons.injEq] at h
      obtain ⟨rfl, h⟩ := h
      have h3 : (t1 r).head? = some 59 := by
        cases e : t1 r with
        | nil =>
          rw [e] at h
          cases h
        | cons a b =>
          rw [e] at h
          simp at h
          rw [h]
          rfl
      have h4 := t1_head h3 (by decide)
      cases r with
      | nil => cases h4
      | cons a b =>
        have : a = 59 := Option.some.inj h4
        subst this
        rfl
theorem told_eq : ∀ (n : Nat) (l : List Nat), l.length ≤ n → t2 (t1 l) = told l
  | n, [], _ => by
    show t2 (t1 []) = []
    rw [show t1 [] = [] from replL_nil, show t2 [] = [] from replL_nil]
  | 0, c :: r, h => by simp at h
  | n + 1, c :: r, h => by
    by_cases q1 : (c :: r).take 3 = [38, 108, 59]
    · obtain ⟨s, e⟩ := take3_form q1
      rw [e] at h ⊢
      rw [t1_hit, t2_miss (by simp)]
      show 60 :: t2 (t1 s) = 60 :: told s
      rw [told_eq n s (by simp at h; omega)]
    · by_cases q2 : (c :: r).take 3 = [38, 97, 59]
      · obtain ⟨s, e⟩ := take3_form q2
        rw [e] at h ⊢
        rw [t1_miss (by simp), t1_miss (by simp), t1_miss (by simp), t2_hit]
        show 38 :: t2 (t1 s) = 38 :: told s
        rw [told_eq n s (by simp at h; omega)]
      · rw [t1_miss q1, t2_miss, told_eq n r (by simp at h; omega)]
        · rw [told]
          · intro s h1 h2
            subst h1 h2
            exact q1 rfl
          · intro s h1 h2
            subst h1 h2
            exact q2 rfl
        · intro z
          simp only [List.take_succ_cons, List.cons.injEq] at z
          obtain ⟨rfl, z⟩ := z
          have z2 := t1_pre z
          apply q2
          rw [List.take_succ_cons, z2]
theorem told_len : ∀ (n : Nat) (l : List Nat), l.length ≤ n → (told l).length ≤ l.length
  | n, [], _ => Nat.le_refl _
  | 0, c :: r, h => by simp at h
  | n + 1, c :: r, h => by
    by_cases q1 : (c :: r).take 3 = [38, 108, 59]
    · obtain ⟨s, e⟩ := take3_form q1
      rw [e] at h ⊢
      have := told_len n s (by simp at h; omega)
      show (60 :: told s).length ≤ _
      simp
      omega
    · by_cases q2 : (c :: r).take 3 = [38, 97, 59]
      · obtain ⟨s, e⟩ := take3_form q2
        rw [e] at h ⊢
        have := told_len n s (by simp at h; omega)
        show (38 :: told s).length ≤ _
        simp
        omega
      · have := told_len n r (by simp at h; omega)
        rw [told]
        · simp
          omega
        · intro s h1 h2
          subst h1 h2
          exact q1 rfl
        · intro s h1 h2
          subst h1 h2
          exact q2 rfl
/-! lone ones -/
def esc3 (l : List Nat) : Bool := decide (l.take 3 = [38, 108, 59]) || decide (l.take 3 = [38, 97, 59])
def loneHd : List Nat → Bool
  | [] => false
  | c :: r => decide (c = 60) || (decide (c = 38) && !esc3 (c :: r))
def loneAt (cs : List Nat) (i : Nat) : Bool := loneHd (cs.drop i)
def loneF (k : Nat) (l : List Nat) : List Nat := ((List.range l.length).filter (loneAt l)).map (· + k)
theorem loneF_cons (k c : Nat) (r : List Nat) : loneF k (c :: r) = (if loneHd (c :: r) = true then [k] else []) ++ loneF (k + 1) r := by
  unfold loneF
  rw [List.length_cons, List.range_succ_eq_map, List.filter_cons]
  have e : (List.map Nat.succ (List.range r.length)).filter (loneAt (c :: r)) = ((List.range r.length).filter (loneAt r)).map Nat.succ := by
    rw [List.filter_map] <;> rfl
  have e2 : loneAt (c :: r) 0 = loneHd (c :: r) := rfl
  rw [e2]
  have e3 : List.map (fun x => x + k) (List.map Nat.succ ((List.range r.length).filter (loneAt r))) = List.map (fun x => x + (k + 1)) ((List.range r.length).filter (loneAt r)) := by
    rw [List.map_map]
    apply List.map_congr_left
    intro a _
    show a + 1 + k = a + (k + 1)
    omega
  by_cases h : loneHd (c :: r) = true
  · rw [if_pos h, if_pos h, List.map_cons, e, e3]
    simp
  · rw [if_neg h, if_neg h, e, e3]
    simp
theorem lones_eq : ∀ (n : Nat) (l : List Nat) (k : Nat), l.length ≤ n → (lones k l).map (·.1) = loneF k l
  | n, [], k, _ => by
    show (lones k []).map (·.1) = _
    rw [lones] <;> rfl
  | 0, c :: r, _, h => by simp at h
  | n + 1, c :: r, k, h => by
    by_cases q1 : (c :: r).take 3 = [38, 108, 59]
    · obtain ⟨s, e⟩ := take3_form q1
      rw [e] at h ⊢
      rw [loneF_cons, loneF_cons, loneF_cons]
      have h1 : loneHd (38 :: 108 :: 59 :: s) = false := rfl
      have h2 : loneHd (108 :: 59 :: s) = false := rfl
      have h3 : loneHd (59 :: s) = false := rfl
      rw [h1, h2, h3, lones, lones_eq n s (k + 3) (by simp at h; omega)]
      rfl
    · by_cases q2 : (c :: r).take 3 = [38, 97, 59]
      · obtain ⟨s, e⟩ := take3_form q2
        rw [e] at h ⊢
        rw [loneF_cons, loneF_cons, loneF_cons]
        have h1 : loneHd (38 :: 97 :: 59 :: s) = false := rfl
        have h2 : loneHd (97 :: 59 :: s) = false := rfl
        have h3 : loneHd (59 :: s) = false := rfl
        rw [h1, h2, h3, lones, lones_eq n s (k + 3) (by simp at h; omega)]
        rfl
      · have hz : esc3 (c :: r) = false := by
          unfold esc3
          rw [decide_eq_false q1, decide_eq_false q2] <;> rfl
        have hh : loneHd (c :: r) = decide (c = 60 ∨ c = 38) := by
          show (decide (c = 60) || (decide (c = 38) && !esc3 (c :: r))) = _
          rw [hz]
          simp
        rw [loneF_cons, hh, lones]
        · by_cases hc : c = 60 ∨ c = 38
          · rw [if_pos hc, decide_eq_true hc, if_pos rfl, List.map_cons, lones_eq n r (k + 1) (by simp at h; omega)] <;> rfl
          · rw [if_neg hc, decide_eq_false hc, lones_eq n r (k + 1) (by simp at h; omega)] <;> rfl
        · intro s h1 h2
          subst h1 h2
          exact q1 rfl
        · intro s h1 h2
          subst h1 h2
          exact q2 rfl
theorem lones_mem : ∀ (n : Nat) (l : List Nat) (k : Nat), l.length ≤ n → ∀ p ∈ lones k l, ∃ i, p.1 = i + k ∧ l[i]? = some p.2 ∧ (p.2 = 60 ∨ p.2 = 38)
  | n, [], k, _ => by
    intro p hp
    rw [lones] at hp
    cases hp
  | 0, c :: r, _, h => by simp at h
  | n + 1, c :: r, k, h => by
    intro p hp
    by_cases q1 : (c :: r).take 3 = [38, 108, 59]
    · obtain ⟨s, e⟩ := take3_form q1
      rw [e] at h hp ⊢
      rw [lones] at hp
      obtain ⟨i, h1, h2, h3⟩ := lones_mem n s (k + 3) (by simp at h; omega) p hp
      exact ⟨i + 3, by omega, h2, h3⟩
    · by_cases q2 : (c :: r).take 3 = [38, 97, 59]
      · obtain ⟨s, e⟩ := take3_form q2
        rw [e] at h hp ⊢
        rw [lones] at hp
        obtain ⟨i, h1, h2, h3⟩ := lones_mem n s (k + 3) (by simp at h; omega) p hp
        exact ⟨i + 3, by omega, h2, h3⟩
      · rw [lones] at hp
        · by_cases hc : c = 60 ∨ c = 38
          · rw [if_pos hc] at hp
            rcases List.mem_cons.mp hp with rfl | hp
            · exact ⟨0, by simp, rfl, hc⟩
            · obtain ⟨i, h1, h2, h3⟩ := lones_mem n r (k + 1) (by simp at h; omega) p hp
              exact ⟨i + 1, by omega, h2, h3⟩
          · rw [if_neg hc] at hp
            obtain ⟨i, h1, h2, h3⟩ := lones_mem n r (k + 1) (by simp at h; omega) p hp
            exact ⟨i + 1, by omega, h2, h3⟩
        · intro s h1 h2
          subst h1 h2
          exact q1 rfl
        · intro s h1 h2
          subst h1 h2
          exact q2 rfl
theorem lones_len (l : List Nat) : (lones 0 l).length ≤ l.length := by
  have h := lones_eq l.length l 0 (Nat.le_refl _)
  have h2 := congrArg List.length h
  rw [List.length_map] at h2
  rw [h2]
  unfold loneF
  rw [List.length_map]
  exact Nat.le_trans (List.length_filter_le _ _) (by rw [List.length_range]; exact Nat.le_refl _)
/-! tags -/
theorem letters_get {l : List Nat} {k : Nat} (h : k ≤ letters l) : (∃ c, l[k]? = some c ∧ isLet c = true) ↔ k < letters l := by
  unfold letters at h ⊢
  induction l generalizing k with
  | nil =>
    simp at h
    subst h
    simp
  | cons c r ih =>
    by_cases hc : isLet c = true
    · rw [List.takeWhile_cons_of_pos hc, List.length_cons] at h ⊢
      cases k with
      | zero => simp [hc]
      | succ k =>
        rw [List.getElem?_cons_succ, ih (by omega)]
        omega
    · rw [List.takeWhile_cons_of_neg hc] at h ⊢
      simp at h
      subst h
      simp
      exact eq_false_of_ne_true hc
theorem letters_le (l : List Nat) : letters l ≤ l.length := by
  unfold letters
  exact (List.takeWhile_sublist _).length_le
/-- the sign behind < is / -/
def slashAt (cs : List Nat) (i : Nat) : Bool := decide (cs[i + 1]? = some 47)
def firstAt (cs : List Nat) (i : Nat) : Nat := i + 1 + (if slashAt cs i = true then 1 else 0)
theorem tag_spec {cs : List Nat} {i : Nat} (h : cs[i]? = some 60) : tagAt (cs.drop i) =
    if 1 ≤ letters (cs.drop (firstAt cs i)) ∧ letters (cs.drop (firstAt cs i)) ≤ 8 ∧ cs[firstAt cs i + letters (cs.drop (firstAt cs i))]? = some 62 then some (slashAt cs i, letters (cs.drop (firstAt cs i))) else none := by
  rw [drop_of_get h]
  have hd : ∀ (m n : Nat), (cs.drop m)[n]? = cs[m + n]? := fun m n => by rw [List.getElem?_drop]
  by_cases hs : cs[i + 1]? = some 47
  · have e1 : slashAt cs i = true := decide_eq_true hs
    have e2 : firstAt cs i = i + 2 := by
      unfold firstAt
      rw [if_pos e1]
    rw [e1, e2, drop_of_get hs]
    show (if 1 ≤ letters (cs.drop (i + 1 + 1)) ∧ letters (cs.drop (i + 1 + 1)) ≤ 8 ∧ ((cs.drop (i + 1 + 1)).drop (letters (cs.drop (i + 1 + 1)))).head? = some 62 then some (true, letters (cs.drop (i + 1 + 1))) else none) = _
    rw [List.head?_drop, hd]
  · have e1 : slashAt cs i = false := decide_eq_false hs
    have e2 : firstAt cs i = i + 1 := by
      unfold firstAt
      rw [e1] <;> rfl
    rw [e1, e2]
    have hne : ∀ r, cs.drop (i + 1) ≠ 47 :: r := fun r e => by
      apply hs
      have := hd (i + 1) 0
      rw [e] at this
      exact this.symm
    have e3 : tagAt (60 :: cs.drop (i + 1)) = if 1 ≤ letters (cs.drop (i + 1)) ∧ letters (cs.drop (i + 1)) ≤ 8 ∧ ((cs.drop (i + 1)).drop (letters (cs.drop (i + 1)))).head? = some 62 then some (false, letters (cs.drop (i + 1))) else none := by
      rw [tagAt]
      intro r e
      exact hne r e
    rw [e3, List.head?_drop, hd]
theorem tag_none {cs : List Nat} {i : Nat} (h : ¬ cs[i]? = some 60) : tagAt (cs.drop i) = none := by
  cases e : cs.drop i with
  | nil => rfl
  | cons c r =>
    have h2 : cs[i]? = some c := by
      have := List.getElem?_drop (xs := cs) (i := i) (j := 0)
      rw [e] at this
      exact this.symm
    have hc : c ≠ 60 := fun q => h (by rw [h2, q])
    rw [tagAt]
    · intro r2 q
      exact hc (List.cons.inj q).1
    · intro r2 q
      exact hc (List.cons.inj q).1
theorem toks_skip {cs : List Nat} (bg : Nat) : ∀ (n a : Nat), a + n ≤ cs.length → (∀ v, a ≤ v → v < a + n → ¬ cs[v]? = some 60) → toks cs a bg = toks cs (a + n) bg
  | 0, a, _, _ => rfl
  | n + 1, a, h, hn => by
    have e : toks cs a bg = toks cs (a + 1) bg := by
      rw [toks, if_pos (by omega), tag_none (hn a (Nat.le_refl _) (by omega))]
    rw [e, toks_skip bg n (a + 1) (by omega) fun v h1 h2 => hn v (by omega) (by omega)]
    congr 1
    omega
theorem toks_end {cs : List Nat} {a bg : Nat} (h : cs.length ≤ a) : toks cs a bg = runIf bg cs.length := by
  rw [toks, if_neg (by omega)]
theorem toks_tag {cs : List Nat} {a bg : Nat} {t : Bool × Nat} (h : tagAt (cs.drop a) = some t) (ha : a < cs.length) : toks cs a bg = runIf bg a ++ ⟨if t.1 then .cls else .opn, a, a + tagLen t⟩ :: toks cs (a + tagLen t) (a + tagLen t) := by
  rw [toks, if_pos ha, h]
theorem toks_no {cs : List Nat} {a bg : Nat} (h : tagAt (cs.drop a) = none) (ha : a < cs.length) : toks cs a bg = toks cs (a + 1) bg := by
  rw [toks, if_pos ha, h]
/-! ### lists of values against lists of data -/
structure All2 {β α : Type} (R : β → α → Prop) (vs : List β) (xs : List α) : Prop where
  len : vs.length = xs.length
  at_ : ∀ (i : Nat) (v : β) (x : α), vs[i]? = some v → xs[i]? = some x → R v x
section
variable {β α : Type} {R R' : β → α → Prop}
theorem All2.nil : All2 R [] ([] : List α) := ⟨rfl, fun i v x h => by cases h⟩
theorem All2.mono {vs : List β} {xs : List α} (h : All2 R vs xs) (m : ∀ v x, R v x → R' v x) : All2 R' vs xs := ⟨h.len, fun i v x h1 h2 => m v x (h.at_ i v x h1 h2)⟩
theorem All2.app {vs us : List β} {xs ys : List α} (h : All2 R vs xs) (h2 : All2 R us ys) : All2 R (vs ++ us) (xs ++ ys) := by
  refine ⟨by rw [List.length_append, List.length_append, h.len, h2.len], fun i v x a b => ?_⟩
  by_cases hi : i < vs.length
  · rw [List.getElem?_append_left hi] at a
    rw [List.getElem?_append_left (by rw [← h.len]; exact hi)] at b
    exact h.at_ i v x a b
  · rw [List.getElem?_append_right (by omega)] at a
    rw [List.getElem?_append_right (by rw [← h.len]; omega), ← h.len] at b
    exact h2.at_ _ v x a b
theorem All2.cons {v : β} {x : α} {vs : List β} {xs : List α} (r : R v x) (h : All2 R vs xs) : All2 R (v :: vs) (x :: xs) := by
  refine ⟨by rw [List.length_cons, List.length_cons, h.len], fun i v' x' a b => ?_⟩
  cases i with
  | zero =>
    cases a
    cases b
    exact r
  | succ i => exact h.at_ i v' x' a b
theorem All2.one {v : β} {x : α} (r : R v x) : All2 R [v] [x] := .cons r .nil
theorem All2.get {vs : List β} {xs : List α} (h : All2 R vs xs) {i : Nat} {v : β} (a : vs[i]? = some v) : ∃ x, xs[i]? = some x ∧ R v x := by
  obtain ⟨x, hx⟩ := get_of_len h.len a
  exact ⟨x, hx, h.at_ i v x a hx⟩
theorem All2.get' {vs : List β} {xs : List α} (h : All2 R vs xs) {i : Nat} {x : α} (a : xs[i]? = some x) : ∃ v, vs[i]? = some v ∧ R v x := by
  obtain ⟨v, hv⟩ := get_of_len h.len.symm a
  exact ⟨v, hv, h.at_ i v x hv a⟩
theorem All2.tail {v : β} {x : α} {vs : List β} {xs : List α} (h : All2 R (v :: vs) (x :: xs)) : R v x ∧ All2 R vs xs :=
  ⟨h.at_ 0 v x rfl rfl, ⟨by have := h.len; simp at this; exact this, fun i v' x' a b => h.at_ (i + 1) v' x' a b⟩⟩
theorem All2.nil_iff {vs : List β} (h : All2 R vs []) : vs = [] := List.length_eq_zero_iff.mp h.len
/-- the last one apart -/
theorem All2.last {vs : List β} {xs : List α} {x : α} (h : All2 R vs (xs ++ [x])) : ∃ us v, vs = us ++ [v] ∧ All2 R us xs ∧ R v x := by
  have hl := h.len
  rw [List.length_append, List.length_singleton] at hl
  have hv : vs ≠ [] := fun e => by
    rw [e] at hl
    simp at hl
  refine ⟨vs.dropLast, vs.getLast hv, (List.dropLast_concat_getLast hv).symm, ⟨by rw [List.length_dropLast]; omega, fun i v y a b => ?_⟩, ?_⟩
  · have hi := (List.getElem?_eq_some_iff.mp b).1
    refine h.at_ i v y ?_ (by rw [List.getElem?_append_left hi]; exact b)
    rw [List.getElem?_dropLast] at a
    split at a
    · exact a
    · cases a
  · refine h.at_ xs.length _ x ?_ (by simp)
    rw [List.getLast_eq_getElem, ← List.getElem?_eq_getElem]
    congr 1
    omega
end
end Tg

namespace Tg
open PySem PySem.Spec PyProof.Rows L2
/-! ### books on the heap -/
/-- a book with what stands of it: G the heap's part that never changes -/
structure Bk where
  G : Hp
  b : Addr
  rows : List Row
  rk : Str → Nat
def RowAt (H : Hp) (p : Addr) (r : Row) : Prop := ∃ s t, H p = some (.tup [.str r.name, .str r.sort, .str r.host, .ref s, .ref t]) ∧ H s = some (.tup (r.shuts.map V.str)) ∧ H t = some (.tup (r.bars.map V.str))
structure Bk.Ok (B : Bk) : Prop where
  good : Good B.rows B.rk
  at_ : ∃ ps : List Addr, B.G B.b = some (.tup (ps.map V.ref)) ∧ ps.length = B.rows.length ∧ ∀ (i : Nat) (p : Addr) (r : Row), ps[i]? = some p → B.rows[i]? = some r → RowAt B.G p r
theorem RowAt.mono {H H' : Hp} {p : Addr} {r : Row} (h : RowAt H p r) (e : Same H H') : RowAt H' p r := by
  obtain ⟨s, t, h1, h2, h3⟩ := h
  exact ⟨s, t, e _ _ h1, e _ _ h2, e _ _ h3⟩
theorem find_take {α : Type} {p : α → Bool} {xs : List α} {i : Nat} {x : α} (h : (xs.take i).find? p = none) (hi : xs[i]? = some x) : (p x = true → xs.find? p = some x) ∧ (p x = false → (xs.take (i + 1)).find? p = none) := by
  have hlt : i < xs.length := (List.getElem?_eq_some_iff.mp hi).1
  refine ⟨fun hp => ?_, fun hp => ?_⟩
  · have e : xs = xs.take i ++ xs.drop i := (List.take_append_drop i xs).symm
    have d : xs.drop i = x :: xs.drop (i + 1) := by
      rw [List.drop_eq_getElem_cons hlt]
      congr 1
      exact (List.getElem?_eq_some_iff.mp hi).2
    rw [e, List.find?_append, h, d, List.find?_cons, hp] <;> rfl
  · rw [List.take_add_one, hi, List.find?_append, h]
    show Option.or none ([x].find? p) = none
    rw [List.find?_cons, hp] <;> rfl
theorem find_all {α : Type} {p : α → Bool} {xs : List α} (h : (xs.take xs.length).find? p = none) : xs.find? p = none := by
  rw [List.take_length] at h
  exact h
theorem map_get {α β : Type} {f : α → β} {xs : List α} {i : Nat} {y : β} (h : (xs.map f)[i]? = some y) : ∃ x, xs[i]? = some x ∧ y = f x := by
  rw [List.getElem?_map] at h
  cases e : xs[i]? with
  | none =>
    rw [e] at h
    cases h
  | some x =>
    rw [e] at h
    exact ⟨x, rfl, (Option.some.inj h).symm⟩
section
variable {P : Program} {w : World} {K : PySem.W.Frag} {mg : Str → Option Value} {base : Heap} {C ea : Addr}
/-! ### row_with, sort_of, .. -/
def spRowWith : Sp := fun vs H Q _ => ∃ (B : Bk) (x : Str), vs = [.ref B.b, .str x] ∧ B.Ok ∧ Same B.G H ∧ (rowOf B.rows x = none → Q .non H) ∧ ∀ r p, rowOf B.rows x = some r → RowAt B.G p r → Q (.ref p) H
theorem c_row_with (D : Defs K mg C) (T : Tx K mg C ea) : C8.Cal P w K mg base 1 "row_with" spRowWith [] := by
  refine D.d_row_with.cal sc_row_with (fun vs H Q E h => ?_) (fun f cdv A outer s H vs Q E hr h => ?_)
  · obtain ⟨B, x, rfl, _⟩ := h
    rfl
  obtain ⟨B, x, rfl, hB, s0, k1, k2⟩ := h
  refine ⟨_, (pss_cons (ps_for PassesOwn.never rfl (pi_tup (pv 0)) (pg_name (i := 2) sc_row_with.nd rfl (Or.inl rfl)) (pss_one (ps_if (pt_cmpR op_eq (pe_ix ix_tup (pv 2) pe_int (fun _ _ => rfl)) (pv 1) (nomark _)) (pss_one (ps_ret (pv 2))) pss_nil)))
      (pss_one (ps_ret pe_non))), ?_⟩
  obtain ⟨ps, hb, hl, hrow⟩ := hB.at_
  walk_at "go"
  refine w_forT (SqT.of (s0 _ _ hb)) (fun i σ H' => H' = H ∧ (∃ v, σ = [some (.ref B.b), some (.str x), v]) ∧ (B.rows.take i).find? (fun r => decide (r.name = x)) = none) ⟨rfl, ⟨_, rfl⟩, rfl⟩ (fun i σ H' _ h => by rw [h.1]; exact SqT.of (s0 _ _ hb)) ?_ ?_
  · rintro i y σ H' hi ⟨rfl, ⟨v, rfl⟩, hf⟩
    obtain ⟨p, hp, rfl⟩ := map_get hi
    obtain ⟨r, hr2⟩ := get_of_len hl hp
    obtain ⟨q1, q2, h1, h2, h3⟩ := hrow i p r hp hr2
    walk_at "go"
    refine w_ixT (SqT.of (s0 _ _ h1)) (by exact rfl) ?_
    walk_at "go"
    refine w_2 (fun e => ?_) (fun e => ?_)
    · walk_at "go"
      exact k2 r p ((find_take hf hr2).1 e) ⟨q1, q2, h1, h2, h3⟩
    · walk_at "go"
      exact ⟨rfl, ⟨_, rfl⟩, (find_take hf hr2).2 e⟩
  · rintro σ H' ⟨rfl, ⟨v, rfl⟩, hf⟩
    rw [List.length_map, hl] at hf
    walk_at "go"
    exact k1 (find_all hf)
def spSortOf : Sp := fun vs H Q _ => ∃ (B : Bk) (x : Str), vs = [.ref B.b, .str x] ∧ B.Ok ∧ Same B.G H ∧ Q (ov (sortOf B.rows x)) H
theorem c_sort_of (D : Defs K mg C) (T : Tx K mg C ea) : C8.Cal P w K mg base 2 "sort_of" spSortOf [] := by
  refine D.d_sort_of.cal sc_sort_of (fun vs H Q E h => ?_) (fun f cdv A outer s H vs Q E hr h => ?_)
  · obtain ⟨B, x, rfl, _⟩ := h
    rfl
  obtain ⟨B, x, rfl, hB, s0, k⟩ := h
  have c_row_with : C8.Cal P w K mg base 1 "row_with" spRowWith [] := c_row_with D T
  refine ⟨_, (pss_cons (ps_set (i := 2) sc_sort_of.nd rfl (Or.inl rfl) (C8.pe_c c_row_with hr (by decide) rfl (pa_cons (pv 0) (pa_cons (pv 1) pa_nil))))
      (pss_cons (ps_if (pt_cmpR op_isN1 (pv 2) pe_non (nomark _)) (pss_one (ps_ret pe_non)) pss_nil)
      (pss_one (ps_ret (pe_ix ix_tup (pv 2) pe_int (fun _ _ => rfl)))))), ?_⟩
  walk_at "go"
  refine ⟨B, x, rfl, hB, s0, fun e => ?_, fun r p e hrow => ?_⟩
  · walk_at "go"
    unfold sortOf at k
    rw [e] at k
    exact k
  · obtain ⟨q1, q2, h1, h2, h3⟩ := hrow
    walk_at "go"
    refine w_ixT (SqT.of (s0 _ _ h1)) (by exact rfl) ?_
    unfold sortOf at k
    rw [e] at k
    exact k
def spHostOf : Sp := fun vs H Q _ => ∃ (B : Bk) (x : Str), vs = [.ref B.b, .str x] ∧ B.Ok ∧ Same B.G H ∧ Q (ov (hostOf B.rows x)) H
theorem c_host_of (D : Defs K mg C) (T : Tx K mg C ea) : C8.Cal P w K mg base 3 "host_of" spHostOf [] := by
  refine D.d_host_of.cal sc_host_of (fun vs H Q E h => ?_) (fun f cdv A outer s H vs Q E hr h => ?_)
  · obtain ⟨B, x, rfl, _⟩ := h
    rfl
  obtain ⟨B, x, rfl, hB, s0, k⟩ := h
  have c_row_with : C8.Cal P w K mg base 1 "row_with" spRowWith [] := c_row_with D T
  have c_sort_of : C8.Cal P w K mg base 2 "sort_of" spSortOf [] := c_sort_of D T
  refine ⟨_, (pss_cons (ps_if (pt_cmpR op_ne (C8.pe_c c_sort_of hr (by decide) rfl (pa_cons (pv 0) (pa_cons (pv 1) pa_nil))) pe_str (nomark _)) (pss_one (ps_ret pe_non)) pss_nil)
      (pss_one (ps_ret (pe_ix ix_tup (C8.pe_c c_row_with hr (by decide) rfl (pa_cons (pv 0) (pa_cons (pv 1) pa_nil))) pe_int (fun _ _ => rfl))))), ?_⟩
  walk_at "go"
  refine ⟨B, x, rfl, hB, s0, ?_⟩
  walk_at "go"
  refine w_2 (fun e => ?_) (fun e => ?_)
  · walk_at "go"
    have e2 : ¬ sortOf B.rows x = some ("frame" : Str) := by simpa using e
    have e3 : hostOf B.rows x = none := by
      unfold hostOf
      unfold sortOf at e2
      cases er : rowOf B.rows x with
      | none => rfl
      | some r =>
        rw [er] at e2
        exact if_neg fun q => e2 (congrArg some q)
    rw [e3] at k
    exact k
  · walk_at "go"
    have e2 : sortOf B.rows x = some ("frame" : Str) := by simpa using e
    refine ⟨B, x, rfl, hB, s0, fun er => ?_, fun r p er hrow => ?_⟩
    · unfold sortOf at e2
      rw [er] at e2
      cases e2
    · obtain ⟨q1, q2, h1, h2, h3⟩ := hrow
      refine w_ixT (SqT.of (s0 _ _ h1)) (by exact rfl) ?_
      have e3 : hostOf B.rows x = some r.host := by
        unfold hostOf
        unfold sortOf at e2
        rw [er] at e2 ⊢
        exact if_pos (Option.some.inj e2)
      rw [e3] at k
      exact k
def spFrameOf : Sp := fun vs H Q _ => ∃ (B : Bk) (x : Str), vs = [.ref B.b, .str x] ∧ B.Ok ∧ Same B.G H ∧ Q (ov (frameOf B.rows x)) H
theorem c_frame_of (D : Defs K mg C) (T : Tx K mg C ea) : C8.Cal P w K mg base 4 "frame_of" spFrameOf [] := by
  refine D.d_frame_of.cal sc_frame_of (fun vs H Q E h => ?_) (fun f cdv A outer s H vs Q E hr h => ?_)
  · obtain ⟨B, x, rfl, _⟩ := h
    rfl
  obtain ⟨B, x, rfl, hB, s0, k⟩ := h
  have c_host_of : C8.Cal P w K mg base 3 "host_of" spHostOf [] := c_host_of D T
  refine ⟨_, (pss_cons (ps_for PassesOwn.never rfl (pi_tup (pv 0)) (pg_name (i := 2) sc_frame_of.nd rfl (Or.inl rfl)) (pss_one (ps_if (pt_cmpR op_eq (C8.pe_c c_host_of hr (by decide) rfl (pa_cons (pv 0) (pa_cons (pe_ix ix_tup (pv 2) pe_int (fun _ _ => rfl)) pa_nil))) (pv 1) (nomark _)) (pss_one (ps_ret (pe_ix ix_tup (pv 2) pe_int (fun _ _ => rfl)))) pss_nil)))
      (pss_one (ps_ret pe_non))), ?_⟩
  obtain ⟨ps, hb, hl, hrow⟩ := hB.at_
  walk_at "go"
  refine w_forT (SqT.of (s0 _ _ hb)) (fun i σ H' => H' = H ∧ (∃ v, σ = [some (.ref B.b), some (.str x), v]) ∧ (B.rows.take i).find? (fun r => decide (hostOf B.rows r.name = some x)) = none) ⟨rfl, ⟨_, rfl⟩, rfl⟩ (fun i σ H' _ h => by rw [h.1]; exact SqT.of (s0 _ _ hb)) ?_ ?_
  · rintro i y σ H' hi ⟨rfl, ⟨v, rfl⟩, hf⟩
    obtain ⟨p, hp, rfl⟩ := map_get hi
    obtain ⟨r, hr2⟩ := get_of_len hl hp
    obtain ⟨q1, q2, h1, h2, h3⟩ := hrow i p r hp hr2
    walk_at "go"
    refine w_ixT (SqT.of (s0 _ _ h1)) (by exact rfl) ?_
    walk_at "go"
    refine ⟨B, r.name, rfl, hB, s0, ?_⟩
    walk_at "go"
    refine w_2 (fun e => ?_) (fun e => ?_)
    · walk_at "go"
      refine w_ixT (SqT.of (s0 _ _ h1)) (by exact rfl) ?_
      have e3 : frameOf B.rows x = some r.name := by
        unfold frameOf
        rw [(find_take hf hr2).1 e] <;> rfl
      rw [e3] at k
      exact k
    · walk_at "go"
      exact ⟨rfl, ⟨_, rfl⟩, (find_take hf hr2).2 e⟩
  · rintro σ H' ⟨rfl, ⟨v, rfl⟩, hf⟩
    rw [List.length_map, hl] at hf
    walk_at "go"
    have e3 : frameOf B.rows x = none := by
      unfold frameOf
      rw [find_all hf] <;> rfl
    rw [e3] at k
    exact k
def spBelongs : Sp := fun vs H Q _ => ∃ (B : Bk) (x f : Str), vs = [.ref B.b, .str x, .str f] ∧ B.Ok ∧ Same B.G H ∧ Q (.bl (belongs B.rows B.rk x f)) H
theorem c_belongs (D : Defs K mg C) (T : Tx K mg C ea) : C8.Cal P w K mg base 5 "belongs" spBelongs [] := by
  refine D.d_belongs.cal sc_belongs (fun vs H Q E h => ?_) (fun f cdv A outer s H vs Q E hr h => ?_)
  · obtain ⟨B, x, f, rfl, _⟩ := h
    rfl
  obtain ⟨B, x, fr, rfl, hB, s0, k⟩ := h
  have c_frame_of : C8.Cal P w K mg base 4 "frame_of" spFrameOf [] := c_frame_of D T
  refine ⟨_, (pss_cons (ps_set (i := 3) sc_belongs.nd rfl (Or.inl rfl) (C8.pe_c c_frame_of hr (by decide) rfl (pa_cons (pv 0) (pa_cons (pv 1) pa_nil))))
      (pss_cons (ps_while PassesOwn.never (pt_cmpR op_notN1 (pv 3) pe_non (nomark _)) (pss_cons (ps_if (pt_cmpR op_eq (pv 3) (pv 2) (nomark _)) (pss_one (ps_ret pe_bl)) pss_nil)
      (pss_one (ps_set (i := 3) sc_belongs.nd rfl (Or.inl rfl) (C8.pe_c c_frame_of hr (by decide) rfl (pa_cons (pv 0) (pa_cons (pv 3) pa_nil)))))))
      (pss_one (ps_ret pe_bl)))), ?_⟩
  walk_at "go"
  refine ⟨B, x, rfl, hB, s0, ?_⟩
  rw [belongs_eq hB.good] at k
  refine w_seq (w_while (fun m σ H' => H' = H ∧ ∃ o : Option Str, σ = [some (.ref B.b), some (.str x), some (.str fr), some (ov o)] ∧ m = (match o with | none => 0 | some g => B.rk g + 1) ∧ beOf B.rows B.rk (frameOf B.rows x) fr = beOf B.rows B.rk o fr) _ ⟨rfl, _, rfl, rfl, rfl⟩ ?_)
  rintro m σ H' ⟨rfl, o, rfl, hm, ho⟩
  walk_at "go"
  cases o with
  | none =>
    walk_at "go"
    rw [ho] at k
    exact k
  | some g =>
    have hm' : m = B.rk g + 1 := hm
    walk_at "go"
    refine w_N ?_
    show tSeq _ _ _ [some (.ref B.b), some (.str x), some (.str fr), some (.str g)] H'
    walk_at "go"
    refine w_2 (fun e => ?_) (fun e => ?_)
    · walk_at "go"
      have e2 : g = fr := of_decide_eq_true e
      have : beOf B.rows B.rk (some g) fr = true := if_pos e2
      rw [ho, this] at k
      exact k
    · walk_at "go"
      have e2 : ¬ g = fr := of_decide_eq_false e
      refine ⟨B, g, rfl, hB, s0, ?_⟩
      have h1 : beOf B.rows B.rk (some g) fr = beOf B.rows B.rk (frameOf B.rows g) fr := by
        rw [← belongs_eq hB.good]
        exact if_neg e2
      refine ⟨_, ?_, rfl, frameOf B.rows g, rfl, rfl, by rw [ho, h1]⟩
      rw [hm']
      cases e3 : frameOf B.rows g with
      | none => exact Nat.succ_pos _
      | some g2 => exact Nat.succ_lt_succ (frame_rk hB.good e3)
def spWall : Sp := fun vs H Q _ => ∃ (B : Bk) (x : Str), vs = [.ref B.b, .str x] ∧ B.Ok ∧ Same B.G H ∧ ∀ H', Same H H' → Q (.bl (wall B.rows x)) H'
theorem c_is_wall (D : Defs K mg C) (T : Tx K mg C ea) : C8.Cal P w K mg base 3 "is_wall" spWall [] := by
  refine D.d_is_wall.cal sc_is_wall (fun vs H Q E h => ?_) (fun f cdv A outer s H vs Q E hr h => ?_)
  · obtain ⟨B, x, rfl, _⟩ := h
    rfl
  obtain ⟨B, x, rfl, hB, s0, k⟩ := h
  have c_sort_of : C8.Cal P w K mg base 2 "sort_of" spSortOf [] := c_sort_of D T
  refine ⟨_, (pss_one (ps_ret (pe_cmpR op_in_seq (C8.pe_c c_sort_of hr (by decide) rfl (pa_cons (pv 0) (pa_cons (pv 1) pa_nil))) (pe_tup (pa_cons pe_str (pa_cons pe_str pa_nil))) (by rfl)))), ?_⟩
  walk_at "go"
  refine ⟨B, x, rfl, hB, s0, ?_⟩
  walk_at "go"
  refine w_mkT fun p H1 n1 s1 t1 => ?_
  refine w_inO (ys := ["room", "frame"]) (Or.inr (SqT.of t1)) ?_
  exact k _ s1
theorem near_snoc {rows : List Row} (rn : List Str) (x : Str) : near rows (x :: rn) = if wall rows x = true then [] else near rows rn ++ [x] := rfl
def spNearOf : Sp := fun vs H Q _ => ∃ (B : Bk) (n : Addr) (rn : List Str), vs = [.ref B.b, .ref n] ∧ B.Ok ∧ Same B.G H ∧ H n = some (.tup (rn.reverse.map V.str)) ∧ rn.length ≤ 1000 ∧ ∀ H' p, Same H H' → H' p = some (.tup ((near B.rows rn).map V.str)) → Q (.ref p) H'
theorem c_near_of (D : Defs K mg C) (T : Tx K mg C ea) : C8.Cal P w K mg base 3 "near_of" spNearOf [] := by
  refine D.d_near_of.cal sc_near_of (fun vs H Q E h => ?_) (fun f cdv A outer s H vs Q E hr h => ?_)
  · obtain ⟨B, n, rn, rfl, _⟩ := h
    rfl
  obtain ⟨B, n, rn, rfl, hB, s0, hn, hlen, k⟩ := h
  have c_sort_of : C8.Cal P w K mg base 2 "sort_of" spSortOf [] := c_sort_of D T
  refine ⟨_, (pss_cons (ps_set (i := 2) sc_near_of.nd rfl (Or.inl rfl) (pe_lst pa_nil))
      (pss_cons (ps_for PassesOwn.never rfl (pi_tup (pv 1)) (pg_name (i := 3) sc_near_of.nd rfl (Or.inl rfl)) (pss_one (ps_if (pt_cmpR op_in_seq (C8.pe_c c_sort_of hr (by decide) rfl (pa_cons (pv 0) (pa_cons (pv 3) pa_nil))) (pe_tup (pa_cons pe_str (pa_cons pe_str pa_nil))) (by rfl)) (pss_one (ps_set (i := 2) sc_near_of.nd rfl (Or.inl rfl) (pe_lst pa_nil))) (pss_one (ps_expr (pe_bm PySem.F.plainAttrs_list PySem.F.slot_list_append PySem.F.type_list_append mt_append (pv 2) (pa_cons (pv 3) pa_nil)))))))
      (pss_one (ps_ret (pe_callTy call_tupQ (by rfl) T.b_tuple (by decide +kernel) (pa_cons (pv 2) pa_nil)))))), ?_⟩
  walk_at "go"
  refine w_mkL fun l H1 n1 s1 l1 => ?_
  walk_at "go"
  refine w_forT (SqT.of (s1 _ _ hn)) (fun i σ H' => ∃ (l : Addr) (v : Option V), σ = [some (.ref B.b), some (.ref n), some (.ref l), v] ∧ Same H H' ∧ H l = none ∧ H' l = some (.lst ((near B.rows (rn.reverse.take i).reverse).map V.str)))
    ⟨l, _, rfl, s1, n1, l1⟩ (fun i σ H' _ h => by obtain ⟨_, _, _, z, _⟩ := h; exact SqT.of (z _ _ hn)) ?_ ?_
  · rintro i y σ H' hi ⟨l2, v, rfl, s2, n2, h2⟩
    obtain ⟨x, hx, rfl⟩ := map_get hi
    walk_at "go"
    refine ⟨B, x, rfl, hB, s0.trans s2, ?_⟩
    walk_at "go"
    refine w_mkT fun p H3 n3 s3 t3 => ?_
    refine w_inO (ys := ["room", "frame"]) (Or.inr (SqT.of t3)) ?_
    walk_at "go"
    have e1 : near B.rows (rn.reverse.take (i + 1)).reverse = if wall B.rows x = true then [] else near B.rows (rn.reverse.take i).reverse ++ [x] := by
      rw [take_rev_succ hx, near_snoc]
    refine w_2 (fun e => ?_) (fun e => ?_)
    · have e' : wall B.rows x = true := e
      rw [if_pos e'] at e1
      walk_at "go"
      refine w_mkL fun l4 H4 n4 s4 l4' => ?_
      walk_at "go"
      exact ⟨l4, _, rfl, s2.trans (s3.trans s4), none_back (s2.trans s3) n4, by rw [e1]; exact l4'⟩
    · have e' : ¬ wall B.rows x = true := by rw [show wall B.rows x = false from e]; decide
      rw [if_neg e'] at e1
      walk_at "go"
      refine w_tyL (s3 _ _ h2) ?_
      walk_at "go"
      refine w_app (s3 _ _ h2) ?_ fun H4 b4 l4 => ?_
      · have := near_len (rows := B.rows) (rn.reverse.take i).reverse
        rw [List.length_reverse, List.length_take, List.length_reverse] at this
        rw [List.length_map]
        exact szM' (by omega)
      walk_at "go"
      refine ⟨l2, _, rfl, sm_but (s2.trans s3) n2 b4, n2, ?_⟩
      rw [e1, List.map_append]
      exact l4
  · rintro σ H' ⟨l2, v, rfl, s2, n2, h2⟩
    rw [List.length_map, List.length_reverse, List.take_of_length_le (by rw [List.length_reverse]; exact Nat.le_refl _), List.reverse_reverse] at h2
    walk_at "go"
    refine w_tupL (SqL.of h2) fun p H3 n3 s3 t3 => ?_
    exact k _ _ (s2.trans s3) t3
end
end Tg

namespace Tg
open PySem PySem.Spec PyProof.Rows L2
theorem rows_of {rows : List Row} {x : Str} {r : Row} (h : rowOf rows x = some r) : ∃ q ∈ rows, q.name = x := ⟨r, row_some h⟩
theorem at_rev {rn : List Str} {k : Nat} {y : Str} (h : rn.reverse[k]? = some y) : atI (rn.reverse.map V.str) ((k : Nat) : Int) = some (.str y) := atI_nat (by rw [List.getElem?_map, h] <;> rfl)
section
variable {P : Program} {w : World} {K : PySem.W.Frag} {mg : Str → Option Value} {base : Heap} {C ea : Addr}
def spRowIn : Sp := fun vs H Q _ => ∃ (B : Bk) (x : Str) (r : Row), vs = [.ref B.b, .str x] ∧ B.Ok ∧ Same B.G H ∧ rowOf B.rows x = some r ∧ ∀ H' p, Same H H' → RowAt B.G p r → Q (.ref p) H'
theorem c_row_in (D : Defs K mg C) (T : Tx K mg C ea) : C8.Cal P w K mg base 1 "row_in" spRowIn [] := by
  refine D.d_row_in.cal sc_row_in (fun vs H Q E h => ?_) (fun f cdv A outer s H vs Q E hr h => ?_)
  · obtain ⟨B, x, r, rfl, _⟩ := h
    rfl
  obtain ⟨B, x, r0, rfl, hB, s0, hr0, k⟩ := h
  refine ⟨_, (pss_one (ps_ret (pe_ix ix_list (pe_lc (own := [("one", 2)]) (g := gName 2) (by rfl) sc_row_in.nd (pi_tup (pv 0)) (blkOk_by (own := [("one", 2)]) (N := N_row_in) (sc := defScope s_row_in) (by decide +kernel)) (fun _ _ _ _ _ => pg_name (i := 2) sc_row_in.nd rfl (Or.inl rfl)) (fun _ _ _ _ _ => pts_one (pt_cmpR op_eq (pe_ix (r := rIxT K) ix_tup (pv 2) pe_int (fun _ _ => rfl)) (pv 1) (nomark _))) (fun _ _ _ _ _ => (pv 2))) pe_int (fun _ _ => rfl)))), ?_⟩
  obtain ⟨ps, hb, hl, hrow⟩ := hB.at_
  walk_at "go"
  refine w_lcT (SqT.of (s0 _ _ hb)) (fun Dl i H' => H Dl = none ∧ Same H H' ∧ ∃ acc : List V, H' Dl = some (.lst acc) ∧ acc.length ≤ i ∧ ((B.rows.take i).find? (fun r => decide (r.name = x)) = none → acc = []) ∧ ∀ r, (B.rows.take i).find? (fun r => decide (r.name = x)) = some r → ∃ p, acc[0]? = some (.ref p) ∧ RowAt B.G p r)
    (fun Dl hD => ⟨hD, sm_new hD, [], upd_same, Nat.le_refl _, fun _ => rfl, fun r h => by cases h⟩) (fun Dl i H' _ h => SqT.of (h.2.1 _ _ (s0 _ _ hb))) ?_ ?_
  · rintro Dl i y H' hi ⟨hD, s1, acc, ha, hal, hn, hs⟩
    obtain ⟨p, hp, rfl⟩ := map_get hi
    obtain ⟨r, hr2⟩ := get_of_len hl hp
    have hR := hrow i p r hp hr2
    obtain ⟨q1, q2, h1, h2, h3⟩ := id hR
    have hi12 : i < 12 := Nat.lt_of_lt_of_le (List.getElem?_eq_some_iff.mp hr2).1 hB.good.len
    walk_at "go"
    refine ⟨rfl, ?_⟩
    walk_at "go"
    refine w_ixT (SqT.of (s1 _ _ (s0 _ _ h1))) (by exact rfl) ?_
    walk_at "go"
    have et : B.rows.take (i + 1) = B.rows.take i ++ [r] := by rw [List.take_add_one, hr2] <;> rfl
    refine w_2 (fun e => ?_) (fun e => ?_)
    · walk_at "go"
      refine ⟨acc, ha, szM' (by omega), hD, sm_but s1 hD but_upd, acc ++ [.ref p], upd_same, by rw [List.length_append, List.length_singleton]; omega, fun q => ?_, fun r2 q => ?_⟩
      · rw [et, List.find?_append] at q
        have q2 : ([r].find? fun r => decide (r.name = x)) = some r := by rw [List.find?_cons, e]
        rw [q2] at q
        cases q3 : (B.rows.take i).find? fun r => decide (r.name = x) with
        | none =>
          rw [q3] at q
          cases q
        | some z =>
          rw [q3] at q
          cases q
      · rw [et, List.find?_append] at q
        cases q3 : (B.rows.take i).find? fun r => decide (r.name = x) with
        | none =>
          rw [q3] at q
          have q2 : ([r].find? fun r => decide (r.name = x)) = some r := by rw [List.find?_cons, e]
          rw [q2] at q
          have q4 : r = r2 := Option.some.inj q
          subst q4
          rw [hn q3]
          exact ⟨p, rfl, hR⟩
        | some z =>
          rw [q3] at q
          have q4 : z = r2 := Option.some.inj q
          subst q4
          obtain ⟨p2, e1, e2⟩ := hs z q3
          refine ⟨p2, ?_, e2⟩
          rw [List.getElem?_append_left (List.getElem?_eq_some_iff.mp e1).1]
          exact e1
    · have q2 : ([r].find? fun r => decide (r.name = x)) = none := by rw [List.find?_cons, e] <;> rfl
      refine ⟨hD, s1, acc, ha, by omega, fun q => hn ?_, fun r2 q => hs r2 ?_⟩
      · rw [et, List.find?_append, q2, Option.or_none] at q
        exact q
      · rw [et, List.find?_append, q2, Option.or_none] at q
        exact q
  · rintro Dl H' ⟨hD, s1, acc, ha, hal, hn, hs⟩
    rw [List.length_map, hl] at hs
    obtain ⟨p, e1, e2⟩ := hs r0 (by rw [List.take_length]; exact hr0)
    walk_at "go"
    refine w_ixL (SqL.of ha) (atI_nat (j := 0) e1) ?_
    exact k _ _ s1 e2
def spLastOne : Sp := fun vs H Q _ => ∃ (B : Bk) (n : Addr) (rn : List Str) (x : Str), vs = [.ref B.b, .ref n, .str x] ∧ B.Ok ∧ Same B.G H ∧ H n = some (.tup (rn.reverse.map V.str)) ∧ rn.length ≤ 1000 ∧ ∀ H', Same H H' → Q (oi (lastOne B.rows B.rk x rn)) H'
theorem c_last_one (D : Defs K mg C) (T : Tx K mg C ea) : C8.Cal P w K mg base 6 "last_one" spLastOne [] := by
  refine D.d_last_one.cal sc_last_one (fun vs H Q E h => ?_) (fun f cdv A outer s H vs Q E hr h => ?_)
  · obtain ⟨B, n, rn, x, rfl, _⟩ := h
    rfl
  obtain ⟨B, n, rn, x, rfl, hB, s0, hn, hlen, k⟩ := h
  have c_is_wall : C8.Cal P w K mg base 3 "is_wall" spWall [] := c_is_wall D T
  have c_belongs : C8.Cal P w K mg base 5 "belongs" spBelongs [] := c_belongs D T
  refine ⟨_, (pss_cons (ps_for PassesOwn.never rfl (pi_revR (by rfl) T.b_reversed (prg_1 (by rfl) T.b_range (pe_callB call_lenQ (by rfl) T.b_len PySem.boot_len (pa_cons (pv 1) pa_nil)))) (pg_name (i := 3) sc_last_one.nd rfl (Or.inl rfl)) (pss_cons (ps_if (pt_cmpR op_eq (pe_ix ix_tup (pv 1) (pv 3) (fun _ _ => rfl)) (pv 2) (nomark _)) (pss_one (ps_ret (pv 3))) pss_nil)
      (pss_one (ps_if (PW.pt (pw_and (pt_val (C8.pe_c c_is_wall hr (by decide) rfl (pa_cons (pv 0) (pa_cons (pe_ix ix_tup (pv 1) (pv 3) (fun _ _ => rfl)) pa_nil)))) (pw_and1 (pt_not (pt_val (C8.pe_c c_belongs hr (by decide) rfl (pa_cons (pv 0) (pa_cons (pe_ix ix_tup (pv 1) (pv 3) (fun _ _ => rfl)) (pa_cons (pv 2) pa_nil))))))))) (pss_one (ps_ret pe_non)) pss_nil))))
      (pss_one (ps_ret pe_non))), ?_⟩
  walk_at "go"
  refine w_lenT (SqT.of hn) ?_
  rw [List.length_map, List.length_reverse]
  refine w_forV (by omega) (fun i σ H' => (∃ v, σ = [some (.ref B.b), some (.ref n), some (.str x), v]) ∧ Same H H' ∧ lastOne B.rows B.rk x rn = lastOne B.rows B.rk x (rn.drop i)) ⟨⟨_, rfl⟩, Same.refl H, rfl⟩ ?_ ?_
  · rintro i σ H' hi ⟨⟨v, rfl⟩, s1, ho⟩
    obtain ⟨y, hy⟩ := get_lt hi
    have hy2 : rn.reverse[rn.length - 1 - i]? = some y := by rw [rev_get hi]; exact hy
    rw [lastOne_drop hy] at ho
    walk_at "go"
    refine w_ixT (SqT.of (s1 _ _ hn)) (at_rev hy2) ?_
    walk_at "go"
    refine w_2 (fun e => ?_) (fun e => ?_)
    · walk_at "go"
      rw [if_pos (of_decide_eq_true e)] at ho
      rw [ho] at k
      exact k _ s1
    · rw [if_neg (of_decide_eq_false e)] at ho
      walk_at "go"
      refine w_ixT (SqT.of (s1 _ _ hn)) (at_rev hy2) ?_
      walk_at "go"
      refine ⟨B, y, rfl, hB, s0.trans s1, fun H2 s2 => ?_⟩
      walk_at "go"
      have fin : (wall B.rows y && !belongs B.rows B.rk y x) = false → lastOne B.rows B.rk x rn = lastOne B.rows B.rk x (rn.drop (i + 1)) := fun z => by rw [ho, z]; exact if_neg Bool.false_ne_true
      refine w_2 (fun e2 => ?_) (fun e2 => ?_)
      · walk_at "go"
        refine w_ixT (SqT.of (s2 _ _ (s1 _ _ hn))) (at_rev hy2) ?_
        walk_at "go"
        refine ⟨B, y, x, rfl, hB, s0.trans (s1.trans s2), ?_⟩
        walk_at "go"
        refine w_2 (fun e3 => ?_) (fun e3 => ?_)
        · walk_at "go"
          rw [e2, e3, if_pos (show (true && true) = true from rfl)] at ho
          rw [ho] at k
          exact k _ (s1.trans s2)
        · walk_at "go"
          exact ⟨⟨_, rfl⟩, s1.trans s2, fin (by rw [e2, e3] <;> rfl)⟩
      · walk_at "go"
        exact ⟨⟨_, rfl⟩, s1.trans s2, fin (by rw [e2] <;> rfl)⟩
  · rintro σ H' ⟨⟨v, rfl⟩, s1, ho⟩
    rw [List.drop_length] at ho
    walk_at "go"
    rw [ho] at k
    exact k _ s1
theorem c_closing (D : Defs K mg C) (T : Tx K mg C ea) : C8.Cal P w K mg base 7 "closing" spLastOne [] := by
  refine D.d_closing.cal sc_closing (fun vs H Q E h => ?_) (fun f cdv A outer s H vs Q E hr h => ?_)
  · obtain ⟨B, n, rn, x, rfl, _⟩ := h
    rfl
  obtain ⟨B, n, rn, x, rfl, h⟩ := h
  have c_last_one : C8.Cal P w K mg base 6 "last_one" spLastOne [] := c_last_one D T
  refine ⟨_, (pss_one (ps_ret (C8.pe_c c_last_one hr (by decide) rfl (pa_cons (pv 0) (pa_cons (pv 1) (pa_cons (pv 2) pa_nil)))))), ?_⟩
  walk_at "go"
  exact ⟨B, n, rn, x, rfl, h⟩
def spHostsIn : Sp := fun vs H Q _ => ∃ (B : Bk) (n : Addr) (rn : List Str), vs = [.ref B.b, .ref n] ∧ B.Ok ∧ Same B.G H ∧ H n = some (.tup (rn.reverse.map V.str)) ∧ rn.length ≤ 1000 ∧ Inb B.rows rn ∧ ∀ H' p, Same H H' → H' p = some (.tup ((hostsIn B.rows B.rk rn).map V.str)) → Q (.ref p) H'
theorem c_hosts_in (D : Defs K mg C) (T : Tx K mg C ea) : C8.Cal P w K mg base 4 "hosts_in" spHostsIn [] := by
  refine D.d_hosts_in.cal sc_hosts_in (fun vs H Q E h => ?_) (fun f cdv A outer s H vs Q E hr h => ?_)
  · obtain ⟨B, n, rn, rfl, _⟩ := h
    rfl
  obtain ⟨B, n, rn, rfl, hB, s0, hn, hlen, hin, k⟩ := h
  have c_sort_of : C8.Cal P w K mg base 2 "sort_of" spSortOf [] := c_sort_of D T
  have c_host_of : C8.Cal P w K mg base 3 "host_of" spHostOf [] := c_host_of D T
  refine ⟨_, (pss_cons (ps_set (i := 2) sc_hosts_in.nd rfl (Or.inl rfl) (pe_lst pa_nil))
      (Evl.pss_cut (ps_if (PW.pt (pw_and (pt_cmpR (op_neD (hu64 hr)) (pv 1) (pe_tup pa_nil) (nomark _)) (pw_and1 (pt_cmpR op_eq (C8.pe_c c_sort_of hr (by decide) rfl (pa_cons (pv 0) (pa_cons (pe_ix ix_tup (pv 1) (pe_un un_neg pe_int) (fun _ _ => rfl)) pa_nil))) pe_str (nomark _))))) (pss_cons (ps_expr (pe_bm PySem.F.plainAttrs_list PySem.F.slot_list_append PySem.F.type_list_append mt_append (pv 2) (pa_cons (C8.pe_c c_host_of hr (by decide) rfl (pa_cons (pv 0) (pa_cons (pe_ix ix_tup (pv 1) (pe_un un_neg pe_int) (fun _ _ => rfl)) pa_nil))) pa_nil)))
      (pss_one (ps_while PassesOwn.never (pt_cmpR op_eq (C8.pe_c c_sort_of hr (by decide) rfl (pa_cons (pv 0) (pa_cons (pe_ix ix_list (pv 2) (pe_un un_neg pe_int) (fun _ _ => rfl)) pa_nil))) pe_str (nomark _)) (pss_one (ps_expr (pe_bm PySem.F.plainAttrs_list PySem.F.slot_list_append PySem.F.type_list_append mt_append (pv 2) (pa_cons (C8.pe_c c_host_of hr (by decide) rfl (pa_cons (pv 0) (pa_cons (pe_ix ix_list (pv 2) (pe_un un_neg pe_int) (fun _ _ => rfl)) pa_nil))) pa_nil))))))) pss_nil)
      (pss_one (ps_ret (pe_callTy call_tupQ (by rfl) T.b_tuple (by decide +kernel) (pa_cons (pv 2) pa_nil)))))), ?_⟩
  walk_at "go"
  refine w_mkL fun l H1 n1 s1 l1 => ?_
  refine w_cut (M := fun σ' H' => ∃ l, σ' = [some (.ref B.b), some (.ref n), some (.ref l)] ∧ Same H H' ∧ H' l = some (.lst ((hostsIn B.rows B.rk rn).map V.str))) ?_ ?_
  · walk_at "go"
    refine w_mkT fun p H2 n2 s2 t2 => ?_
    refine w_neT0 (ys := rn.reverse) (s2 _ _ (s1 _ _ hn)) t2 (fun y hy => hin.ok hB.good y (List.mem_reverse.mp hy)) ?_
    walk_at "go"
    cases rn with
    | nil =>
      walk_at "go"
      exact ⟨l, rfl, s1.trans s2, s2 _ _ l1⟩
    | cons y r =>
      have e0 : (!((y :: r).reverse).isEmpty) = true := by simp
      rw [e0]
      have e1 : atI ((y :: r).reverse.map V.str) (-1) = some (.str y) := by
        rw [List.reverse_cons, List.map_append]
        exact atI_last _ _
      walk_at "go"
      refine w_ixT (SqT.of (s2 _ _ (s1 _ _ hn))) e1 ?_
      walk_at "go"
      refine ⟨B, y, rfl, hB, s0.trans (s1.trans s2), ?_⟩
      walk_at "go"
      refine w_2 (fun e => ?_) (fun e => ?_)
      · obtain ⟨h0, hh0⟩ := host_of_sort hB.good (of_decide_eq_true e)
        walk_at "go"
        refine w_tyL (s2 _ _ l1) ?_
        walk_at "go"
        refine w_ixT (SqT.of (s2 _ _ (s1 _ _ hn))) e1 ?_
        walk_at "go"
        refine ⟨B, y, rfl, hB, s0.trans (s1.trans s2), ?_⟩
        walk_at "go"
        rw [hh0]
        refine w_app (s2 _ _ l1) (by show 0 < sizeLine; decide) fun H3 b3 l3 => ?_
        have s3 : Same H H3 := sm_but (s1.trans s2) n1 b3
        have hall : hostsIn B.rows B.rk (y :: r) = h0 :: hostsFrom B.rows B.rk h0 := by
          show hostsFrom B.rows B.rk y = _
          rw [hostsFrom_eq hB.good, hh0]
        have htot := (hostsIn_ok hB.good (y :: r)).2
        refine w_while (fun m σ' H' => ∃ (pre : List Str) (x : Str), σ' = [some (.ref B.b), some (.ref n), some (.ref l)] ∧ Same H H' ∧ H' l = some (.lst ((pre ++ [x]).map V.str)) ∧ (pre ++ [x]) ++ hostsFrom B.rows B.rk x = hostsIn B.rows B.rk (y :: r) ∧ m = 13 - B.rk x) _
          ⟨[], h0, rfl, s3, l3, hall.symm, rfl⟩ ?_
        rintro m σ' H' ⟨pre, x, rfl, s4, l4, hp, hm⟩
        have e2 : atI ((pre ++ [x]).map V.str) (-1) = some (.str x) := by
          rw [List.map_append]
          exact atI_last _ _
        have hlen2 := congrArg List.length hp
        rw [List.length_append] at hlen2
        walk_at "go"
        refine w_ixL (SqL.of l4) e2 ?_
        walk_at "go"
        refine ⟨B, x, rfl, hB, s0.trans s4, ?_⟩
        walk_at "go"
        refine w_2 (fun e3 => ?_) (fun e3 => ?_)
        · obtain ⟨h1, hh1⟩ := host_of_sort hB.good (of_decide_eq_true e3)
          refine w_N ?_
          walk_at "go"
          refine w_tyL l4 ?_
          walk_at "go"
          refine w_ixL (SqL.of l4) e2 ?_
          walk_at "go"
          refine ⟨B, x, rfl, hB, s0.trans s4, ?_⟩
          walk_at "go"
          rw [hh1]
          refine w_app l4 (by rw [List.length_map]; exact szM' (by omega)) fun H5 b5 l5 => ?_
          obtain ⟨_, _, r1, r2⟩ := host_some hB.good hh1
          refine ⟨13 - B.rk h1, by omega, pre ++ [x], h1, rfl, sm_but s4 n1 b5, ?_, ?_, rfl⟩
          · rw [List.map_append (l₂ := [h1])]
            exact l5
          · rw [← hp, hostsFrom_eq hB.good x, hh1]
            simp
        · have e4 : hostsFrom B.rows B.rk x = [] := by rw [hostsFrom_eq hB.good, host_none (of_decide_eq_false e3)]
          rw [e4, List.append_nil] at hp
          exact ⟨l, rfl, s4, by rw [← hp]; exact l4⟩
      · walk_at "go"
        have e2 : hostsIn B.rows B.rk (y :: r) = [] := by
          show hostsFrom B.rows B.rk y = []
          rw [hostsFrom_eq hB.good, host_none (of_decide_eq_false e)]
        exact ⟨l, rfl, s1.trans s2, by rw [e2]; exact s2 _ _ l1⟩
  · rintro σ' H' ⟨l2, rfl, s2, h2⟩
    walk_at "go"
    refine w_tupL (SqL.of h2) fun p H3 n3 s3 t3 => ?_
    exact k _ _ (s2.trans s3) t3
end
end Tg

namespace Tg
open PySem PySem.Spec PyProof.Rows L2
section
variable {P : Program} {w : World} {K : PySem.W.Frag} {mg : Str → Option Value} {base : Heap} {C ea : Addr}
def spShutFrom : Sp := fun vs H Q _ => ∃ (B : Bk) (n : Addr) (rn : List Str) (x : Str) (r : Row), vs = [.ref B.b, .ref n, .str x] ∧ B.Ok ∧ Same B.G H ∧ H n = some (.tup (rn.reverse.map V.str)) ∧ rn.length ≤ 1000 ∧ rowOf B.rows x = some r ∧ ∀ H', Same H H' → Q (.int (shutFrom B.rows rn x : Nat)) H'
theorem shuts_of {rows : List Row} {x : Str} {r : Row} (h : rowOf rows x = some r) : shutsOf rows x = r.shuts := by
  unfold shutsOf
  rw [h]
theorem bars_of {rows : List Row} {x : Str} {r : Row} (h : rowOf rows x = some r) : barsOf rows x = r.bars := by
  unfold barsOf
  rw [h]
theorem c_shut_from (D : Defs K mg C) (T : Tx K mg C ea) : C8.Cal P w K mg base 4 "shut_from" spShutFrom [] := by
  refine D.d_shut_from.cal sc_shut_from (fun vs H Q E h => ?_) (fun f cdv A outer s H vs Q E hr h => ?_)
  · obtain ⟨B, n, rn, x, r, rfl, _⟩ := h
    rfl
  obtain ⟨B, n, rn, x, r, rfl, hB, s0, hn, hlen, hrow, k⟩ := h
  have c_near_of : C8.Cal P w K mg base 3 "near_of" spNearOf [] := c_near_of D T
  have c_row_in : C8.Cal P w K mg base 1 "row_in" spRowIn [] := c_row_in D T
  refine ⟨_, (pss_cons (ps_set (i := 3) sc_shut_from.nd rfl (Or.inl rfl) (C8.pe_c c_near_of hr (by decide) rfl (pa_cons (pv 0) (pa_cons (pv 1) pa_nil))))
      (pss_cons (ps_set (i := 4) sc_shut_from.nd rfl (Or.inl rfl) (pe_ix ix_tup (C8.pe_c c_row_in hr (by decide) rfl (pa_cons (pv 0) (pa_cons (pv 2) pa_nil))) pe_int (fun _ _ => rfl)))
      (pss_cons (ps_for PassesOwn.never rfl (pi_enumT (by rfl) T.b_enumerate (pa_cons (pv 3) pa_nil)) (pg_tup rfl (pgs_cons (pg_name (i := 5) sc_shut_from.nd rfl (Or.inl rfl)) (pgs_cons (pg_name (i := 6) sc_shut_from.nd rfl (Or.inl rfl)) pgs_nil))) (pss_one (ps_if (pt_cmpR op_in_seq (pv 6) (pv 4) (by rfl)) (pss_one (ps_ret (pe_op op_add (pe_op op_sub (pe_callB call_lenQ (by rfl) T.b_len PySem.boot_len (pa_cons (pv 1) pa_nil)) (pe_callB call_lenQ (by rfl) T.b_len PySem.boot_len (pa_cons (pv 3) pa_nil))) (pv 5)))) pss_nil)))
      (pss_one (ps_ret (pe_callB call_lenQ (by rfl) T.b_len PySem.boot_len (pa_cons (pv 1) pa_nil))))))), ?_⟩
  walk_at "go"
  refine ⟨B, n, rn, rfl, hB, s0, hn, hlen, fun H1 p s1 hp => ?_⟩
  walk_at "go"
  refine ⟨B, x, r, rfl, hB, s0.trans s1, hrow, fun H2 q s2 hR => ?_⟩
  obtain ⟨q1, q2, h1, h2, h3⟩ := hR
  have s02 : Same B.G H2 := s0.trans (s1.trans s2)
  walk_at "go"
  refine w_ixT (SqT.of (s02 _ _ h1)) (by exact rfl) ?_
  walk_at "go"
  have hnl := near_len (rows := B.rows) rn
  have hd : (fun y => decide (y ∈ shutsOf B.rows x)) = fun y => decide (y ∈ r.shuts) := by rw [shuts_of hrow]
  refine w_forET (s2 _ _ hp) (fun i σ' H' => (∃ v1 v2, σ' = [some (.ref B.b), some (.ref n), some (.str x), some (.ref p), some (.ref q1), v1, v2]) ∧ Same H2 H' ∧ ((near B.rows rn).take i).findIdx? (fun y => decide (y ∈ r.shuts)) = none)
    ⟨⟨_, _, rfl⟩, Same.refl _, rfl⟩ (fun i σ' H' _ h => h.2.1 _ _ (s2 _ _ hp)) ?_ ?_
  · rintro i v σ' H' hi ⟨⟨v1, v2, rfl⟩, s3, hf⟩ U hU
    obtain ⟨y, hy, rfl⟩ := map_get hi
    have sU : Same H' (upd H' U (.tup [.int (i : Nat), .str y])) := sm_new hU
    refine w_gT (SqT.of upd_same) rfl ?_
    walk_at "go"
    refine w_inSs (ys := r.shuts) (Or.inr (SqT.of (sU _ _ (s3 _ _ (s02 _ _ h2))))) ?_
    walk_at "go"
    refine w_2 (fun e => ?_) (fun e => ?_)
    · walk_at "go"
      refine w_lenT (SqT.of (sU _ _ (s3 _ _ (s2 _ _ (s1 _ _ hn))))) ?_
      walk_at "go"
      refine w_lenT (SqT.of (sU _ _ (s3 _ _ (s2 _ _ hp)))) ?_
      walk_at "go"
      rw [List.length_map, List.length_map, List.length_reverse]
      have e2 : shutFrom B.rows rn x = rn.length - (near B.rows rn).length + i := by
        unfold shutFrom
        rw [hd, (fidx_take hf hy).1 e]
      have e3 : (rn.length : Int) - ((near B.rows rn).length : Int) + (i : Int) = ((shutFrom B.rows rn x : Nat) : Int) := by
        rw [e2]
        omega
      rw [e3]
      exact k _ (s1.trans (s2.trans (s3.trans sU)))
    · walk_at "go"
      exact ⟨⟨_, _, rfl⟩, s3.trans sU, (fidx_take hf hy).2 e⟩
  · rintro σ' H' ⟨⟨v1, v2, rfl⟩, s3, hf⟩
    rw [List.length_map, List.take_length] at hf
    walk_at "go"
    refine w_lenT (SqT.of (s3 _ _ (s2 _ _ (s1 _ _ hn)))) ?_
    rw [List.length_map, List.length_reverse]
    have e2 : shutFrom B.rows rn x = rn.length := by
      unfold shutFrom
      rw [hd, hf]
    rw [← e2]
    exact k _ (s1.trans (s2.trans s3))
def spWanted (m : Nat) : Sp := fun vs H Q _ => ∃ (B : Bk) (n : Addr) (rn : List Str) (x : Str), vs = [.ref B.b, .ref n, .str x] ∧ B.Ok ∧ Same B.G H ∧ H n = some (.tup (rn.reverse.map V.str)) ∧ rn.length ≤ 1000 ∧ Inb B.rows rn ∧ (∃ r ∈ B.rows, r.name = x) ∧ B.rk x < m ∧
  ∀ H' p q, Same H H' → H' p = some (.tup [.int ((wanted B.rows B.rk rn x).1 : Nat), .ref q]) → H' q = some (.tup ((wanted B.rows B.rk rn x).2.map V.str)) → Q (.ref p) H'
theorem c_wanted_n (D : Defs K mg C) (T : Tx K mg C ea) : ∀ m : Nat, C8.Cal P w K mg base (7 + m) "wanted_by" (spWanted m) []
  | 0 => D.d_wanted_by.never fun vs H Q E h => by
    obtain ⟨B, n, rn, x, _, _, _, _, _, _, _, h, _⟩ := h
    exact absurd h (Nat.not_lt_zero _)
  | m + 1 => by
    have c_wanted_by : C8.Cal P w K mg base (7 + m) "wanted_by" (spWanted m) [] := c_wanted_n D T m
    refine D.d_wanted_by.cal (k := 7 + m) sc_wanted_by (fun vs H Q E h => ?_) (fun f cdv A outer s H vs Q E hr h => ?_)
    · obtain ⟨B, n, rn, x, rfl, _⟩ := h
      rfl
    obtain ⟨B, n, rn, x, rfl, hB, s0, hn, hlen, hin, hx, hm, k⟩ := h
    have c_frame_of : C8.Cal P w K mg base 4 "frame_of" spFrameOf [] := c_frame_of D T
    have c_hosts_in : C8.Cal P w K mg base 4 "hosts_in" spHostsIn [] := c_hosts_in D T
    have c_last_one : C8.Cal P w K mg base 6 "last_one" spLastOne [] := c_last_one D T
    have c_shut_from : C8.Cal P w K mg base 4 "shut_from" spShutFrom [] := c_shut_from D T
    refine ⟨_, (pss_cons (ps_set (i := 3) sc_wanted_by.nd rfl (Or.inl rfl) (C8.pe_c c_frame_of hr (by omega) rfl (pa_cons (pv 0) (pa_cons (pv 2) pa_nil))))
      (pss_cons (ps_if (pt_cmpR op_notN1 (pv 3) pe_non (nomark _)) (pss_cons (ps_set (i := 4) sc_wanted_by.nd rfl (Or.inl rfl) (C8.pe_c c_last_one hr (by omega) rfl (pa_cons (pv 0) (pa_cons (pv 1) (pa_cons (pv 3) pa_nil)))))
      (pss_cons (ps_if (pt_cmpR op_notN1 (pv 4) pe_non (nomark _)) (pss_one (ps_ret (pe_tup (pa_cons (pe_op op_add (pv 4) pe_int) (pa_cons (pe_tup (pa_cons (pv 2) pa_nil)) pa_nil))))) pss_nil)
      (pss_cons (ps_asg (C8.pe_c c_wanted_by hr (by omega) rfl (pa_cons (pv 0) (pa_cons (pv 1) (pa_cons (pv 3) pa_nil)))) (pg_tup rfl (pgs_cons (pg_name (i := 5) sc_wanted_by.nd rfl (Or.inl rfl)) (pgs_cons (pg_name (i := 6) sc_wanted_by.nd rfl (Or.inl rfl)) pgs_nil))))
      (pss_one (ps_ret (pe_tup (pa_cons (pv 5) (pa_cons (pe_op op_catA (pv 6) (pe_tup (pa_cons (pv 2) pa_nil))) pa_nil)))))))) pss_nil)
      (pss_cons (ps_set (i := 7) sc_wanted_by.nd rfl (Or.inl rfl) (C8.pe_c c_hosts_in hr (by omega) rfl (pa_cons (pv 0) (pa_cons (pv 1) pa_nil))))
      (pss_cons (ps_if (pt_cmpR (op_neD (hu64 hr)) (pv 7) (pe_tup pa_nil) (nomark _)) (pss_one (ps_ret (pe_tup (pa_cons (pe_callB call_lenQ (by rfl) T.b_len PySem.boot_len (pa_cons (pv 1) pa_nil)) (pa_cons (pe_op op_catA (pv 7) (pe_tup (pa_cons (pv 2) pa_nil))) pa_nil))))) pss_nil)
      (pss_one (ps_ret (pe_tup (pa_cons (C8.pe_c c_shut_from hr (by omega) rfl (pa_cons (pv 0) (pa_cons (pv 1) (pa_cons (pv 2) pa_nil)))) (pa_cons (pe_tup (pa_cons (pv 2) pa_nil)) pa_nil))))))))), ?_⟩
    obtain ⟨r, hr1, hr2⟩ := hx
    have hrow : rowOf B.rows x = some r := by rw [← hr2]; exact row_mem hB.good hr1
    have hw := wanted_eq hB.good rn x
    walk_at "go"
    refine ⟨B, x, rfl, hB, s0, ?_⟩
    walk_at "go"
    cases ef : frameOf B.rows x with
    | some fr =>
      rw [ef] at hw
      simp only at hw
      have hrk := frame_rk hB.good ef
      refine w_T ?_
      walk_at "go"
      refine ⟨B, n, rn, fr, rfl, hB, s0, hn, hlen, fun H1 s1 => ?_⟩
      walk_at "go"
      cases el : lastOne B.rows B.rk fr rn with
      | some j =>
        rw [el] at hw
        simp only at hw
        refine w_T ?_
        walk_at "go"
        refine w_mkT fun q H2 n2 s2 t2 => ?_
        walk_at "go"
        refine w_mkT fun p H3 n3 s3 t3 => ?_
        refine k H3 p q (s1.trans (s2.trans s3)) ?_ ?_
        · rw [hw]
          exact t3
        · rw [hw]
          exact s3 _ _ t2
      | none =>
        rw [el] at hw
        simp only at hw
        refine w_F ?_
        walk_at "go"
        refine ⟨B, n, rn, fr, rfl, hB, s0.trans s1, s1 _ _ hn, hlen, hin, frame_in ef, by omega, fun H2 p q s2 hp hq => ?_⟩
        refine w_gT (SqT.of hp) rfl ?_
        walk_at "go"
        refine w_mkT fun u H3 n3 s3 t3 => ?_
        obtain ⟨_, _, hwl, _⟩ := wanted_ok hB.good rn m fr (by omega) (frame_in ef)
        have hm12 : m ≤ 100 ∨ 100 < m := by omega
        refine w_catT (xs := (wanted B.rows B.rk rn fr).2.map V.str) (ys := [.str x]) (s3 _ _ hq) t3 ?_ fun v H4 s4 h4 => ?_
        · have hrkb : B.rk fr ≤ 12 := by
            obtain ⟨rf, hrf, hnf⟩ := frame_in ef
            rw [← hnf]
            exact hB.good.rkb rf hrf
          obtain ⟨_, _, hwl2, _⟩ := wanted_ok hB.good rn 12 fr hrkb (frame_in ef)
          rw [List.length_map, List.length_singleton]
          exact sz1000 (by omega)
        walk_at "go"
        refine w_mkT fun p2 H5 n5 s5 t5 => ?_
        refine k H5 p2 v (s1.trans (s2.trans (s3.trans (s4.trans s5)))) ?_ ?_
        · rw [hw]
          exact t5
        · rw [hw, List.map_append]
          exact s5 _ _ h4
    | none =>
      rw [ef] at hw
      simp only at hw
      refine w_F ?_
      walk_at "go"
      refine ⟨B, n, rn, rfl, hB, s0, hn, hlen, hin, fun H1 q s1 hq => ?_⟩
      walk_at "go"
      refine w_mkT fun u H2 n2 s2 t2 => ?_
      obtain ⟨hh1, hh2⟩ := hostsIn_ok hB.good rn
      refine w_neT0 (s2 _ _ hq) t2 (hh1.ok hB.good) ?_
      walk_at "go"
      by_cases hh : hostsIn B.rows B.rk rn = []
      · rw [if_neg (by simp [hh])] at hw
        rw [hh]
        have s12 := s1.trans s2
        show if (!([] : List Str).isEmpty) = true then _ else _
        rw [if_neg (by decide)]
        walk_at "go"
        refine ⟨B, n, rn, x, r, rfl, hB, s0.trans s12, s12 _ _ hn, hlen, hrow, fun H3 s3 => ?_⟩
        walk_at "go"
        refine w_mkT fun q3 H4 n4 s4 t4 => ?_
        walk_at "go"
        refine w_mkT fun p5 H5 n5 s5 t5 => ?_
        refine k H5 p5 q3 (s12.trans (s3.trans (s4.trans s5))) ?_ ?_
        · rw [hw]
          exact t5
        · rw [hw]
          exact s5 _ _ t4
      · rw [if_pos hh] at hw
        have he : (!(hostsIn B.rows B.rk rn).isEmpty) = true := by
          cases e : hostsIn B.rows B.rk rn with
          | nil => exact absurd e hh
          | cons a b => rfl
        rw [he]
        walk_at "go"
        refine w_lenT (SqT.of (s2 _ _ (s1 _ _ hn))) ?_
        walk_at "go"
        refine w_mkT fun q3 H3 n3 s3 t3 => ?_
        refine w_catT (xs := (hostsIn B.rows B.rk rn).map V.str) (ys := [.str x]) (s3 _ _ (s2 _ _ hq)) t3 (by rw [List.length_map, List.length_singleton]; exact sz1000 (by omega)) fun v H4 s4 h4 => ?_
        walk_at "go"
        refine w_mkT fun p5 H5 n5 s5 t5 => ?_
        refine k H5 p5 v (s1.trans (s2.trans (s3.trans (s4.trans s5)))) ?_ ?_
        · rw [hw]
          rw [List.length_map, List.length_reverse] at t5
          exact t5
        · rw [hw, List.map_append]
          exact s5 _ _ h4
theorem c_wanted_by (D : Defs K mg C) (T : Tx K mg C ea) : C8.Cal P w K mg base 23 "wanted_by" (spWanted 13) [] := cal_mono (c_wanted_n D T 13) (by decide)
def spBarred : Sp := fun vs H Q _ => ∃ (B : Bk) (n : Addr) (rn : List Str) (x : Str) (r : Row), vs = [.ref B.b, .ref n, .str x] ∧ B.Ok ∧ Same B.G H ∧ H n = some (.tup (rn.reverse.map V.str)) ∧ rn.length ≤ 1000 ∧ rowOf B.rows x = some r ∧ ∀ H', Same H H' → Q (.bl (barred B.rows rn x)) H'
theorem c_is_barred (D : Defs K mg C) (T : Tx K mg C ea) : C8.Cal P w K mg base 4 "is_barred" spBarred [] := by
  refine D.d_is_barred.cal sc_is_barred (fun vs H Q E h => ?_) (fun f cdv A outer s H vs Q E hr h => ?_)
  · obtain ⟨B, n, rn, x, r, rfl, _⟩ := h
    rfl
  obtain ⟨B, n, rn, x, r, rfl, hB, s0, hn, hlen, hrow, k⟩ := h
  have c_near_of : C8.Cal P w K mg base 3 "near_of" spNearOf [] := c_near_of D T
  have c_row_in : C8.Cal P w K mg base 1 "row_in" spRowIn [] := c_row_in D T
  refine ⟨_, (pss_cons (ps_set (i := 3) sc_is_barred.nd rfl (Or.inr rfl) (pe_ix ix_tup (C8.pe_c c_row_in hr (by decide) rfl (pa_cons (pv 0) (pa_cons (pv 2) pa_nil))) pe_int (fun _ _ => rfl)))
      (pss_one (ps_ret (pe_callB (cr_any rfl) (by rfl) T.b_any (by decide +kernel) (pa_cons (pe_lc (own := [("other", 4)]) (g := gName 4) (by rfl) sc_is_barred.nd (pi_tup (C8.pe_c c_near_of hr (by decide) rfl (pa_cons (pv 0) (pa_cons (pv 1) pa_nil)))) (blkOk_by (own := [("other", 4)]) (N := N_is_barred) (sc := defScope s_is_barred) (by decide +kernel)) (fun _ _ _ _ _ => pg_name (i := 4) sc_is_barred.nd rfl (Or.inl rfl)) (fun _ _ _ _ _ => pts_nil) (fun _ _ _ _ _ => (pe_cmpR (r := rIn K false) op_in_seq (pv 4) (pv 3) (by rfl)))) pa_nil))))), ?_⟩
  walk_at "go"
  refine ⟨B, x, r, rfl, hB, s0, hrow, fun H1 q s1 hR => ?_⟩
  obtain ⟨q1, q2, h1, h2, h3⟩ := hR
  have s01 := s0.trans s1
  refine w_ixT (SqT.of (s01 _ _ h1)) (by exact rfl) ?_
  walk_at "go"
  refine ⟨B, n, rn, rfl, hB, s01, s1 _ _ hn, hlen, fun H2 p s2 hp => ?_⟩
  refine w_lcT (SqT.of hp) (fun Dl i H' => H2 Dl = none ∧ Same H2 H' ∧ H' Dl = some (.lst ((((near B.rows rn).take i).map fun y => decide (y ∈ r.bars)).map V.bl)))
    (fun Dl hD => ⟨hD, sm_new hD, upd_same⟩) (fun Dl i H' _ h => SqT.of (h.2.1 _ _ hp)) ?_ ?_
  · rintro Dl i v H' hi ⟨hD, s3, hl⟩
    obtain ⟨y, hy, rfl⟩ := map_get hi
    have hil := (List.getElem?_eq_some_iff.mp hy).1
    have hnl := near_len (rows := B.rows) rn
    walk_at "go"
    refine ⟨rfl, ?_⟩
    walk_at "go"
    refine w_inSs (ys := r.bars) (Or.inr (SqT.of (s3 _ _ (s2 _ _ (s01 _ _ h3))))) ?_
    refine ⟨_, hl, ?_, hD, sm_but s3 hD but_upd, ?_⟩
    · rw [List.length_map, List.length_map, List.length_take]
      exact szM' (by omega)
    · rw [List.take_add_one, hy]
      simp only [Option.toList_some, List.map_append, List.map_cons, List.map_nil]
      exact upd_same
  · rintro Dl H' ⟨hD, s3, hl⟩
    rw [List.length_map, List.take_length] at hl
    refine w_any (SqL.of hl) ?_
    rw [List.any_map]
    have e : barred B.rows rn x = (near B.rows rn).any (id ∘ fun y => decide (y ∈ r.bars)) := by
      unfold barred
      rw [bars_of hrow] <;> rfl
    rw [← e]
    exact k _ (s1.trans (s2.trans s3))
def planV : Plan → List V → Addr → Prop := fun pl xs q => match pl with
  | .drop rule => xs = [.str "drop", .str rule]
  | .opn kept put => xs = [.str "open", .int (kept : Nat), .ref q]
def spOpening : Sp := fun vs H Q _ => ∃ (B : Bk) (n : Addr) (rn : List Str) (x : Str), vs = [.ref B.b, .ref n, .str x] ∧ B.Ok ∧ Same B.G H ∧ H n = some (.tup (rn.reverse.map V.str)) ∧ rn.length ≤ 900 ∧ Inb B.rows rn ∧ (∃ r ∈ B.rows, r.name = x) ∧
  (∀ H' p rule, Same H H' → opening B.rows B.rk rn x = .drop rule → H' p = some (.tup [.str "drop", .str rule]) → Q (.ref p) H') ∧
  (∀ H' p q kept put, Same H H' → opening B.rows B.rk rn x = .opn kept put → H' p = some (.tup [.str "open", .int (kept : Nat), .ref q]) → H' q = some (.tup (put.map V.str)) → Q (.ref p) H')
theorem c_opening (D : Defs K mg C) (T : Tx K mg C ea) : C8.Cal P w K mg base 24 "opening" spOpening [] := by
  refine D.d_opening.cal sc_opening (fun vs H Q E h => ?_) (fun f cdv A outer s H vs Q E hr h => ?_)
  · obtain ⟨B, n, rn, x, rfl, _⟩ := h
    rfl
  obtain ⟨B, n, rn, x, rfl, hB, s0, hn, hlen, hin, hx, k1, k2⟩ := h
  have c_wanted_by : C8.Cal P w K mg base 23 "wanted_by" (spWanted 13) [] := c_wanted_by D T
  have c_is_barred : C8.Cal P w K mg base 4 "is_barred" spBarred [] := c_is_barred D T
  refine ⟨_, (pss_cons (ps_asg (C8.pe_c c_wanted_by hr (by decide) rfl (pa_cons (pv 0) (pa_cons (pv 1) (pa_cons (pv 2) pa_nil)))) (pg_tup rfl (pgs_cons (pg_name (i := 3) sc_opening.nd rfl (Or.inl rfl)) (pgs_cons (pg_name (i := 4) sc_opening.nd rfl (Or.inl rfl)) pgs_nil))))
      (pss_cons (ps_set (i := 5) sc_opening.nd rfl (Or.inl rfl) (pe_slice sl_tupA (pv 1) po_none (po_some (pv 3))))
      (pss_cons (ps_for PassesOwn.never rfl (pi_tup (pv 4)) (pg_name (i := 6) sc_opening.nd rfl (Or.inl rfl)) (pss_cons (ps_if (pt_val (C8.pe_c c_is_barred hr (by decide) rfl (pa_cons (pv 0) (pa_cons (pv 5) (pa_cons (pv 6) pa_nil))))) (pss_one (ps_ret (pe_tup (pa_cons pe_str (pa_cons pe_str pa_nil))))) pss_nil)
      (pss_one (ps_set (i := 5) sc_opening.nd rfl (Or.inl rfl) (pe_op op_catA (pv 5) (pe_tup (pa_cons (pv 6) pa_nil)))))))
      (pss_cons (ps_if (pt_cmpR op_gt (pe_callB call_lenQ (by rfl) T.b_len PySem.boot_len (pa_cons (pv 5) pa_nil)) (C8.pe_gc rfl T.deep) (nomark _)) (pss_one (ps_ret (pe_tup (pa_cons pe_str (pa_cons pe_str pa_nil))))) pss_nil)
      (pss_one (ps_ret (pe_tup (pa_cons pe_str (pa_cons (pv 3) (pa_cons (pv 4) pa_nil)))))))))), ?_⟩
  have hrkb : B.rk x ≤ 12 := by
    obtain ⟨r, h1, h2⟩ := hx
    rw [← h2]
    exact hB.good.rkb r h1
  obtain ⟨w1, w2, w3, w4⟩ := wanted_ok hB.good rn 12 x hrkb hx
  walk_at "go"
  refine ⟨B, n, rn, x, rfl, hB, s0, hn, by omega, hin, hx, by omega, fun H1 p q s1 hp hq => ?_⟩
  refine w_gT (SqT.of hp) rfl ?_
  walk_at "go"
  refine w_slT (s1 _ _ hn) fun u H2 s2 hu => ?_
  walk_at "go"
  have ecut : cutV (rn.reverse.map V.str) none (some ((wanted B.rows B.rk rn x).1 : Int)) = ((rn.drop (rn.length - (wanted B.rows B.rk rn x).1)).reverse).map V.str := by
    unfold cutV
    rw [HT.sIx_none, HT.sIx_nat, List.drop_zero, Nat.sub_zero, List.length_map, List.length_reverse, Nat.min_eq_left w1, ← List.map_take, rev_take w1]
  rw [ecut] at hu
  refine w_forT (SqT.of (s2 _ _ hq)) (fun i σ' H' => ∃ (rs : List Str) (a : Addr) (v : Option V), σ' = [some (.ref B.b), some (.ref n), some (.str x), some (.int ((wanted B.rows B.rk rn x).1 : Nat)), some (.ref q), some (.ref a), v] ∧ Same H2 H' ∧ H' a = some (.tup (rs.reverse.map V.str)) ∧
      rs.length = (rn.drop (rn.length - (wanted B.rows B.rk rn x).1)).length + i ∧ barStep B.rows (rn.drop (rn.length - (wanted B.rows B.rk rn x).1)) (wanted B.rows B.rk rn x).2 = barStep B.rows rs ((wanted B.rows B.rk rn x).2.drop i))
    ⟨_, u, _, rfl, Same.refl _, hu, rfl, rfl⟩ (fun i σ' H' _ h => by obtain ⟨_, _, _, _, z, _⟩ := h; exact SqT.of (z _ _ (s2 _ _ hq))) ?_ ?_
  · rintro i v σ' H' hi ⟨rs, a, v0, rfl, s3, ha, hrl, hb⟩
    obtain ⟨y, hy, rfl⟩ := map_get hi
    have hil := (List.getElem?_eq_some_iff.mp hy).1
    rw [drop_of_get hy] at hb
    obtain ⟨ry, hry⟩ := w2.row hB.good (List.mem_of_getElem? hy)
    have hdl : (rn.drop (rn.length - (wanted B.rows B.rk rn x).1)).length ≤ rn.length := by
      rw [List.length_drop]
      omega
    walk_at "go"
    refine ⟨B, a, rs, y, ry, rfl, hB, s0.trans (s1.trans (s2.trans s3)), ha, by omega, hry, fun H4 s4 => ?_⟩
    walk_at "go"
    have hb2 : barStep B.rows (rn.drop (rn.length - (wanted B.rows B.rk rn x).1)) (wanted B.rows B.rk rn x).2 = (barred B.rows rs y || barStep B.rows (y :: rs) ((wanted B.rows B.rk rn x).2.drop (i + 1))) := hb
    refine w_2 (fun e => ?_) (fun e => ?_)
    · walk_at "go"
      refine w_mkT fun p5 H5 n5 s5 t5 => ?_
      refine k1 H5 p5 "barred" (s1.trans (s2.trans (s3.trans (s4.trans s5)))) ?_ t5
      unfold opening
      rw [if_pos (by rw [hb2, e, Bool.true_or])]
    · walk_at "go"
      refine w_mkT fun p5 H5 n5 s5 t5 => ?_
      refine w_catT (xs := rs.reverse.map V.str) (ys := [.str y]) (s5 _ _ (s4 _ _ ha)) t5 (by rw [List.length_map, List.length_reverse, List.length_singleton]; exact sz1000 (by omega)) fun p6 H6 s6 h6 => ?_
      refine ⟨y :: rs, p6, _, rfl, s3.trans (s4.trans (s5.trans s6)), ?_, by rw [List.length_cons]; omega, by rw [hb2, e, Bool.false_or]⟩
      rw [List.reverse_cons, List.map_append]
      exact h6
  · rintro σ' H' ⟨rs, a, v0, rfl, s3, ha, hrl, hb⟩
    rw [List.length_map] at hrl hb
    rw [List.drop_length] at hb
    have hb2 : barStep B.rows (rn.drop (rn.length - (wanted B.rows B.rk rn x).1)) (wanted B.rows B.rk rn x).2 = false := hb
    walk_at "go"
    refine w_lenT (SqT.of ha) ?_
    rw [List.length_map, List.length_reverse]
    walk_at "go"
    refine w_2 (fun e => ?_) (fun e => ?_)
    · have e' : rs.length > 20 := by
        have := of_decide_eq_true e
        omega
      walk_at "go"
      refine w_mkT fun p5 H5 n5 s5 t5 => ?_
      refine k1 H5 p5 "deep" (s1.trans (s2.trans (s3.trans s5))) ?_ t5
      unfold opening
      rw [if_neg (by rw [hb2]; decide), if_pos (by omega)]
    · have e' : ¬ rs.length > 20 := by
        have := of_decide_eq_false e
        omega
      walk_at "go"
      refine w_mkT fun p5 H5 n5 s5 t5 => ?_
      refine k2 H5 p5 q _ _ (s1.trans (s2.trans (s3.trans s5))) ?_ t5 (s5 _ _ (s3 _ _ (s2 _ _ hq)))
      unfold opening
      rw [if_neg (by rw [hb2]; decide), if_neg (by omega)]
def spHostsFor : Sp := fun vs H Q _ => ∃ (B : Bk) (n : Addr) (rn : List Str), vs = [.ref B.b, .ref n] ∧ B.Ok ∧ Same B.G H ∧ H n = some (.tup (rn.reverse.map V.str)) ∧ rn.length ≤ 1000 ∧ Inb B.rows rn ∧
  (hostsFor B.rows B.rk rn = none → ∀ H', Same H H' → Q .non H') ∧ (∀ H' p hs, hostsFor B.rows B.rk rn = some hs → Same H H' → H' p = some (.tup (hs.map V.str)) → Q (.ref p) H')
theorem c_hosts_for (D : Defs K mg C) (T : Tx K mg C ea) : C8.Cal P w K mg base 5 "hosts_for" spHostsFor [] := by
  refine D.d_hosts_for.cal sc_hosts_for (fun vs H Q E h => ?_) (fun f cdv A outer s H vs Q E hr h => ?_)
  · obtain ⟨B, n, rn, rfl, _⟩ := h
    rfl
  obtain ⟨B, n, rn, rfl, hB, s0, hn, hlen, hin, k1, k2⟩ := h
  have c_hosts_in : C8.Cal P w K mg base 4 "hosts_in" spHostsIn [] := c_hosts_in D T
  refine ⟨_, (pss_cons (ps_set (i := 2) sc_hosts_for.nd rfl (Or.inl rfl) (C8.pe_c c_hosts_in hr (by decide) rfl (pa_cons (pv 0) (pa_cons (pv 1) pa_nil))))
      (pss_cons (ps_if (pt_cmpR op_gt (pe_op op_add (pe_callB call_lenQ (by rfl) T.b_len PySem.boot_len (pa_cons (pv 1) pa_nil)) (pe_callB call_lenQ (by rfl) T.b_len PySem.boot_len (pa_cons (pv 2) pa_nil))) (C8.pe_gc rfl T.deep) (nomark _)) (pss_one (ps_ret pe_non)) pss_nil)
      (pss_one (ps_ret (pv 2))))), ?_⟩
  walk_at "go"
  refine ⟨B, n, rn, rfl, hB, s0, hn, hlen, hin, fun H1 q s1 hq => ?_⟩
  walk_at "go"
  refine w_lenT (SqT.of (s1 _ _ hn)) ?_
  walk_at "go"
  refine w_lenT (SqT.of hq) ?_
  rw [List.length_map, List.length_map, List.length_reverse]
  walk_at "go"
  refine w_2 (fun e => ?_) (fun e => ?_)
  · have e' := of_decide_eq_true e
    walk_at "go"
    exact k1 (by unfold hostsFor; rw [if_pos (by omega)]) _ s1
  · have e' := of_decide_eq_false e
    walk_at "go"
    exact k2 _ _ _ (by unfold hostsFor; rw [if_neg (by omega)]) s1 hq
end
end Tg

namespace Tg
open PySem PySem.Spec PyProof.Rows L2
open PySem.StrLaws (replL replL_hit replL_miss replL_nil replace_list)
section
variable {P : Program} {w : World} {K : PySem.W.Frag} {mg : Str → Option Value} {base : Heap} {C ea : Addr}
theorem Glo.calT {x : Str} {st : Stmt} {N ps : List Str} {k : Nat} {sp : Sp} (g : Glo K mg x st ps) (S : FnScope N ps (defScope st)) (hnc : ∀ y ∈ (defScope st).names, y.2 ≠ .cell) (hps : 1 ≤ ps.length) (len : ∀ vs H Q E, sp vs H Q E → vs.length = ps.length)
    (hbody : ∀ (f : Addr) (cdv : Value) (A : Around) (outer : List Env) (s : Shared) (H : Hp) (vs : List V) (Q : VK) (E : XK), Room k (A.deeper (envOfC x (defScope st) s.heap.objs.size f cdv)) → sp vs H Q E →
      ∃ t, PSsT (cxOf CX0 P w K mg base N x (defScope st) f cdv A outer s H E) (defBody st) t ∧ t { nx := fun _ H' => Q .non H', rt := Q } (start N vs) H) : C8.Cal P w K mg base (k + 1) x sp [] := by
  obtain ⟨f, fd, F, hm, b⟩ := g.ex
  obtain ⟨oc, od, kV, doc, pm, an, cdv, ct, osl, e, lk, hcd⟩ := F.ex
  refine ⟨f, fd, ps, [], ?_, hm, F.kp, b, .nil⟩
  subst e
  exact fn_ofT lk hcd S hnc hps len fun A outer s H vs Q E hr h => hbody f cdv A outer s H vs Q E hr h
section
variable {σ : L2.St} {H : Hp} {Q : VK} {to : TE}
theorem w_rep {y z : Str} (k : to σ H fun v H1 => ∃ x, v = .str x ∧ x.length + (x.length + 1) * z.length ≤ 16777216 ∧ Q (.str (Txt.replace x y z)) H1) : CwR.tReplC to y z σ H Q := k
end
def spEscaped : Sp := fun vs H Q _ => ∃ c : Nat, vs = [.str ⟨#[c]⟩] ∧ (c = 60 ∨ c = 38) ∧ Q (.str (if c = 60 then "&l;" else "&a;")) H
theorem c_escaped (D : Defs K mg C) (T : Tx K mg C ea) : C8.Cal P w K mg base 1 "escaped" spEscaped [] := by
  refine D.d_escaped.calT sc_escaped (by decide +kernel) (by decide) (fun vs H Q E h => ?_) (fun f cdv A outer s H vs Q E hr h => ?_)
  · obtain ⟨c, rfl, _⟩ := h
    rfl
  obtain ⟨c, rfl, hc, k⟩ := h
  refine ⟨_, (CwR.psst_one (CwR.pst_ret (CwR.pet_replT (CwR.pet_replC (pv 0))))), ?_⟩
  refine w_ret (w_rep (w_rep (w_var (by exact rfl) ?_)))
  rcases hc with rfl | rfl
  · refine ⟨_, rfl, by decide, ?_⟩
    refine ⟨_, rfl, by decide +kernel, ?_⟩
    have e : Txt.replace (Txt.replace ⟨#[60]⟩ "&" "&a;") "<" "&l;" = if 60 = 60 then "&l;" else "&a;" := by decide +kernel
    rw [e]
    exact k
  · refine ⟨_, rfl, by decide, ?_⟩
    refine ⟨_, rfl, by decide +kernel, ?_⟩
    have e : Txt.replace (Txt.replace ⟨#[38]⟩ "&" "&a;") "<" "&l;" = if 38 = 60 then "&l;" else "&a;" := by decide +kernel
    rw [e]
    exact k
theorem told_rep (z : Str) : Txt.replace (Txt.replace z "&l;" "<") "&a;" "&" = sOf (told z.cps.toList) := by
  rw [← sOf_eta (Txt.replace (Txt.replace z "&l;" "<") "&a;" "&")]
  congr 1
  rw [replace_list (y := "&a;") (z := "&") (by decide), replace_list (y := "&l;") (z := "<") (by decide)]
  exact told_eq _ _ (Nat.le_refl _)
theorem rep1_len (z : Str) : (Txt.replace z "&l;" "<").length ≤ z.length := by
  rw [← len_toList, ← len_toList, replace_list (y := "&l;") (z := "<") (by decide)]
  have aux : ∀ (n : Nat) (l : List Nat), l.length ≤ n → (t1 l).length ≤ l.length := by
    intro n
    induction n with
    | zero =>
      intro l h
      have : l = [] := List.length_eq_zero_iff.mp (by omega)
      subst this
      rw [show t1 [] = [] from replL_nil]
      exact Nat.le_refl _
    | succ n ih =>
      intro l h
      cases l with
      | nil =>
        rw [show t1 [] = [] from replL_nil]
        exact Nat.le_refl _
      | cons c r =>
        by_cases q : (c :: r).take 3 = [38, 108, 59]
        · obtain ⟨s, e⟩ := take3_form q
          rw [e] at h ⊢
          rw [t1_hit]
          have := ih s (by simp at h; omega)
          simp
          omega
        · rw [t1_miss q]
          have := ih r (by simp at h; omega)
          simp
          omega
  exact aux _ _ (Nat.le_refl _)
def spToldBy : Sp := fun vs H Q _ => ∃ z : Str, vs = [.str z] ∧ z.length ≤ 100000 ∧ Q (.str (sOf (told z.cps.toList))) H
theorem c_told_by (D : Defs K mg C) (T : Tx K mg C ea) : C8.Cal P w K mg base 1 "told_by" spToldBy [] := by
  refine D.d_told_by.calT sc_told_by (by decide +kernel) (by decide) (fun vs H Q E h => ?_) (fun f cdv A outer s H vs Q E hr h => ?_)
  · obtain ⟨z, rfl, _⟩ := h
    rfl
  obtain ⟨z, rfl, hz, k⟩ := h
  refine ⟨_, (CwR.psst_one (CwR.pst_ret (CwR.pet_replT (CwR.pet_replC (pv 0))))), ?_⟩
  refine w_ret (w_rep (w_rep (w_var (by exact rfl) ?_)))
  have h1 : ("<" : Str).length = 1 := by decide
  have h2 : ("&" : Str).length = 1 := by decide
  have h3 := rep1_len z
  refine ⟨_, rfl, by rw [h1]; omega, ?_⟩
  refine ⟨_, rfl, by rw [h2]; omega, ?_⟩
  rw [told_rep]
  exact k
/-- a number that is not negative -/
abbrev nV (n : Nat) : V := .int (n : Int)
def spLoneOnes : Sp := fun vs H Q _ => ∃ z : Str, vs = [.str z] ∧ z.length ≤ 100000 ∧ ∀ H' p, H p = none → Same H H' → H' p = some (.lst (((lones 0 z.cps.toList).map (·.1)).map nV)) → Q (.ref p) H'
theorem esc_in (z : Str) (i : Nat) : decide (cutS z (some ((i : Nat) : Int)) (some (((i : Nat) : Int) + 3)) ∈ (["&l;", "&a;"] : List Str)) = esc3 (z.cps.toList.drop i) := by
  have e : (((i : Nat) : Int) + 3) = ((i + 3 : Nat) : Int) := by omega
  rw [e, cutS_nat]
  have e2 : cut z.cps.toList i (i + 3) = (z.cps.toList.drop i).take 3 := by
    unfold cut
    congr 1
    omega
  rw [e2]
  unfold esc3
  have q1 : (sOf ((z.cps.toList.drop i).take 3) = "&l;") ↔ (z.cps.toList.drop i).take 3 = [38, 108, 59] := by
    constructor
    · intro h
      exact sOf_inj (h.trans (by decide +kernel : ("&l;" : Str) = sOf [38, 108, 59]))
    · intro h
      rw [h]
      decide +kernel
  have q2 : (sOf ((z.cps.toList.drop i).take 3) = "&a;") ↔ (z.cps.toList.drop i).take 3 = [38, 97, 59] := by
    constructor
    · intro h
      exact sOf_inj (h.trans (by decide +kernel : ("&a;" : Str) = sOf [38, 97, 59]))
    · intro h
      rw [h]
      decide +kernel
  rw [Bool.eq_iff_iff]
  simp only [List.mem_cons, List.not_mem_nil, or_false, q1, q2, decide_eq_true_eq, Bool.or_eq_true]
theorem c_lone_ones (D : Defs K mg C) (T : Tx K mg C ea) : C8.Cal P w K mg base 1 "lone_ones" spLoneOnes [] := by
  refine D.d_lone_ones.cal sc_lone_ones (fun vs H Q E h => ?_) (fun f cdv A outer s H vs Q E hr h => ?_)
  · obtain ⟨z, rfl, _⟩ := h
    rfl
  obtain ⟨z, rfl, hz, k⟩ := h
  refine ⟨_, (pss_cons (ps_set (i := 1) sc_lone_ones.nd rfl (Or.inl rfl) (pe_lst pa_nil))
      (pss_cons (ps_for PassesOwn.never rfl (pi_enumS (by rfl) T.b_enumerate (pa_cons (pv 0) pa_nil)) (pg_tup rfl (pgs_cons (pg_name (i := 2) sc_lone_ones.nd rfl (Or.inl rfl)) (pgs_cons (pg_name (i := 3) sc_lone_ones.nd rfl (Or.inl rfl)) pgs_nil))) (pss_one (ps_if (PW.pt (pw_or (pt_cmpR op_eq (pv 3) pe_str (nomark _)) (pw_or1 (PW.pt (pw_and (pt_cmpR op_eq (pv 3) pe_str (nomark _)) (pw_and1 (pt_cmpR op_notIn_seq (pe_slice sl_str (pv 0) (po_some (pv 2)) (po_some (pe_op op_add (pv 2) pe_int))) (C8.pe_gc rfl T.esc) (by rfl)))))))) (pss_one (ps_expr (pe_bm PySem.F.plainAttrs_list PySem.F.slot_list_append PySem.F.type_list_append mt_append (pv 1) (pa_cons (pv 2) pa_nil)))) pss_nil)))
      (pss_one (ps_ret (pv 1))))), ?_⟩
  walk_at "go"
  refine w_mkL fun l H1 n1 s1 l1 => ?_
  walk_at "go"
  refine w_forES (fun i σ' H' => (∃ v1 v2, σ' = [some (.str z), some (.ref l), v1, v2]) ∧ Same H H' ∧ H' l = some (.lst (((List.range i).filter (loneAt z.cps.toList)).map nV))) ⟨⟨_, _, rfl⟩, s1, l1⟩ ?_ ?_
  · rintro i c σ' H' hi ⟨⟨v1, v2, rfl⟩, s2, l2⟩ U hU
    have hil : i < z.length := by rw [← len_toList]; exact (List.getElem?_eq_some_iff.mp hi).1
    have sU : Same H' (upd H' U (.tup [.int (i : Nat), .str ⟨#[c]⟩])) := sm_new hU
    have hlone : loneAt z.cps.toList i = (decide (c = 60) || (decide (c = 38) && !esc3 (z.cps.toList.drop i))) := by
      unfold loneAt
      rw [drop_of_get hi] <;> rfl
    have hrange : (List.range (i + 1)).filter (loneAt z.cps.toList) = (List.range i).filter (loneAt z.cps.toList) ++ if loneAt z.cps.toList i = true then [i] else [] := by
      rw [List.range_succ, List.filter_append]
      congr 1
      rw [List.filter_cons]
      rfl
    have hlen : ((List.range i).filter (loneAt z.cps.toList)).length ≤ i := Nat.le_trans (List.length_filter_le _ _) (by rw [List.length_range]; exact Nat.le_refl _)
    have c60 : decide ((⟨#[c]⟩ : Str) = "<") = decide (c = 60) := by
      have e : ("<" : Str) = ⟨#[60]⟩ := by decide +kernel
      rw [e]
      simp
    have c38 : decide ((⟨#[c]⟩ : Str) = "&") = decide (c = 38) := by
      have e : ("&" : Str) = ⟨#[38]⟩ := by decide +kernel
      rw [e]
      simp
    refine w_gT (SqT.of upd_same) rfl ?_
    have yes : loneAt z.cps.toList i = true → ∀ H3, Same H' H3 → H3 l = some (.lst (((List.range i).filter (loneAt z.cps.toList)).map nV)) → ∀ R : Hp → Prop, (∀ H4, Same H H4 → H4 l = some (.lst (((List.range (i + 1)).filter (loneAt z.cps.toList)).map nV)) → R H4) →
        rAppend (.ref l) [.int (i : Nat)] H3 (fun _ H4 => R H4) := fun hy H3 s3 l3 R hR => by
      refine w_app l3 (by rw [List.length_map]; exact szM' (by omega)) fun H4 b4 l4 => hR H4 (sm_but (s2.trans s3) n1 b4) ?_
      rw [hrange, if_pos hy]
      simp only [List.map_append, List.map_cons, List.map_nil]
      exact l4
    have no : loneAt z.cps.toList i = false → (List.range (i + 1)).filter (loneAt z.cps.toList) = (List.range i).filter (loneAt z.cps.toList) := fun hn => by
      rw [hrange, hn, if_neg Bool.false_ne_true, List.append_nil]
    walk_at "go"
    rw [c60]
    refine w_2 (fun e => ?_) (fun e => ?_)
    · walk_at "go"
      refine w_tyL (sU _ _ l2) ?_
      walk_at "go"
      exact yes (by rw [hlone, e, Bool.true_or]) _ sU (sU _ _ l2) _ fun H4 s4 l4 => ⟨⟨_, _, rfl⟩, s4, l4⟩
    · walk_at "go"
      rw [c38]
      refine w_2 (fun e2 => ?_) (fun e2 => ?_)
      · walk_at "go"
        refine w_slS (Nat.le_trans hz (by decide)) ?_
        walk_at "go"
        refine w_notInSs (ys := ["&l;", "&a;"]) (Or.inr (T.escT _)) ?_
        walk_at "go"
        rw [esc_in]
        refine w_2 (fun e3 => ?_) (fun e3 => ?_)
        · walk_at "go"
          refine w_tyL (sU _ _ l2) ?_
          walk_at "go"
          exact yes (by rw [hlone, e, e2, Bool.false_or, Bool.true_and, e3]) _ sU (sU _ _ l2) _ fun H4 s4 l4 => ⟨⟨_, _, rfl⟩, s4, l4⟩
        · walk_at "go"
          refine ⟨⟨_, _, rfl⟩, s2.trans sU, ?_⟩
          rw [no (by rw [hlone, e, e2, Bool.false_or, Bool.true_and, e3])]
          exact sU _ _ l2
      · walk_at "go"
        refine ⟨⟨_, _, rfl⟩, s2.trans sU, ?_⟩
        rw [no (by rw [hlone, e, e2, Bool.false_and, Bool.false_or])]
        exact sU _ _ l2
  · rintro σ' H' ⟨⟨v1, v2, rfl⟩, s2, l2⟩
    walk_at "go"
    refine k _ _ n1 s2 ?_
    have e := lones_eq z.cps.toList.length z.cps.toList 0 (Nat.le_refl _)
    unfold loneF at e
    have e2 : (lones 0 z.cps.toList).map (·.1) = (List.range z.cps.toList.length).filter (loneAt z.cps.toList) := by
      rw [e]
      simp
    rw [e2]
    exact l2
end
end Tg

namespace Tg
open PySem PySem.Spec PyProof.Rows L2
section
variable {P : Program} {w : World} {K : PySem.W.Frag} {mg : Str → Option Value} {base : Heap} {C ea : Addr}
theorem cut1 (z : Str) (a : Nat) : cutS z (some ((a : Nat) : Int)) (some (((a : Nat) : Int) + 1)) = sOf (z.cps.toList[a]?.toList) := by
  have e : (((a : Nat) : Int) + 1) = ((a + 1 : Nat) : Int) := rfl
  rw [e, cutS_nat]
  congr 1
  unfold cut
  have e1 : a + 1 - a = 1 := by omega
  rw [e1]
  cases h : z.cps.toList[a]? with
  | none =>
    rw [List.drop_eq_nil_of_le (List.getElem?_eq_none_iff.mp h)] <;> rfl
  | some c =>
    rw [drop_of_get h] <;> rfl
theorem sign_eq (o : Option Nat) (c : Nat) : decide (sOf o.toList = (⟨#[c]⟩ : Str)) = decide (o = some c) := by
  have e : (⟨#[c]⟩ : Str) = sOf [c] := rfl
  rw [e]
  apply decide_eq_decide.mpr
  constructor
  · intro h
    have h := sOf_inj h
    cases o with
    | none => cases h
    | some d =>
      simp at h
      rw [h]
  · intro h
    rw [h] <;> rfl
theorem let_in (c : Nat) : decide (c ∈ ("abcdefghijklmnopqrstuvwxyz" : Str).cps.toList) = isLet c := by
  have e : ("abcdefghijklmnopqrstuvwxyz" : Str).cps.toList = [97, 98, 99, 100, 101, 102, 103, 104, 105, 106, 107, 108, 109, 110, 111, 112, 113, 114, 115, 116, 117, 118, 119, 120, 121, 122] := by decide +kernel
  rw [e]
  unfold isLet
  apply decide_eq_decide.mpr
  simp only [List.mem_cons, List.not_mem_nil, or_false]
  omega
def tagKind (b : Bool) : Str := if b = true then "close" else "open"
def spTagFrom : Sp := fun vs H Q _ => ∃ (z : Str) (s : Nat), vs = [.str z, .int (s : Nat)] ∧ z.length ≤ 100000 ∧ z.cps.toList[s]? = some 60 ∧ (tagAt (z.cps.toList.drop s) = none → ∀ H', Same H H' → Q .non H') ∧
  ∀ t H' p, tagAt (z.cps.toList.drop s) = some t → Same H H' → H' p = some (.tup [.str (tagKind t.1), .int (s : Nat), .int ((s + tagLen t : Nat) : Int), .str (sOf (cut z.cps.toList (firstAt z.cps.toList s) (firstAt z.cps.toList s + t.2)))]) → Q (.ref p) H'
theorem c_tag_from (D : Defs K mg C) (T : Tx K mg C ea) : C8.Cal P w K mg base 1 "tag_from" spTagFrom [] := by
  refine D.d_tag_from.cal sc_tag_from (fun vs H Q E h => ?_) (fun f cdv A outer s H vs Q E hr h => ?_)
  · obtain ⟨z, s, rfl, _⟩ := h
    rfl
  obtain ⟨z, st, rfl, hz, h60, k1, k2⟩ := h
  refine ⟨_, (pss_cons (ps_set (i := 2) sc_tag_from.nd rfl (Or.inl rfl) pe_str)
      (pss_cons (ps_set (i := 3) sc_tag_from.nd rfl (Or.inl rfl) (pe_op op_add (pv 1) pe_int))
      (Evl.pss_cut (ps_if (pt_cmpR op_eq (pe_slice sl_str (pv 0) (po_some (pv 3)) (po_some (pe_op op_add (pv 3) pe_int))) pe_str (nomark _)) (pss_cons (ps_set (i := 2) sc_tag_from.nd rfl (Or.inl rfl) pe_str)
      (pss_one (ps_aug (i := 3) sc_tag_from.nd rfl (Or.inl rfl) pe_int ip_add))) pss_nil)
      (pss_cons (ps_set (i := 4) sc_tag_from.nd rfl (Or.inl rfl) (pv 3))
      (Evl.pss_cut (ps_while PassesOwn.never (PW.pt (pw_and (pt_cmpR op_lt (pv 4) (pe_callB call_lenS (by rfl) T.b_len PySem.boot_len (pa_cons (pv 0) pa_nil)) (nomark _)) (pw_and (pt_cmpR op_lt (pv 4) (pe_op op_add (pv 3) pe_int) (nomark _)) (pw_and1 (pt_cmpR op_inS (pe_ix ix_str (pv 0) (pv 4) (fun _ _ => rfl)) (C8.pe_gc rfl T.letters) rfl))))) (pss_one (ps_aug (i := 4) sc_tag_from.nd rfl (Or.inl rfl) pe_int ip_add)))
      (pss_cons (ps_if (PW.pt (pw_or (pt_not (pt_chain op_le op_le pe_int (pe_op op_sub (pv 4) (pv 3)) pe_int)) (pw_or1 (pt_cmpR op_ne (pe_slice sl_str (pv 0) (po_some (pv 4)) (po_some (pe_op op_add (pv 4) pe_int))) pe_str (nomark _))))) (pss_one (ps_ret pe_non)) pss_nil)
      (pss_one (ps_ret (pe_tup (pa_cons (pv 2) (pa_cons (pv 1) (pa_cons (pe_op op_add (pv 4) pe_int) (pa_cons (pe_slice sl_str (pv 0) (po_some (pv 3)) (po_some (pv 4))) pa_nil))))))))))))), ?_⟩
  have hstl : st < z.length := by rw [← len_toList]; exact (List.getElem?_eq_some_iff.mp h60).1
  have hzs : z.length ≤ sizeLine := Nat.le_trans hz (by decide)
  have eSl : ("/" : Str) = ⟨#[47]⟩ := by decide +kernel
  have eGt : (">" : Str) = ⟨#[62]⟩ := by decide +kernel
  rw [tag_spec h60] at k1 k2
  have hll := letters_le (z.cps.toList.drop (firstAt z.cps.toList st))
  rw [List.length_drop, len_toList] at hll
  walk_at "go"
  refine w_cut (M := fun σ' H' => σ' = [some (.str z), some (.int (st : Nat)), some (.str (tagKind (slashAt z.cps.toList st))), some (.int ((firstAt z.cps.toList st : Nat) : Int)), none] ∧ H' = H) ?_ ?_
  · walk_at "go"
    refine w_slS hzs ?_
    have e1 : (((st : Nat) : Int) + 1) = ((st + 1 : Nat) : Int) := rfl
    rw [e1, cut1, eSl]
    walk_at "go"
    rw [sign_eq]
    refine w_2 (fun e => ?_) (fun e => ?_)
    · have e2 : slashAt z.cps.toList st = true := e
      walk_at "go"
      refine ⟨?_, rfl⟩
      unfold tagKind firstAt
      rw [e2]
      rfl
    · have e2 : slashAt z.cps.toList st = false := e
      walk_at "go"
      refine ⟨?_, rfl⟩
      unfold tagKind firstAt
      rw [e2]
      rfl
  rintro σ' H' ⟨rfl, rfl⟩
  generalize hfst : firstAt z.cps.toList st = fst at hll k1 k2 ⊢
  generalize hn : letters (z.cps.toList.drop fst) = n at hll k1 k2
  generalize hkd : slashAt z.cps.toList st = sl at k1 k2 ⊢
  walk_at "go"
  refine w_cut (M := fun σ' H2 => ∃ k : Nat, σ' = [some (.str z), some (.int (st : Nat)), some (.str (tagKind sl)), some (.int (fst : Nat)), some (.int ((fst + k : Nat) : Int))] ∧ H2 = H' ∧ k ≤ 9 ∧ (k = n ∨ (k = 9 ∧ 9 ≤ n))) ?_ ?_
  · refine w_while (fun m σ' H2 => ∃ k : Nat, σ' = [some (.str z), some (.int (st : Nat)), some (.str (tagKind sl)), some (.int (fst : Nat)), some (.int ((fst + k : Nat) : Int))] ∧ H2 = H' ∧ k ≤ 9 ∧ k ≤ n ∧ m = 9 - k) _ ⟨0, rfl, rfl, by omega, by omega, rfl⟩ ?_
    rintro m σ' H2 ⟨k, rfl, rfl, hk9, hkn, hm⟩
    walk_at "go"
    refine w_lenS hzs ?_
    walk_at "go"
    refine w_2 (fun e => ?_) (fun e => ?_)
    · have e' := of_decide_eq_true e
      walk_at "go"
      refine w_2 (fun e2 => ?_) (fun e2 => ?_)
      · have e2' := of_decide_eq_true e2
        obtain ⟨c, hc⟩ : ∃ c, z.cps.toList[fst + k]? = some c := get_lt (by rw [len_toList]; omega)
        walk_at "go"
        refine w_ixS hzs (atI_nat hc) ?_
        walk_at "go"
        rw [let_in]
        have hget : (z.cps.toList.drop fst)[k]? = some c := by rw [List.getElem?_drop]; exact hc
        have hlet := letters_get (l := z.cps.toList.drop fst) (k := k) (by rw [hn]; exact hkn)
        rw [hn] at hlet
        refine w_2 (fun e3 => ?_) (fun e3 => ?_)
        · have hlt := hlet.mp ⟨c, hget, e3⟩
          refine w_N ?_
          walk_at "go"
          exact ⟨9 - (k + 1), by omega, k + 1, rfl, rfl, by omega, by omega, rfl⟩
        · have hlt : ¬ k < n := fun q => by
            obtain ⟨d, h1, h2⟩ := hlet.mpr q
            rw [hget] at h1
            cases h1
            rw [e3] at h2
            cases h2
          exact ⟨k, rfl, rfl, hk9, .inl (by omega)⟩
      · have e2' := of_decide_eq_false e2
        walk_at "go"
        exact ⟨k, rfl, rfl, hk9, .inr ⟨by omega, by omega⟩⟩
    · have e' := of_decide_eq_false e
      walk_at "go"
      exact ⟨k, rfl, rfl, hk9, .inl (by omega)⟩
  rintro σ' H2 ⟨k, rfl, rfl, hk9, hkn⟩
  have yes : (1 ≤ n ∧ n ≤ 8 ∧ z.cps.toList[fst + n]? = some 62) → k = n := fun h => by omega
  walk_at "go"
  have bad : ¬ (1 ≤ n ∧ n ≤ 8 ∧ z.cps.toList[fst + n]? = some 62) → Q .non H2 := fun h => by
    rw [if_neg h] at k1
    exact k1 rfl _ (Same.refl _)
  refine w_2 (fun e => ?_) (fun e => ?_)
  · have e' := of_decide_eq_true e
    walk_at "go"
    refine w_2 (fun e2 => ?_) (fun e2 => ?_)
    · walk_at "go"
      have e2' : ¬ (((fst + k : Nat) : Int) - (fst : Int) ≤ 8) := by simpa using e2
      exact bad fun h => by have := yes h; omega
    · have e2' : ((fst + k : Nat) : Int) - (fst : Int) ≤ 8 := by simpa using e2
      walk_at "go"
      refine w_slS hzs ?_
      rw [cut1, eGt]
      walk_at "go"
      rw [sign_eq]
      have hk : k = n := by omega
      subst hk
      refine w_2 (fun e3 => ?_) (fun e3 => ?_)
      · have e3' : ¬ z.cps.toList[fst + k]? = some 62 := by simpa using e3
        walk_at "go"
        exact bad fun h => e3' h.2.2
      · have e3' : z.cps.toList[fst + k]? = some 62 := by simpa using e3
        walk_at "go"
        refine w_slS hzs ?_
        walk_at "go"
        refine w_mkT fun p H3 n3 s3 t3 => ?_
        refine k2 (sl, k) H3 p (if_pos ⟨by omega, by omega, e3'⟩) s3 ?_
        rw [t3, cutS_nat]
        have e4 : (((fst + k : Nat) : Int) + 1) = ((st + tagLen (sl, k) : Nat) : Int) := by
          rw [← hfst]
          unfold firstAt tagLen
          rw [hkd]
          cases sl with
          | true =>
            show (((st + 1 + 1 + k : Nat) : Int) + 1) = ((st + (3 + k) : Nat) : Int)
            omega
          | false =>
            show (((st + 1 + 0 + k : Nat) : Int) + 1) = ((st + (2 + k) : Nat) : Int)
            omega
        rw [e4]
  · walk_at "go"
    have e' := of_decide_eq_false e
    exact bad fun h => by have := yes h; omega
/-! ### tokens on the heap -/
def kindS : Kind → Str
  | .opn => "open"
  | .cls => "close"
  | .run => "run"
/-- what a token tells -/
def tellOf (cs : List Nat) (t : Tok3) : Str := match t.kind with
  | .opn => sOf (cut cs (t.start + 1) (t.stop - 1))
  | .cls => sOf (cut cs (t.start + 2) (t.stop - 1))
  | .run => sOf (told (cut cs t.start t.stop))
def TokAt (cs : List Nat) (H : Hp) (v : V) (t : Tok3) : Prop := ∃ p, v = .ref p ∧ H p = some (.tup [.str (kindS t.kind), .int (t.start : Nat), .int (t.stop : Nat), .str (tellOf cs t)])
def spRunOf : Sp := fun vs H Q _ => ∃ (z : Str) (a b : Nat), vs = [.str z, .int (a : Nat), .int (b : Nat)] ∧ z.length ≤ 100000 ∧ a ≤ b ∧ b ≤ z.length ∧
  ∀ H' p us, H p = none → Same H H' → H' p = some (.lst us) → All2 (TokAt z.cps.toList H') us (runIf a b) → Q (.ref p) H'
theorem c_run_of (D : Defs K mg C) (T : Tx K mg C ea) : C8.Cal P w K mg base 2 "run_of" spRunOf [] := by
  refine D.d_run_of.cal sc_run_of (fun vs H Q E h => ?_) (fun f cdv A outer s H vs Q E hr h => ?_)
  · obtain ⟨z, a, b, rfl, _⟩ := h
    rfl
  obtain ⟨z, a, b, rfl, hz, hab, hb, k⟩ := h
  have c_told_by : C8.Cal P w K mg base 1 "told_by" spToldBy [] := c_told_by D T
  refine ⟨_, (pss_cons (ps_if (pt_cmpR op_eq (pv 1) (pv 2) (nomark _)) (pss_one (ps_ret (pe_lst pa_nil))) pss_nil)
      (pss_one (ps_ret (pe_lst (pa_cons (pe_tup (pa_cons pe_str (pa_cons (pv 1) (pa_cons (pv 2) (pa_cons (C8.pe_c c_told_by hr (by decide) rfl (pa_cons (pe_slice sl_str (pv 0) (po_some (pv 1)) (po_some (pv 2))) pa_nil)) pa_nil))))) pa_nil))))), ?_⟩
  have hzs : z.length ≤ sizeLine := Nat.le_trans hz (by decide)
  walk_at "go"
  refine w_2 (fun e => ?_) (fun e => ?_)
  · have e' := of_decide_eq_true e
    have hr0 : runIf a b = [] := if_neg (by omega)
    walk_at "go"
    refine w_mkL fun p H1 n1 s1 l1 => ?_
    exact k H1 p [] n1 s1 l1 (by rw [hr0]; exact .nil)
  · have e' := of_decide_eq_false e
    have hr0 : runIf a b = [⟨.run, a, b⟩] := if_pos (by omega)
    walk_at "go"
    refine w_slS hzs ?_
    rw [cutS_nat]
    walk_at "go"
    have hcl := cut_len2 z.cps.toList a b
    rw [len_toList] at hcl
    refine ⟨_, rfl, by rw [sOf_len]; omega, ?_⟩
    rw [sOf_toList]
    walk_at "go"
    refine w_mkT fun q H1 n1 s1 t1 => ?_
    walk_at "go"
    refine w_mkL fun p H2 n2 s2 l2 => ?_
    refine k H2 p _ (none_back s1 n2) (s1.trans s2) l2 ?_
    rw [hr0]
    exact .one ⟨q, rfl, s2 _ _ t1⟩
theorem tok_mono {cs : List Nat} {H H' : Hp} (e : Same H H') (v : V) (t : Tok3) (h : TokAt cs H v t) : TokAt cs H' v t := by
  obtain ⟨p, h1, h2⟩ := h
  exact ⟨p, h1, e _ _ h2⟩
theorem tok_but {cs : List Nat} {H H' : Hp} {l : Addr} {xs : List V} (hl : H l = some (.lst xs)) (e : But l H H') (v : V) (t : Tok3) (h : TokAt cs H v t) : TokAt cs H' v t := by
  obtain ⟨p, h1, h2⟩ := h
  exact ⟨p, h1, e _ _ (ne_of h2 hl (by intro z; cases z)) h2⟩
theorem getD_some {z : Str} {v c : Nat} (h : v < z.length) : z.cps.getD v 0 = c ↔ z.cps.toList[v]? = some c := by
  have h2 : v < z.cps.size := h
  rw [Array.getElem?_toList, Array.getD_eq_getD_getElem?, Array.getElem?_eq_getElem h2]
  simp
/-- the next < from a place on -/
theorem find_next (z : Str) (k : Nat) : (Txt.find3 z "<" (k : Int) = -1 ∧ ∀ v, k ≤ v → v < z.length → ¬ z.cps.toList[v]? = some 60) ∨
    ∃ j : Nat, Txt.find3 z "<" (k : Int) = (j : Int) ∧ k ≤ j ∧ j < z.length ∧ z.cps.toList[j]? = some 60 ∧ ∀ v, k ≤ v → v < j → ¬ z.cps.toList[v]? = some 60 := by
  have e : ("<" : Str) = ⟨#[60]⟩ := by decide +kernel
  have ek : PySem.fromIndex z.length (k : Int) = k := by
    unfold PySem.fromIndex
    rw [if_neg (by omega), Int.max_eq_right (by omega)]
    simp
  rw [e]
  rcases StrLaws.find3_spec z 60 (k : Int) with ⟨h1, h2⟩ | ⟨j, h1, h2, h3, h4, h5⟩
  · rw [ek] at h2
    exact .inl ⟨h1, fun v a b q => h2 v a b ((getD_some b).mpr q)⟩
  · rw [ek] at h2 h5
    exact .inr ⟨j, h1, h2, h3, (getD_some h3).mp h4, fun v a b q => h5 v a b ((getD_some (by omega)).mpr q)⟩
def spTokensOf : Sp := fun vs H Q _ => ∃ z : Str, vs = [.str z] ∧ z.length ≤ 100000 ∧
  ∀ H' p us, H p = none → Same H H' → H' p = some (.lst us) → All2 (TokAt z.cps.toList H') us (toks z.cps.toList 0 0) → Q (.ref p) H'
/-- where the next < is, or the end -/
def posOf (n : Nat) (o : Option Nat) : Nat := o.getD n
@[reducible] def startV (o : Option Nat) : V := match o with
  | some j => .int (j : Nat)
  | none => .int (-1)
theorem tag_len_le {cs : List Nat} {s : Nat} {t : Bool × Nat} (h : cs[s]? = some 60) (e : tagAt (cs.drop s) = some t) : s + tagLen t ≤ cs.length ∧ 3 ≤ tagLen t := by
  rw [tag_spec h] at e
  split at e
  · rename_i q
    cases e
    have := (List.getElem?_eq_some_iff.mp q.2.2).1
    unfold tagLen
    unfold firstAt at this
    unfold firstAt at q
    cases hs : slashAt cs s with
    | true =>
      rw [hs] at this q
      simp only [if_true] at this q ⊢
      unfold firstAt
      rw [hs]
      simp only [if_true]
      omega
    | false =>
      rw [hs] at this q
      simp only [Bool.false_eq_true, if_false] at this q ⊢
      unfold firstAt
      rw [hs]
      simp only [Bool.false_eq_true, if_false]
      omega
  · cases e
theorem tag_tell {cs : List Nat} {s : Nat} {t : Bool × Nat} (h : cs[s]? = some 60) (e : tagAt (cs.drop s) = some t) : t.1 = slashAt cs s := by
  rw [tag_spec h] at e
  split at e
  · cases e
    rfl
  · cases e
theorem toks_len (cs : List Nat) : ∀ (n a bg : Nat), cs.length - a ≤ n → (toks cs a bg).length ≤ 2 * n + 1
  | 0, a, bg, h => by
    rw [toks_end (by omega)]
    unfold runIf
    split <;> simp
  | n + 1, a, bg, h => by
    by_cases ha : a < cs.length
    · cases e : tagAt (cs.drop a) with
      | none =>
        rw [toks_no e ha]
        have := toks_len cs n (a + 1) bg (by omega)
        omega
      | some t =>
        rw [toks_tag e ha, List.length_append, List.length_cons]
        have h1 : 1 ≤ tagLen t := by
          unfold tagLen
          split <;> omega
        have := toks_len cs n (a + tagLen t) (a + tagLen t) (by omega)
        have h2 : (runIf bg a).length ≤ 1 := by
          unfold runIf
          split <;> simp
        omega
    · rw [toks_end (by omega)]
      unfold runIf
      split <;> simp
theorem c_tokens_of (D : Defs K mg C) (T : Tx K mg C ea) : C8.Cal P w K mg base 3 "tokens_of" spTokensOf [] := by
  refine D.d_tokens_of.cal sc_tokens_of (fun vs H Q E h => ?_) (fun f cdv A outer s H vs Q E hr h => ?_)
  · obtain ⟨z, rfl, _⟩ := h
    rfl
  obtain ⟨z, rfl, hz, k⟩ := h
  have c_tag_from : C8.Cal P w K mg base 1 "tag_from" spTagFrom [] := c_tag_from D T
  have c_run_of : C8.Cal P w K mg base 2 "run_of" spRunOf [] := c_run_of D T
  refine ⟨_, (pss_cons (ps_set (i := 1) sc_tokens_of.nd rfl (Or.inl rfl) (pe_lst pa_nil))
      (pss_cons (ps_set (i := 2) sc_tokens_of.nd rfl (Or.inl rfl) pe_int)
      (pss_cons (ps_set (i := 3) sc_tokens_of.nd rfl (Or.inl rfl) (pe_m1 PySem.F.slot_str_find PySem.F.type_str_find mt_findQ (pv 0) pe_str))
      (pss_cons (ps_while PassesOwn.never (pt_cmpR op_ge (pv 3) pe_int (nomark _)) (pss_cons (ps_set (i := 4) sc_tokens_of.nd rfl (Or.inl rfl) (C8.pe_c c_tag_from hr (by decide) rfl (pa_cons (pv 0) (pa_cons (pv 3) pa_nil))))
      (pss_cons (ps_set (i := 5) sc_tokens_of.nd rfl (Or.inl rfl) (pe_op op_add (pv 3) pe_int))
      (Evl.pss_cut (ps_if (pt_cmpR op_notN1 (pv 4) pe_non (nomark _)) (pss_cons (ps_expr (pe_bm PySem.F.plainAttrs_list PySem.F.slot_list_extend PySem.F.type_list_extend mt_extend (pv 1) (pa_cons (C8.pe_c c_run_of hr (by decide) rfl (pa_cons (pv 0) (pa_cons (pv 2) (pa_cons (pv 3) pa_nil)))) pa_nil)))
      (pss_cons (ps_expr (pe_bm PySem.F.plainAttrs_list PySem.F.slot_list_append PySem.F.type_list_append mt_append (pv 1) (pa_cons (pv 4) pa_nil)))
      (pss_cons (ps_set (i := 2) sc_tokens_of.nd rfl (Or.inl rfl) (pe_ix ix_tup (pv 4) pe_int (fun _ _ => rfl)))
      (pss_one (ps_set (i := 5) sc_tokens_of.nd rfl (Or.inl rfl) (pv 2)))))) pss_nil)
      (pss_one (ps_set (i := 3) sc_tokens_of.nd rfl (Or.inl rfl) (pe_bm PySem.F.plainAttrs_str PySem.F.slot_str_find PySem.F.type_str_find mt_find3Q (pv 0) (pa_cons pe_str (pa_cons (pv 5) pa_nil)))))))))
      (pss_cons (ps_expr (pe_bm PySem.F.plainAttrs_list PySem.F.slot_list_extend PySem.F.type_list_extend mt_extend (pv 1) (pa_cons (C8.pe_c c_run_of hr (by decide) rfl (pa_cons (pv 0) (pa_cons (pv 2) (pa_cons (pe_callB call_lenS (by rfl) T.b_len PySem.boot_len (pa_cons (pv 0) pa_nil)) pa_nil)))) pa_nil)))
      (pss_one (ps_ret (pv 1)))))))), ?_⟩
  have hzs : z.length ≤ sizeLine := Nat.le_trans hz (by decide)
  have hcl : z.cps.toList.length = z.length := len_toList z
  generalize hcs : z.cps.toList = cs at hcl k
  have htl := toks_len cs cs.length 0 0 (Nat.le_refl _)
  have nxt : ∀ (kk : Nat), kk ≤ z.length → ∃ o : Option Nat, V.int (Txt.find3 z "<" (kk : Int)) = startV o ∧ kk ≤ posOf z.length o ∧ posOf z.length o ≤ z.length ∧ (∀ j, o = some j → cs[j]? = some 60) ∧ ∀ bg, toks cs kk bg = toks cs (posOf z.length o) bg := fun kk hkk => by
    rcases find_next z kk with ⟨h1, h2⟩ | ⟨j, h1, h2, h3, h4, h5⟩
    · refine ⟨none, by rw [h1] <;> rfl, hkk, Nat.le_refl _, (fun j q => by cases q), fun bg => ?_⟩
      have := toks_skip (cs := cs) bg (z.length - kk) kk (by omega) fun v a b => by rw [← hcs]; exact h2 v a (by omega)
      rw [this]
      show toks cs (kk + (z.length - kk)) bg = toks cs z.length bg
      congr 1
      omega
    · refine ⟨some j, by rw [h1] <;> rfl, h2, by show j ≤ z.length; omega, (fun i q => by cases q; rw [← hcs]; exact h4), fun bg => ?_⟩
      have := toks_skip (cs := cs) bg (j - kk) kk (by omega) fun v a b => by rw [← hcs]; exact h5 v a (by omega)
      rw [this]
      show toks cs (kk + (j - kk)) bg = toks cs j bg
      congr 1
      omega
  walk_at "go"
  refine w_mkL fun l H1 n1 s1 l1 => ?_
  walk_at "go"
  obtain ⟨o0, e0, e1, e2, e3, e4⟩ := nxt 0 (Nat.zero_le _)
  rw [PyProof.Rows.find_is_find3]
  have e0' : V.int (Txt.find3 z "<" 0) = startV o0 := e0
  rw [e0']
  refine w_while (fun m σ' H' => ∃ (o : Option Nat) (done : Nat) (v1 v2 : Option V) (us : List V) (ts : List Tok3), σ' = [some (.str z), some (.ref l), some (.int (done : Nat)), some (startV o), v1, v2] ∧ Same H H' ∧ H' l = some (.lst us) ∧ All2 (TokAt cs H') us ts ∧
      done ≤ posOf z.length o ∧ posOf z.length o ≤ z.length ∧ (∀ j, o = some j → cs[j]? = some 60) ∧ ts ++ toks cs (posOf z.length o) done = toks cs 0 0 ∧ m = (match o with | some j => z.length - j + 1 | none => 0)) _
    ⟨o0, 0, _, _, [], [], rfl, s1, l1, .nil, Nat.zero_le _, e2, e3, by rw [List.nil_append, ← e4], rfl⟩ ?_
  rintro m σ' H' ⟨o, done, v1, v2, us, ts, rfl, s2, l2, a2, hd, hp, h60, ht, hm⟩
  have hul : us.length ≤ 300000 := by
    have := congrArg List.length ht
    rw [List.length_append] at this
    rw [a2.len]
    omega
  cases o with
  | none =>
    have hpn : posOf z.length none = z.length := rfl
    rw [hpn] at hd ht
    rw [toks_end (by omega), hcl] at ht
    walk_at "go"
    refine w_F ?_
    walk_at "go"
    refine w_tyL l2 ?_
    walk_at "go"
    refine w_lenS hzs ?_
    refine ⟨z, done, z.length, rfl, hz, hd, Nat.le_refl _, fun H3 q ws n3 s3 l3 a3 => ?_⟩
    rw [hcs] at a3
    have hwl : ws.length ≤ 1 := by
      rw [a3.len]
      unfold runIf
      split <;> simp
    walk_at "go"
    refine w_ext (s3 _ _ l2) l3 (szM (by omega)) fun H4 b4 l4 => ?_
    walk_at "go"
    refine k H4 l _ n1 (sm_but (s2.trans s3) n1 b4) l4 ?_
    rw [← ht]
    exact ((a2.mono (tok_mono s3)).app a3).mono (tok_but (s3 _ _ l2) b4)
  | some j =>
    have hj60 := h60 j rfl
    have hpj : posOf z.length (some j) = j := rfl
    rw [hpj] at hd ht hp
    have hjl : j < z.length := by rw [← hcl]; exact (List.getElem?_eq_some_iff.mp hj60).1
    have hm' : m = z.length - j + 1 := hm
    walk_at "go"
    refine w_2 (fun _ => ?_) (fun q => absurd (of_decide_eq_false q) (by simp))
    refine w_N ?_
    show tSeq _ _ _ [some (.str z), some (.ref l), some (.int (done : Nat)), some (.int (j : Nat)), v1, v2] H'
    walk_at "go"
    refine ⟨z, j, rfl, hz, by rw [hcs]; exact hj60, fun e H3 s3 => ?_, fun t H3 p e s3 hp3 => ?_⟩
    · rw [hcs] at e
      walk_at "go"
      refine w_cut (M := fun σ' H4 => σ' = [some (.str z), some (.ref l), some (.int (done : Nat)), some (.int (j : Nat)), some .non, some (.int ((j + 1 : Nat) : Int))] ∧ H4 = H3) ?_ ?_
      · walk_at "go"
        exact ⟨rfl, rfl⟩
      rintro σ' H4 ⟨rfl, rfl⟩
      obtain ⟨o5, f0, f1, f2, f3, f4⟩ := nxt (j + 1) (by omega)
      walk_at "go"
      rw [f0]
      refine ⟨_, ?_, o5, done, _, _, us, ts, rfl, s2.trans s3, s3 _ _ l2, a2.mono (tok_mono s3), by omega, f2, f3, by rw [← ht, toks_no e (by omega), f4], rfl⟩
      rw [hm']
      cases o5 with
      | none => exact Nat.succ_pos _
      | some j5 =>
        have : j + 1 ≤ j5 := f1
        show z.length - j5 + 1 < z.length - j + 1
        have : j5 ≤ z.length := f2
        omega
    · rw [hcs] at e hp3
      obtain ⟨g1, g2⟩ := tag_len_le hj60 e
      have g3 := tag_tell hj60 e
      walk_at "go"
      refine w_cut (M := fun σ' H4 => ∃ (us' : List V), σ' = [some (.str z), some (.ref l), some (.int ((j + tagLen t : Nat) : Int)), some (.int (j : Nat)), some (.ref p), some (.int ((j + tagLen t : Nat) : Int))] ∧ Same H H4 ∧ H4 l = some (.lst us') ∧ All2 (TokAt cs H4) us' (ts ++ (runIf done j ++ [⟨if t.1 then .cls else .opn, j, j + tagLen t⟩]))) ?_ ?_
      · walk_at "go"
        refine w_tyL (s3 _ _ l2) ?_
        walk_at "go"
        refine ⟨z, done, j, rfl, hz, hd, by omega, fun H4 q ws n4 s4 l4 a4 => ?_⟩
        rw [hcs] at a4
        have hwl : ws.length ≤ 1 := by
          rw [a4.len]
          unfold runIf
          split <;> simp
        walk_at "go"
        refine w_ext (s4 _ _ (s3 _ _ l2)) l4 (szM (by omega)) fun H5 b5 l5 => ?_
        have hp5 : H5 p = _ := b5 _ _ (ne_of (s4 _ _ hp3) (s4 _ _ (s3 _ _ l2)) (by intro z; cases z)) (s4 _ _ hp3)
        walk_at "go"
        refine w_tyL l5 ?_
        walk_at "go"
        refine w_app l5 (by rw [List.length_append]; exact szM' (by omega)) fun H6 b6 l6 => ?_
        have hp6 : H6 p = _ := b6 _ _ (ne_of hp5 l5 (by intro z; cases z)) hp5
        walk_at "go"
        refine w_ixT (SqT.of hp6) (by exact rfl) ?_
        walk_at "go"
        refine ⟨_, rfl, sm_but (sm_but (s2.trans (s3.trans s4)) n1 b5) n1 b6, l6, ?_⟩
        have a5 : All2 (TokAt cs H6) (us ++ ws) (ts ++ runIf done j) := (((a2.mono (tok_mono (s3.trans s4))).app a4).mono (tok_but (s4 _ _ (s3 _ _ l2)) b5)).mono (tok_but l5 b6)
        rw [← List.append_assoc ts]
        refine a5.app (.one ⟨p, rfl, ?_⟩)
        rw [hp6]
        unfold tellOf kindS tagKind
        have h1 : j + tagLen t - 1 = firstAt cs j + t.2 := by
          unfold tagLen firstAt
          rw [← g3]
          cases t.1 <;> simp <;> omega
        cases ht1 : t.1 with
        | true =>
          have h2 : firstAt cs j = j + 2 := by
            unfold firstAt
            rw [← g3, ht1] <;> rfl
          rw [h2] at h1
          simp only [if_true, h1, h2]
        | false =>
          have h2 : firstAt cs j = j + 1 := by
            unfold firstAt
            rw [← g3, ht1] <;> rfl
          rw [h2] at h1
          simp only [Bool.false_eq_true, if_false, h1, h2]
      rintro σ' H4 ⟨us', rfl, s4, l4, a4⟩
      obtain ⟨o5, f0, f1, f2, f3, f4⟩ := nxt (j + tagLen t) (by omega)
      walk_at "go"
      rw [f0]
      refine ⟨_, ?_, o5, j + tagLen t, _, _, us', _, rfl, s4, l4, a4, f1, f2, f3, ?_, rfl⟩
      · rw [hm']
        cases o5 with
        | none => exact Nat.succ_pos _
        | some j5 =>
          have q1 : j + tagLen t ≤ j5 := f1
          have q2 : j5 ≤ z.length := f2
          show z.length - j5 + 1 < z.length - j + 1
          omega
      · rw [← f4, ← ht, toks_tag e (by omega)]
        simp
end
end Tg

namespace Tg
open PySem PySem.Spec PyProof.Rows L2
/-! ### trees, mends, heaps of parts, waiting rows on the heap -/
def Tups (H H' : Hp) : Prop := ∀ b xs, H b = some (.tup xs) → H' b = some (.tup xs)
theorem Tups.refl (H : Hp) : Tups H H := fun _ _ h => h
theorem Tups.trans {H H1 H2 : Hp} (a : Tups H H1) (b : Tups H1 H2) : Tups H H2 := fun c xs h => b c xs (a c xs h)
theorem tups_same {H H' : Hp} (e : Same H H') : Tups H H' := fun b xs h => e b _ h
def notTup : HO → Bool
  | .tup _ => false
  | _ => true
theorem tups_but {H H' : Hp} {l : Addr} {o : HO} (hl : H l = some o) (hn : notTup o = true) (e : But l H H') : Tups H H' := fun b xs h => e b _ (fun z => by
  rw [z, hl] at h
  cases h
  cases hn) h
mutual
inductive PartV (H : Hp) : V → Tree → Prop
  | text (s : Str) : PartV H (.str s) (.text s)
  | node {p q : Addr} {us : List V} {n : Str} {ps : List Tree} : H p = some (.tup [.str n, .ref q]) → H q = some (.tup us) → PartsV H us ps → PartV H (.ref p) (.node n ps)
inductive PartsV (H : Hp) : List V → List Tree → Prop
  | nil : PartsV H [] []
  | cons {v : V} {vs : List V} {t : Tree} {ts : List Tree} : PartV H v t → PartsV H vs ts → PartsV H (v :: vs) (t :: ts)
end
mutual
def treeD : Tree → PyData
  | .text s => .str s
  | .node n ps => .tuple [.str n, .tuple (treesD ps)]
def treesD : List Tree → List PyData
  | [] => []
  | t :: ts => treeD t :: treesD ts
end
mutual
def tdep : Tree → Nat
  | .text _ => 0
  | .node _ ps => tdeps ps + 1
def tdeps : List Tree → Nat
  | [] => 0
  | t :: ts => max (tdep t) (tdeps ts)
end
mutual
def tOk : Tree → Bool
  | .text s => PyData.strOk s
  | .node n ps => PyData.strOk n && tOks ps
def tOks : List Tree → Bool
  | [] => true
  | t :: ts => tOk t && tOks ts
end
mutual
theorem PartV.mono {H H' : Hp} (e : Tups H H') : ∀ (t : Tree) (v : V), PartV H v t → PartV H' v t
  | .text s, v, h => by
    cases h
    exact .text s
  | .node n ps, v, h => by
    cases h with
    | node h1 h2 h3 => exact .node (e _ _ h1) (e _ _ h2) (PartsV.mono e ps _ h3)
theorem PartsV.mono {H H' : Hp} (e : Tups H H') : ∀ (ts : List Tree) (vs : List V), PartsV H vs ts → PartsV H' vs ts
  | [], vs, h => by
    cases h
    exact .nil
  | t :: ts, vs, h => by
    cases h with
    | cons h1 h2 => exact .cons (PartV.mono e t _ h1) (PartsV.mono e ts _ h2)
end
mutual
theorem PartV.dp {K : PySem.W.Frag} {H : Hp} : ∀ (t : Tree) (v : V), PartV H v t → Dp K H v (treeD t)
  | .text s, v, h => by
    cases h
    show Dp K H (.str s) (treeD (.text s))
    rw [treeD]
    exact .str s
  | .node n ps, v, h => by
    cases h with
    | node h1 h2 h3 =>
      rw [treeD]
      exact .tup (SqT.of h1) (.cons (.str n) (.cons (.tup (SqT.of h2) (PartsV.dp ps _ h3)) .nil))
theorem PartsV.dp {K : PySem.W.Frag} {H : Hp} : ∀ (ts : List Tree) (vs : List V), PartsV H vs ts → DpAll K H vs (treesD ts)
  | [], vs, h => by
    cases h
    rw [treesD]
    exact .nil
  | t :: ts, vs, h => by
    cases h with
    | cons h1 h2 =>
      rw [treesD]
      exact .cons (PartV.dp t _ h1) (PartsV.dp ts _ h2)
end
mutual
theorem tree_dep : ∀ t : Tree, PyData.depth (treeD t) = 2 * tdep t
  | .text s => by
    rw [treeD, tdep]
    simp only [PyData.depth]
  | .node n ps => by
    rw [treeD, tdep]
    have := trees_dep ps
    simp only [PyData.depth, PyData.depthAll]
    rw [this]
    simp
    omega
theorem trees_dep : ∀ ts : List Tree, PyData.depthAll (treesD ts) = 2 * tdeps ts
  | [] => by
    rw [treesD, tdeps]
    simp only [PyData.depthAll]
  | t :: ts => by
    rw [treesD, tdeps]
    simp only [PyData.depthAll]
    rw [tree_dep t, trees_dep ts]
    omega
end
mutual
theorem tree_lay : ∀ t : Tree, tOk t = true → PyData.canLay0 (treeD t) = true
  | .text s, h => by
    rw [treeD]
    rw [tOk] at h
    simpa only [PyData.canLay0] using h
  | .node n ps, h => by
    rw [treeD]
    rw [tOk] at h
    obtain ⟨h1, h2⟩ := Bool.and_eq_true_iff.mp h
    have h3 := trees_lay ps h2
    simp only [PyData.canLay0, PyData.canLayAll0, h1, h3, Bool.and_self]
theorem trees_lay : ∀ ts : List Tree, tOks ts = true → PyData.canLayAll0 (treesD ts) = true
  | [], _ => by
    rw [treesD]
    simp only [PyData.canLayAll0]
  | t :: ts, h => by
    rw [treesD]
    rw [tOks] at h
    obtain ⟨h1, h2⟩ := Bool.and_eq_true_iff.mp h
    simp only [PyData.canLayAll0, tree_lay t h1, trees_lay ts h2, Bool.and_self]
end
theorem tOks_of {ts : List Tree} (h : ∀ t ∈ ts, tOk t = true) : tOks ts = true := by
  induction ts with
  | nil => rw [tOks]
  | cons t ts ih =>
    rw [tOks, h t List.mem_cons_self, ih fun u hu => h u (List.mem_cons_of_mem _ hu)] <;> rfl
theorem tdeps_le {ts : List Tree} {n : Nat} (h : ∀ t ∈ ts, tdep t ≤ n) : tdeps ts ≤ n := by
  induction ts with
  | nil =>
    rw [tdeps]
    exact Nat.zero_le _
  | cons t ts ih =>
    rw [tdeps]
    exact Nat.max_le.mpr ⟨h t List.mem_cons_self, ih fun u hu => h u (List.mem_cons_of_mem _ hu)⟩
theorem parts_app {H : Hp} : ∀ {vs us : List V} {ts ss : List Tree}, PartsV H vs ts → PartsV H us ss → PartsV H (vs ++ us) (ts ++ ss)
  | _, _, _, _, .nil, h => h
  | _, _, _, _, .cons a b, h => .cons a (parts_app b h)
theorem parts_len {H : Hp} : ∀ {vs : List V} {ts : List Tree}, PartsV H vs ts → vs.length = ts.length
  | _, _, .nil => rfl
  | _, _, .cons _ b => congrArg Nat.succ (parts_len b)
theorem parts_one {H : Hp} {v : V} {t : Tree} (h : PartV H v t) : PartsV H [v] [t] := .cons h .nil
theorem parts_last {H : Hp} : ∀ {ts : List Tree} {t : Tree} {vs : List V}, PartsV H vs (ts ++ [t]) → ∃ us v, vs = us ++ [v] ∧ PartsV H us ts ∧ PartV H v t
  | [], t, vs, h => by
    cases h with
    | cons a b =>
      cases b
      exact ⟨[], _, rfl, .nil, a⟩
  | s :: ts, t, vs, h => by
    cases h with
    | cons a b =>
      obtain ⟨us, v, e, h1, h2⟩ := parts_last b
      exact ⟨_ :: us, v, by rw [e] <;> rfl, .cons a h1, h2⟩
/-- the parts of one open one -/
def HeapAt (H : Hp) (a : Addr) (hp : List Tree) : Prop := ∃ us, H a = some (.lst us) ∧ PartsV H us hp
theorem HeapAt.keep {H H' : Hp} {a : Addr} {hp : List Tree} (h : HeapAt H a hp) (k : ∀ o, H a = some o → H' a = some o) (e : Tups H H') : HeapAt H' a hp := by
  obtain ⟨us, h1, h2⟩ := h
  exact ⟨us, k _ h1, PartsV.mono e _ _ h2⟩
/-- all of them, the last one first -/
structure HeapsAt (H : Hp) (h : Addr) (hs : List Addr) (hps : List (List Tree)) : Prop where
  l : H h = some (.lst (hs.reverse.map V.ref))
  at_ : All2 (HeapAt H) hs hps
theorem HeapsAt.keep {H H' : Hp} {h : Addr} {hs : List Addr} {hps : List (List Tree)} (p : HeapsAt H h hs hps) (k : ∀ b, b = h ∨ b ∈ hs → ∀ o, H b = some o → H' b = some o) (e : Tups H H') : HeapsAt H' h hs hps :=
  ⟨k h (.inl rfl) _ p.l, ⟨p.at_.len, fun i a hp h1 h2 => (p.at_.at_ i a hp h1 h2).keep (k a (.inr (List.mem_of_getElem? h1))) e⟩⟩
/-- the waiting rows, the last wall's first; ks: their keys -/
structure WaitsAt (H : Hp) (w : Addr) (rs : List Addr) (rws : List (List Str)) (ks : List Nat) (N : Nat) : Prop where
  d : ∃ kvs : List (Key × V), H w = some (.dK kvs) ∧ kvs.length ≤ N ∧ ∀ (i : Nat) (k : Nat) (a : Addr), ks[i]? = some k → rs[i]? = some a → valV kvs (Sum.inl (k : Int)) = some (.ref a)
  len : rs.length = ks.length
  at_ : All2 (fun (a : Addr) (r : List Str) => H a = some (.lst (r.map V.str))) rs rws
theorem WaitsAt.keep {H H' : Hp} {w : Addr} {rs : List Addr} {rws : List (List Str)} {ks : List Nat} {N : Nat} (p : WaitsAt H w rs rws ks N) (k : ∀ b, b = w ∨ b ∈ rs → ∀ o, H b = some o → H' b = some o) : WaitsAt H' w rs rws ks N := by
  obtain ⟨⟨kvs, h1, h2, h3⟩, h4, h5⟩ := p
  exact ⟨⟨kvs, k w (.inl rfl) _ h1, h2, h3⟩, h4, ⟨h5.len, fun i a r a1 a2 => k a (.inr (List.mem_of_getElem? a1)) _ (h5.at_ i a r a1 a2)⟩⟩
theorem WaitsAt.more {H : Hp} {w : Addr} {rs : List Addr} {rws : List (List Str)} {ks : List Nat} {N M : Nat} (p : WaitsAt H w rs rws ks N) (h : N ≤ M) : WaitsAt H w rs rws ks M := by
  obtain ⟨⟨kvs, h1, h2, h3⟩, h4, h5⟩ := p
  exact ⟨⟨kvs, h1, Nat.le_trans h2 h, h3⟩, h4, h5⟩
def MendAt (H : Hp) (v : V) (m : Mend) : Prop := ∃ p, v = .ref p ∧ H p = some (.tup [.int (m.start : Nat), .int (m.stop : Nat), .str m.new, .str m.rule])
theorem mend_mono {H H' : Hp} (e : Tups H H') (v : V) (m : Mend) (h : MendAt H v m) : MendAt H' v m := by
  obtain ⟨p, h1, h2⟩ := h
  exact ⟨p, h1, e _ _ h2⟩
structure MendsAt (H : Hp) (a : Addr) (ms : List Mend) : Prop where
  ex : ∃ us, H a = some (.lst us) ∧ All2 (MendAt H) us ms
theorem MendsAt.keep {H H' : Hp} {a : Addr} {ms : List Mend} (p : MendsAt H a ms) (k : ∀ o, H a = some o → H' a = some o) (e : Tups H H') : MendsAt H' a ms := by
  obtain ⟨us, h1, h2⟩ := p.ex
  exact ⟨us, k _ h1, h2.mono (mend_mono e)⟩
/-! ### what states are -/
def AnewB (rows : List Row) (x : Str) : Prop := (∃ r ∈ rows, r.name = x) ∧ sortOf rows x = some ("anew" : Str)
structure StOk (rows : List Row) (st : St) : Prop where
  inb : Inb rows st.rn
  len : st.rn.length ≤ 20
  outl : st.outer.length = st.rn.length
  lev : ∀ t ∈ st.top, tdep t + st.rn.length ≤ 20 ∧ tOk t = true
  levo : ∀ (i : Nat) (hp : List Tree), st.outer[i]? = some hp → ∀ t ∈ hp, tdep t + (st.rn.length - 1 - i) ≤ 20 ∧ tOk t = true
  wn : st.wouter.length + 1 = (keys rows st.rn).length
  wt : ∀ x ∈ st.wtop, AnewB rows x
  wo : ∀ r ∈ st.wouter, ∀ x ∈ r, AnewB rows x
/-- sizes -/
structure Bd (hps : List (List Tree)) (rws : List (List Str)) (ms : List Mend) (N : Nat) : Prop where
  hp : ∀ hp ∈ hps, hp.length ≤ N ∧ ∀ s, Tree.text s ∈ hp → s.length ≤ N
  rw : ∀ r ∈ rws, r.length ≤ N
  md : ms.length ≤ N
theorem Bd.more {hps : List (List Tree)} {rws : List (List Str)} {ms : List Mend} {N M : Nat} (b : Bd hps rws ms N) (h : N ≤ M) : Bd hps rws ms M :=
  ⟨fun hp q => ⟨Nat.le_trans (b.hp hp q).1 h, fun s z => Nat.le_trans ((b.hp hp q).2 s z) h⟩, fun r q => Nat.le_trans (b.rw r q) h, Nat.le_trans b.md h⟩
theorem keys_le {rows : List Row} : ∀ {rn : List Str} {k : Nat}, k ∈ keys rows rn → k ≤ rn.length
  | [], k, h => by
    rw [keys] at h
    rw [List.mem_singleton.mp h]
    exact Nat.le_refl _
  | x :: r, k, h => by
    rw [keys] at h
    split at h
    · rcases List.mem_cons.mp h with rfl | h
      · exact Nat.le_refl _
      · exact Nat.le_succ_of_le (keys_le h)
    · exact Nat.le_succ_of_le (keys_le h)
theorem keys_head {rows : List Row} : ∀ rn : List Str, (keys rows rn)[0]? = some (wallKey rows rn)
  | [] => rfl
  | x :: r => by
    rw [keys, wallKey]
    split
    · rfl
    · exact keys_head r
theorem keys_nodup {rows : List Row} : ∀ rn : List Str, (keys rows rn).Nodup
  | [] => by
    rw [keys]
    simp
  | x :: r => by
    rw [keys]
    split
    · refine List.nodup_cons.mpr ⟨fun h => ?_, keys_nodup r⟩
      have := keys_le h
      omega
    · exact keys_nodup r
theorem wallKey_le {rows : List Row} (rn : List Str) : wallKey rows rn ≤ rn.length := keys_le (List.mem_of_getElem? (keys_head rn))
/-- the fields of a reader, in their order -/
def rf (b n h w m : Addr) : List (Str × V) := [(("book" : Str), V.ref b), (("names" : Str), V.ref n), (("heaps" : Str), V.ref h), (("waiting" : Str), V.ref w), (("mends" : Str), V.ref m)]
theorem rf_book (b n h w m : Addr) : (rf b n h w m).lookup ("book" : Str) = some (V.ref b) := rfl
theorem rf_names (b n h w m : Addr) : (rf b n h w m).lookup ("names" : Str) = some (V.ref n) := rfl
theorem rf_heaps (b n h w m : Addr) : (rf b n h w m).lookup ("heaps" : Str) = some (V.ref h) := rfl
theorem rf_waiting (b n h w m : Addr) : (rf b n h w m).lookup ("waiting" : Str) = some (V.ref w) := rfl
theorem rf_mends (b n h w m : Addr) : (rf b n h w m).lookup ("mends" : Str) = some (V.ref m) := rfl
theorem rf_putN (b n h w m n2 : Addr) : putF "names" (V.ref n2) (rf b n h w m) = rf b n2 h w m := rfl
theorem rf_putM (b n h w m m2 : Addr) : putF "mends" (V.ref m2) (rf b n h w m) = rf b n h w m2 := rfl
end Tg

namespace Tg
open PySem L2
/-! ### plain laws of states -/
theorem str_app_len (a b : Str) : (a ++ b).length = a.length + b.length := by
  show (a.cps ++ b.cps).size = a.cps.size + b.cps.size
  simp
theorem str_app_ok {a b : Str} (h1 : PyData.strOk a = true) (h2 : PyData.strOk b = true) : PyData.strOk (a ++ b) = true := by
  unfold PyData.strOk at *
  show (a.cps ++ b.cps).all _ = true
  rw [Array.all_append, h1, h2] <;> rfl
theorem lie_node (h : List Tree) (n : Str) (ps : List Tree) : lieHeap h (.node n ps) = h ++ [.node n ps] := rfl
theorem lie_nil (s : Str) : lieHeap [] (.text s) = [.text s] := rfl
theorem lie_text (i : List Tree) (u s : Str) : lieHeap (i ++ [.text u]) (.text s) = i ++ [.text (u ++ s)] := by
  unfold lieHeap
  simp
theorem lie_other (i : List Tree) (n : Str) (ps : List Tree) (s : Str) : lieHeap (i ++ [.node n ps]) (.text s) = (i ++ [.node n ps]) ++ [.text s] := by
  unfold lieHeap
  simp
theorem lie_cases (h : List Tree) (t : Tree) : lieHeap h t = h ++ [t] ∨ ∃ i u s, h = i ++ [.text u] ∧ t = .text s ∧ lieHeap h t = i ++ [.text (u ++ s)] := by
  cases t with
  | node n ps => exact .inl rfl
  | text s =>
    rcases List.eq_nil_or_concat h with e | ⟨i, u, e⟩
    · rw [e]
      exact .inl rfl
    · rw [List.concat_eq_append] at e
      rw [e]
      cases u with
      | node n ps => exact .inl (lie_other _ _ _ _)
      | text u => exact .inr ⟨i, u, s, rfl, rfl, lie_text _ _ _⟩
theorem lie_len (h : List Tree) (t : Tree) : (lieHeap h t).length ≤ h.length + 1 := by
  rcases lie_cases h t with e | ⟨i, u, s, e1, e2, e⟩
  · rw [e, List.length_append, List.length_singleton]
    exact Nat.le_refl _
  · rw [e, e1, List.length_append, List.length_append, List.length_singleton, List.length_singleton]
    omega
theorem lie_mem {h : List Tree} {t x : Tree} (hx : x ∈ lieHeap h t) : x ∈ h ∨ x = t ∨ ∃ u s, Tree.text u ∈ h ∧ t = .text s ∧ x = .text (u ++ s) := by
  rcases lie_cases h t with e | ⟨i, u, s, e1, e2, e⟩
  · rw [e] at hx
    rcases List.mem_append.mp hx with hx | hx
    · exact .inl hx
    · exact .inr (.inl (List.mem_singleton.mp hx))
  · rw [e] at hx
    rcases List.mem_append.mp hx with hx | hx
    · exact .inl (by rw [e1]; exact List.mem_append_left _ hx)
    · exact .inr (.inr ⟨u, s, by rw [e1]; exact List.mem_append_right _ List.mem_cons_self, e2, List.mem_singleton.mp hx⟩)
/-- sizes behind a laid part -/
theorem bd_lie {top : List Tree} {outer : List (List Tree)} {rws : List (List Str)} {ms : List Mend} {N L : Nat} {t : Tree} (b : Bd (top :: outer) rws ms N) (ht : ∀ s, t = .text s → s.length ≤ L) : Bd (lieHeap top t :: outer) rws ms (N + L + 1) := by
  have up := b.more (M := N + L + 1) (by omega)
  refine ⟨fun hp q => ?_, up.rw, up.md⟩
  rcases List.mem_cons.mp q with rfl | q
  · obtain ⟨h1, h2⟩ := b.hp _ List.mem_cons_self
    refine ⟨?_, fun s hs => ?_⟩
    · have := lie_len top t
      omega
    · rcases lie_mem hs with h | h | ⟨u, s2, h3, h4, h5⟩
      · have := h2 s h
        omega
      · have := ht s h.symm
        omega
      · cases h5
        have g1 := h2 u h3
        have g2 := ht s2 h4
        rw [str_app_len]
        omega
  · exact up.hp _ (List.mem_cons_of_mem _ q)
section
variable {rows : List Row} {rk : Str → Nat}
theorem keys_pos (rn : List Str) : 1 ≤ (keys rows rn).length := by
  have := keys_head (rows := rows) rn
  cases e : keys rows rn with
  | nil =>
    rw [e] at this
    cases this
  | cons a b => exact Nat.succ_le_succ (Nat.zero_le _)
theorem keys_wall {x : Str} {r : List Str} (h : wall rows x = true) : keys rows (x :: r) = (r.length + 1) :: keys rows r := by rw [keys, if_pos h]
theorem keys_free {x : Str} {r : List Str} (h : wall rows x = false) : keys rows (x :: r) = keys rows r := by rw [keys, if_neg (by rw [h]; decide)]
theorem keys_cons (rn : List Str) : ∃ ks, keys rows rn = wallKey rows rn :: ks ∧ wallKey rows rn ∉ ks := by
  have h1 := keys_head (rows := rows) rn
  have h2 := keys_nodup (rows := rows) rn
  cases e : keys rows rn with
  | nil =>
    rw [e] at h1
    cases h1
  | cons a b =>
    rw [e] at h1 h2
    cases h1
    exact ⟨b, rfl, (List.nodup_cons.mp h2).1⟩
/-- the last one goes, its parts yet to lie -/
def popOne (rows : List Row) (st : St) : St := match st.rn with
  | [] => st
  | x :: r => { rn := r, top := st.outer.headD [], outer := st.outer.tail, wtop := if wall rows x = true then st.wouter.headD [] else st.wtop, wouter := if wall rows x = true then st.wouter.tail else st.wouter }
theorem end_eq {st : St} {x : Str} {r : List Str} (h : st.rn = x :: r) : endOne rows st = lieIn (popOne rows st) (.node x st.top) := by
  unfold endOne popOne lieIn
  rw [h]
theorem end_rn {st : St} {x : Str} {r : List Str} (h : st.rn = x :: r) : (endOne rows st).rn = r := by
  unfold endOne
  rw [h]
theorem StOk.lie {st : St} {t : Tree} (o : StOk rows st) (h1 : tdep t + st.rn.length ≤ 20) (h2 : tOk t = true) : StOk rows (lieIn st t) := by
  refine ⟨o.inb, o.len, o.outl, fun x hx => ?_, o.levo, o.wn, o.wt, o.wo⟩
  rcases lie_mem hx with h | h | ⟨u, s, h3, h4, h5⟩
  · exact o.lev x h
  · rw [h]
    exact ⟨h1, h2⟩
  · obtain ⟨g1, g2⟩ := o.lev _ h3
    rw [h5]
    rw [h4] at h2
    rw [tOk] at g2 h2 ⊢
    rw [tdep] at g1 ⊢
    exact ⟨g1, str_app_ok g2 h2⟩
theorem StOk.begin {st : St} {x : Str} (o : StOk rows st) (hx : ∃ r ∈ rows, r.name = x) (hl : st.rn.length < 20) : StOk rows (beginOne rows st x) := by
  refine ⟨fun y hy => ?_, hl, congrArg Nat.succ o.outl, (fun t ht => by cases ht), fun i hp hi t ht => ?_, ?_, fun y hy => ?_, fun r hr y hy => ?_⟩
  · rcases List.mem_cons.mp hy with rfl | hy
    · exact hx
    · exact o.inb y hy
  · show tdep t + (st.rn.length + 1 - 1 - i) ≤ 20 ∧ tOk t = true
    cases i with
    | zero =>
      cases hi
      exact o.lev t ht
    | succ i =>
      have := o.levo i hp hi t ht
      have e : st.rn.length + 1 - 1 - (i + 1) = st.rn.length - 1 - i := by omega
      rw [e]
      exact this
  · show (if wall rows x = true then st.wtop :: st.wouter else st.wouter).length + 1 = _
    cases e : wall rows x with
    | true =>
      show _ = (keys rows (x :: st.rn)).length
      rw [if_pos rfl, keys_wall e, List.length_cons, List.length_cons, o.wn]
    | false =>
      show _ = (keys rows (x :: st.rn)).length
      rw [if_neg (by decide), keys_free e, o.wn]
  · change y ∈ (if wall rows x = true then [] else st.wtop) at hy
    split at hy
    · cases hy
    · exact o.wt y hy
  · change r ∈ (if wall rows x = true then st.wtop :: st.wouter else st.wouter) at hr
    split at hr
    · rcases List.mem_cons.mp hr with rfl | hr
      · exact o.wt y hy
      · exact o.wo r hr y hy
    · exact o.wo r hr y hy
theorem StOk.out {st : St} {x : Str} {r : List Str} (o : StOk rows st) (h : st.rn = x :: r) : ∃ hp os, st.outer = hp :: os := by
  have := o.outl
  rw [h] at this
  cases e : st.outer with
  | nil =>
    rw [e] at this
    cases this
  | cons a b => exact ⟨a, b, rfl⟩
theorem StOk.wout {st : St} {x : Str} {r : List Str} (o : StOk rows st) (h : st.rn = x :: r) (hw : wall rows x = true) : ∃ hp os, st.wouter = hp :: os := by
  have h1 := o.wn
  rw [h, keys_wall hw, List.length_cons] at h1
  have := keys_pos (rows := rows) r
  cases e : st.wouter with
  | nil =>
    rw [e, List.length_nil] at h1
    omega
  | cons a b => exact ⟨a, b, rfl⟩
theorem StOk.pop {st : St} {x : Str} {r : List Str} (o : StOk rows st) (h : st.rn = x :: r) : StOk rows (popOne rows st) := by
  obtain ⟨hp, os, e⟩ := o.out h
  have e1 : popOne rows st = { rn := r, top := hp, outer := os, wtop := if wall rows x = true then st.wouter.headD [] else st.wtop, wouter := if wall rows x = true then st.wouter.tail else st.wouter } := by
    unfold popOne
    rw [h, e] <;> rfl
  rw [e1]
  have hl := o.len
  have hol := o.outl
  rw [h] at hl hol
  rw [e] at hol
  rw [List.length_cons] at hl hol
  have hol2 := Nat.succ.inj hol
  refine ⟨fun y hy => o.inb y (by rw [h]; exact List.mem_cons_of_mem _ hy), by show r.length ≤ 20; omega, hol2, fun t ht => ?_, fun i q hi t ht => ?_, ?_, fun y hy => ?_, fun q hq y hy => ?_⟩
  · have := o.levo 0 hp (by rw [e] <;> rfl) t ht
    rw [h] at this
    exact this
  · have := o.levo (i + 1) q (by rw [e]; exact hi) t ht
    rw [h] at this
    have e2 : (x :: r).length - 1 - (i + 1) = r.length - 1 - i := by
      rw [List.length_cons]
      omega
    rw [e2] at this
    exact this
  · have h1 := o.wn
    rw [h] at h1
    show (if wall rows x = true then st.wouter.tail else st.wouter).length + 1 = (keys rows r).length
    cases ew : wall rows x with
    | true =>
      obtain ⟨a, b, eo⟩ := o.wout h ew
      rw [keys_wall ew, eo] at h1
      rw [if_pos rfl, eo]
      exact Nat.succ.inj h1
    | false =>
      rw [keys_free ew] at h1
      rw [if_neg (by decide)]
      exact h1
  · change y ∈ (if wall rows x = true then st.wouter.headD [] else st.wtop) at hy
    cases ew : wall rows x with
    | true =>
      obtain ⟨a, b, eo⟩ := o.wout h ew
      rw [if_pos ew, eo] at hy
      exact o.wo a (by rw [eo]; exact List.mem_cons_self) y hy
    | false =>
      rw [if_neg (by rw [ew]; decide)] at hy
      exact o.wt y hy
  · change q ∈ (if wall rows x = true then st.wouter.tail else st.wouter) at hq
    refine o.wo q ?_ y hy
    split at hq
    · exact List.mem_of_mem_tail hq
    · exact hq
theorem StOk.end_ (g : Good rows rk) {st : St} {x : Str} {r : List Str} (o : StOk rows st) (h : st.rn = x :: r) : StOk rows (endOne rows st) := by
  rw [end_eq h]
  have e : (popOne rows st).rn = r := by
    unfold popOne
    rw [h]
  have hb : ∀ t ∈ st.top, tdep t ≤ 20 - (r.length + 1) := fun t ht => by
    have := (o.lev t ht).1
    rw [h, List.length_cons] at this
    omega
  have hl := o.len
  rw [h, List.length_cons] at hl
  refine (o.pop h).lie ?_ ?_
  · rw [e, tdep]
    have := tdeps_le hb
    omega
  · rw [tOk, tOks_of fun t ht => (o.lev t ht).2, o.inb.ok g x (by rw [h]; exact List.mem_cons_self)] <;> rfl
theorem StOk.wait {st : St} {ws : List Str} (o : StOk rows st) (h : ∀ x ∈ ws, AnewB rows x) : StOk rows { st with wtop := ws } :=
  ⟨o.inb, o.len, o.outl, o.lev, o.levo, o.wn, h, o.wo⟩
theorem to_wait_anew {rn : List Str} {kept : Nat} (h : Inb rows rn) : ∀ x ∈ toWait rows rn kept, AnewB rows x := fun x hx => by
  unfold toWait at hx
  obtain ⟨h1, h2⟩ := List.mem_filter.mp hx
  have h3 := List.mem_reverse.mp (List.mem_of_mem_drop ((List.takeWhile_sublist _).subset h1))
  exact ⟨h x h3, of_decide_eq_true h2⟩
theorem closeTo_done {at_ : Nat} {rule : Str} {kept : Nat} {st : St} (h : st.rn.length ≤ kept) : closeTo rows at_ rule kept st = (st, []) := by
  unfold closeTo
  rw [Nat.sub_eq_zero_of_le h] <;> rfl
theorem closeTo_step {at_ : Nat} {rule : Str} {kept : Nat} {st : St} {x : Str} {r : List Str} (h : st.rn = x :: r) (hk : kept < st.rn.length) :
    closeTo rows at_ rule kept st = ((closeTo rows at_ rule kept (endOne rows st)).1, mClose at_ x rule :: (closeTo rows at_ rule kept (endOne rows st)).2) := by
  unfold closeTo
  rw [end_rn h]
  rw [h, List.length_cons] at hk
  have e : st.rn.length - kept = (r.length - kept) + 1 := by
    rw [h, List.length_cons]
    omega
  rw [e, closeN, h] <;> rfl
theorem close_ok (g : Good rows rk) (at_ : Nat) (rule : Str) (kept : Nat) : ∀ (n : Nat) (st : St), st.rn.length = n → StOk rows st → StOk rows (closeTo rows at_ rule kept st).1 ∧ (closeTo rows at_ rule kept st).1.rn = st.rn.drop (st.rn.length - kept) ∧ (closeTo rows at_ rule kept st).2.length = st.rn.length - kept := by
  intro n
  induction n with
  | zero =>
    intro st hn o
    rw [closeTo_done (by omega), Nat.sub_eq_zero_of_le (by omega)]
    exact ⟨o, rfl, rfl⟩
  | succ n ih =>
    intro st hn o
    by_cases hk : kept < st.rn.length
    · cases h : st.rn with
      | nil =>
        rw [h] at hk
        cases hk
      | cons x r =>
        rw [closeTo_step h hk]
        rw [h, List.length_cons] at hn hk
        have e := end_rn (rows := rows) h
        obtain ⟨h1, h2, h3⟩ := ih (endOne rows st) (by rw [e]; omega) (o.end_ g h)
        rw [e] at h2 h3
        refine ⟨h1, ?_, ?_⟩
        · rw [h2, List.length_cons]
          have e2 : r.length + 1 - kept = (r.length - kept) + 1 := by omega
          rw [e2, List.drop_succ_cons]
        · show (closeTo rows at_ rule kept (endOne rows st)).2.length + 1 = _
          rw [h3, List.length_cons]
          omega
    · rw [closeTo_done (Nat.le_of_not_lt hk), Nat.sub_eq_zero_of_le (Nat.le_of_not_lt hk)]
      exact ⟨o, rfl, rfl⟩
theorem opens_ok {at_ : Nat} {rule : Str} : ∀ {xs : List Str} {st : St}, StOk rows st → Inb rows xs → st.rn.length + xs.length ≤ 20 → StOk rows (putOpens rows at_ rule xs st).1 ∧ (putOpens rows at_ rule xs st).1.rn = xs.reverse ++ st.rn ∧ (putOpens rows at_ rule xs st).2.length = xs.length
  | [], st, o, _, _ => ⟨o, rfl, rfl⟩
  | x :: xs, st, o, hx, hl => by
    rw [List.length_cons] at hl
    obtain ⟨h1, h2, h3⟩ := opens_ok (at_ := at_) (rule := rule) (xs := xs) (o.begin (hx x List.mem_cons_self) (by omega)) (fun y hy => hx y (List.mem_cons_of_mem _ hy)) (by show st.rn.length + 1 + xs.length ≤ 20; omega)
    refine ⟨h1, ?_, congrArg Nat.succ h3⟩
    show (putOpens rows at_ rule xs (beginOne rows st x)).1.rn = _
    rw [h2, List.reverse_cons, List.append_assoc] <;> rfl
theorem may_lt {rn : List Str} {x : Str} (h : mayAnew rows rn x = true) : rn.length < 20 := by
  unfold mayAnew at h
  exact of_decide_eq_true (Bool.and_eq_true_iff.mp h).2
theorem anews_ok {at_ : Nat} : ∀ {xs : List Str} {st : St}, StOk rows st → (∀ x ∈ xs, AnewB rows x) → StOk rows (anews rows at_ xs st).1 ∧ (anews rows at_ xs st).1.rn.length = st.rn.length + (anews rows at_ xs st).2.length
  | [], st, o, _ => ⟨o, rfl⟩
  | x :: xs, st, o, hx => by
    have hx2 : ∀ y ∈ xs, AnewB rows y := fun y hy => hx y (List.mem_cons_of_mem _ hy)
    rw [anews]
    by_cases h : mayAnew rows st.rn x = true
    · rw [if_pos h]
      obtain ⟨h1, h2⟩ := anews_ok (at_ := at_) (xs := xs) (o.begin (hx x List.mem_cons_self).1 (may_lt h)) hx2
      refine ⟨h1, ?_⟩
      rw [h2, List.length_cons]
      show st.rn.length + 1 + _ = _
      omega
    · rw [if_neg h]
      exact anews_ok o hx2
/-! whole tokens -/
theorem told_small : ∀ (n : Nat) (l : List Nat), l.length ≤ n → (∀ c ∈ l, c < 128) → ∀ c ∈ told l, c < 128
  | n, [], _, _ => fun c h => by
    rw [told] at h
    cases h
  | 0, c :: r, h, _ => by simp at h
  | n + 1, c :: r, h, hl => by
    by_cases q1 : (c :: r).take 3 = [38, 108, 59]
    · obtain ⟨s, e⟩ := take3_form q1
      rw [e] at h hl ⊢
      have ih := told_small n s (by simp at h; omega) fun d hd => hl d (List.mem_cons_of_mem _ (List.mem_cons_of_mem _ (List.mem_cons_of_mem _ hd)))
      intro d hd
      change d ∈ 60 :: told s at hd
      rcases List.mem_cons.mp hd with rfl | hd
      · decide
      · exact ih d hd
    · by_cases q2 : (c :: r).take 3 = [38, 97, 59]
      · obtain ⟨s, e⟩ := take3_form q2
        rw [e] at h hl ⊢
        have ih := told_small n s (by simp at h; omega) fun d hd => hl d (List.mem_cons_of_mem _ (List.mem_cons_of_mem _ (List.mem_cons_of_mem _ hd)))
        intro d hd
        change d ∈ 38 :: told s at hd
        rcases List.mem_cons.mp hd with rfl | hd
        · decide
        · exact ih d hd
      · have ih := told_small n r (by simp at h; omega) fun d hd => hl d (List.mem_cons_of_mem _ hd)
        rw [told]
        · intro d hd
          rcases List.mem_cons.mp hd with rfl | hd
          · exact hl _ List.mem_cons_self
          · exact ih d hd
        · intro s h1 h2
          subst h1 h2
          exact q1 rfl
        · intro s h1 h2
          subst h1 h2
          exact q2 rfl
theorem told_ok {l : List Nat} (h : ∀ c ∈ l, c < 128) : PyData.strOk ⟨(told l).toArray⟩ = true := by
  unfold PyData.strOk
  rw [List.all_toArray]
  exact List.all_eq_true.mpr fun c hc => decide_eq_true (Nat.lt_trans (told_small _ l (Nat.le_refl _) h c hc) (by decide))

theorem wait_ok {st : St} {ws : List Str} (o : StOk rows st) (h : ∀ x ∈ ws, AnewB rows x) : StOk rows (waitMore st ws) :=
  o.wait fun x hx => by
    rcases List.mem_append.mp hx with hx | hx
    · exact o.wt x hx
    · exact h x hx
theorem plan_ok (g : Good rows rk) {rn : List Str} {x : Str} {kept : Nat} {put : List Str} (hb : Inb rows rn) (hx : ∃ r ∈ rows, r.name = x) (h : opening rows rk rn x = .opn kept put) :
    (rn.drop (rn.length - kept)).length + put.length ≤ 20 ∧ Inb rows put ∧ ∃ ps, put = ps ++ [x] := by
  unfold opening at h
  split at h
  · cases h
  · split at h
    · cases h
    · rename_i h2
      cases h
      obtain ⟨w1, w2, w3, ps, w4⟩ := wanted_ok g rn (rk x) x (Nat.le_refl _) hx
      exact ⟨Nat.le_of_not_lt h2, w2, ps, w4⟩
theorem open_ok (g : Good rows rk) {st : St} {a b : Nat} {x : Str} (o : StOk rows st) : StOk rows (openTok rows rk st a b x).1 := by
  unfold openTok
  split
  · exact o
  rename_i hs
  have hx : ∃ r ∈ rows, r.name = x := by
    cases e : rowOf rows x with
    | none => exact absurd (by unfold sortOf; rw [e] <;> rfl) hs
    | some r => exact ⟨r, row_some e⟩
  split
  · exact o
  · rename_i kept put hp
    obtain ⟨p1, p2, ps, p3⟩ := plan_ok g o.inb hx hp
    obtain ⟨c1, c2, c3⟩ := close_ok g a "shut" kept _ st rfl o
    have hw : ∀ y ∈ toWait rows st.rn kept, AnewB rows y := to_wait_anew o.inb
    have ed : put.dropLast = ps := by rw [p3, List.dropLast_concat]
    have hlp : put.length = ps.length + 1 := by rw [p3, List.length_append] <;> rfl
    obtain ⟨o1, o2, o3⟩ := opens_ok (at_ := a) (rule := "frame") (xs := put.dropLast) (wait_ok c1 hw) (by rw [ed]; exact fun y hy => p2 y (by rw [p3]; exact List.mem_append_left _ hy)) (by
      show (closeTo rows a "shut" kept st).1.rn.length + _ ≤ 20
      rw [c2, ed]
      omega)
    have hl : (putOpens rows a "frame" put.dropLast (waitMore (closeTo rows a "shut" kept st).1 (toWait rows st.rn kept))).1.rn.length < 20 := by
      rw [o2, List.length_append, List.length_reverse, ed]
      show ps.length + (closeTo rows a "shut" kept st).1.rn.length < 20
      rw [c2]
      omega
    show StOk rows (if sortOf rows x = some ("bare" : Str) then _ else _)
    split
    · refine o1.lie ?_ ?_
      · rw [tdep, tdeps]
        omega
      · rw [tOk, tOks, (inb_one hx).ok g x List.mem_cons_self] <;> rfl
    · exact o1.begin hx hl
theorem close_tok_ok (g : Good rows rk) {st : St} {a b : Nat} {x : Str} (o : StOk rows st) : StOk rows (closeTok rows rk st a b x).1 := by
  unfold closeTok
  split
  · rename_i kept hk
    obtain ⟨c1, c2, c3⟩ := close_ok g a "left" (kept + 1) _ st rfl o
    have hlt := lastOne_lt hk
    refine wait_ok ?_ ?_
    · cases e : (closeTo rows a "left" (kept + 1) st).1.rn with
      | nil =>
        rw [c2] at e
        have := congrArg List.length e
        rw [List.length_drop, List.length_nil] at this
        omega
      | cons y r => exact c1.end_ g e
    · split
      · intro y hy
        cases hy
      · exact to_wait_anew o.inb
  · split
    · exact o.wait fun y hy => o.wt y (List.mem_of_mem_eraseIdx hy)
    · exact o
theorem hosts_for_some {rn hs : List Str} (h : hostsFor rows rk rn = some hs) : hs = hostsIn rows rk rn ∧ rn.length + hs.length ≤ 20 := by
  unfold hostsFor at h
  split at h
  · cases h
  · cases h
    exact ⟨rfl, by omega⟩
theorem run_ok (g : Good rows rk) {st : St} {a b : Nat} {raw : List Nat} (o : StOk rows st) (hr : ∀ c ∈ raw, c < 128) : StOk rows (runTok rows rk st a b raw).1 := by
  unfold runTok
  split
  · exact o
  split
  · exact o
  · rename_i hs hh
    obtain ⟨e1, e2⟩ := hosts_for_some hh
    obtain ⟨o1, o2, o3⟩ := opens_ok (at_ := a) (rule := "host") (xs := hs) o (by rw [e1]; exact (hostsIn_ok g st.rn).1) e2
    obtain ⟨a1, a2⟩ := anews_ok (at_ := a) (xs := (putOpens rows a "host" hs st).1.wtop) (o1.wait (ws := []) (by intro x hx; cases hx)) o1.wt
    refine a1.lie ?_ ?_
    · rw [tdep]
      have := a1.len
      omega
    · rw [tOk]
      exact told_ok hr
end
end Tg

namespace Tg
open PySem L2
section
variable {rows : List Row} {rk : Str → Nat}
theorem cut_small {cs : List Nat} {a b : Nat} (h : ∀ c ∈ cs, c < 128) : ∀ c ∈ cut cs a b, c < 128 := fun c hc => by
  unfold cut at hc
  exact h c (List.mem_of_mem_drop (List.mem_of_mem_take hc))
theorem step_ok (g : Good rows rk) {cs : List Nat} {st : St} {t : Tok3} (o : StOk rows st) (h : ∀ c ∈ cs, c < 128) : StOk rows (stepTok rows rk cs st t).1 := by
  unfold stepTok
  split
  · exact open_ok g o
  · exact close_tok_ok g o
  · exact run_ok g o (cut_small h)
def cost (t : Tok3) : Nat := 200 + 2 * (t.stop - t.start)
theorem step_len (g : Good rows rk) {cs : List Nat} {st : St} {t : Tok3} (o : StOk rows st) : (stepTok rows rk cs st t).2.length ≤ cost t := by
  have hl := o.len
  unfold stepTok
  split
  · unfold openTok
    split
    · unfold cost
      show 1 ≤ _
      omega
    rename_i hs
    have hx : ∃ r ∈ rows, r.name = sOf (cut cs (t.start + 1) (t.stop - 1)) := by
      cases e : rowOf rows (sOf (cut cs (t.start + 1) (t.stop - 1))) with
      | none => exact absurd (by unfold sortOf; rw [e] <;> rfl) hs
      | some r => exact ⟨r, row_some e⟩
    split
    · unfold cost
      show 1 ≤ _
      omega
    · rename_i kept put hp
      obtain ⟨p1, p2, ps, p3⟩ := plan_ok g o.inb hx hp
      obtain ⟨c1, c2, c3⟩ := close_ok g t.start "shut" kept _ st rfl o
      have ed : put.dropLast = ps := by rw [p3, List.dropLast_concat]
      have hlp : put.length = ps.length + 1 := by rw [p3, List.length_append] <;> rfl
      obtain ⟨o1, o2, o3⟩ := opens_ok (at_ := t.start) (rule := "frame") (xs := put.dropLast) (wait_ok c1 (to_wait_anew (kept := kept) o.inb)) (by rw [ed]; exact fun y hy => p2 y (by rw [p3]; exact List.mem_append_left _ hy)) (by
        show (closeTo rows t.start "shut" kept st).1.rn.length + _ ≤ 20
        rw [c2, ed]
        omega)
      show ((closeTo rows t.start "shut" kept st).2 ++ (putOpens rows t.start "frame" put.dropLast (waitMore (closeTo rows t.start "shut" kept st).1 (toWait rows st.rn kept))).2).length ≤ _
      rw [List.length_append, c3, o3, ed]
      unfold cost
      omega
  · unfold closeTok
    split
    · rename_i kept hk
      obtain ⟨c1, c2, c3⟩ := close_ok g t.start "left" (kept + 1) _ st rfl o
      show (closeTo rows t.start "left" (kept + 1) st).2.length ≤ _
      rw [c3]
      unfold cost
      omega
    · split
      · unfold cost
        show 1 ≤ _
        omega
      · unfold cost
        show 1 ≤ _
        omega
  · unfold runTok
    split
    · unfold cost
      show 1 ≤ _
      omega
    split
    · unfold cost
      show 1 ≤ _
      omega
    · rename_i hs hh
      obtain ⟨e1, e2⟩ := hosts_for_some hh
      obtain ⟨o1, o2, o3⟩ := opens_ok (at_ := t.start) (rule := "host") (xs := hs) o (by rw [e1]; exact (hostsIn_ok g st.rn).1) e2
      obtain ⟨a1, a2⟩ := anews_ok (at_ := t.start) (xs := (putOpens rows t.start "host" hs st).1.wtop) (o1.wait (ws := []) (by intro x hx; cases hx)) o1.wt
      have hl2 := a1.len
      show ((putOpens rows t.start "host" hs st).2 ++ ((openAnew rows (putOpens rows t.start "host" hs st).1 t.start).2 ++ (lones 0 (cut cs t.start t.stop)).map (mSign t.start))).length ≤ _
      rw [List.length_append, List.length_append, o3, List.length_map]
      have h1 := lones_len (cut cs t.start t.stop)
      have h2 := cut_len cs t.start t.stop
      have h3 : (openAnew rows (putOpens rows t.start "host" hs st).1 t.start).2.length ≤ 20 := by
        unfold openAnew
        omega
      unfold cost
      omega
theorem steps_snoc {cs : List Nat} {t : Tok3} : ∀ {ts : List Tok3} {st : St}, steps rows rk cs (ts ++ [t]) st = ((stepTok rows rk cs (steps rows rk cs ts st).1 t).1, (steps rows rk cs ts st).2 ++ (stepTok rows rk cs (steps rows rk cs ts st).1 t).2)
  | [], st => by
    rw [List.nil_append, steps, steps, steps, List.append_nil, List.nil_append]
  | s :: ts, st => by
    rw [List.cons_append, steps, steps_snoc, steps, List.append_assoc]
theorem steps_ok (g : Good rows rk) {cs : List Nat} (h : ∀ c ∈ cs, c < 128) : ∀ {ts : List Tok3} {st : St}, StOk rows st → StOk rows (steps rows rk cs ts st).1 ∧ (steps rows rk cs ts st).2.length ≤ (ts.map cost).sum
  | [], st, o => ⟨o, Nat.zero_le _⟩
  | t :: ts, st, o => by
    obtain ⟨h1, h2⟩ := steps_ok g h (ts := ts) (step_ok (t := t) g o h)
    refine ⟨h1, ?_⟩
    show ((stepTok rows rk cs st t).2 ++ (steps rows rk cs ts (stepTok rows rk cs st t).1).2).length ≤ _
    rw [List.length_append, List.map_cons, List.sum_cons]
    have := step_len (cs := cs) (t := t) g o
    omega
theorem st0_ok : StOk rows st0 :=
  ⟨fun y hy => (by cases hy), Nat.zero_le _, rfl, fun t ht => (by cases ht), fun i hp hi => (by cases hi), rfl, fun x hx => (by cases hx), fun r hr => (by cases hr)⟩
end
theorem cost_app (xs ys : List Tok3) : ((xs ++ ys).map cost).sum = (xs.map cost).sum + (ys.map cost).sum := by
  rw [List.map_append, List.sum_append]
theorem run_cost {a b : Nat} : ((runIf a b).map cost).sum ≤ 200 * (b - a) + 2 * (b - a) := by
  unfold runIf
  split
  · show cost ⟨.run, a, b⟩ + 0 ≤ _
    unfold cost
    dsimp only
    omega
  · exact Nat.zero_le _
theorem toks_cost (cs : List Nat) : ∀ (n a bg : Nat), cs.length - a ≤ n → bg ≤ a → a ≤ cs.length → ((toks cs a bg).map cost).sum ≤ 202 * (cs.length - bg)
  | n, a, bg, hn, hb, ha => by
    by_cases h : a < cs.length
    · cases e : tagAt (cs.drop a) with
      | none =>
        cases n with
        | zero => omega
        | succ n =>
          rw [toks_no e h]
          exact toks_cost cs n (a + 1) bg (by omega) (by omega) (by omega)
      | some t =>
        have h60 : cs[a]? = some 60 := Classical.byContradiction fun z => by
          rw [tag_none z] at e
          cases e
        obtain ⟨h1, h2⟩ := tag_len_le h60 e
        rw [toks_tag e h, cost_app, List.map_cons, List.sum_cons]
        cases n with
        | zero => omega
        | succ n =>
          have h3 := toks_cost cs n (a + tagLen t) (a + tagLen t) (by omega) (Nat.le_refl _) h1
          have h4 := run_cost (a := bg) (b := a)
          have h5 : cost ⟨if t.1 = true then .cls else .opn, a, a + tagLen t⟩ ≤ 202 * tagLen t := by
            unfold cost
            dsimp only
            omega
          omega
    · rw [toks_end (by omega)]
      have := run_cost (a := bg) (b := cs.length)
      omega
end Tg

namespace Tg
open PySem L2
section
variable {rows : List Row} {rk : Str → Nat}
def MOk (m : Mend) : Prop := PyData.strOk m.new = true ∧ PyData.strOk m.rule = true
def MsOk (ms : List Mend) : Prop := ∀ m ∈ ms, MOk m
theorem msok_app {a b : List Mend} (h1 : MsOk a) (h2 : MsOk b) : MsOk (a ++ b) := fun m hm => (List.mem_append.mp hm).elim (h1 m) (h2 m)
theorem msok_nil : MsOk [] := fun m hm => by cases hm
theorem msok_cons {m : Mend} {ms : List Mend} (h1 : MOk m) (h2 : MsOk ms) : MsOk (m :: ms) := fun x hx => by
  rcases List.mem_cons.mp hx with rfl | hx
  · exact h1
  · exact h2 x hx
theorem open_ok_m {a : Nat} {x rule : Str} (h1 : PyData.strOk x = true) (h2 : PyData.strOk rule = true) : MOk (mOpen a x rule) := ⟨str_app_ok (str_app_ok (by decide +kernel) h1) (by decide +kernel), h2⟩
theorem close_ok_m {a : Nat} {x rule : Str} (h1 : PyData.strOk x = true) (h2 : PyData.strOk rule = true) : MOk (mClose a x rule) := ⟨str_app_ok (str_app_ok (by decide +kernel) h1) (by decide +kernel), h2⟩
theorem close_ms (g : Good rows rk) {at_ : Nat} {rule : Str} {kept : Nat} (hr : PyData.strOk rule = true) : ∀ (n : Nat) (st : St), st.rn.length = n → Inb rows st.rn → MsOk (closeTo rows at_ rule kept st).2
  | n, st, hn, o => by
    by_cases hk : kept < st.rn.length
    · cases h : st.rn with
      | nil =>
        rw [h] at hk
        cases hk
      | cons x r =>
        rw [closeTo_step h hk]
        have e := end_rn (rows := rows) h
        cases n with
        | zero => omega
        | succ n =>
          refine msok_cons (close_ok_m (o.ok g x (by rw [h]; exact List.mem_cons_self)) hr) (close_ms g hr n (endOne rows st) ?_ ?_)
          · rw [e]
            rw [h, List.length_cons] at hn
            omega
          · rw [e]
            exact fun y hy => o y (by rw [h]; exact List.mem_cons_of_mem _ hy)
    · rw [closeTo_done (Nat.le_of_not_lt hk)]
      exact msok_nil
theorem opens_ms (g : Good rows rk) {at_ : Nat} {rule : Str} (hr : PyData.strOk rule = true) : ∀ {xs : List Str} {st : St}, Inb rows xs → MsOk (putOpens rows at_ rule xs st).2
  | [], st, _ => msok_nil
  | x :: xs, st, h => msok_cons (open_ok_m (h.ok g x List.mem_cons_self) hr) (opens_ms g hr fun y hy => h y (List.mem_cons_of_mem _ hy))
theorem anews_ms (g : Good rows rk) {at_ : Nat} : ∀ {xs : List Str} {st : St}, (∀ x ∈ xs, AnewB rows x) → MsOk (anews rows at_ xs st).2
  | [], st, _ => msok_nil
  | x :: xs, st, h => by
    have h2 : ∀ y ∈ xs, AnewB rows y := fun y hy => h y (List.mem_cons_of_mem _ hy)
    rw [anews]
    split
    · exact msok_cons (open_ok_m ((inb_one (h x List.mem_cons_self).1).ok g x List.mem_cons_self) (by decide +kernel)) (anews_ms g h2)
    · exact anews_ms g h2
theorem one_ms {a b : Nat} {s t : Str} (h1 : PyData.strOk s = true) (h2 : PyData.strOk t = true) : MsOk [⟨a, b, s, t⟩] := msok_cons ⟨h1, h2⟩ msok_nil
theorem plan_rule {rn : List Str} {x rule : Str} (h : opening rows rk rn x = .drop rule) : PyData.strOk rule = true := by
  unfold opening at h
  split at h
  · cases h
    decide +kernel
  · split at h
    · cases h
      decide +kernel
    · cases h
theorem step_ms (g : Good rows rk) {cs : List Nat} {st : St} {t : Tok3} (o : StOk rows st) : MsOk (stepTok rows rk cs st t).2 := by
  have hl := o.len
  unfold stepTok
  split
  · unfold openTok
    split
    · exact one_ms (by decide +kernel) (by decide +kernel)
    rename_i hs
    have hx : ∃ r ∈ rows, r.name = sOf (cut cs (t.start + 1) (t.stop - 1)) := by
      cases e : rowOf rows (sOf (cut cs (t.start + 1) (t.stop - 1))) with
      | none => exact absurd (by unfold sortOf; rw [e] <;> rfl) hs
      | some r => exact ⟨r, row_some e⟩
    split
    · rename_i rule hp
      exact one_ms (by decide +kernel) (plan_rule hp)
    · rename_i kept put hp
      obtain ⟨p1, p2, ps, p3⟩ := plan_ok g o.inb hx hp
      refine msok_app (close_ms g (by decide +kernel) _ st rfl o.inb) (opens_ms g (by decide +kernel) fun y hy => p2 y ((List.dropLast_sublist _).subset hy))
  · unfold closeTok
    split
    · exact close_ms g (by decide +kernel) _ st rfl o.inb
    · split
      · exact one_ms (by decide +kernel) (by decide +kernel)
      · exact one_ms (by decide +kernel) (by decide +kernel)
  · unfold runTok
    split
    · exact one_ms (by decide +kernel) (by decide +kernel)
    split
    · exact one_ms (by decide +kernel) (by decide +kernel)
    · rename_i hs hh
      obtain ⟨e1, e2⟩ := hosts_for_some hh
      obtain ⟨o1, o2, o3⟩ := opens_ok (at_ := t.start) (rule := "host") (xs := hs) o (by rw [e1]; exact (hostsIn_ok g st.rn).1) e2
      refine msok_app (opens_ms g (by decide +kernel) (by rw [e1]; exact (hostsIn_ok g st.rn).1)) (msok_app (anews_ms g o1.wt) fun m hm => ?_)
      obtain ⟨p, _, rfl⟩ := List.mem_map.mp hm
      unfold mSign
      split
      · exact ⟨(by decide +kernel : PyData.strOk ("&l;" : Str) = true), (by decide +kernel : PyData.strOk ("sign" : Str) = true)⟩
      · exact ⟨(by decide +kernel : PyData.strOk ("&a;" : Str) = true), (by decide +kernel : PyData.strOk ("sign" : Str) = true)⟩
theorem steps_ms (g : Good rows rk) {cs : List Nat} (h : ∀ c ∈ cs, c < 128) : ∀ {ts : List Tok3} {st : St}, StOk rows st → MsOk (steps rows rk cs ts st).2
  | [], st, o => msok_nil
  | t :: ts, st, o => msok_app (step_ms g o) (steps_ms g h (step_ok g o h))
def mendD (m : Mend) : PyData := .tuple [.int (m.start : Nat), .int (m.stop : Nat), .str m.new, .str m.rule]
theorem mends_lay : ∀ {ms : List Mend}, MsOk ms → PyData.canLayAll0 (ms.map mendD) = true
  | [], _ => rfl
  | m :: ms, h => by
    obtain ⟨h1, h2⟩ := h m List.mem_cons_self
    show (PyData.canLay0 (mendD m) && PyData.canLayAll0 (ms.map mendD)) = true
    rw [mends_lay fun x hx => h x (List.mem_cons_of_mem _ hx), Bool.and_true]
    unfold mendD
    simp only [PyData.canLay0, PyData.canLayAll0, h1, h2, Bool.and_self]
theorem mends_dep : ∀ (ms : List Mend), PyData.depthAll (ms.map mendD) ≤ 1
  | [] => by
    show PyData.depthAll [] ≤ 1
    simp only [PyData.depthAll]
    omega
  | m :: ms => by
    have ih := mends_dep ms
    show max (PyData.depth (mendD m)) (PyData.depthAll (ms.map mendD)) ≤ 1
    have e : PyData.depth (mendD m) = 1 := by
      unfold mendD
      simp only [PyData.depth, PyData.depthAll]
      rfl
    rw [e]
    omega
def readD (rows : List Row) (rk : Str → Nat) (cs : List Nat) : PyData := .tuple [treeD (.node "" (readAll rows rk cs).1), .list ((readAll rows rk cs).2.map mendD)]
theorem read_shaped (g : Good rows rk) {cs : List Nat} (h : ∀ c ∈ cs, c < 128) : SeqAt.shaped (readD rows rk cs) = true := by
  obtain ⟨O4, _⟩ := steps_ok g h (ts := toks cs 0 0) (st0_ok (rows := rows))
  obtain ⟨O5, ern, _⟩ := close_ok g cs.length "end" 0 _ (steps rows rk cs (toks cs 0 0) st0).1 rfl O4
  have ht : ∀ t ∈ (readAll rows rk cs).1, tdep t ≤ 20 ∧ tOk t = true := fun t ht => by
    obtain ⟨h1, h2⟩ := O5.lev t ht
    exact ⟨by omega, h2⟩
  have hm : MsOk (readAll rows rk cs).2 := msok_app (steps_ms g h st0_ok) (close_ms g (by decide +kernel) _ _ rfl O4.inb)
  unfold readD
  have h1 : tOk (.node "" (readAll rows rk cs).1) = true := by
    rw [tOk, tOks_of fun t h => (ht t h).2]
    decide +kernel
  have h2 : tdep (.node "" (readAll rows rk cs).1) ≤ 21 := by
    rw [tdep]
    have := tdeps_le fun t h => (ht t h).1
    omega
  refine shaped_tup ?_ ?_
  · show (PyData.canLay0 (treeD (.node "" (readAll rows rk cs).1)) && (PyData.canLay0 (.list ((readAll rows rk cs).2.map mendD)) && true)) = true
    rw [tree_lay _ h1, Bool.true_and, Bool.and_true]
    have := mends_lay hm
    simpa only [PyData.canLay0] using this
  · show max (PyData.depth (treeD (.node "" (readAll rows rk cs).1))) (max (PyData.depth (.list ((readAll rows rk cs).2.map mendD))) 0) ≤ 63
    rw [tree_dep]
    have h3 := mends_dep (readAll rows rk cs).2
    have h4 : PyData.depth (.list ((readAll rows rk cs).2.map mendD)) = PyData.depthAll ((readAll rows rk cs).2.map mendD) + 1 := by simp only [PyData.depth]
    rw [h4]
    omega
end
end Tg

namespace Tg
open PySem PySem.Spec PyProof.Rows L2
/-! ### a state of reading on the heap: L false, the program's reader; L true, the law's state -/
structure RdA where
  p : Addr
  dx : Addr
  n : Addr
  h : Addr
  w : Addr
  m : Addr
  hs : List Addr
  rs : List Addr
def RdA.setN (A : RdA) (n : Addr) : RdA := { A with n := n }
def RdA.setM (A : RdA) (m : Addr) : RdA := { A with m := m }
def RdA.setH (A : RdA) (hs : List Addr) : RdA := { A with hs := hs }
def RdA.setR (A : RdA) (rs : List Addr) : RdA := { A with rs := rs }
def RdA.fix (L : Bool) (A : RdA) : List Addr := A.m :: (bif L then [A.n, A.h] else [A.h])
def RdA.all (L : Bool) (A : RdA) : List Addr := A.fix L ++ (A.hs ++ A.rs)
/-- what may change -/
def Foot (L : Bool) (A : RdA) (b : Addr) : Prop := b = A.p ∨ b = A.w ∨ b ∈ A.all L
def lf (b n h w m : Addr) : List (Key × V) := [(Sum.inr "book", V.ref b), (Sum.inr "names", V.ref n), (Sum.inr "heaps", V.ref h), (Sum.inr "waits", V.ref w), (Sum.inr "mends", V.ref m)]
theorem lf_book (b n h w m : Addr) : valV (lf b n h w m) (Sum.inr "book") = some (V.ref b) := rfl
theorem lf_names (b n h w m : Addr) : valV (lf b n h w m) (Sum.inr "names") = some (V.ref n) := rfl
theorem lf_heaps (b n h w m : Addr) : valV (lf b n h w m) (Sum.inr "heaps") = some (V.ref h) := rfl
theorem lf_waits (b n h w m : Addr) : valV (lf b n h w m) (Sum.inr "waits") = some (V.ref w) := rfl
theorem lf_mends (b n h w m : Addr) : valV (lf b n h w m) (Sum.inr "mends") = some (V.ref m) := rfl
def objOf (L : Bool) (C b : Addr) (A : RdA) : HO := bif L then .dK (lf b A.n A.h A.w A.m) else .ins C A.dx (rf b A.n A.h A.w A.m)
def namOf (L : Bool) (rn : List Str) : HO := bif L then .lst (rn.reverse.map V.str) else .tup (rn.reverse.map V.str)
structure RdAt (L : Bool) (C : Addr) (B : Bk) (H : Hp) (A : RdA) (rn : List Str) (hps : List (List Tree)) (rws : List (List Str)) (ks : List Nat) (ms : List Mend) (N : Nat) : Prop where
  sg : Same B.G H
  fr : ∀ b, Foot L A b → B.G b = none
  ins : H A.p = some (objOf L C B.b A)
  nam : H A.n = some (namOf L rn)
  hpl : HeapsAt H A.h A.hs hps
  wts : WaitsAt H A.w A.rs rws ks N
  mds : MendsAt H A.m ms
  nd : (A.all L).Nodup
  pw : A.p ≠ A.w
  bd : Bd hps rws ms N
/-- as the mirror's states are -/
abbrev RdS (L : Bool) (C : Addr) (B : Bk) (H : Hp) (A : RdA) (st : St) (ms : List Mend) (N : Nat) : Prop :=
  RdAt L C B H A st.rn (st.top :: st.outer) (st.wtop :: st.wouter) (keys B.rows st.rn) ms N
def Mod (L : Bool) (A : RdA) (H : Hp) (A' : RdA) (H' : Hp) : Prop := ∀ b o, ¬ Foot L A b → H b = some o → H' b = some o ∧ ¬ Foot L A' b
theorem mem_fix {L : Bool} {A : RdA} {b : Addr} : b ∈ A.fix L ↔ b = A.m ∨ b = A.h ∨ (L = true ∧ b = A.n) := by
  unfold RdA.fix
  cases L with
  | false => simp
  | true =>
    simp only [cond_true, List.mem_cons, List.not_mem_nil, or_false, true_and]
    exact ⟨fun h => h.elim .inl fun h => h.elim (fun h => .inr (.inr h)) fun h => .inr (.inl h), fun h => h.elim .inl fun h => h.elim (fun h => .inr (.inr h)) fun h => .inr (.inl h)⟩
theorem mem_all {L : Bool} {A : RdA} {b : Addr} : b ∈ A.all L ↔ b = A.m ∨ b = A.h ∨ (L = true ∧ b = A.n) ∨ b ∈ A.hs ∨ b ∈ A.rs := by
  unfold RdA.all
  rw [List.mem_append, mem_fix, List.mem_append]
  constructor
  · rintro ((h | h | h) | h | h)
    · exact .inl h
    · exact .inr (.inl h)
    · exact .inr (.inr (.inl h))
    · exact .inr (.inr (.inr (.inl h)))
    · exact .inr (.inr (.inr (.inr h)))
  · rintro (h | h | h | h | h)
    · exact .inl (.inl h)
    · exact .inl (.inr (.inl h))
    · exact .inl (.inr (.inr h))
    · exact .inr (.inl h)
    · exact .inr (.inr h)
theorem Mod.same {L : Bool} {A : RdA} {H H' : Hp} (e : Same H H') : Mod L A H A H' := fun b o n h => ⟨e b o h, n⟩
theorem Mod.trans {L : Bool} {A A1 A2 : RdA} {H H1 H2 : Hp} (a : Mod L A H A1 H1) (b : Mod L A1 H1 A2 H2) : Mod L A H A2 H2 := fun c o n h =>
  let ⟨h1, n1⟩ := a c o n h
  b c o n1 h1
theorem Mod.but {L : Bool} {A : RdA} {H H' : Hp} {l : Addr} (f : Foot L A l) (e : But l H H') : Mod L A H A H' := fun b o n h => ⟨e b o (fun z => n (by rw [z]; exact f)) h, n⟩
/-- places may go or come, if what comes was free -/
theorem Mod.turn {L : Bool} {A A' : RdA} {H0 H : Hp} (F : ∀ b, Foot L A' b → Foot L A b ∨ H0 b = none) (e : Mod L A H0 A H) : Mod L A H0 A' H := fun b o n h =>
  ⟨(e b o n h).1, fun f => (F b f).elim n fun z => by rw [h] at z; cases z⟩
theorem foot_imp {L : Bool} {A A' : RdA} {Z : Addr → Prop} (p : A'.p = A.p) (w : A'.w = A.w) (h : A'.h = A.h) (m : A'.m = A.m ∨ Z A'.m) (n : L = true → A'.n = A.n) (hs : ∀ b ∈ A'.hs, b ∈ A.hs ∨ Z b) (rs : ∀ b ∈ A'.rs, b ∈ A.rs ∨ Z b) :
    ∀ b, Foot L A' b → Foot L A b ∨ Z b := by
  rintro b (f | f | f)
  · exact .inl (.inl (f.trans p))
  · exact .inl (.inr (.inl (f.trans w)))
  rcases mem_all.mp f with f | f | ⟨q, f⟩ | f | f
  · rcases m with m | m
    · exact .inl (.inr (.inr (mem_all.mpr (.inl (f.trans m)))))
    · exact .inr (by rw [f]; exact m)
  · exact .inl (.inr (.inr (mem_all.mpr (.inr (.inl (f.trans h))))))
  · exact .inl (.inr (.inr (mem_all.mpr (.inr (.inr (.inl ⟨q, f.trans (n q)⟩))))))
  · rcases hs b f with f | f
    · exact .inl (.inr (.inr (mem_all.mpr (.inr (.inr (.inr (.inl f)))))))
    · exact .inr f
  · rcases rs b f with f | f
    · exact .inl (.inr (.inr (mem_all.mpr (.inr (.inr (.inr (.inr f)))))))
    · exact .inr f
section
variable {L : Bool} {C : Addr} {B : Bk} {H H0 H1 H' : Hp} {A : RdA} {rn : List Str} {hps : List (List Tree)} {rws : List (List Str)} {ks : List Nat} {ms : List Mend} {N : Nat}
theorem obj_not_lst (L : Bool) (C b : Addr) (A : RdA) (xs : List V) : objOf L C b A ≠ .lst xs := by
  cases L <;> (intro z; cases z)
theorem obj_not_tup (L : Bool) (C b : Addr) (A : RdA) : notTup (objOf L C b A) = true := by
  cases L <;> rfl
theorem all_m : A.m ∈ A.all L := mem_all.mpr (.inl rfl)
theorem all_h : A.h ∈ A.all L := mem_all.mpr (.inr (.inl rfl))
theorem all_n : A.n ∈ A.all true := mem_all.mpr (.inr (.inr (.inl ⟨rfl, rfl⟩)))
theorem all_hs {b : Addr} (h : b ∈ A.hs) : b ∈ A.all L := mem_all.mpr (.inr (.inr (.inr (.inl h))))
theorem all_rs {b : Addr} (h : b ∈ A.rs) : b ∈ A.all L := mem_all.mpr (.inr (.inr (.inr (.inr h))))
theorem foot_l {b : Addr} (h : b ∈ A.all L) : Foot L A b := .inr (.inr h)
/-- what stands at the places is a list -/
theorem RdAt.lst (R : RdAt L C B H A rn hps rws ks ms N) {b : Addr} (h : b ∈ A.all L) : ∃ us, H b = some (.lst us) := by
  rcases mem_all.mp h with rfl | rfl | ⟨rfl, rfl⟩ | h | h
  · obtain ⟨us, h1, _⟩ := R.mds.ex
    exact ⟨us, h1⟩
  · exact ⟨_, R.hpl.l⟩
  · exact ⟨_, R.nam⟩
  · obtain ⟨i, hi, e⟩ := List.mem_iff_getElem.mp h
    obtain ⟨hp, h1, us, h2, _⟩ := R.hpl.at_.get (i := i) (v := b) (by rw [List.getElem?_eq_getElem hi, e])
    exact ⟨us, h2⟩
  · obtain ⟨i, hi, e⟩ := List.mem_iff_getElem.mp h
    obtain ⟨r, h1, h2⟩ := R.wts.at_.get (i := i) (v := b) (by rw [List.getElem?_eq_getElem hi, e])
    exact ⟨_, h2⟩
theorem RdAt.dic (R : RdAt L C B H A rn hps rws ks ms N) : ∃ kvs, H A.w = some (.dK kvs) := by
  obtain ⟨kvs, h, _⟩ := R.wts.d
  exact ⟨kvs, h⟩
theorem RdAt.foot_at (R : RdAt L C B H A rn hps rws ks ms N) {b : Addr} (f : Foot L A b) : ∃ o, H b = some o ∧ notTup o = true := by
  rcases f with rfl | rfl | f
  · exact ⟨_, R.ins, obj_not_tup _ _ _ _⟩
  · obtain ⟨kvs, h⟩ := R.dic
    exact ⟨_, h, rfl⟩
  · obtain ⟨us, h⟩ := R.lst f
    exact ⟨_, h, rfl⟩
theorem RdAt.not_tup (R : RdAt L C B H A rn hps rws ks ms N) {b : Addr} {xs : List V} (h : H b = some (.tup xs)) : ¬ Foot L A b := fun f => by
  obtain ⟨o, h1, h2⟩ := R.foot_at f
  rw [h] at h1
  cases h1
  cases h2
theorem RdAt.not_free (R : RdAt L C B H A rn hps rws ks ms N) {b : Addr} (h : H b = none) : ¬ Foot L A b := fun f => by
  obtain ⟨o, h1, h2⟩ := R.foot_at f
  rw [h] at h1
  cases h1
theorem RdAt.pl (R : RdAt L C B H A rn hps rws ks ms N) {b : Addr} (h : b ∈ A.all L) : A.p ≠ b := by
  obtain ⟨us, h1⟩ := R.lst h
  exact ne_of R.ins h1 (obj_not_lst _ _ _ _ _)
theorem RdAt.wl (R : RdAt L C B H A rn hps rws ks ms N) {b : Addr} (h : b ∈ A.all L) : A.w ≠ b := by
  obtain ⟨us, h1⟩ := R.lst h
  obtain ⟨kvs, h2⟩ := R.dic
  exact ne_of h2 h1 (by intro z; cases z)
theorem RdAt.np (R : RdAt L C B H A rn hps rws ks ms N) : A.n ≠ A.p := by
  refine ne_of R.nam R.ins ?_
  cases L <;> (intro z; cases z)
theorem RdAt.nw (R : RdAt L C B H A rn hps rws ks ms N) : A.n ≠ A.w := by
  obtain ⟨kvs, h2⟩ := R.dic
  refine ne_of R.nam h2 ?_
  cases L <;> (intro z; cases z)
/-- what the places being apart says -/
theorem RdAt.nd' (R : RdAt L C B H A rn hps rws ks ms N) : A.m ≠ A.h ∧ A.h ∉ A.hs ∧ A.h ∉ A.rs ∧ A.m ∉ A.hs ∧ A.m ∉ A.rs ∧ A.hs.Nodup ∧ A.rs.Nodup ∧ (∀ b ∈ A.hs, b ∉ A.rs) ∧ A.m ∉ A.hs ++ A.rs := by
  have h := R.nd
  unfold RdA.all at h
  obtain ⟨h1, h2, h3⟩ := List.nodup_append.mp h
  obtain ⟨h4, h5, h6⟩ := List.nodup_append.mp h2
  have fm : A.m ∈ A.fix L := mem_fix.mpr (.inl rfl)
  have fh : A.h ∈ A.fix L := mem_fix.mpr (.inr (.inl rfl))
  refine ⟨?_, fun e => h3 _ fh _ (List.mem_append_left _ e) rfl, fun e => h3 _ fh _ (List.mem_append_right _ e) rfl, fun e => h3 _ fm _ (List.mem_append_left _ e) rfl, fun e => h3 _ fm _ (List.mem_append_right _ e) rfl, h4, h5, fun b hb hb2 => h6 b hb b hb2 rfl, fun e => h3 _ fm _ e rfl⟩
  unfold RdA.fix at h1
  have h7 := (List.nodup_cons.mp h1).1
  intro e
  refine h7 ?_
  rw [e]
  cases L <;> simp
theorem RdAt.nl (R : RdAt L C B H A rn hps rws ks ms N) {b : Addr} (h : b = A.m ∨ b = A.h ∨ b ∈ A.hs ∨ b ∈ A.rs) : A.n ≠ b := by
  have ha : b ∈ A.all L := mem_all.mpr (by rcases h with h | h | h | h <;> simp [h])
  cases hL : L with
  | false =>
    subst hL
    obtain ⟨us, h1⟩ := R.lst ha
    exact ne_of R.nam h1 (by intro z; cases z)
  | true =>
    subst hL
    have hn := R.nd
    have e : A.all true = A.m :: A.n :: A.h :: (A.hs ++ A.rs) := rfl
    rw [e] at hn
    obtain ⟨h1, h2⟩ := List.nodup_cons.mp hn
    obtain ⟨h3, h4⟩ := List.nodup_cons.mp h2
    intro z
    rw [← z] at h
    rcases h with h | h | h | h
    · exact h1 (by rw [← h]; exact List.mem_cons_self)
    · exact h3 (by rw [h]; exact List.mem_cons_self)
    · exact h3 (List.mem_cons_of_mem _ (List.mem_append_left _ h))
    · exact h3 (List.mem_cons_of_mem _ (List.mem_append_right _ h))
theorem RdAt.tups {A' : RdA} (R : RdAt L C B H A rn hps rws ks ms N) (m : Mod L A H A' H') : Tups H H' := fun b xs h => (m b _ (R.not_tup h) h).1
theorem RdAt.g {A' : RdA} (R : RdAt L C B H A rn hps rws ks ms N) (m : Mod L A H A' H') : Same B.G H' := fun b o h =>
  (m b o (fun f => by rw [R.fr b f] at h; cases h) (R.sg b o h)).1
theorem RdAt.same (R : RdAt L C B H A rn hps rws ks ms N) (e : Same H H') : RdAt L C B H' A rn hps rws ks ms N :=
  ⟨R.sg.trans e, R.fr, e _ _ R.ins, e _ _ R.nam, R.hpl.keep (fun b _ o h => e b o h) (tups_same e), R.wts.keep (fun b _ o h => e b o h), R.mds.keep (fun o h => e _ o h) (tups_same e), R.nd, R.pw, R.bd⟩
theorem RdAt.more {M : Nat} (R : RdAt L C B H A rn hps rws ks ms N) (h : N ≤ M) : RdAt L C B H A rn hps rws ks ms M :=
  ⟨R.sg, R.fr, R.ins, R.nam, R.hpl, R.wts.more h, R.mds, R.nd, R.pw, R.bd.more h⟩
theorem RdAt.hd {hp : List Tree} (R : RdAt L C B H A rn (hp :: hps) rws ks ms N) : ∃ a hs, A.hs = a :: hs ∧ HeapAt H a hp := by
  have h1 := R.hpl.at_.len
  have h2 := R.hpl.at_
  cases e : A.hs with
  | nil =>
    rw [e] at h1
    simp at h1
  | cons a hs =>
    rw [e] at h2
    exact ⟨a, hs, rfl, h2.tail.1⟩
theorem RdAt.rd {r : List Str} (R : RdAt L C B H A rn hps (r :: rws) ks ms N) : ∃ a rs, A.rs = a :: rs ∧ H a = some (.lst (r.map V.str)) := by
  have h1 := R.wts.at_.len
  have h2 := R.wts.at_
  cases e : A.rs with
  | nil =>
    rw [e] at h1
    simp at h1
  | cons a rs =>
    rw [e] at h2
    exact ⟨a, rs, rfl, h2.tail.1⟩
/-- a place that is no place of the state has changed -/
theorem RdAt.out {l : Addr} {us : List V} (R : RdAt L C B H A rn hps rws ks ms N) (f : ¬ Foot L A l) (hl : H l = some (.lst us)) (hg : B.G l = none) (e : But l H H') : RdAt L C B H' A rn hps rws ks ms N := by
  have k : ∀ b, Foot L A b → ∀ o, H b = some o → H' b = some o := fun b q o h => e b o (fun z => f (by rw [← z]; exact q)) h
  have tu : Tups H H' := tups_but hl rfl e
  have sg : Same B.G H' := fun b o h => e b o (fun z => by rw [z, hg] at h; cases h) (R.sg b o h)
  refine ⟨sg, R.fr, k _ (.inl rfl) _ R.ins, ?_, R.hpl.keep (fun b hb o h => k b (foot_l ?_) o h) tu, R.wts.keep (fun b hb o h => k b ?_ o h), R.mds.keep (fun o h => k _ (foot_l all_m) o h) tu, R.nd, R.pw, R.bd⟩
  · cases L with
    | false => exact tu _ _ R.nam
    | true => exact k _ (foot_l all_n) _ R.nam
  · rcases hb with rfl | hb
    · exact all_h
    · exact all_hs hb
  · rcases hb with rfl | hb
    · exact .inr (.inl rfl)
    · exact foot_l (all_rs hb)
/-! the parts that a change at one place leaves -/
variable {l : Addr}
theorem RdAt.k_hps (R : RdAt L C B H A rn hps rws ks ms N) (e : But l H H') (t : Tups H H') (n1 : l ≠ A.h) (n2 : l ∉ A.hs) : HeapsAt H' A.h A.hs hps :=
  R.hpl.keep (fun b hb o h => e b o (fun z => by rcases hb with hb | hb; exact n1 (z.symm.trans hb); exact n2 (by rw [← z]; exact hb)) h) t
theorem RdAt.k_wts (R : RdAt L C B H A rn hps rws ks ms N) (e : But l H H') (n1 : l ≠ A.w) (n2 : l ∉ A.rs) : WaitsAt H' A.w A.rs rws ks N :=
  R.wts.keep (fun b hb o h => e b o (fun z => by rcases hb with hb | hb; exact n1 (z.symm.trans hb); exact n2 (by rw [← z]; exact hb)) h)
theorem RdAt.k_mds (R : RdAt L C B H A rn hps rws ks ms N) (e : But l H H') (t : Tups H H') (n : l ≠ A.m) : MendsAt H' A.m ms := R.mds.keep (fun o h => e _ o (fun z => n z.symm) h) t
theorem RdAt.k_ins (R : RdAt L C B H A rn hps rws ks ms N) (e : But l H H') (n : l ≠ A.p) : H' A.p = some (objOf L C B.b A) := e _ _ (fun z => n z.symm) R.ins
theorem RdAt.k_nam (R : RdAt L C B H A rn hps rws ks ms N) (e : But l H H') (n : l ≠ A.n) : H' A.n = some (namOf L rn) := e _ _ (fun z => n z.symm) R.nam
theorem RdAt.frZ {A' : RdA} (R : RdAt L C B H A rn hps rws ks ms N) (F : ∀ b, Foot L A' b → Foot L A b ∨ H b = none) : ∀ b, Foot L A' b → B.G b = none := fun b f => (F b f).elim (R.fr b) fun z => R.sg.free z
/-- the parts of the last open one have changed -/
theorem RdAt.hput {M : Nat} {a : Addr} {hs : List Addr} {hp hp' : List Tree} (R : RdAt L C B H A rn (hp :: hps) rws ks ms N) (ea : A.hs = a :: hs) (e : But a H H') (q : HeapAt H' a hp') (bd : Bd (hp' :: hps) rws ms M) (hNM : N ≤ M) :
    RdAt L C B H' A rn (hp' :: hps) rws ks ms M ∧ Mod L A H A H' := by
  obtain ⟨d1, d2, d3, d4, d5, d6, d7, d8, _⟩ := R.nd'
  have ha : a ∈ A.hs := by rw [ea]; exact List.mem_cons_self
  have hm : Mod L A H A H' := .but (foot_l (all_hs ha)) e
  have tu := R.tups hm
  refine ⟨⟨R.g hm, R.fr, R.k_ins e (R.pl (all_hs ha)).symm, R.k_nam e (R.nl (.inr (.inr (.inl ha)))).symm, ⟨?_, ?_⟩, (R.k_wts e (R.wl (all_hs ha)).symm (d8 a ha)).more hNM, R.k_mds e tu (fun z => d4 (by rw [← z]; exact ha)), R.nd, R.pw, bd⟩, hm⟩
  · exact e _ _ (fun z => d2 (by rw [z]; exact ha)) R.hpl.l
  · have hA := R.hpl.at_
    rw [ea] at hA d6 ⊢
    obtain ⟨_, h2⟩ := hA.tail
    have nd2 := (List.nodup_cons.mp d6).1
    refine .cons q ⟨h2.len, fun i c hp h3 h4 => (h2.at_ i c hp h3 h4).keep (fun o h => e c o (fun z => nd2 ?_) h) tu⟩
    rw [← z]
    exact List.mem_of_getElem? h3
theorem nodup_mid {α : Type} {a : α} : ∀ {xs ys : List α}, (xs ++ a :: ys).Nodup ↔ (a :: (xs ++ ys)).Nodup
  | [], ys => Iff.rfl
  | x :: xs, ys => by
    rw [List.cons_append, List.nodup_cons, nodup_mid, List.cons_append, List.nodup_cons, List.nodup_cons, List.nodup_cons, List.mem_append, List.mem_cons, List.mem_cons, List.mem_append]
    constructor
    · rintro ⟨h1, h2, h3⟩
      exact ⟨fun z => z.elim (fun z => h1 (.inr (.inl z.symm))) fun z => h2 z, fun z => h1 ((List.mem_append.mp z).elim .inl fun z => .inr (.inr z)), h3⟩
    · rintro ⟨h1, h2, h3⟩
      exact ⟨fun z => z.elim (fun z => h2 (List.mem_append.mpr (.inl z))) fun z => z.elim (fun z => h1 (.inl z.symm)) fun z => h2 (List.mem_append.mpr (.inr z)), fun z => h1 (.inr z), h3⟩
theorem nodup_in {α : Type} {a : α} {xs ys : List α} (h : (xs ++ ys).Nodup) (n : a ∉ xs ++ ys) : (xs ++ a :: ys).Nodup := nodup_mid.mpr (List.nodup_cons.mpr ⟨n, h⟩)
/-- an empty list of parts comes -/
theorem RdAt.hpush {H2 : Hp} {a : Addr} (R : RdAt L C B H A rn hps rws ks ms N) (ha : H a = none) (s1 : Same H H1) (h1 : H1 a = some (.lst [])) (e : But A.h H1 H2) (h2 : H2 A.h = some (.lst (A.hs.reverse.map V.ref ++ [V.ref a]))) :
    RdAt L C B H2 (A.setH (a :: A.hs)) rn ([] :: hps) rws ks ms N ∧ Mod L A H (A.setH (a :: A.hs)) H2 := by
  have R1 := R.same s1
  obtain ⟨d1, d2, d3, d4, d5, d6, d7, d8, _⟩ := R.nd'
  have F : ∀ b, Foot L (A.setH (a :: A.hs)) b → Foot L A b ∨ H b = none := foot_imp rfl rfl rfl (.inl rfl) (fun _ => rfl) (fun b hb => by
    rcases List.mem_cons.mp hb with rfl | hb
    · exact .inr ha
    · exact .inl hb) (fun b hb => .inl hb)
  have hm : Mod L A H A H2 := (Mod.same s1).trans (.but (foot_l all_h) e)
  have tu1 := R1.tups (.but (foot_l all_h) e)
  have na : a ∉ A.all L := fun h => R.not_free ha (foot_l h)
  refine ⟨⟨R.g hm, R.frZ F, R1.k_ins e (R.pl all_h).symm, R1.k_nam e (R.nl (.inr (.inl rfl))).symm, ⟨?_, ?_⟩, R1.k_wts e (R.wl all_h).symm d3, R1.k_mds e tu1 (fun z => d1 z.symm), ?_, R.pw, ?_⟩, Mod.turn F hm⟩
  · show H2 A.h = some (.lst ((a :: A.hs).reverse.map V.ref))
    rw [h2, List.reverse_cons, List.map_append] <;> rfl
  · refine .cons ⟨[], e _ _ (fun z => na (by rw [z]; exact all_h)) h1, .nil⟩ ⟨R1.hpl.at_.len, fun i c hp h3 h4 => (R1.hpl.at_.at_ i c hp h3 h4).keep (fun o h => e c o (fun z => d2 ?_) h) tu1⟩
    rw [← z]
    exact List.mem_of_getElem? h3
  · exact nodup_in R.nd na
  · refine ⟨fun hp q => ?_, R.bd.rw, R.bd.md⟩
    rcases List.mem_cons.mp q with rfl | q
    · exact ⟨Nat.zero_le _, fun s h => by cases h⟩
    · exact R.bd.hp hp q
/-- the last list of parts goes -/
theorem RdAt.hpop {a : Addr} {hs : List Addr} {hp : List Tree} (R : RdAt L C B H A rn (hp :: hps) rws ks ms N) (ea : A.hs = a :: hs) (e : But A.h H H') (h2 : H' A.h = some (.lst (hs.reverse.map V.ref))) :
    RdAt L C B H' (A.setH hs) rn hps rws ks ms N ∧ Mod L A H (A.setH hs) H' := by
  obtain ⟨d1, d2, d3, d4, d5, d6, d7, d8, _⟩ := R.nd'
  have F : ∀ b, Foot L (A.setH hs) b → Foot L A b ∨ H b = none := foot_imp rfl rfl rfl (.inl rfl) (fun _ => rfl) (fun b hb => .inl (by rw [ea]; exact List.mem_cons_of_mem _ hb)) (fun b hb => .inl hb)
  have hm : Mod L A H A H' := .but (foot_l all_h) e
  have tu := R.tups hm
  refine ⟨⟨R.g hm, R.frZ F, R.k_ins e (R.pl all_h).symm, R.k_nam e (R.nl (.inr (.inl rfl))).symm, ⟨h2, ?_⟩, R.k_wts e (R.wl all_h).symm d3, R.k_mds e tu (fun z => d1 z.symm), ?_, R.pw, ?_⟩, Mod.turn F hm⟩
  · have hA := R.hpl.at_
    rw [ea] at hA
    obtain ⟨_, h3⟩ := hA.tail
    refine ⟨h3.len, fun i c hp h4 h5 => (h3.at_ i c hp h4 h5).keep (fun o h => e c o (fun z => d2 ?_) h) tu⟩
    rw [← z, ea]
    exact List.mem_cons_of_mem _ (List.mem_of_getElem? h4)
  · have h := R.nd
    have e1 : A.all L = A.fix L ++ a :: (hs ++ A.rs) := by
      unfold RdA.all
      rw [ea] <;> rfl
    rw [e1] at h
    exact (List.nodup_cons.mp (nodup_mid.mp h)).2
  · exact ⟨fun hp q => R.bd.hp hp (List.mem_cons_of_mem _ q), R.bd.rw, R.bd.md⟩
/-- the reader's names: a new tuple -/
theorem RdAt.nset {H2 : Hp} {n : Addr} {rn' : List Str} (R : RdAt false C B H A rn hps rws ks ms N) (s1 : Same H H1) (h1 : H1 n = some (.tup (rn'.reverse.map V.str))) (e : But A.p H1 H2) (h2 : H2 A.p = some (objOf false C B.b (A.setN n))) :
    RdAt false C B H2 (A.setN n) rn' hps rws ks ms N ∧ Mod false A H (A.setN n) H2 := by
  have R1 := R.same s1
  have F : ∀ b, Foot false (A.setN n) b → Foot false A b ∨ H b = none := foot_imp rfl rfl rfl (.inl rfl) (fun q => by cases q) (fun b hb => .inl hb) (fun b hb => .inl hb)
  have hm : Mod false A H A H2 := (Mod.same s1).trans (.but (.inl rfl) e)
  have tu1 := R1.tups (.but (.inl rfl) e)
  refine ⟨⟨R.g hm, R.frZ F, h2, tu1 _ _ h1, R1.k_hps e tu1 (R.pl all_h) (fun z => R.pl (all_hs z) rfl), R1.k_wts e R.pw (fun z => R.pl (all_rs z) rfl), R1.k_mds e tu1 (R.pl all_m), R.nd, R.pw, R.bd⟩, Mod.turn F hm⟩
/-- the law's names: the same list -/
theorem RdAt.nput {rn' : List Str} (R : RdAt true C B H A rn hps rws ks ms N) (e : But A.n H H') (h2 : H' A.n = some (.lst (rn'.reverse.map V.str))) :
    RdAt true C B H' A rn' hps rws ks ms N ∧ Mod true A H A H' := by
  have hm : Mod true A H A H' := .but (foot_l all_n) e
  have tu := R.tups hm
  refine ⟨⟨R.g hm, R.fr, R.k_ins e R.np, h2, R.k_hps e tu (R.nl (.inr (.inl rfl))) (fun z => R.nl (.inr (.inr (.inl z))) rfl), R.k_wts e R.nw (fun z => R.nl (.inr (.inr (.inr z))) rfl), R.k_mds e tu (R.nl (.inl rfl)), R.nd, R.pw, R.bd⟩, hm⟩
/-- the reader's mends begin anew -/
theorem RdAt.mnew {H2 : Hp} {m : Addr} (R : RdAt false C B H A rn hps rws ks ms N) (hm0 : H m = none) (s1 : Same H H1) (h1 : H1 m = some (.lst [])) (e : But A.p H1 H2) (h2 : H2 A.p = some (objOf false C B.b (A.setM m))) :
    RdAt false C B H2 (A.setM m) rn hps rws ks [] N ∧ Mod false A H (A.setM m) H2 := by
  have R1 := R.same s1
  have F : ∀ b, Foot false (A.setM m) b → Foot false A b ∨ H b = none := foot_imp rfl rfl rfl (.inr hm0) (fun q => by cases q) (fun b hb => .inl hb) (fun b hb => .inl hb)
  have hm : Mod false A H A H2 := (Mod.same s1).trans (.but (.inl rfl) e)
  have tu1 := R1.tups (.but (.inl rfl) e)
  have np : m ≠ A.p := fun z => by rw [z, R.ins] at hm0; cases hm0
  refine ⟨⟨R.g hm, R.frZ F, h2, R1.k_nam e R.np.symm, R1.k_hps e tu1 (R.pl all_h) (fun z => R.pl (all_hs z) rfl), R1.k_wts e R.pw (fun z => R.pl (all_rs z) rfl), ⟨[], e _ _ np h1, .nil⟩, ?_, R.pw, ⟨R.bd.hp, R.bd.rw, Nat.zero_le _⟩⟩, Mod.turn F hm⟩
  have h := R.nd
  exact List.nodup_cons.mpr ⟨fun z => R.not_free hm0 (foot_l (List.mem_cons_of_mem _ z)), (List.nodup_cons.mp h).2⟩
/-- a mend comes -/
theorem RdAt.mend {H2 : Hp} {q : Addr} {us : List V} {x : Mend} (R : RdAt L C B H A rn hps rws ks ms N) (s1 : Same H H1) (hu : All2 (MendAt H) us ms) (hq : H1 q = some (.tup [.int (x.start : Nat), .int (x.stop : Nat), .str x.new, .str x.rule]))
    (e : But A.m H1 H2) (h2 : H2 A.m = some (.lst (us ++ [V.ref q]))) : RdAt L C B H2 A rn hps rws ks (ms ++ [x]) (N + 1) ∧ Mod L A H A H2 := by
  have R1 := R.same s1
  obtain ⟨d1, d2, d3, d4, d5, d6, d7, d8, _⟩ := R.nd'
  have hm : Mod L A H A H2 := (Mod.same s1).trans (.but (foot_l all_m) e)
  have tu1 := R1.tups (.but (foot_l all_m) e)
  have b2 := R.bd.more (Nat.le_succ N)
  refine ⟨⟨R.g hm, R.fr, R1.k_ins e (R.pl all_m).symm, R1.k_nam e (R.nl (.inl rfl)).symm, R1.k_hps e tu1 d1 d4, (R1.k_wts e (R.wl all_m).symm d5).more (Nat.le_succ N), ⟨_, h2, ?_⟩, R.nd, R.pw, ⟨b2.hp, b2.rw, ?_⟩⟩, hm⟩
  · exact (hu.mono (mend_mono ((tups_same s1).trans tu1))).app (.one ⟨q, rfl, tu1 _ _ hq⟩)
  · have := R.bd.md
    rw [List.length_append, List.length_singleton]
    omega
/-! the waiting ones -/
theorem valV_drop {kvs : List (Key × V)} {k j : Key} (h : ¬ j = k) : valV (dropK kvs k) j = valV kvs j := by
  induction kvs with
  | nil => rfl
  | cons p r ih =>
    by_cases e2 : p.1 = k
    · rw [dropK_pos e2, ih, valV_neg (fun z => h (z.symm.trans e2))]
    · rw [dropK_neg e2]
      by_cases e : p.1 = j
      · rw [valV_pos e, valV_pos e]
      · rw [valV_neg e, valV_neg e, ih]
theorem RdAt.wpush {H2 : Hp} {r : Addr} {k M : Nat} {ws : List Str} {kvs : List (Key × V)} (R : RdAt L C B H A rn hps rws ks ms N) (hk : k ∉ ks) (hr : H r = none) (s1 : Same H H1) (h1 : H1 r = some (.lst (ws.map V.str))) (hd : H1 A.w = some (.dK kvs)) (e : But A.w H1 H2)
    (h2 : H2 A.w = some (.dK (putK kvs (Sum.inl (k : Int)) (V.ref r)))) (hM : ws.length ≤ M) (hNM : N + 1 ≤ M) : RdAt L C B H2 (A.setR (r :: A.rs)) rn hps (ws :: rws) (k :: ks) ms M ∧ Mod L A H (A.setR (r :: A.rs)) H2 := by
  have R1 := R.same s1
  obtain ⟨d1, d2, d3, d4, d5, d6, d7, d8, _⟩ := R.nd'
  have F : ∀ b, Foot L (A.setR (r :: A.rs)) b → Foot L A b ∨ H b = none := foot_imp rfl rfl rfl (.inl rfl) (fun _ => rfl) (fun b hb => .inl hb) (fun b hb => by
    rcases List.mem_cons.mp hb with rfl | hb
    · exact .inr hr
    · exact .inl hb)
  have fw : Foot L A A.w := .inr (.inl rfl)
  have hm : Mod L A H A H2 := (Mod.same s1).trans (.but fw e)
  have tu1 := R1.tups (.but fw e)
  have na : r ∉ A.all L := fun h => R.not_free hr (foot_l h)
  have b2 := R.bd.more (Nat.le_of_succ_le hNM)
  obtain ⟨kvs', g1, g2, g3⟩ := R1.wts.d
  rw [hd] at g1
  cases g1
  have rw' : r ≠ A.w := fun z => R.not_free hr (by rw [z]; exact fw)
  refine ⟨⟨R.g hm, R.frZ F, R1.k_ins e (fun z => R.pw z.symm), R1.k_nam e R.nw.symm, R1.k_hps e tu1 (R.wl all_h) (fun z => R.wl (all_hs z) rfl), ⟨⟨_, h2, ?_, ?_⟩, ?_, ?_⟩, R1.k_mds e tu1 (R.wl all_m), ?_, R.pw, ⟨b2.hp, ?_, b2.md⟩⟩, Mod.turn F hm⟩
  · have := length_putK kvs (Sum.inl (k : Int)) (V.ref r)
    omega
  · intro i j a hi ha
    rw [valV_put]
    cases i with
    | zero =>
      cases hi
      cases ha
      rw [if_pos rfl]
    | succ i =>
      change (r :: A.rs)[i + 1]? = some a at ha
      rw [List.getElem?_cons_succ] at hi ha
      have ne : j ≠ k := fun z => hk (by rw [← z]; exact List.mem_of_getElem? hi)
      rw [if_neg (fun z => ne (by have := Sum.inl.inj z; omega))]
      exact g3 i j a hi ha
  · exact congrArg Nat.succ R.wts.len
  · refine .cons (e _ _ rw' h1) ⟨R1.wts.at_.len, fun i a r' a1 a2 => e _ _ (fun z => R.wl (all_rs (List.mem_of_getElem? a1)) z.symm) (R1.wts.at_.at_ i a r' a1 a2)⟩
  · have h := R.nd
    unfold RdA.all at h na ⊢
    rw [← List.append_assoc] at h na ⊢
    exact nodup_in h na
  · intro x q
    rcases List.mem_cons.mp q with rfl | q
    · exact hM
    · exact b2.rw x q
/-- the last row goes: the reader drops its key -/
theorem RdAt.wdrop {k : Nat} {r : List Str} {a : Addr} {rs : List Addr} {kvs : List (Key × V)} (R : RdAt L C B H A rn hps (r :: rws) (k :: ks) ms N) (hk : k ∉ ks) (ea : A.rs = a :: rs) (hd : H A.w = some (.dK kvs)) (e : But A.w H H')
    (h2 : H' A.w = some (.dK (dropK kvs (Sum.inl (k : Int))))) : RdAt L C B H' (A.setR rs) rn hps rws ks ms N ∧ Mod L A H (A.setR rs) H' := by
  have F : ∀ b, Foot L (A.setR rs) b → Foot L A b ∨ H b = none := foot_imp rfl rfl rfl (.inl rfl) (fun _ => rfl) (fun b hb => .inl hb) (fun b hb => .inl (by rw [ea]; exact List.mem_cons_of_mem _ hb))
  have fw : Foot L A A.w := .inr (.inl rfl)
  have hm : Mod L A H A H' := .but fw e
  have tu := R.tups hm
  obtain ⟨kvs', g1, g2, g3⟩ := R.wts.d
  rw [hd] at g1
  cases g1
  refine ⟨⟨R.g hm, R.frZ F, R.k_ins e (fun z => R.pw z.symm), R.k_nam e R.nw.symm, R.k_hps e tu (R.wl all_h) (fun z => R.wl (all_hs z) rfl), ⟨⟨_, h2, ?_, ?_⟩, ?_, ?_⟩, R.k_mds e tu (R.wl all_m), ?_, R.pw, ⟨R.bd.hp, fun x q => R.bd.rw x (List.mem_cons_of_mem _ q), R.bd.md⟩⟩, Mod.turn F hm⟩
  · exact Nat.le_trans (dropK_le _ _) g2
  · intro i j b hi hb
    have ne : j ≠ k := fun z => hk (by rw [← z]; exact List.mem_of_getElem? hi)
    rw [valV_drop (fun z => ne (by have := Sum.inl.inj z; omega))]
    exact g3 (i + 1) j b (by rw [List.getElem?_cons_succ]; exact hi) (by rw [ea, List.getElem?_cons_succ]; exact hb)
  · have := R.wts.len
    rw [ea] at this
    exact Nat.succ.inj this
  · have := R.wts.at_
    rw [ea] at this
    obtain ⟨_, h3⟩ := this.tail
    exact ⟨h3.len, fun i b r' a1 a2 => e _ _ (fun z => R.wl (all_rs (by rw [ea]; exact List.mem_cons_of_mem _ (List.mem_of_getElem? a1))) z.symm) (h3.at_ i b r' a1 a2)⟩
  · have h := R.nd
    unfold RdA.all at h ⊢
    rw [ea, ← List.append_assoc] at h
    rw [← List.append_assoc]
    exact (List.nodup_cons.mp (nodup_mid.mp h)).2
/-- the law lets it stand -/
theorem RdAt.wtail {k : Nat} {r : List Str} {a : Addr} {rs : List Addr} (R : RdAt L C B H A rn hps (r :: rws) (k :: ks) ms N) (ea : A.rs = a :: rs) : RdAt L C B H (A.setR rs) rn hps rws ks ms N ∧ Mod L A H (A.setR rs) H := by
  have F : ∀ b, Foot L (A.setR rs) b → Foot L A b ∨ H b = none := foot_imp rfl rfl rfl (.inl rfl) (fun _ => rfl) (fun b hb => .inl hb) (fun b hb => .inl (by rw [ea]; exact List.mem_cons_of_mem _ hb))
  obtain ⟨kvs', g1, g2, g3⟩ := R.wts.d
  refine ⟨⟨R.sg, R.frZ F, R.ins, R.nam, R.hpl, ⟨⟨_, g1, g2, ?_⟩, ?_, ?_⟩, R.mds, ?_, R.pw, ⟨R.bd.hp, fun x q => R.bd.rw x (List.mem_cons_of_mem _ q), R.bd.md⟩⟩, Mod.turn F (Mod.same (Same.refl H))⟩
  · intro i j b hi hb
    exact g3 (i + 1) j b (by rw [List.getElem?_cons_succ]; exact hi) (by rw [ea, List.getElem?_cons_succ]; exact hb)
  · have := R.wts.len
    rw [ea] at this
    exact Nat.succ.inj this
  · have := R.wts.at_
    rw [ea] at this
    exact this.tail.2
  · have h := R.nd
    unfold RdA.all at h ⊢
    rw [ea, ← List.append_assoc] at h
    rw [← List.append_assoc]
    exact (List.nodup_cons.mp (nodup_mid.mp h)).2
/-- the last row's list has changed -/
theorem RdAt.wlist {M : Nat} {r ws : List Str} {a : Addr} {rs : List Addr} (R : RdAt L C B H A rn hps (r :: rws) ks ms N) (ea : A.rs = a :: rs) (e : But a H H') (h2 : H' a = some (.lst (ws.map V.str))) (hM : ws.length ≤ M) (hNM : N ≤ M) :
    RdAt L C B H' A rn hps (ws :: rws) ks ms M ∧ Mod L A H A H' := by
  obtain ⟨d1, d2, d3, d4, d5, d6, d7, d8, _⟩ := R.nd'
  have ha : a ∈ A.rs := by rw [ea]; exact List.mem_cons_self
  have hm : Mod L A H A H' := .but (foot_l (all_rs ha)) e
  have tu := R.tups hm
  have b2 := R.bd.more hNM
  obtain ⟨kvs', g1, g2, g3⟩ := R.wts.d
  refine ⟨⟨R.g hm, R.fr, R.k_ins e (R.pl (all_rs ha)).symm, R.k_nam e (R.nl (.inr (.inr (.inr ha)))).symm, R.k_hps e tu (fun z => d3 (by rw [← z]; exact ha)) (fun z => d8 a z ha), ⟨⟨_, e _ _ (R.wl (all_rs ha)) g1, Nat.le_trans g2 hNM, g3⟩, R.wts.len, ?_⟩, R.k_mds e tu (fun z => d5 (by rw [← z]; exact ha)), R.nd, R.pw, ⟨b2.hp, ?_, b2.md⟩⟩, hm⟩
  · have := R.wts.at_
    rw [ea] at this d7 ⊢
    obtain ⟨_, h3⟩ := this.tail
    have nd2 := (List.nodup_cons.mp d7).1
    refine .cons h2 ⟨h3.len, fun i b r' a1 a2 => e _ _ (fun z => nd2 ?_) (h3.at_ i b r' a1 a2)⟩
    rw [← z]
    exact List.mem_of_getElem? a1
  · intro x q
    rcases List.mem_cons.mp q with rfl | q
    · exact hM
    · exact b2.rw x (List.mem_cons_of_mem _ q)
/-- a new list at the last row's key -/
theorem RdAt.wnew {H2 : Hp} {M k : Nat} {r ws : List Str} {b : Addr} {kvs : List (Key × V)} (R : RdAt L C B H A rn hps (r :: rws) (k :: ks) ms N) (hk : k ∉ ks) (hr : H b = none) (s1 : Same H H1) (h1 : H1 b = some (.lst (ws.map V.str))) (hd : H1 A.w = some (.dK kvs)) (e : But A.w H1 H2)
    (h2 : H2 A.w = some (.dK (putK kvs (Sum.inl (k : Int)) (V.ref b)))) (hM : ws.length ≤ M) (hNM : N + 1 ≤ M) : RdAt L C B H2 (A.setR (b :: A.rs.tail)) rn hps (ws :: rws) (k :: ks) ms M ∧ Mod L A H (A.setR (b :: A.rs.tail)) H2 := by
  obtain ⟨a, rs, ea, _⟩ := R.rd
  obtain ⟨R2, m2⟩ := R.wtail ea
  obtain ⟨R3, m3⟩ := R2.wpush hk hr s1 (ws := ws) h1 hd e h2 hM hNM
  rw [ea]
  exact ⟨R3, m2.trans m3⟩
end
section
variable {σ : L2.St} {K : PySem.W.Frag} {H : Hp} {Q : VK}
theorem w_isiS {s : Str} (k : Q (.bl true) H) : rIsi K [.str s, .ty "str"] H Q := ⟨_, _, _, _, true, rfl, .ty _, .base (.str s), kit_ty (by decide +kernel), k⟩
theorem w_isiTS {p : Addr} {xs : List V} (h : H p = some (.tup xs)) (k : Q (.bl false) H) : rIsi K [.ref p, .ty "str"] H Q := ⟨_, _, _, _, false, rfl, .ty _, .base (.tup h), kit_ty (by decide +kernel), k⟩
theorem w_isiTT {p : Addr} {xs : List V} (h : H p = some (.tup xs)) (k : Q (.bl true) H) : rIsi K [.ref p, .ty "tuple"] H Q := ⟨_, _, _, _, true, rfl, .ty _, .base (.tup h), kit_ty (by decide +kernel), k⟩
theorem w_isiLL {p : Addr} {xs : List V} (h : H p = some (.lst xs)) (k : Q (.bl true) H) : rIsi K [.ref p, .ty "list"] H Q := ⟨_, _, _, _, true, rfl, .ty _, .base (.lst h), kit_ty (by decide +kernel), k⟩
/-- parts != [] -/
theorem w_neP0 {p q : Addr} {us : List V} {ts : List Tree} (h : H p = some (.lst us)) (hp : PartsV H us ts) (h0 : H q = some (.lst [])) (ho : ∀ t ∈ ts, tdep t ≤ 30 ∧ tOk t = true) (k : Q (.bl (!ts.isEmpty)) H) : rNeD K (.ref p) (.ref q) H Q := by
  refine w_neD (.lst (SqL.of h) (PartsV.dp ts us hp)) (.lst (SqL.of h0) .nil) (shaped_lst (trees_lay ts (tOks_of fun t ht => (ho t ht).2)) ?_) (by decide) ?_
  · rw [trees_dep]
    have := tdeps_le (n := 30) fun t ht => (ho t ht).1
    omega
  · rw [eqv_lnil]
    have e : (treesD ts).isEmpty = ts.isEmpty := by
      cases ts with
      | nil =>
        rw [treesD] <;> rfl
      | cons a b =>
        rw [treesD] <;> rfl
    rw [e]
    exact k
end
end Tg

namespace Tg
open PySem PySem.Spec PyProof.Rows L2
section
variable {σ : L2.St} {K : PySem.W.Frag} {mg : Str → Option Value} {C ea : Addr} {B : Bk} {H H1 : Hp} {Q : VK} {A : RdA} {rn : List Str} {hps : List (List Tree)} {rws : List (List Str)} {ks : List Nat} {ms : List Mend} {N : Nat} {L : Bool}
theorem w_fB {p : Addr} (T : Tx K mg C ea) (R : RdAt false C B H A rn hps rws ks ms N) (k : Q (.ref B.b) H) (e : A.p = p := by rfl) : FldW K "book" (.ref p) H Q := by
  subst e
  exact w_fldV R.ins T.cl T.nBook (rf_book _ _ _ _ _) k
theorem w_fN {p : Addr} (T : Tx K mg C ea) (R : RdAt false C B H A rn hps rws ks ms N) (k : Q (.ref A.n) H) (e : A.p = p := by rfl) : FldW K "names" (.ref p) H Q := by
  subst e
  exact w_fldV R.ins T.cl T.nNames (rf_names _ _ _ _ _) k
theorem w_fH {p : Addr} (T : Tx K mg C ea) (R : RdAt false C B H A rn hps rws ks ms N) (k : Q (.ref A.h) H) (e : A.p = p := by rfl) : FldW K "heaps" (.ref p) H Q := by
  subst e
  exact w_fldV R.ins T.cl T.nHeaps (rf_heaps _ _ _ _ _) k
theorem w_fW {p : Addr} (T : Tx K mg C ea) (R : RdAt false C B H A rn hps rws ks ms N) (k : Q (.ref A.w) H) (e : A.p = p := by rfl) : FldW K "waiting" (.ref p) H Q := by
  subst e
  exact w_fldV R.ins T.cl T.nWaiting (rf_waiting _ _ _ _ _) k
theorem w_fM {p : Addr} (T : Tx K mg C ea) (R : RdAt false C B H A rn hps rws ks ms N) (k : Q (.ref A.m) H) (e : A.p = p := by rfl) : FldW K "mends" (.ref p) H Q := by
  subst e
  exact w_fldV R.ins T.cl T.nMends (rf_mends _ _ _ _ _) k
theorem rf_len (b n h w m : Addr) : (rf b n h w m).length < 1000 := (by decide : 5 < 1000)
/-- the list of mends: its type, and one more -/
theorem w_tyM {P : Prop} (R : RdAt L C B H A rn hps rws ks ms N) (k : P) : tyV K "list" (.ref A.m) H ∧ P := by
  obtain ⟨us, h, _⟩ := R.mds.ex
  exact w_tyL h k
theorem w_mend {q : Addr} {a b : Nat} {s t : Str} (R : RdAt L C B H A rn hps rws ks ms N) (s1 : Same H H1) (hq : H1 q = some (.tup [.int (a : Nat), .int (b : Nat), .str s, .str t])) (hN : N ≤ 900000)
    (k : ∀ H2, Mod L A H A H2 → RdAt L C B H2 A rn hps rws ks (ms ++ [⟨a, b, s, t⟩]) (N + 1) → Q .non H2) : rAppend (.ref A.m) [.ref q] H1 Q := by
  obtain ⟨us, h, hu⟩ := R.mds.ex
  have h1 := R.bd.md
  have h2 := hu.len
  refine w_app (s1 _ _ h) (szM' (by omega)) fun H2 b2 l2 => ?_
  obtain ⟨R2, m2⟩ := R.mend (x := ⟨a, b, s, t⟩) s1 hu hq b2 l2
  exact k H2 m2 R2
/-- the row that waits at the last open wall -/
theorem RdAt.row {k : Nat} {r : List Str} (R : RdAt L C B H A rn hps (r :: rws) (k :: ks) ms N) : ∃ a rs, A.rs = a :: rs ∧ H a = some (.lst (r.map V.str)) ∧ ∃ kvs : List (Key × V), H A.w = some (.dK kvs) ∧ kvs.length ≤ N ∧ valV kvs (Sum.inl (k : Int)) = some (.ref a) := by
  obtain ⟨a, rs, e, h⟩ := R.rd
  obtain ⟨kvs, g1, g2, g3⟩ := R.wts.d
  exact ⟨a, rs, e, h, kvs, g1, g2, g3 0 k a rfl (by rw [e] <;> rfl)⟩
end
section
variable {P : Program} {w : World} {K : PySem.W.Frag} {mg : Str → Option Value} {base : Heap} {C ea : Addr}
def spWallKey (C : Addr) : Sp := fun vs H Q _ => ∃ (B : Bk) (A : RdA) (rn : List Str) (hps : List (List Tree)) (rws : List (List Str)) (ks : List Nat) (ms : List Mend) (N : Nat), vs = [.ref A.p] ∧ B.Ok ∧ RdAt false C B H A rn hps rws ks ms N ∧ rn.length ≤ 100 ∧ ∀ H', Same H H' → Q (.int (wallKey B.rows rn : Nat)) H'
theorem wallKey_drop {rows : List Row} {rn : List Str} {i : Nat} {y : Str} (h : rn[i]? = some y) : wallKey rows (rn.drop i) = if wall rows y = true then rn.length - i else wallKey rows (rn.drop (i + 1)) := by
  have hi := (List.getElem?_eq_some_iff.mp h).1
  rw [drop_of_get h, wallKey, List.length_drop]
  have e : rn.length - (i + 1) + 1 = rn.length - i := by omega
  rw [e]
theorem c_R_wall_key (D : Defs K mg C) (T : Tx K mg C ea) : C8.Met P w K mg base 4 C "wall_key" (spWallKey C) [] := by
  refine D.d_R_wall_key.met T.cl sc_R_wall_key (fun vs H Q E h => ?_) (fun f cdv A outer s H vs Q E hr h => ?_)
  · obtain ⟨B, A, rn, hps, rws, ks, ms, N, rfl, _⟩ := h
    rfl
  obtain ⟨B, A, rn, hps, rws, ks, ms, N, rfl, hB, R, hlen, k⟩ := h
  have c_is_wall : C8.Cal P w K mg base 3 "is_wall" spWall [] := c_is_wall D T
  refine ⟨_, (pss_cons (ps_for PassesOwn.never rfl (pi_revR (by rfl) T.b_reversed (prg_1 (by rfl) T.b_range (pe_callB call_lenQ (by rfl) T.b_len PySem.boot_len (pa_cons (pe_fld (pv 0) rfl) pa_nil)))) (pg_name (i := 1) sc_R_wall_key.nd rfl (Or.inl rfl)) (pss_one (ps_if (pt_val (C8.pe_c c_is_wall hr (by decide) rfl (pa_cons (pe_fld (pv 0) rfl) (pa_cons (pe_ix ix_tup (pe_fld (pv 0) rfl) (pv 1) (fun _ _ => rfl)) pa_nil)))) (pss_one (ps_ret (pe_op op_add (pv 1) pe_int))) pss_nil)))
      (pss_one (ps_ret pe_int))), ?_⟩
  walk_at "go"
  refine w_fN T R ?_
  walk_at "go"
  refine w_lenT (SqT.of R.nam) ?_
  rw [List.length_map, List.length_reverse]
  refine w_forV (by omega) (fun i σ H' => (∃ v, σ = [some (.ref A.p), v]) ∧ Same H H' ∧ wallKey B.rows rn = wallKey B.rows (rn.drop i)) ⟨⟨_, rfl⟩, Same.refl H, rfl⟩ ?_ ?_
  · rintro i σ H' hi ⟨⟨v, rfl⟩, s1, ho⟩
    obtain ⟨y, hy⟩ := get_lt hi
    have hy2 : rn.reverse[rn.length - 1 - i]? = some y := by rw [rev_get hi]; exact hy
    rw [wallKey_drop hy] at ho
    have R1 := R.same s1
    walk_at "go"
    refine w_fB T R1 ?_
    walk_at "go"
    refine w_fN T R1 ?_
    walk_at "go"
    refine w_ixT (SqT.of R1.nam) (at_rev hy2) ?_
    walk_at "go"
    refine ⟨B, y, rfl, hB, R1.sg, fun H2 s2 => ?_⟩
    walk_at "go"
    refine w_2 (fun e => ?_) (fun e => ?_)
    · walk_at "go"
      rw [if_pos e] at ho
      have e2 : ((rn.length - 1 - i : Nat) : Int) + 1 = ((wallKey B.rows rn : Nat) : Int) := by
        rw [ho]
        omega
      rw [e2]
      exact k _ (s1.trans s2)
    · walk_at "go"
      rw [if_neg (by rw [e]; decide)] at ho
      exact ⟨⟨_, rfl⟩, s1.trans s2, ho⟩
  · rintro σ H' ⟨⟨v, rfl⟩, s1, ho⟩
    rw [List.drop_length] at ho
    walk_at "go"
    have e2 : (0 : Int) = ((wallKey B.rows rn : Nat) : Int) := by rw [ho] <;> rfl
    rw [e2]
    exact k _ s1
def spLieIn (C : Addr) : Sp := fun vs H Q _ => ∃ (B : Bk) (A : RdA) (rn : List Str) (top : List Tree) (hps : List (List Tree)) (rws : List (List Str)) (ks : List Nat) (ms : List Mend) (N L : Nat) (v : V) (t : Tree), vs = [.ref A.p, v] ∧ B.Ok ∧ RdAt false C B H A rn (top :: hps) rws ks ms N ∧ (∀ u ∈ top, tdep u ≤ 30 ∧ tOk u = true) ∧ PartV H v t ∧ (∀ s, t = .text s → s.length ≤ L) ∧ N + L ≤ 900000 ∧
  ∀ H', Mod false A H A H' → RdAt false C B H' A rn (lieHeap top t :: hps) rws ks ms (N + L + 1) → Q .non H'
theorem c_R_lie_in (D : Defs K mg C) (T : Tx K mg C ea) : C8.Met P w K mg base 1 C "lie_in" (spLieIn C) [] := by
  refine D.d_R_lie_in.met T.cl sc_R_lie_in (fun vs H Q E h => ?_) (fun f cdv A outer s H vs Q E hr h => ?_)
  · obtain ⟨B, A, rn, top, hps, rws, ks, ms, N, L, v, t, rfl, _⟩ := h
    rfl
  obtain ⟨B, A, rn, top, hps, rws, ks, ms, N, L, v, t, rfl, hB, R, hok, hv, hL, hN, k⟩ := h
  refine ⟨_, (pss_cons (ps_set (i := 2) sc_R_lie_in.nd rfl (Or.inl rfl) (pe_ix ix_list (pe_fld (pv 0) rfl) (pe_un un_neg pe_int) (fun _ _ => rfl)))
      (pss_one (ps_if (PW.pt (pw_and (pt_val (pe_callB call_isi (by rfl) T.b_isinstance (by decide +kernel) (pa_cons (pv 1) (pa_cons (pe_bltn rfl T.b_str (by decide +kernel) (v := .ty "str") rfl) pa_nil)))) (pw_and (pt_cmpR (op_neD (hu64 hr)) (pv 2) (pe_lst pa_nil) (nomark _)) (pw_and1 (pt_val (pe_callB call_isi (by rfl) T.b_isinstance (by decide +kernel) (pa_cons (pe_ix ix_list (pv 2) (pe_un un_neg pe_int) (fun _ _ => rfl)) (pa_cons (pe_bltn rfl T.b_str (by decide +kernel) (v := .ty "str") rfl) pa_nil)))))))) (pss_one (ps_asg (pe_op op_addS (pe_ix ix_list (pv 2) (pe_un un_neg pe_int) (fun _ _ => rfl)) (pv 1)) (pg_sub (pv 2) (pe_un un_neg pe_int) set_list))) (pss_one (ps_expr (pe_bm PySem.F.plainAttrs_list PySem.F.slot_list_append PySem.F.type_list_append mt_append (pv 2) (pa_cons (pv 1) pa_nil))))))), ?_⟩
  obtain ⟨a, hs, ea, us, h1, h2⟩ := R.hd
  have hul := parts_len h2
  obtain ⟨hbt, hbx⟩ := R.bd.hp _ List.mem_cons_self
  have ebd := bd_lie R.bd hL
  have ix0 : atI (A.hs.reverse.map V.ref) (-1) = some (.ref a) := by
    rw [ea, List.reverse_cons, List.map_append]
    exact atI_last _ _
  -- what follows an append
  have app : ∀ H1, Same H H1 → lieHeap top t = top ++ [t] → ∀ (σ : L2.St) (D : Ends), (∀ H2, Mod false A H A H2 → RdAt false C B H2 A rn (lieHeap top t :: hps) rws ks ms (N + L + 1) → D.nx σ H2) → rAppend (.ref a) [v] H1 (fun _ H2 => D.nx σ H2) := fun H1 s1 el σ D kk => by
    refine w_app (s1 _ _ h1) (szM' (by omega)) fun H2 b2 l2 => ?_
    have R1 := R.same s1
    have tu : Tups H1 H2 := tups_but (s1 _ _ h1) rfl b2
    have q : HeapAt H2 a (lieHeap top t) := ⟨_, l2, by rw [el]; exact parts_app (PartsV.mono ((tups_same s1).trans tu) _ _ h2) (parts_one (PartV.mono ((tups_same s1).trans tu) _ _ hv))⟩
    obtain ⟨R2, m2⟩ := R1.hput ea b2 q ebd (by omega)
    exact kk H2 ((Mod.same s1).trans m2) R2
  walk_at "go"
  refine w_fH T R ?_
  walk_at "go"
  refine w_ixL (SqL.of R.hpl.l) ix0 ?_
  walk_at "go"
  cases hv with
  | node g1 g2 g3 =>
    refine w_isiTS g1 ?_
    walk_at "go"
    refine w_tyL h1 ?_
    walk_at "go"
    exact app H (Same.refl H) (lie_node _ _ _) _ _ k
  | text s =>
    refine w_isiS ?_
    walk_at "go"
    refine w_mkL fun q H1 n1 s1 l1 => ?_
    refine w_neP0 (s1 _ _ h1) (PartsV.mono (tups_same s1) _ _ h2) l1 hok ?_
    walk_at "go"
    rcases List.eq_nil_or_concat top with e | ⟨i, u, e⟩
    · have e0 : (!top.isEmpty) = false := by rw [e] <;> rfl
      rw [e0]
      walk_at "go"
      refine w_tyL (s1 _ _ h1) ?_
      walk_at "go"
      exact app H1 s1 (by rw [e] <;> rfl) _ _ k
    · rw [List.concat_eq_append] at e
      have e0 : (!top.isEmpty) = true := by rw [e]; simp
      rw [e0]
      have h2' := h2
      rw [e] at h2'
      obtain ⟨us', v', e1, h3, h4⟩ := parts_last h2'
      have ix1 : atI us (-1) = some v' := by rw [e1]; exact atI_last _ _
      walk_at "go"
      refine w_ixL (SqL.of (s1 _ _ h1)) ix1 ?_
      walk_at "go"
      cases h4 with
      | node g1 g2 g3 =>
        refine w_isiTS (s1 _ _ g1) ?_
        walk_at "go"
        refine w_tyL (s1 _ _ h1) ?_
        walk_at "go"
        exact app H1 s1 (by rw [e, lie_other]) _ _ k
      | text u =>
        refine w_isiS ?_
        walk_at "go"
        refine w_ixL (SqL.of (s1 _ _ h1)) ix1 ?_
        walk_at "go"
        have q1 := hbx u (by rw [e]; exact List.mem_append_right _ List.mem_cons_self)
        have q2 := hL s rfl
        refine w_addS (szM (by omega)) ?_
        walk_at "go"
        have hix : ixN us.length (-1) = some us'.length := by
          rw [e1, List.length_append, List.length_singleton]
          unfold ixN
          rw [if_neg (by omega), if_pos (by omega)]
          congr 1
          omega
        refine w_setL (s1 _ _ h1) hix fun H2 b2 l2 => ?_
        have R1 := R.same s1
        have tu : Tups H1 H2 := tups_but (s1 _ _ h1) rfl b2
        have es : us.set us'.length (.str (u ++ s)) = us' ++ [.str (u ++ s)] := by
          rw [e1]
          simp
        rw [es] at l2
        have q : HeapAt H2 a (lieHeap top (.text s)) := ⟨_, l2, by rw [e, lie_text]; exact parts_app (PartsV.mono ((tups_same s1).trans tu) _ _ h3) (parts_one (.text _))⟩
        obtain ⟨R2, m2⟩ := R1.hput ea b2 q ebd (by omega)
        exact k H2 ((Mod.same s1).trans m2) R2
/-! one more open one -/
def spBegin (C : Addr) : Sp := fun vs H Q _ => ∃ (B : Bk) (A : RdA) (st : St) (ms : List Mend) (N : Nat) (x : Str), vs = [.ref A.p, .str x] ∧ B.Ok ∧ RdS false C B H A st ms N ∧ st.rn.length ≤ 100 ∧ st.outer.length ≤ 100 ∧ N ≤ 900000 ∧
  ∀ H' A', A'.p = A.p → Mod false A H A' H' → RdS false C B H' A' (beginOne B.rows st x) ms (N + 1) → Q .non H'
theorem begin_f {rows : List Row} {st : St} {x : Str} (h : wall rows x = false) : beginOne rows st x = { rn := x :: st.rn, top := [], outer := st.top :: st.outer, wtop := st.wtop, wouter := st.wouter } := by
  unfold beginOne
  rw [h] <;> rfl
theorem begin_t {rows : List Row} {st : St} {x : Str} (h : wall rows x = true) : beginOne rows st x = { rn := x :: st.rn, top := [], outer := st.top :: st.outer, wtop := [], wouter := st.wtop :: st.wouter } := by
  unfold beginOne
  rw [h] <;> rfl
theorem c_R_begin_one (D : Defs K mg C) (T : Tx K mg C ea) : C8.Met P w K mg base 4 C "begin_one" (spBegin C) [] := by
  refine D.d_R_begin_one.met T.cl sc_R_begin_one (fun vs H Q E h => ?_) (fun f cdv A outer s H vs Q E hr h => ?_)
  · obtain ⟨B, A, st, ms, N, x, rfl, _⟩ := h
    rfl
  obtain ⟨B, A, st, ms, N, x, rfl, hB, R, hlen, hout, hN, k⟩ := h
  have c_is_wall : C8.Cal P w K mg base 3 "is_wall" spWall [] := c_is_wall D T
  refine ⟨_, (pss_cons (ps_fld (pv 0) (pe_op op_catA (pe_fld (pv 0) rfl) (pe_tup (pa_cons (pv 1) pa_nil))) rfl)
      (pss_cons (ps_expr (pe_bm PySem.F.plainAttrs_list PySem.F.slot_list_append PySem.F.type_list_append mt_append (pe_fld (pv 0) rfl) (pa_cons (pe_lst pa_nil) pa_nil)))
      (pss_one (ps_if (pt_val (C8.pe_c c_is_wall hr (by decide) rfl (pa_cons (pe_fld (pv 0) rfl) (pa_cons (pv 1) pa_nil)))) (pss_one (ps_dput (hu_of hr) (pe_fld (pv 0) rfl) (pe_callB call_lenQ (by rfl) T.b_len PySem.boot_len (pa_cons (pe_fld (pv 0) rfl) pa_nil)) (pe_lst pa_nil) rfl)) pss_nil)))), ?_⟩
  walk_at "go"
  refine w_fN T R ?_
  walk_at "go"
  refine w_mkT fun q H1 _ s1 l1 => ?_
  refine w_catT ((R.same s1).nam) l1 (by rw [List.length_map, List.length_reverse, List.length_singleton]; exact szM (by omega)) fun n H2 s2 l2 => ?_
  walk_at "go"
  refine w_sfldV ((R.same (s1.trans s2)).ins) T.cl T.nNames (rf_len _ _ _ _ _) fun H3 b3 l3 => ?_
  obtain ⟨R3, m3⟩ := R.nset (n := n) (rn' := x :: st.rn) (s1.trans s2) (by rw [List.reverse_cons, List.map_append]; exact l2) b3 l3
  walk_at "go"
  refine w_fH T R3 ?_
  walk_at "go"
  refine w_tyL R3.hpl.l ?_
  walk_at "go"
  refine w_mkL fun a H4 n4 s4 l4 => ?_
  have hhl : A.hs.length ≤ 1000000 := by
    have := R.hpl.at_.len
    rw [List.length_cons] at this
    omega
  walk_at "go"
  refine w_app ((R3.same s4).hpl.l) (by rw [List.length_map, List.length_reverse]; exact szM' hhl) fun H5 b5 l5 => ?_
  obtain ⟨R5, m5⟩ := R3.hpush n4 s4 l4 b5 l5
  have m05 := m3.trans m5
  walk_at "go"
  refine w_fB T R5 ?_
  walk_at "go"
  refine ⟨B, x, rfl, hB, R5.sg, fun H6 s6 => ?_⟩
  have R6 := R5.same s6
  walk_at "go"
  refine w_2 (fun e => ?_) (fun e => ?_)
  · walk_at "go"
    refine w_mkL fun r H7 n7 s7 l7 => ?_
    have R7 := R6.same s7
    walk_at "go"
    refine w_fW T R7 ?_
    walk_at "go"
    refine w_fN T R7 ?_
    walk_at "go"
    refine w_lenT (SqT.of R7.nam) ?_
    obtain ⟨kvs, g1, g2, g3⟩ := R7.wts.d
    have el : ((((x :: st.rn).reverse.map V.str).length : Nat) : Int) = ((st.rn.length + 1 : Nat) : Int) := by
      rw [List.length_map, List.length_reverse, List.length_cons]
    rw [el]
    refine w_dpI g1 (szM' (by omega)) fun H8 b8 l8 => ?_
    obtain ⟨R8, m8⟩ := R6.wpush (k := st.rn.length + 1) (ws := []) (M := N + 1) (fun z => by have := keys_le z; omega) n7 s7 l7 g1 b8 l8 (Nat.zero_le _) (Nat.le_refl _)
    walk_at "go"
    refine k H8 _ ?e ((m05.trans (Mod.same s6)).trans m8) ?_
    case e => rfl
    rw [begin_t e]
    unfold RdS
    rw [keys_wall e]
    exact R8
  · walk_at "go"
    refine k H6 _ ?e (m05.trans (Mod.same s6)) ?_
    case e => rfl
    rw [begin_f e]
    unfold RdS
    rw [keys_free e]
    exact R6.more (Nat.le_succ N)
end
end Tg

namespace Tg
open PySem PySem.Spec PyProof.Rows L2
def DqW (a : Addr) (y : V) (H : Hp) (Q : VK) : Prop := ∃ kvs k v, H a = some (.dK kvs) ∧ y = kV k ∧ valV kvs k = some v ∧ Q v (upd H a (.dK (dropK kvs k)))
theorem w_dpop1 {td ty : TE} {σ : L2.St} {H : Hp} {Q : VK} (k : td σ H fun x H1 => ∃ a, x = .ref a ∧ IsD H1 a ∧ ty σ H1 fun y H2 => DqW a y H2 Q) : tDPop1 td ty σ H Q := k
theorem w_dqI {H : Hp} {Q : VK} {a : Addr} {kvs : List (Key × V)} {n : Int} {v : V} (h : H a = some (.dK kvs)) (hv : valV kvs (Sum.inl n) = some v) (k : ∀ H1, But a H H1 → H1 a = some (.dK (dropK kvs (Sum.inl n))) → Q v H1) : DqW a (.int n) H Q :=
  ⟨kvs, Sum.inl n, v, h, rfl, hv, k _ but_upd upd_same⟩
theorem cut_init (xs : List V) (x : V) : cutV (xs ++ [x]) none (some (-1)) = xs := by
  unfold cutV
  have e : HT.sIx (xs ++ [x]).length (xs ++ [x]).length (some (-1)) = xs.length := by
    rw [List.length_append, List.length_singleton]
    unfold HT.sIx
    simp
    omega
  have e0 : HT.sIx (xs ++ [x]).length 0 none = 0 := rfl
  rw [e, e0, List.drop_zero, Nat.sub_zero, List.take_left']
  rfl
theorem cut_from (xs : List V) (k : Nat) : cutV xs (some (k : Int)) none = xs.drop k := by
  unfold cutV
  have e : HT.sIx xs.length xs.length none = xs.length := rfl
  rw [e]
  by_cases h : k ≤ xs.length
  · have e1 : HT.sIx xs.length 0 (some (k : Int)) = k := by
      unfold HT.sIx
      simp
      split <;> omega
    rw [e1, List.take_of_length_le (by rw [List.length_drop]; exact Nat.le_refl _)]
  · have e1 : HT.sIx xs.length 0 (some (k : Int)) = xs.length := by
      unfold HT.sIx
      simp
      split <;> omega
    rw [e1, Nat.sub_self, List.take_zero, List.drop_of_length_le (by omega)]
theorem tw_hit {α : Type} {p : α → Bool} : ∀ {xs : List α} {i : Nat} {z : α}, (∀ y ∈ xs.take i, p y = true) → xs[i]? = some z → p z = false → xs.takeWhile p = xs.take i
  | [], i, z, _, h, _ => by cases h
  | x :: xs, 0, z, _, h, hz => by
    cases h
    rw [List.takeWhile_cons, hz] <;> rfl
  | x :: xs, i + 1, z, ha, h, hz => by
    rw [List.takeWhile_cons, ha x (by rw [List.take_succ_cons]; exact List.mem_cons_self), if_pos rfl, List.take_succ_cons]
    congr 1
    exact tw_hit (fun y hy => ha y (by rw [List.take_succ_cons]; exact List.mem_cons_of_mem _ hy)) h hz
theorem tw_all {α : Type} {p : α → Bool} : ∀ {xs : List α}, (∀ y ∈ xs, p y = true) → xs.takeWhile p = xs
  | [], _ => rfl
  | x :: xs, h => by rw [List.takeWhile_cons, h x List.mem_cons_self, if_pos rfl, tw_all fun y hy => h y (List.mem_cons_of_mem _ hy)]
theorem take_snoc {α : Type} {xs : List α} {i : Nat} {x : α} (h : xs[i]? = some x) : xs.take (i + 1) = xs.take i ++ [x] := by
  rw [List.take_succ, h] <;> rfl
section
variable {P : Program} {w : World} {K : PySem.W.Frag} {mg : Str → Option Value} {base : Heap} {C ea : Addr}
/-! the last one ends -/
def spEnd (C : Addr) : Sp := fun vs H Q _ => ∃ (B : Bk) (A : RdA) (st : St) (ms : List Mend) (N : Nat) (x : Str) (r : List Str), vs = [.ref A.p] ∧ B.Ok ∧ RdS false C B H A st ms N ∧ StOk B.rows st ∧ st.rn = x :: r ∧ N ≤ 900000 ∧
  ∀ H' A', A'.p = A.p → Mod false A H A' H' → RdS false C B H' A' (endOne B.rows st) ms (N + 1) → Q .non H'
theorem c_R_end_one (D : Defs K mg C) (T : Tx K mg C ea) : C8.Met P w K mg base 4 C "end_one" (spEnd C) [] := by
  refine D.d_R_end_one.met T.cl sc_R_end_one (fun vs H Q E h => ?_) (fun f cdv A outer s H vs Q E hr h => ?_)
  · obtain ⟨B, A, st, ms, N, x, r, rfl, _⟩ := h
    rfl
  obtain ⟨B, A, st, ms, N, x, r, rfl, hB, R, O, hrn, hN, k⟩ := h
  have c_is_wall : C8.Cal P w K mg base 3 "is_wall" spWall [] := c_is_wall D T
  have c_R_lie_in : C8.Met P w K mg base 1 C "lie_in" (spLieIn C) [] := c_R_lie_in D T
  refine ⟨_, (pss_cons (ps_set (i := 1) sc_R_end_one.nd rfl (Or.inl rfl) (pe_ix ix_tup (pe_fld (pv 0) rfl) (pe_un un_neg pe_int) (fun _ _ => rfl)))
      (Evl.pss_cut (ps_if (pt_val (C8.pe_c c_is_wall hr (by decide) rfl (pa_cons (pe_fld (pv 0) rfl) (pa_cons (pv 1) pa_nil)))) (pss_one (ps_expr (pe_dpop1 (pe_fld (pv 0) rfl) (pe_callB call_lenQ (by rfl) T.b_len PySem.boot_len (pa_cons (pe_fld (pv 0) rfl) pa_nil)) ⟨rfl, rfl, rfl, rfl⟩))) pss_nil)
      (pss_cons (ps_fld (pv 0) (pe_slice sl_tupA (pe_fld (pv 0) rfl) po_none (po_some (pe_un un_neg pe_int))) rfl)
      (pss_cons (ps_set (i := 2) sc_R_end_one.nd rfl (Or.inl rfl) (pe_bm0 PySem.F.plainAttrs_list PySem.F.slot_list_pop PySem.F.type_list_pop mt_pop (pe_fld (pv 0) rfl)))
      (pss_one (ps_expr (C8.pe_mt c_R_lie_in hr (by decide) (pv 0) (pa_cons (pe_tup (pa_cons (pv 1) (pa_cons (pe_callTy call_tupQ (by rfl) T.b_tuple (by decide +kernel) (pa_cons (pv 2) pa_nil)) pa_nil))) pa_nil)))))))), ?_⟩
  obtain ⟨hp, os, eo⟩ := O.out hrn
  have hlen := O.len
  rw [hrn, List.length_cons] at hlen
  have nm : ∀ {H' : Hp} {A' : RdA} {hps rws ks M}, RdAt false C B H' A' st.rn hps rws ks ms M → H' A'.n = some (.tup (r.reverse.map V.str ++ [.str x])) := fun q => by
    have := q.nam
    rw [hrn] at this
    show _ = some (HO.tup (r.reverse.map V.str ++ [x].map V.str))
    rw [← List.map_append, ← List.reverse_cons]
    exact this
  have ea1 : (popOne B.rows st).wtop :: (popOne B.rows st).wouter = if wall B.rows x = true then st.wouter else st.wtop :: st.wouter := by
    unfold popOne
    rw [hrn]
    show (if wall B.rows x = true then st.wouter.headD [] else st.wtop) :: (if wall B.rows x = true then st.wouter.tail else st.wouter) = _
    cases ew : wall B.rows x with
    | true =>
      obtain ⟨a, b, e⟩ := O.wout hrn ew
      rw [e] <;> rfl
    | false => rfl
  unfold RdS at R
  walk_at "go"
  refine w_fN T R ?_
  walk_at "go"
  refine w_ixT (SqT.of (nm R)) (atI_last _ _) ?_
  walk_at "go"
  refine w_cut (M := fun σ H' => σ = [some (.ref A.p), some (.str x), none] ∧ ∃ A', A'.p = A.p ∧ Mod false A H A' H' ∧ RdAt false C B H' A' st.rn (st.top :: st.outer) ((popOne B.rows st).wtop :: (popOne B.rows st).wouter) (keys B.rows r) ms N) ?_ ?_
  · walk_at "go"
    refine w_fB T R ?_
    walk_at "go"
    refine ⟨B, x, rfl, hB, R.sg, fun H1 s1 => ?_⟩
    have R1 := R.same s1
    walk_at "go"
    refine w_2 (fun e => ?_) (fun e => ?_)
    · walk_at "go"
      refine w_dpop1 ?_
      walk_at "go"
      refine w_fW T R1 ?_
      rw [hrn, keys_wall e] at R1
      obtain ⟨a, rs, er, ha, kvs, g1, g2, g3⟩ := R1.row
      refine ⟨_, rfl, .inl ⟨kvs, .inl g1⟩, ?_⟩
      walk_at "go"
      refine w_fN T R1 ?_
      walk_at "go"
      refine w_lenT (SqT.of R1.nam) ?_
      have el : ((((x :: r).reverse.map V.str).length : Nat) : Int) = ((r.length + 1 : Nat) : Int) := by
        rw [List.length_map, List.length_reverse, List.length_cons]
      rw [el]
      refine w_dqI g1 g3 fun H2 b2 l2 => ?_
      obtain ⟨R2, m2⟩ := R1.wdrop (fun z => by have := keys_le z; omega) er g1 b2 l2
      refine ⟨rfl, _, ?_, (Mod.same s1).trans m2, ?_⟩
      · exact rfl
      · rw [ea1, if_pos e, hrn]
        exact R2
    · walk_at "go"
      refine ⟨rfl, A, rfl, Mod.same s1, ?_⟩
      rw [ea1, if_neg (by rw [e]; decide)]
      rw [hrn, keys_free e] at R1
      rw [hrn]
      exact R1
  · rintro σ H1 ⟨rfl, A1, e1, m1, R1⟩
    rw [← e1]
    walk_at "go"
    refine w_fN T R1 ?_
    walk_at "go"
    refine w_slT (nm R1) fun n H2 s2 l2 => ?_
    rw [cut_init] at l2
    walk_at "go"
    refine w_sfldV ((R1.same s2).ins) T.cl T.nNames (rf_len _ _ _ _ _) fun H3 b3 l3 => ?_
    obtain ⟨R3, m3⟩ := R1.nset (n := n) (rn' := r) s2 l2 b3 l3
    walk_at "go"
    refine w_fH T R3 ?_
    rw [eo] at R3
    obtain ⟨a, hs, ehs, hat⟩ := R3.hd
    have hl := R3.hpl.l
    rw [ehs, List.reverse_cons, List.map_append] at hl
    refine w_tyL hl ?_
    refine w_pop (y := V.ref a) hl ?_ fun H4 b4 l4 => ?_
    · rw [List.length_append]
      simp
    rw [show (List.map V.ref hs.reverse ++ List.map V.ref [a]).dropLast = List.map V.ref hs.reverse from List.dropLast_concat] at l4
    obtain ⟨R4, m4⟩ := R3.hpop ehs b4 l4
    have hna : a ≠ (A1.setN n).h := fun z => R3.nd'.2.1 (by rw [← z, ehs]; exact List.mem_cons_self)
    have hat4 : HeapAt H4 a st.top := hat.keep (fun o h => b4 _ _ hna h) (tups_but hl rfl b4)
    obtain ⟨us, hu, hus⟩ := hat4
    have m04 := (m1.trans m3).trans m4
    walk_at "go"
    refine ⟨_, _, _, rfl, R4.ins, rfl, ?_⟩
    walk_at "go"
    refine w_tupL (SqL.of hu) fun q H5 n5 s5 l5 => ?_
    walk_at "go"
    refine w_mkT fun q2 H6 n6 s6 l6 => ?_
    walk_at "go"
    have s46 := s5.trans s6
    refine ⟨B, (A1.setN n).setH hs, r, hp, os, (popOne B.rows st).wtop :: (popOne B.rows st).wouter, keys B.rows r, ms, N, 0, .ref q2, .node x st.top, rfl, hB, R4.same s46, ?_, ?_, ?_, by omega, ?_⟩
    · intro u hu2
      have := O.levo 0 hp (by rw [eo] <;> rfl) u hu2
      exact ⟨by omega, this.2⟩
    · exact .node l6 (s6 _ _ l5) (PartsV.mono (tups_same s46) _ _ hus)
    · intro s z
      cases z
    · intro H7 m7 R7
      refine k H7 _ ?e ((m04.trans (Mod.same s46)).trans m7) ?_
      case e => exact e1
      have ee : endOne B.rows st = { rn := r, top := lieHeap hp (.node x st.top), outer := os, wtop := (popOne B.rows st).wtop, wouter := (popOne B.rows st).wouter } := by
        rw [end_eq hrn]
        unfold popOne lieIn
        rw [hrn, eo] <;> rfl
      rw [ee]
      exact R7
/-! one put open -/
def spPutOpen (C : Addr) : Sp := fun vs H Q _ => ∃ (B : Bk) (A : RdA) (st : St) (ms : List Mend) (N at_ : Nat) (x rule : Str), vs = [.ref A.p, .int (at_ : Nat), .str x, .str rule] ∧ B.Ok ∧ RdS false C B H A st ms N ∧ StOk B.rows st ∧ x.length ≤ 100 ∧ N ≤ 800000 ∧
  ∀ H' A', A'.p = A.p → Mod false A H A' H' → RdS false C B H' A' (beginOne B.rows st x) (ms ++ [mOpen at_ x rule]) (N + 2) → Q .non H'
theorem c_R_put_open (D : Defs K mg C) (T : Tx K mg C ea) : C8.Met P w K mg base 5 C "put_open" (spPutOpen C) [] := by
  refine D.d_R_put_open.met T.cl sc_R_put_open (fun vs H Q E h => ?_) (fun f cdv A outer s H vs Q E hr h => ?_)
  · obtain ⟨B, A, st, ms, N, at_, x, rule, rfl, _⟩ := h
    rfl
  obtain ⟨B, A, st, ms, N, at_, x, rule, rfl, hB, R, O, hx, hN, k⟩ := h
  have c_R_begin_one : C8.Met P w K mg base 4 C "begin_one" (spBegin C) [] := c_R_begin_one D T
  refine ⟨_, (pss_cons (ps_expr (pe_bm PySem.F.plainAttrs_list PySem.F.slot_list_append PySem.F.type_list_append mt_append (pe_fld (pv 0) rfl) (pa_cons (pe_tup (pa_cons (pv 1) (pa_cons (pv 1) (pa_cons (pe_op op_addS (pe_op op_addS pe_str (pv 2)) pe_str) (pa_cons (pv 3) pa_nil))))) pa_nil)))
      (pss_one (ps_expr (C8.pe_mt c_R_begin_one hr (by decide) (pv 0) (pa_cons (pv 2) pa_nil))))), ?_⟩
  have h1 := O.len
  have h2 := O.outl
  walk_at "go"
  refine w_fM T R ?_
  refine w_tyM R ?_
  walk_at "go"
  refine w_addS (szM ?_) ?_
  · show 1 + x.length ≤ _
    omega
  walk_at "go"
  refine w_addS (szM ?_) ?_
  · rw [str_app_len]
    show 1 + x.length + 1 ≤ _
    omega
  walk_at "go"
  refine w_mkT fun q H1 _ s1 l1 => ?_
  walk_at "go"
  refine w_mend R s1 l1 (by omega) fun H2 m2 R2 => ?_
  walk_at "go"
  refine ⟨_, _, _, rfl, R2.ins, rfl, ?_⟩
  walk_at "go"
  exact ⟨B, A, st, _, N + 1, x, rfl, hB, R2, by omega, by omega, by omega, fun H3 A3 e3 m3 R3 => k H3 A3 e3 (m2.trans m3) R3⟩
/-! all but the first some closed -/
def spPutClosed (C : Addr) : Sp := fun vs H Q _ => ∃ (B : Bk) (A : RdA) (st : St) (ms : List Mend) (N at_ kept : Nat) (rule : Str), vs = [.ref A.p, .int (at_ : Nat), .int (kept : Nat), .str rule] ∧ B.Ok ∧ RdS false C B H A st ms N ∧ StOk B.rows st ∧ N ≤ 800000 ∧
  ∀ H' A', A'.p = A.p → Mod false A H A' H' → RdS false C B H' A' (closeTo B.rows at_ rule kept st).1 (ms ++ (closeTo B.rows at_ rule kept st).2) (N + 40) → Q .non H'
theorem c_R_put_closed (D : Defs K mg C) (T : Tx K mg C ea) : C8.Met P w K mg base 5 C "put_closed" (spPutClosed C) [] := by
  refine D.d_R_put_closed.met T.cl sc_R_put_closed (fun vs H Q E h => ?_) (fun f cdv A outer s H vs Q E hr h => ?_)
  · obtain ⟨B, A, st, ms, N, at_, kept, rule, rfl, _⟩ := h
    rfl
  obtain ⟨B, A, st, ms, N, at_, kept, rule, rfl, hB, R, O, hN, k⟩ := h
  have c_R_end_one : C8.Met P w K mg base 4 C "end_one" (spEnd C) [] := c_R_end_one D T
  refine ⟨_, (pss_one (ps_while PassesOwn.never (pt_cmpR op_gt (pe_callB call_lenQ (by rfl) T.b_len PySem.boot_len (pa_cons (pe_fld (pv 0) rfl) pa_nil)) (pv 2) (nomark _)) (pss_cons (ps_expr (pe_bm PySem.F.plainAttrs_list PySem.F.slot_list_append PySem.F.type_list_append mt_append (pe_fld (pv 0) rfl) (pa_cons (pe_tup (pa_cons (pv 1) (pa_cons (pv 1) (pa_cons (pe_op op_addS (pe_op op_addS pe_str (pe_ix ix_tup (pe_fld (pv 0) rfl) (pe_un un_neg pe_int) (fun _ _ => rfl))) pe_str) (pa_cons (pv 3) pa_nil))))) pa_nil)))
      (pss_one (ps_expr (C8.pe_mt0 c_R_end_one hr (by decide) (pv 0))))))), ?_⟩
  have hlen := O.len
  refine w_while (fun m σ H' => σ = [some (.ref A.p), some (.int (at_ : Nat)), some (.int (kept : Nat)), some (.str rule)] ∧ ∃ A' st' ms' N', A'.p = A.p ∧ Mod false A H A' H' ∧ RdS false C B H' A' st' (ms ++ ms') N' ∧ StOk B.rows st' ∧ m = st'.rn.length ∧ N' + 2 * m ≤ N + 40 ∧
    (closeTo B.rows at_ rule kept st').1 = (closeTo B.rows at_ rule kept st).1 ∧ ms' ++ (closeTo B.rows at_ rule kept st').2 = (closeTo B.rows at_ rule kept st).2) _
    ⟨rfl, A, st, [], N, rfl, Mod.same (Same.refl H), by rw [List.append_nil]; exact R, O, rfl, by omega, rfl, rfl⟩ ?_
  rintro m σ H1 ⟨rfl, A1, st1, ms1, N1, e1, m1, R1, O1, hm, hN1, hc1, hc2⟩
  rw [← e1]
  have hl1 := O1.len
  walk_at "go"
  refine w_fN T R1 ?_
  walk_at "go"
  refine w_lenT (SqT.of R1.nam) ?_
  rw [List.length_map, List.length_reverse]
  walk_at "go"
  refine w_2 (fun e => ?_) (fun e => ?_)
  · have hk : kept < st1.rn.length := by
      have := of_decide_eq_true e
      omega
    refine w_N ?_
    obtain ⟨x, r, hrn⟩ : ∃ x r, st1.rn = x :: r := by
      cases h : st1.rn with
      | nil =>
        rw [h] at hk
        cases hk
      | cons x r => exact ⟨x, r, rfl⟩
    have hxl := O1.inb.short hB.good x (by rw [hrn]; exact List.mem_cons_self)
    have ix : atI (st1.rn.reverse.map V.str) (-1) = some (.str x) := by
      rw [hrn, List.reverse_cons, List.map_append]
      exact atI_last _ _
    walk_at "go"
    refine w_fM T R1 ?_
    refine w_tyM R1 ?_
    walk_at "go"
    refine w_fN T R1 ?_
    walk_at "go"
    refine w_ixT (SqT.of R1.nam) ix ?_
    refine w_addS (szM ?_) ?_
    · show 2 + x.length ≤ _
      omega
    walk_at "go"
    refine w_addS (szM ?_) ?_
    · rw [str_app_len]
      show 2 + x.length + 1 ≤ _
      omega
    walk_at "go"
    refine w_mkT fun q H2 _ s2 l2 => ?_
    walk_at "go"
    refine w_mend R1 s2 l2 (by omega) fun H3 m3 R3 => ?_
    walk_at "go"
    refine ⟨_, _, _, rfl, R3.ins, rfl, ?_⟩
    walk_at "go"
    refine ⟨B, A1, st1, _, N1 + 1, x, r, rfl, hB, R3, O1, hrn, by omega, fun H4 A4 e4 m4 R4 => ?_⟩
    have hst := closeTo_step (rows := B.rows) (at_ := at_) (rule := rule) hrn hk
    rw [hst] at hc1 hc2
    have hle : (endOne B.rows st1).rn.length + 1 = st1.rn.length := by rw [end_rn hrn, hrn] <;> rfl
    refine ⟨_, ?_, rfl, A4, endOne B.rows st1, ms1 ++ [mClose at_ x rule], N1 + 1 + 1, e4, (m1.trans m3).trans m4, ?_, O1.end_ hB.good hrn, rfl, ?_, hc1, ?_⟩
    · omega
    · rw [← List.append_assoc]
      exact R4
    · omega
    · rw [List.append_assoc]
      exact hc2
  · have hk : st1.rn.length ≤ kept := by
      have := of_decide_eq_false e
      omega
    rw [closeTo_done hk] at hc1 hc2
    rw [List.append_nil] at hc2
    refine k H1 A1 e1 m1 ?_
    rw [← hc1, ← hc2]
    exact R1.more (by omega)
/-! those that shall wait -/
def spToWait (C : Addr) : Sp := fun vs H Q _ => ∃ (B : Bk) (A : RdA) (rn : List Str) (hps : List (List Tree)) (rws : List (List Str)) (ks : List Nat) (ms : List Mend) (N kept : Nat), vs = [.ref A.p, .int (kept : Nat)] ∧ B.Ok ∧ RdAt false C B H A rn hps rws ks ms N ∧ rn.length ≤ 100 ∧
  ∀ H' l, H l = none → Same H H' → H' l = some (.lst ((toWait B.rows rn kept).map V.str)) → Q (.ref l) H'
theorem c_R_those_to_wait (D : Defs K mg C) (T : Tx K mg C ea) : C8.Met P w K mg base 4 C "those_to_wait" (spToWait C) [] := by
  refine D.d_R_those_to_wait.met T.cl sc_R_those_to_wait (fun vs H Q E h => ?_) (fun f cdv A outer s H vs Q E hr h => ?_)
  · obtain ⟨B, A, rn, hps, rws, ks, ms, N, kept, rfl, _⟩ := h
    rfl
  obtain ⟨B, A, rn, hps, rws, ks, ms, N, kept, rfl, hB, R, hlen, k⟩ := h
  have c_is_wall : C8.Cal P w K mg base 3 "is_wall" spWall [] := c_is_wall D T
  have c_sort_of : C8.Cal P w K mg base 2 "sort_of" spSortOf [] := c_sort_of D T
  refine ⟨_, (pss_cons (ps_set (i := 2) sc_R_those_to_wait.nd rfl (Or.inl rfl) (pe_lst pa_nil))
      (pss_cons (ps_for PassesOwn.never rfl (pi_tup (pe_slice sl_tupA (pe_fld (pv 0) rfl) (po_some (pv 1)) po_none)) (pg_name (i := 3) sc_R_those_to_wait.nd rfl (Or.inl rfl)) (pss_cons (ps_if (pt_val (C8.pe_c c_is_wall hr (by decide) rfl (pa_cons (pe_fld (pv 0) rfl) (pa_cons (pv 3) pa_nil)))) (pss_one ps_break) pss_nil)
      (pss_one (ps_if (pt_cmpR op_eq (C8.pe_c c_sort_of hr (by decide) rfl (pa_cons (pe_fld (pv 0) rfl) (pa_cons (pv 3) pa_nil))) pe_str (nomark _)) (pss_one (ps_expr (pe_bm PySem.F.plainAttrs_list PySem.F.slot_list_append PySem.F.type_list_append mt_append (pv 2) (pa_cons (pv 3) pa_nil)))) pss_nil))))
      (pss_one (ps_ret (pv 2))))), ?_⟩
  walk_at "go"
  refine w_mkL fun l H1 n1 s1 l1 => ?_
  walk_at "go"
  refine w_fN T (R.same s1) ?_
  walk_at "go"
  refine w_slT ((R.same s1).nam) fun p H2 s2 l2 => ?_
  rw [cut_from, ← List.map_drop] at l2
  have f2 : H2 l = some (.lst []) := s2 _ _ l1
  generalize hys : rn.reverse.drop kept = ys at l2
  have hyl : ys.length ≤ 100 := by
    rw [← hys, List.length_drop, List.length_reverse]
    omega
  have hw : toWait B.rows rn kept = (ys.takeWhile fun y => !wall B.rows y).filter fun y => decide (sortOf B.rows y = some ("anew" : Str)) := by
    unfold toWait
    rw [hys]
  refine w_forT (SqT.of l2) (fun i σ H' => (∃ v, σ = [some (.ref A.p), some (.int (kept : Nat)), some (.ref l), v]) ∧ Same H H' ∧ But l H2 H' ∧ (∀ y ∈ ys.take i, (!wall B.rows y) = true) ∧ H' l = some (.lst (((ys.take i).filter fun y => decide (sortOf B.rows y = some ("anew" : Str))).map V.str)))
    ⟨⟨_, rfl⟩, s1.trans s2, fun b o _ h => h, by rw [List.take_zero]; exact fun y hy => (by cases hy), by rw [List.take_zero]; exact f2⟩ ?_ ?_ ?_
  · rintro i σ H' hi ⟨_, _, b, _, _⟩
    exact SqT.of (b _ _ (ne_of l2 f2 (by intro z; cases z)) l2)
  · rintro i y σ H' hy ⟨⟨v, rfl⟩, s3, b3, hno, f3⟩
    obtain ⟨z, hz, rfl⟩ := map_get hy
    have hzl := (List.getElem?_eq_some_iff.mp hz).1
    have R3 := R.same s3
    walk_at "go"
    refine w_fB T R3 ?_
    walk_at "go"
    refine ⟨B, z, rfl, hB, R3.sg, fun H4 s4 => ?_⟩
    have R4 := R3.same s4
    walk_at "go"
    refine w_2 (fun e => ?_) (fun e => ?_)
    · walk_at "go"
      refine k H4 l ?_ (s3.trans s4) ?_
      · exact n1
      · rw [hw, tw_hit hno hz (by rw [e] <;> rfl)]
        exact s4 _ _ f3
    · walk_at "go"
      refine w_fB T R4 ?_
      walk_at "go"
      refine ⟨B, z, rfl, hB, R4.sg, ?_⟩
      walk_at "go"
      have hno2 : ∀ y ∈ ys.take (i + 1), (!wall B.rows y) = true := fun y hy => by
        rw [take_snoc hz] at hy
        rcases List.mem_append.mp hy with hy | hy
        · exact hno y hy
        · rw [List.mem_singleton.mp hy, e] <;> rfl
      have hf : (ys.take (i + 1)).filter (fun y => decide (sortOf B.rows y = some ("anew" : Str))) = (ys.take i).filter (fun y => decide (sortOf B.rows y = some ("anew" : Str))) ++ (if decide (sortOf B.rows z = some ("anew" : Str)) = true then [z] else []) := by
        rw [take_snoc hz, List.filter_append, List.filter_cons]
        rfl
      refine w_2 (fun e2 => ?_) (fun e2 => ?_)
      · walk_at "go"
        refine w_tyL (s4 _ _ f3) ?_
        walk_at "go"
        refine w_app (s4 _ _ f3) (szM' ?_) fun H5 b5 l5 => ?_
        · rw [List.length_map]
          have := List.length_filter_le (fun y => decide (sortOf B.rows y = some ("anew" : Str))) (ys.take i)
          rw [List.length_take] at this
          omega
        refine ⟨⟨_, rfl⟩, sm_but (s3.trans s4) n1 b5, fun b o hn h => b5 b o hn (s4 b o (b3 b o hn h)), hno2, ?_⟩
        rw [hf, if_pos e2, List.map_append]
        exact l5
      · walk_at "go"
        refine ⟨⟨_, rfl⟩, s3.trans s4, fun b o hn h => s4 b o (b3 b o hn h), hno2, ?_⟩
        rw [hf, if_neg (by rw [e2]; decide), List.append_nil]
        exact s4 _ _ f3
  · rintro σ H' ⟨⟨v, rfl⟩, s3, b3, hno, f3⟩
    rw [List.length_map, List.take_length] at hno f3
    walk_at "go"
    refine k H' l n1 s3 ?_
    rw [hw, tw_all hno]
    exact f3
end
end Tg

namespace Tg
open PySem PySem.Spec PyProof.Rows L2
theorem putOpens_snoc {rows : List Row} {at_ : Nat} {rule x : Str} : ∀ {xs : List Str} {st : St}, putOpens rows at_ rule (xs ++ [x]) st = (beginOne rows (putOpens rows at_ rule xs st).1 x, (putOpens rows at_ rule xs st).2 ++ [mOpen at_ x rule])
  | [], st => rfl
  | y :: ys, st => by
    rw [List.cons_append, putOpens, putOpens_snoc] <;> rfl
theorem RdAt.wrow {L : Bool} {C : Addr} {B : Bk} {H : Hp} {A : RdA} {st : St} {ms : List Mend} {N : Nat} (R : RdS L C B H A st ms N) : ∃ a rs, A.rs = a :: rs ∧ H a = some (.lst (st.wtop.map V.str)) ∧ ∃ kvs : List (Key × V), H A.w = some (.dK kvs) ∧ kvs.length ≤ N ∧ valV kvs (Sum.inl ((wallKey B.rows st.rn : Nat) : Int)) = some (.ref a) := by
  obtain ⟨ks, e, _⟩ := keys_cons (rows := B.rows) st.rn
  unfold RdS at R
  rw [e] at R
  exact R.row
theorem openTok_drop {rows : List Row} {rk : Str → Nat} {st : St} {a b : Nat} {x rule : Str} (h1 : sortOf rows x ≠ none) (h : opening rows rk st.rn x = .drop rule) : openTok rows rk st a b x = (st, [⟨a, b, "", rule⟩]) := by
  unfold openTok
  rw [if_neg h1, h]
theorem openTok_opn {rows : List Row} {rk : Str → Nat} {st : St} {a b kept : Nat} {x : Str} {put : List Str} (h1 : sortOf rows x ≠ none) (h : opening rows rk st.rn x = .opn kept put) : openTok rows rk st a b x =
    (if sortOf rows x = some ("bare" : Str) then lieIn (putOpens rows a "frame" put.dropLast (waitMore (closeTo rows a "shut" kept st).1 (toWait rows st.rn kept))).1 (.node x []) else beginOne rows (putOpens rows a "frame" put.dropLast (waitMore (closeTo rows a "shut" kept st).1 (toWait rows st.rn kept))).1 x,
      (closeTo rows a "shut" kept st).2 ++ (putOpens rows a "frame" put.dropLast (waitMore (closeTo rows a "shut" kept st).1 (toWait rows st.rn kept))).2) := by
  unfold openTok
  rw [if_neg h1, h]
section
variable {P : Program} {w : World} {K : PySem.W.Frag} {mg : Str → Option Value} {base : Heap} {C ea : Addr}
def spOpenTok (C : Addr) : Sp := fun vs H Q _ => ∃ (B : Bk) (A : RdA) (st : St) (ms : List Mend) (N a b : Nat) (x : Str), vs = [.ref A.p, .int (a : Nat), .int (b : Nat), .str x] ∧ B.Ok ∧ RdS false C B H A st ms N ∧ StOk B.rows st ∧ N ≤ 780000 ∧
  ∀ H' A', A'.p = A.p → Mod false A H A' H' → RdS false C B H' A' (openTok B.rows B.rk st a b x).1 (ms ++ (openTok B.rows B.rk st a b x).2) (N + 200) → Q .non H'
theorem c_R_open_token (D : Defs K mg C) (T : Tx K mg C ea) : C8.Met P w K mg base 25 C "open_token" (spOpenTok C) [] := by
  refine D.d_R_open_token.met T.cl sc_R_open_token (fun vs H Q E h => ?_) (fun f cdv A outer s H vs Q E hr h => ?_)
  · obtain ⟨B, A, st, ms, N, a, b, x, rfl, _⟩ := h
    rfl
  obtain ⟨B, A, st, ms, N, a, b, x, rfl, hB, R, O, hN, k⟩ := h
  have c_sort_of : C8.Cal P w K mg base 2 "sort_of" spSortOf [] := c_sort_of D T
  have c_opening : C8.Cal P w K mg base 24 "opening" spOpening [] := c_opening D T
  have c_R_those_to_wait : C8.Met P w K mg base 4 C "those_to_wait" (spToWait C) [] := c_R_those_to_wait D T
  have c_R_put_closed : C8.Met P w K mg base 5 C "put_closed" (spPutClosed C) [] := c_R_put_closed D T
  have c_R_wall_key : C8.Met P w K mg base 4 C "wall_key" (spWallKey C) [] := c_R_wall_key D T
  have c_R_put_open : C8.Met P w K mg base 5 C "put_open" (spPutOpen C) [] := c_R_put_open D T
  have c_R_lie_in : C8.Met P w K mg base 1 C "lie_in" (spLieIn C) [] := c_R_lie_in D T
  have c_R_begin_one : C8.Met P w K mg base 4 C "begin_one" (spBegin C) [] := c_R_begin_one D T
  refine ⟨_, (pss_cons (ps_if (pt_cmpR op_isN1 (C8.pe_c c_sort_of hr (by decide) rfl (pa_cons (pe_fld (pv 0) rfl) (pa_cons (pv 3) pa_nil))) pe_non (nomark _)) (pss_cons (ps_expr (pe_bm PySem.F.plainAttrs_list PySem.F.slot_list_append PySem.F.type_list_append mt_append (pe_fld (pv 0) rfl) (pa_cons (pe_tup (pa_cons (pv 1) (pa_cons (pv 2) (pa_cons pe_str (pa_cons pe_str pa_nil))))) pa_nil)))
      (pss_one ps_retN)) pss_nil)
      (pss_cons (ps_set (i := 4) sc_R_open_token.nd rfl (Or.inl rfl) (C8.pe_c c_opening hr (by decide) rfl (pa_cons (pe_fld (pv 0) rfl) (pa_cons (pe_fld (pv 0) rfl) (pa_cons (pv 3) pa_nil)))))
      (pss_cons (ps_if (pt_cmpR op_eq (pe_ix ix_tup (pv 4) pe_int (fun _ _ => rfl)) pe_str (nomark _)) (pss_cons (ps_expr (pe_bm PySem.F.plainAttrs_list PySem.F.slot_list_append PySem.F.type_list_append mt_append (pe_fld (pv 0) rfl) (pa_cons (pe_tup (pa_cons (pv 1) (pa_cons (pv 2) (pa_cons pe_str (pa_cons (pe_ix ix_tup (pv 4) pe_int (fun _ _ => rfl)) pa_nil))))) pa_nil)))
      (pss_one ps_retN)) pss_nil)
      (pss_cons (ps_set (i := 5) sc_R_open_token.nd rfl (Or.inl rfl) (C8.pe_mt c_R_those_to_wait hr (by decide) (pv 0) (pa_cons (pe_ix ix_tup (pv 4) pe_int (fun _ _ => rfl)) pa_nil)))
      (pss_cons (ps_expr (C8.pe_mt c_R_put_closed hr (by decide) (pv 0) (pa_cons (pv 1) (pa_cons (pe_ix ix_tup (pv 4) pe_int (fun _ _ => rfl)) (pa_cons pe_str pa_nil)))))
      (pss_cons (ps_expr (pe_bm PySem.F.plainAttrs_list PySem.F.slot_list_extend PySem.F.type_list_extend mt_extend (pe_dget (hu_of hr) (pe_fld (pv 0) rfl) (C8.pe_mt0 c_R_wall_key hr (by decide) (pv 0)) (fun _ _ => rfl)) (pa_cons (pv 5) pa_nil)))
      (pss_cons (ps_for PassesOwn.never rfl (pi_tup (pe_slice sl_tupA (pe_ix ix_tup (pv 4) pe_int (fun _ _ => rfl)) po_none (po_some (pe_un un_neg pe_int)))) (pg_name (i := 6) sc_R_open_token.nd rfl (Or.inl rfl)) (pss_one (ps_expr (C8.pe_mt c_R_put_open hr (by decide) (pv 0) (pa_cons (pv 1) (pa_cons (pv 6) (pa_cons pe_str pa_nil)))))))
      (pss_one (ps_if (pt_cmpR op_eq (C8.pe_c c_sort_of hr (by decide) rfl (pa_cons (pe_fld (pv 0) rfl) (pa_cons (pv 3) pa_nil))) pe_str (nomark _)) (pss_one (ps_expr (C8.pe_mt c_R_lie_in hr (by decide) (pv 0) (pa_cons (pe_tup (pa_cons (pv 3) (pa_cons (pe_tup pa_nil) pa_nil))) pa_nil)))) (pss_one (ps_expr (C8.pe_mt c_R_begin_one hr (by decide) (pv 0) (pa_cons (pv 3) pa_nil))))))))))))), ?_⟩
  have hlen := O.len
  walk_at "go"
  refine w_fB T R ?_
  walk_at "go"
  refine ⟨B, x, rfl, hB, R.sg, ?_⟩
  walk_at "go"
  refine w_2 (fun e => ?_) (fun e => ?_)
  · have hs : sortOf B.rows x = none := Option.isNone_iff_eq_none.mp e
    walk_at "go"
    refine w_fM T R ?_
    refine w_tyM R ?_
    walk_at "go"
    refine w_mkT fun q H1 _ s1 l1 => ?_
    walk_at "go"
    refine w_mend R s1 l1 (by omega) fun H2 m2 R2 => ?_
    walk_at "go"
    refine k H2 A rfl m2 ?_
    have et : openTok B.rows B.rk st a b x = (st, [⟨a, b, "", "strange"⟩]) := by
      unfold openTok
      rw [if_pos hs]
    rw [et]
    exact R2.more (by omega)
  have hs : sortOf B.rows x ≠ none := fun z => by
    rw [z] at e
    cases e
  have hx : ∃ r ∈ B.rows, r.name = x := by
    cases h : rowOf B.rows x with
    | none => exact absurd (by unfold sortOf; rw [h] <;> rfl) hs
    | some r => exact ⟨r, row_some h⟩
  walk_at "go"
  refine w_fB T R ?_
  walk_at "go"
  refine w_fN T R ?_
  walk_at "go"
  refine ⟨B, A.n, st.rn, x, rfl, hB, R.sg, R.nam, by omega, O.inb, hx, fun H1 p rule s1 ho hp => ?_, fun H1 p q kept put s1 ho hp hq => ?_⟩
  · have R1 := R.same s1
    walk_at "go"
    refine w_ixT (SqT.of hp) rfl ?_
    walk_at "go"
    rw [show decide (("drop" : Str) = "drop") = true from by decide]
    walk_at "go"
    refine w_fM T R1 ?_
    refine w_tyM R1 ?_
    walk_at "go"
    refine w_ixT (SqT.of hp) rfl ?_
    walk_at "go"
    refine w_mkT fun q H2 _ s2 l2 => ?_
    walk_at "go"
    refine w_mend R1 s2 l2 (by omega) fun H3 m3 R3 => ?_
    walk_at "go"
    refine k H3 A rfl ((Mod.same s1).trans m3) ?_
    rw [openTok_drop hs ho]
    exact R3.more (by omega)
  have R1 := R.same s1
  obtain ⟨p1, p2, ps, p3⟩ := plan_ok hB.good O.inb hx ho
  obtain ⟨cl1, cl2, cl3⟩ := close_ok hB.good a "shut" kept _ st rfl O
  have hlp : put.length = ps.length + 1 := by rw [p3, List.length_append] <;> rfl
  have hwl : (toWait B.rows st.rn kept).length ≤ 20 := by
    unfold toWait
    refine Nat.le_trans (List.length_filter_le _ _) (Nat.le_trans ((List.takeWhile_sublist _).length_le) ?_)
    rw [List.length_drop, List.length_reverse]
    omega
  have hcl : (closeTo B.rows a "shut" kept st).1.rn.length ≤ 20 := cl1.len
  walk_at "go"
  refine w_ixT (SqT.of hp) rfl ?_
  walk_at "go"
  rw [show decide (("open" : Str) = "drop") = false from by decide]
  walk_at "go"
  refine ⟨_, _, _, rfl, R1.ins, rfl, ?_⟩
  walk_at "go"
  refine w_ixT (SqT.of hp) rfl ?_
  walk_at "go"
  refine ⟨B, A, st.rn, _, _, _, ms, N, kept, rfl, hB, R1, by omega, fun H2 l n2 s2 l2 => ?_⟩
  have R2 := R1.same s2
  have fl : ¬ Foot false A l := R1.not_free n2
  walk_at "go"
  refine ⟨_, _, _, rfl, R2.ins, rfl, ?_⟩
  walk_at "go"
  refine w_ixT (SqT.of (s2 _ _ hp)) rfl ?_
  walk_at "go"
  refine ⟨B, A, st, ms, N, a, kept, "shut", rfl, hB, R2, O, by omega, fun H3 A3 e3 m3 R3 => ?_⟩
  have hp3 := R2.tups m3 _ _ (s2 _ _ hp)
  have hq3 := R2.tups m3 _ _ (s2 _ _ hq)
  obtain ⟨l3, fl3⟩ := m3 l _ fl l2
  walk_at "go"
  rw [← e3]
  refine w_fW T R3 ?_
  walk_at "go"
  refine ⟨_, _, _, rfl, R3.ins, rfl, ?_⟩
  walk_at "go"
  refine ⟨B, A3, _, _, _, _, _, _, rfl, hB, R3, by omega, fun H4 s4 => ?_⟩
  have R4 := R3.same s4
  obtain ⟨ar, rs, er, hr4, kvs, g1, g2, g3⟩ := RdAt.wrow R4
  refine w_dgI g1 g3 ?_
  refine w_tyL hr4 ?_
  walk_at "go"
  have hwt := R4.bd.rw _ List.mem_cons_self
  refine w_ext hr4 (s4 _ _ l3) (szM (by rw [List.length_map, List.length_map]; omega)) fun H5 b5 l5 => ?_
  rw [← List.map_append] at l5
  obtain ⟨R5, m5⟩ := R4.wlist (M := N + 60) er b5 l5 (by rw [List.length_append]; omega) (by omega)
  have hp5 := R4.tups m5 _ _ (s4 _ _ hp3)
  have hq5 := R4.tups m5 _ _ (s4 _ _ hq3)
  have m05 : Mod false A H A3 H5 := ((((Mod.same s1).trans (Mod.same s2)).trans m3).trans (Mod.same s4)).trans m5
  have O5 := wait_ok (ws := toWait B.rows st.rn kept) cl1 (to_wait_anew O.inb)
  generalize hst5 : waitMore (closeTo B.rows a "shut" kept st).1 (toWait B.rows st.rn kept) = st5 at O5
  have R5' : RdS false C B H5 A3 st5 (ms ++ (closeTo B.rows a "shut" kept st).2) (N + 60) := by
    rw [← hst5]
    exact R5
  have hrn5 : st5.rn = (closeTo B.rows a "shut" kept st).1.rn := by rw [← hst5] <;> rfl
  walk_at "go"
  refine w_ixT (SqT.of hp5) rfl ?_
  walk_at "go"
  refine w_slT hq5 fun t H6 s6 l6 => ?_
  have ecut : cutV (put.map V.str) none (some (-1)) = ps.map V.str := by
    rw [p3, List.map_append]
    exact cut_init _ _
  rw [ecut] at l6
  have R6 : RdS false C B H6 A3 st5 (ms ++ (closeTo B.rows a "shut" kept st).2) (N + 60) := R5'.same s6
  have inps : Inb B.rows ps := fun y hy => p2 y (by rw [p3]; exact List.mem_append_left _ hy)
  have hps20 : st5.rn.length + ps.length + 1 ≤ 20 := by
    rw [hrn5, cl2]
    omega
  refine w_forT (SqT.of l6) (fun i σ H' => (∃ v, σ = [some (.ref A3.p), some (.int (a : Nat)), some (.int (b : Nat)), some (.str x), some (.ref p), some (.ref l), v]) ∧ ∃ A', A'.p = A3.p ∧ Mod false A3 H6 A' H' ∧
    RdS false C B H' A' (putOpens B.rows a "frame" (ps.take i) st5).1 ((ms ++ (closeTo B.rows a "shut" kept st).2) ++ (putOpens B.rows a "frame" (ps.take i) st5).2) (N + 60 + 2 * i))
    ⟨⟨_, rfl⟩, A3, rfl, Mod.same (Same.refl H6), by rw [List.take_zero]; show RdS _ _ _ _ _ st5 (_ ++ []) _; rw [List.append_nil]; exact R6⟩ ?_ ?_ ?_
  · rintro i σ H' hi ⟨_, A', _, m', _⟩
    exact SqT.of (R6.tups m' _ _ l6)
  · rintro i v σ H' hv ⟨⟨v0, rfl⟩, A', e', m', R'⟩
    obtain ⟨y, hy, rfl⟩ := map_get hv
    have hyl := (List.getElem?_eq_some_iff.mp hy).1
    have hyb := inps y (List.mem_of_getElem? hy)
    have hy8 := inps.short hB.good y (List.mem_of_getElem? hy)
    obtain ⟨O', orn, _⟩ := opens_ok (at_ := a) (rule := "frame") (xs := ps.take i) O5 (fun z hz => inps z (List.mem_of_mem_take hz)) (by rw [List.length_take]; omega)
    rw [← e']
    walk_at "go"
    refine ⟨_, _, _, rfl, R'.ins, rfl, ?_⟩
    walk_at "go"
    refine ⟨B, A', _, _, _, a, y, "frame", rfl, hB, R', O', by omega, by omega, fun H7 A7 e7 m7 R7 => ?_⟩
    refine ⟨⟨_, rfl⟩, A7, e7, m'.trans m7, ?_⟩
    rw [take_snoc hy, putOpens_snoc]
    rw [List.append_assoc] at R7
    have e2 : N + 60 + 2 * (i + 1) = N + 60 + 2 * i + 2 := by omega
    rw [e2]
    exact R7
  · rintro σ H' ⟨⟨v0, rfl⟩, A', e', m', R'⟩
    rw [List.length_map, List.take_length] at R'
    obtain ⟨O', orn, _⟩ := opens_ok (at_ := a) (rule := "frame") (xs := ps) O5 inps (by omega)
    have et := openTok_opn (a := a) (b := b) hs ho
    have ed : put.dropLast = ps := by rw [p3, List.dropLast_concat]
    rw [ed, hst5] at et
    have m0' := (m05.trans (Mod.same s6)).trans m'
    rw [← e']
    have e0 : A'.p = A.p := e'.trans e3
    walk_at "go"
    refine w_fB T R' ?_
    walk_at "go"
    refine ⟨B, x, rfl, hB, R'.sg, ?_⟩
    walk_at "go"
    refine w_2 (fun e2 => ?_) (fun e2 => ?_)
    · have e2' : sortOf B.rows x = some ("bare" : Str) := of_decide_eq_true e2
      rw [if_pos e2'] at et
      walk_at "go"
      refine ⟨_, _, _, rfl, R'.ins, rfl, ?_⟩
      walk_at "go"
      refine w_mkT fun t1 H7 _ s7 l7 => ?_
      walk_at "go"
      refine w_mkT fun t2 H8 _ s8 l8 => ?_
      walk_at "go"
      refine ⟨B, A', _, _, _, _, _, _, _, 0, .ref t2, .node x [], rfl, hB, R'.same (s7.trans s8), fun u hu => ?_, .node l8 (s8 _ _ l7) .nil, ?_, by omega, fun H9 m9 R9 => ?_⟩
      · have := O'.lev u hu
        exact ⟨by omega, this.2⟩
      · intro s z
        cases z
      · refine k H9 A' e0 (((m0'.trans (Mod.same s7)).trans (Mod.same s8)).trans m9) ?_
        rw [et]
        rw [List.append_assoc] at R9
        exact R9.more (by omega)
    · have e2' : ¬ sortOf B.rows x = some ("bare" : Str) := of_decide_eq_false e2
      rw [if_neg e2'] at et
      walk_at "go"
      refine ⟨_, _, _, rfl, R'.ins, rfl, ?_⟩
      walk_at "go"
      have hl' := O'.len
      have ho' := O'.outl
      refine ⟨B, A', _, _, _, x, rfl, hB, R', by omega, by omega, by omega, fun H9 A9 e9 m9 R9 => ?_⟩
      refine k H9 A9 (e9.trans e0) (m0'.trans m9) ?_
      rw [et]
      rw [List.append_assoc] at R9
      exact R9.more (by omega)
end
end Tg

namespace Tg
open PySem PySem.Spec PyProof.Rows L2
/-! ### words: the last one of a row, blank runs -/
theorem w_revL {K : PySem.W.Frag} {te : TE} {σ : L2.St} {H : Hp} {Q : VK} (k : te σ H fun x H1 => ∃ a xs, x = .ref a ∧ SqL K H1 a xs ∧ ∀ p, H1 p = none → Q (.ref p) (upd H1 p (.lst xs.reverse))) : tRevL K te σ H Q := k
theorem w_index {K : PySem.W.Frag} {H : Hp} {Q : VK} {a : Addr} {ys : List Str} {y : Str} {j : Nat} (h : SqL K H a (ys.map V.str)) (hj : ys.findIdx? (fun z => decide (z = y)) = some j) (k : Q (.int (j : Nat)) H) : rIndex K (.ref a) [.str y] H Q := by
  obtain ⟨hl, h1, h2⟩ := List.findIdx?_eq_some_iff_getElem.mp hj
  have e1 : ys[j] = y := of_decide_eq_true h1
  refine ⟨a, _, .str y, j, .str y, rfl, rfl, h, rfl, flat_strs ys, ?_, ?_, fun m z' hm hz => ?_, k⟩
  · rw [List.getElem?_map, List.getElem?_eq_getElem hl, e1] <;> rfl
  · show (y == y) = true
    exact beq_self_eq_true y
  · obtain ⟨z, hz2, rfl⟩ := map_get hz
    have h3 := h2 m hm
    rw [List.getElem?_eq_getElem (Nat.lt_trans hm hl)] at hz2
    have e2 := Option.some.inj hz2
    rw [e2] at h3
    show (z == y) = false
    exact beq_eq_false_iff_ne.mpr fun q => h3 (decide_eq_true q)
theorem last_none {row : List Str} {x : Str} (h : x ∉ row) : lastIdx row x = none := by
  unfold lastIdx
  rw [List.findIdx?_eq_none_iff.mpr fun y hy => decide_eq_false fun z => h (by rw [← z]; exact List.mem_reverse.mp hy)]
theorem last_some {row : List Str} {x : Str} (h : x ∈ row) : ∃ k, row.reverse.findIdx? (fun y => decide (y = x)) = some k ∧ k < row.length ∧ lastIdx row x = some (row.length - 1 - k) := by
  cases e : row.reverse.findIdx? (fun y => decide (y = x)) with
  | none => exact absurd (decide_eq_true (rfl : x = x)) (by rw [List.findIdx?_eq_none_iff.mp e x (List.mem_reverse.mpr h)]; decide)
  | some k =>
    obtain ⟨hl, _, _⟩ := List.findIdx?_eq_some_iff_getElem.mp e
    rw [List.length_reverse] at hl
    refine ⟨k, rfl, hl, ?_⟩
    unfold lastIdx
    rw [e]
theorem erase_map {α β : Type} (f : α → β) : ∀ (xs : List α) (k : Nat), (xs.map f).eraseIdx k = (xs.eraseIdx k).map f
  | [], k => by cases k <;> rfl
  | x :: xs, 0 => rfl
  | x :: xs, k + 1 => congrArg (f x :: ·) (erase_map f xs k)
theorem tw_len_lt {α : Type} {p : α → Bool} {x : α} : ∀ {l : List α}, x ∈ l → p x = false → (l.takeWhile p).length < l.length
  | y :: ys, h, hx => by
    rw [List.takeWhile_cons]
    cases e : p y with
    | true =>
      rw [if_pos rfl, List.length_cons, List.length_cons]
      rcases List.mem_cons.mp h with rfl | h
      · rw [hx] at e
        cases e
      · exact Nat.succ_lt_succ (tw_len_lt h hx)
    | false =>
      rw [if_neg (by decide)]
      exact Nat.succ_pos _
theorem tw_get {α : Type} {p : α → Bool} : ∀ {l : List α} {x : α}, l[(l.takeWhile p).length]? = some x → p x = false
  | [], x, h => by cases h
  | y :: ys, x, h => by
    rw [List.takeWhile_cons] at h
    cases e : p y with
    | true =>
      rw [e, if_pos rfl, List.length_cons, List.getElem?_cons_succ] at h
      exact tw_get h
    | false =>
      rw [e, if_neg (by decide)] at h
      cases h
      exact e
theorem str_empty (z : Str) : z = "" ↔ z.cps.size = 0 := by
  constructor
  · rintro rfl
    rfl
  · intro h
    obtain ⟨a⟩ := z
    exact congrArg Str.mk (Array.size_eq_zero_iff.mp h)
theorem strip_blank (z : Str) : decide (Txt.stripChars z " \n" = "") = z.cps.toList.all (fun c => decide (c = 32 ∨ c = 10)) := by
  have ec : ∀ c : Nat, (" \n" : Str).cps.contains c = decide (c = 32 ∨ c = 10) := fun c => by
    show (#[32, 10] : Array Nat).contains c = _
    simp
  have es : (z.cps.toList).length = z.cps.size := by simp
  unfold Txt.stripChars
  rw [stripBy_eq]
  generalize hp : ((" \n" : Str).cps.contains) = p at ec
  have hall : z.cps.toList.all (fun c => decide (c = 32 ∨ c = 10)) = z.cps.toList.all p := by
    congr 1
    funext c
    exact (ec c).symm
  rw [hall]
  have hlen : z.length = z.cps.toList.length := by rw [len_toList]
  have sz : (PySem.Builtin.Str.strSub z (stripLo p true z) (stripHi p true z (stripLo p true z))).cps.size = min (stripHi p true z (stripLo p true z)) z.cps.size - stripLo p true z := by
    unfold PySem.Builtin.Str.strSub
    rw [Array.size_extract]
  have elo : stripLo p true z = (z.cps.toList.takeWhile p).length := rfl
  have ehi : stripHi p true z (stripLo p true z) = z.length - ((z.cps.toList.drop (stripLo p true z)).reverse.takeWhile p).length := rfl
  refine Bool.eq_iff_iff.mpr ⟨fun h => ?_, fun h => ?_⟩
  · have h0 := (str_empty _).mp (of_decide_eq_true h)
    rw [sz] at h0
    refine List.all_eq_true.mpr fun c hc => ?_
    cases e : p c with
    | true => rfl
    | false =>
      have h1 := tw_len_lt hc e
      obtain ⟨d, hd⟩ := get_lt h1
      have h2 := tw_get hd
      rw [← elo] at hd h1
      have h3 : d ∈ (z.cps.toList.drop (stripLo p true z)).reverse := List.mem_reverse.mpr (List.mem_of_getElem? (i := 0) (by rw [List.getElem?_drop, Nat.add_zero]; exact hd))
      have h4 := tw_len_lt h3 h2
      rw [List.length_reverse, List.length_drop] at h4
      omega
  · refine decide_eq_true ((str_empty _).mpr ?_)
    rw [sz, elo, tw_all (fun y hy => List.all_eq_true.mp h y hy)]
    omega
section
variable {P : Program} {w : World} {K : PySem.W.Frag} {mg : Str → Option Value} {base : Heap} {C ea : Addr}
def spLate (C : Addr) : Sp := fun vs H Q _ => ∃ (B : Bk) (A : RdA) (st : St) (ms : List Mend) (N : Nat) (x : Str), vs = [.ref A.p, .str x] ∧ B.Ok ∧ RdS false C B H A st ms N ∧ StOk B.rows st ∧ N ≤ 800000 ∧
  (lastIdx st.wtop x = none → ∀ H', Same H H' → Q (.str "stray") H') ∧ (∀ k H', lastIdx st.wtop x = some k → Mod false A H A H' → RdS false C B H' A { st with wtop := st.wtop.eraseIdx k } ms N → Q (.str "late") H')
theorem c_R_late_or_stray (D : Defs K mg C) (T : Tx K mg C ea) : C8.Met P w K mg base 5 C "late_or_stray" (spLate C) [] := by
  refine D.d_R_late_or_stray.met T.cl sc_R_late_or_stray (fun vs H Q E h => ?_) (fun f cdv A outer s H vs Q E hr h => ?_)
  · obtain ⟨B, A, st, ms, N, x, rfl, _⟩ := h
    rfl
  obtain ⟨B, A, st, ms, N, x, rfl, hB, R, O, hN, k1, k2⟩ := h
  have c_R_wall_key : C8.Met P w K mg base 4 C "wall_key" (spWallKey C) [] := c_R_wall_key D T
  refine ⟨_, (pss_cons (ps_set (i := 2) sc_R_late_or_stray.nd rfl (Or.inl rfl) (pe_dget (hu_of hr) (pe_fld (pv 0) rfl) (C8.pe_mt0 c_R_wall_key hr (by decide) (pv 0)) (fun _ _ => rfl)))
      (pss_cons (ps_if (pt_cmpR op_notIn_seq (pv 1) (pv 2) (by rfl)) (pss_one (ps_ret pe_str)) pss_nil)
      (pss_cons (ps_set (i := 3) sc_R_late_or_stray.nd rfl (Or.inl rfl) (pe_op op_sub (pe_op op_sub (pe_callB call_lenQ (by rfl) T.b_len PySem.boot_len (pa_cons (pv 2) pa_nil)) pe_int) (pe_bm PySem.F.plainAttrs_list PySem.F.slot_list_index PySem.F.type_list_index mt_index (pe_revL (pv 2)) (pa_cons (pv 1) pa_nil))))
      (pss_cons (ps_expr (pe_bm PySem.F.plainAttrs_list PySem.F.slot_list_pop PySem.F.type_list_pop mt_popAt (pv 2) (pa_cons (pv 3) pa_nil)))
      (pss_one (ps_ret pe_str)))))), ?_⟩
  have hlen := O.len
  walk_at "go"
  refine w_fW T R ?_
  walk_at "go"
  refine ⟨_, _, _, rfl, R.ins, rfl, ?_⟩
  walk_at "go"
  refine ⟨B, A, _, _, _, _, _, _, rfl, hB, R, by omega, fun H1 s1 => ?_⟩
  have R1 := R.same s1
  obtain ⟨ar, rs, er, hr1, kvs, g1, g2, g3⟩ := RdAt.wrow R1
  have hwt := R1.bd.rw _ List.mem_cons_self
  refine w_dgI g1 g3 ?_
  walk_at "go"
  refine w_notInSs (.inl (SqL.of hr1)) ?_
  walk_at "go"
  refine w_2 (fun e => ?_) (fun e => ?_)
  · have hx : x ∉ st.wtop := by simpa using e
    walk_at "go"
    exact k1 (last_none hx) H1 s1
  · have hx : x ∈ st.wtop := by simpa using e
    obtain ⟨j, hj, hjl, hk⟩ := last_some hx
    walk_at "go"
    refine w_lenL (SqL.of hr1) ?_
    rw [List.length_map]
    walk_at "go"
    refine w_revL ?_
    walk_at "go"
    refine ⟨ar, _, rfl, SqL.of hr1, fun p hp => ?_⟩
    have s2 := sm_new (o := .lst (st.wtop.map V.str).reverse) hp
    have l2 : upd H1 p (.lst (st.wtop.map V.str).reverse) p = some (.lst (st.wtop.reverse.map V.str)) := by rw [upd_same, List.map_reverse]
    generalize upd H1 p (.lst (st.wtop.map V.str).reverse) = H2 at s2 l2 ⊢
    refine w_tyL l2 ?_
    walk_at "go"
    refine w_index (SqL.of l2) hj ?_
    walk_at "go"
    have R2 := R1.same s2
    refine w_tyL (s2 _ _ hr1) ?_
    walk_at "go"
    have ej : ((st.wtop.length : Nat) : Int) - 1 - ((j : Nat) : Int) = ((st.wtop.length - 1 - j : Nat) : Int) := by omega
    rw [ej]
    obtain ⟨y, hy⟩ := get_lt (xs := st.wtop.map V.str) (i := st.wtop.length - 1 - j) (by rw [List.length_map]; omega)
    refine w_popAt (s2 _ _ hr1) hy (by rw [List.length_map]; omega) fun H3 b3 l3 => ?_
    rw [erase_map] at l3
    have hle : (st.wtop.eraseIdx (st.wtop.length - 1 - j)).length ≤ N := Nat.le_trans (List.length_eraseIdx_le _ _) hwt
    obtain ⟨R3, m3⟩ := R2.wlist (M := N) er b3 l3 hle (Nat.le_refl _)
    walk_at "go"
    exact k2 _ H3 hk (((Mod.same s1).trans (Mod.same s2)).trans m3) R3
def spCloseTok (C : Addr) : Sp := fun vs H Q _ => ∃ (B : Bk) (A : RdA) (st : St) (ms : List Mend) (N a b : Nat) (x : Str), vs = [.ref A.p, .int (a : Nat), .int (b : Nat), .str x] ∧ B.Ok ∧ RdS false C B H A st ms N ∧ StOk B.rows st ∧ N ≤ 780000 ∧
  ∀ H' A', A'.p = A.p → Mod false A H A' H' → RdS false C B H' A' (closeTok B.rows B.rk st a b x).1 (ms ++ (closeTok B.rows B.rk st a b x).2) (N + 200) → Q .non H'
theorem to_wait_len {rows : List Row} {rn : List Str} {k : Nat} : (toWait rows rn k).length ≤ rn.length := by
  unfold toWait
  refine Nat.le_trans (List.length_filter_le _ _) (Nat.le_trans ((List.takeWhile_sublist _).length_le) ?_)
  rw [List.length_drop, List.length_reverse]
  omega
theorem c_R_close_token (D : Defs K mg C) (T : Tx K mg C ea) : C8.Met P w K mg base 8 C "close_token" (spCloseTok C) [] := by
  refine D.d_R_close_token.met T.cl sc_R_close_token (fun vs H Q E h => ?_) (fun f cdv A outer s H vs Q E hr h => ?_)
  · obtain ⟨B, A, st, ms, N, a, b, x, rfl, _⟩ := h
    rfl
  obtain ⟨B, A, st, ms, N, a, b, x, rfl, hB, R, O, hN, k⟩ := h
  have c_closing : C8.Cal P w K mg base 7 "closing" spLastOne [] := c_closing D T
  have c_is_wall : C8.Cal P w K mg base 3 "is_wall" spWall [] := c_is_wall D T
  have c_R_those_to_wait : C8.Met P w K mg base 4 C "those_to_wait" (spToWait C) [] := c_R_those_to_wait D T
  have c_R_put_closed : C8.Met P w K mg base 5 C "put_closed" (spPutClosed C) [] := c_R_put_closed D T
  have c_R_wall_key : C8.Met P w K mg base 4 C "wall_key" (spWallKey C) [] := c_R_wall_key D T
  have c_R_end_one : C8.Met P w K mg base 4 C "end_one" (spEnd C) [] := c_R_end_one D T
  have c_R_late_or_stray : C8.Met P w K mg base 5 C "late_or_stray" (spLate C) [] := c_R_late_or_stray D T
  refine ⟨_, (pss_cons (ps_set (i := 4) sc_R_close_token.nd rfl (Or.inl rfl) (C8.pe_c c_closing hr (by decide) rfl (pa_cons (pe_fld (pv 0) rfl) (pa_cons (pe_fld (pv 0) rfl) (pa_cons (pv 3) pa_nil)))))
      (pss_cons (ps_if (pt_cmpR op_isN1 (pv 4) pe_non (nomark _)) (pss_cons (ps_expr (pe_bm PySem.F.plainAttrs_list PySem.F.slot_list_append PySem.F.type_list_append mt_append (pe_fld (pv 0) rfl) (pa_cons (pe_tup (pa_cons (pv 1) (pa_cons (pv 2) (pa_cons pe_str (pa_cons (C8.pe_mt c_R_late_or_stray hr (by decide) (pv 0) (pa_cons (pv 3) pa_nil)) pa_nil))))) pa_nil)))
      (pss_one ps_retN)) pss_nil)
      (pss_cons (ps_set (i := 5) sc_R_close_token.nd rfl (Or.inl rfl) (pe_lst pa_nil))
      (Evl.pss_cut (ps_if (pt_not (pt_val (C8.pe_c c_is_wall hr (by decide) rfl (pa_cons (pe_fld (pv 0) rfl) (pa_cons (pv 3) pa_nil))))) (pss_one (ps_set (i := 5) sc_R_close_token.nd rfl (Or.inl rfl) (C8.pe_mt c_R_those_to_wait hr (by decide) (pv 0) (pa_cons (pe_op op_add (pv 4) pe_int) pa_nil)))) pss_nil)
      (pss_cons (ps_expr (C8.pe_mt c_R_put_closed hr (by decide) (pv 0) (pa_cons (pv 1) (pa_cons (pe_op op_add (pv 4) pe_int) (pa_cons pe_str pa_nil)))))
      (pss_cons (ps_expr (C8.pe_mt0 c_R_end_one hr (by decide) (pv 0)))
      (pss_one (ps_expr (pe_bm PySem.F.plainAttrs_list PySem.F.slot_list_extend PySem.F.type_list_extend mt_extend (pe_dget (hu_of hr) (pe_fld (pv 0) rfl) (C8.pe_mt0 c_R_wall_key hr (by decide) (pv 0)) (fun _ _ => rfl)) (pa_cons (pv 5) pa_nil)))))))))), ?_⟩
  have hlen := O.len
  walk_at "go"
  refine w_fB T R ?_
  walk_at "go"
  refine w_fN T R ?_
  walk_at "go"
  refine ⟨B, A.n, st.rn, x, rfl, hB, R.sg, R.nam, by omega, fun H1 s1 => ?_⟩
  have R1 := R.same s1
  unfold closeTok at k
  cases hk : lastOne B.rows B.rk x st.rn with
  | none =>
    rw [hk] at k
    walk_at "go"
    refine w_fM T R1 ?_
    refine w_tyM R1 ?_
    walk_at "go"
    refine ⟨_, _, _, rfl, R1.ins, rfl, ?_⟩
    walk_at "go"
    refine ⟨B, A, st, ms, N, x, rfl, hB, R1, O, by omega, fun hl H2 s2 => ?_, fun j H2 hl m2 R2 => ?_⟩
    · rw [hl] at k
      walk_at "go"
      refine w_mkT fun q H3 _ s3 l3 => ?_
      walk_at "go"
      refine w_mend (R1.same s2) s3 l3 (by omega) fun H4 m4 R4 => ?_
      walk_at "go"
      exact k H4 A rfl (((Mod.same s1).trans (Mod.same s2)).trans m4) (R4.more (by omega))
    · rw [hl] at k
      walk_at "go"
      refine w_mkT fun q H3 _ s3 l3 => ?_
      walk_at "go"
      refine w_mend R2 s3 l3 (by omega) fun H4 m4 R4 => ?_
      walk_at "go"
      exact k H4 A rfl (((Mod.same s1).trans m2).trans m4) (R4.more (by omega))
  | some kept =>
    rw [hk] at k
    have hlt := lastOne_lt hk
    walk_at "go"
    refine w_mkL fun l H2 n2 s2 l2 => ?_
    walk_at "go"
    refine w_cut (M := fun σ H' => ∃ l2, σ = [some (.ref A.p), some (.int (a : Nat)), some (.int (b : Nat)), some (.str x), some (.int (kept : Nat)), some (.ref l2)] ∧ Same H1 H' ∧ ¬ Foot false A l2 ∧ H' l2 = some (.lst ((if wall B.rows x = true then [] else toWait B.rows st.rn (kept + 1)).map V.str))) ?_ ?_
    · walk_at "go"
      refine w_fB T (R1.same s2) ?_
      walk_at "go"
      refine ⟨B, x, rfl, hB, (R1.same s2).sg, fun H3 s3 => ?_⟩
      walk_at "go"
      have R3 := R1.same (s2.trans s3)
      refine w_2 (fun e => ?_) (fun e => ?_)
      · have ew : wall B.rows x = false := by simpa using e
        walk_at "go"
        refine ⟨_, _, _, rfl, R3.ins, rfl, ?_⟩
        walk_at "go"
        refine ⟨B, A, st.rn, _, _, _, ms, N, kept + 1, ?_, hB, R3, by omega, fun H4 l4 n4 s4 f4 => ?_⟩
        · rfl
        walk_at "go"
        refine ⟨l4, rfl, (s2.trans s3).trans s4, R3.not_free n4, ?_⟩
        rw [if_neg (by rw [ew]; decide)]
        exact f4
      · have ew : wall B.rows x = true := by simpa using e
        walk_at "go"
        refine ⟨l, rfl, s2.trans s3, R1.not_free n2, ?_⟩
        rw [if_pos ew]
        exact s3 _ _ l2
    · rintro σ H3 ⟨l3, rfl, s3, fl3, f3⟩
      generalize hws : (if wall B.rows x = true then [] else toWait B.rows st.rn (kept + 1)) = ws at f3 k
      have hwl : ws.length ≤ 20 := by
        rw [← hws]
        split
        · exact Nat.zero_le _
        · have := to_wait_len (rows := B.rows) (rn := st.rn) (k := kept + 1)
          omega
      have hwa : ∀ y ∈ ws, AnewB B.rows y := by
        rw [← hws]
        split
        · intro y hy
          cases hy
        · exact to_wait_anew O.inb
      have R3 := R1.same s3
      obtain ⟨cl1, cl2, cl3⟩ := close_ok hB.good a "left" (kept + 1) _ st rfl O
      walk_at "go"
      refine ⟨_, _, _, rfl, R3.ins, rfl, ?_⟩
      walk_at "go"
      refine ⟨B, A, st, ms, N, a, kept + 1, "left", ?_, hB, R3, O, by omega, fun H4 A4 e4 m4 R4 => ?_⟩
      · rfl
      obtain ⟨f4, fl4⟩ := m4 l3 _ fl3 f3
      rw [← e4]
      walk_at "go"
      refine ⟨_, _, _, rfl, R4.ins, rfl, ?_⟩
      walk_at "go"
      obtain ⟨y, r, hyr⟩ : ∃ y r, (closeTo B.rows a "left" (kept + 1) st).1.rn = y :: r := by
        cases e : (closeTo B.rows a "left" (kept + 1) st).1.rn with
        | nil =>
          rw [cl2] at e
          have := congrArg List.length e
          rw [List.length_drop, List.length_nil] at this
          omega
        | cons y r => exact ⟨y, r, rfl⟩
      refine ⟨B, A4, _, _, _, y, r, rfl, hB, R4, cl1, hyr, by omega, fun H5 A5 e5 m5 R5 => ?_⟩
      obtain ⟨f5, fl5⟩ := m5 l3 _ fl4 f4
      have O5 := cl1.end_ hB.good hyr
      have hl5 := O5.len
      rw [← e5]
      walk_at "go"
      refine w_fW T R5 ?_
      walk_at "go"
      refine ⟨_, _, _, rfl, R5.ins, rfl, ?_⟩
      walk_at "go"
      refine ⟨B, A5, _, _, _, _, _, _, rfl, hB, R5, by omega, fun H6 s6 => ?_⟩
      have R6 := R5.same s6
      obtain ⟨ar, rs, er, hr6, kvs, g1, g2, g3⟩ := RdAt.wrow R6
      refine w_dgI g1 g3 ?_
      refine w_tyL hr6 ?_
      walk_at "go"
      have hwt := R6.bd.rw _ List.mem_cons_self
      refine w_ext hr6 (s6 _ _ f5) (szM (by rw [List.length_map, List.length_map]; omega)) fun H7 b7 l7 => ?_
      rw [← List.map_append] at l7
      obtain ⟨R7, m7⟩ := R6.wlist (M := N + 200) er b7 l7 (by rw [List.length_append]; omega) (by omega)
      refine k H7 A5 (e5.trans e4) (((((Mod.same (s1.trans s3)).trans m4).trans m5).trans (Mod.same s6)).trans m7) ?_
      subst hws
      exact R7
end
end Tg

namespace Tg
open PySem PySem.Spec PyProof.Rows L2
theorem near_drop {rows : List Row} : ∀ rn : List Str, rn.reverse.drop (wallKey rows rn) = near rows rn
  | [] => rfl
  | x :: r => by
    rw [wallKey, near, List.reverse_cons]
    split
    · rw [List.drop_of_length_le]
      rw [List.length_append, List.length_reverse, List.length_singleton]
      exact Nat.le_refl _
    · rw [List.drop_append_of_le_length, near_drop r]
      rw [List.length_reverse]
      exact wallKey_le r
theorem anew_free {rows : List Row} {x : Str} (h : AnewB rows x) : wall rows x = false := by
  unfold wall
  rw [h.2]
  rfl
theorem anews_snoc {rows : List Row} {at_ : Nat} {x : Str} : ∀ {xs : List Str} {st : St}, anews rows at_ (xs ++ [x]) st =
    if mayAnew rows (anews rows at_ xs st).1.rn x = true then (beginOne rows (anews rows at_ xs st).1 x, (anews rows at_ xs st).2 ++ [mOpen at_ x "anew"]) else anews rows at_ xs st
  | [], st => by
    show (if mayAnew rows st.rn x = true then _ else _) = _
    rfl
  | y :: ys, st => by
    rw [List.cons_append, anews, anews]
    by_cases h : mayAnew rows st.rn y = true
    · rw [if_pos h, if_pos h, anews_snoc]
      by_cases h2 : mayAnew rows (anews rows at_ ys (beginOne rows st y)).1.rn x = true
      · rw [if_pos h2]
        show _ = if mayAnew rows (anews rows at_ ys (beginOne rows st y)).1.rn x = true then _ else _
        rw [if_pos h2] <;> rfl
      · rw [if_neg h2]
        show _ = if mayAnew rows (anews rows at_ ys (beginOne rows st y)).1.rn x = true then _ else _
        rw [if_neg h2]
    · rw [if_neg h, if_neg h, anews_snoc]
theorem anews_key {rows : List Row} {at_ : Nat} : ∀ {xs : List Str} {st : St}, (∀ x ∈ xs, AnewB rows x) → wallKey rows (anews rows at_ xs st).1.rn = wallKey rows st.rn
  | [], st, _ => rfl
  | x :: xs, st, h => by
    rw [anews]
    have h2 : ∀ y ∈ xs, AnewB rows y := fun y hy => h y (List.mem_cons_of_mem _ hy)
    split
    · show wallKey rows (anews rows at_ xs (beginOne rows st x)).1.rn = _
      rw [anews_key h2]
      show wallKey rows (x :: st.rn) = _
      rw [wallKey, if_neg (by rw [anew_free (h x List.mem_cons_self)]; decide)]
    · exact anews_key h2
/-- the row that stood at the key before is the state's no more -/
theorem RdAt.old_row {L : Bool} {C : Addr} {B : Bk} {H : Hp} {A : RdA} {rn : List Str} {hps : List (List Tree)} {rws : List (List Str)} {ks : List Nat} {ms : List Mend} {N : Nat} {a b : Addr} {rs : List Addr}
    (R : RdAt L C B H A rn hps rws ks ms N) (er : A.rs = a :: rs) (hb : H b = none) : ¬ Foot L (A.setR (b :: A.rs.tail)) a := by
  obtain ⟨d1, d2, d3, d4, d5, d6, d7, d8, _⟩ := R.nd'
  have ha : a ∈ A.rs := by rw [er]; exact List.mem_cons_self
  rintro (f | f | f)
  · exact R.pl (all_rs ha) f.symm
  · exact R.wl (all_rs ha) f.symm
  rcases mem_all.mp f with f | f | ⟨_, f⟩ | f | f
  · exact d5 (by rw [show A.m = a from f.symm]; exact ha)
  · exact d3 (by rw [show A.h = a from f.symm]; exact ha)
  · exact R.nl (.inr (.inr (.inr ha))) f.symm
  · exact d8 a f ha
  · rcases List.mem_cons.mp f with f | f
    · exact R.not_free hb (foot_l (all_rs (by rw [← f]; exact ha)))
    · rw [er] at d7 f
      exact (List.nodup_cons.mp d7).1 f
theorem dec_nat (a b : Nat) : decide ((a : Int) = (b : Int)) = decide (a = b) := decide_eq_decide.mpr Int.ofNat_inj
section
variable {P : Program} {w : World} {K : PySem.W.Frag} {mg : Str → Option Value} {base : Heap} {C ea : Addr}
def AnewInv (C : Addr) (B : Bk) (A3 : RdA) (H3 : Hp) (ms : List Mend) (N : Nat) (st3 : St) (ar : Addr) (a : Nat) (xs : List Str) (σ : L2.St) (H' : Hp) : Prop :=
  (∃ v1 v2 v3 v4, σ = [some (.ref A3.p), some (.int (a : Nat)), some (.int (wallKey B.rows st3.rn : Nat)), some (.ref ar), v1, v2, v3, v4]) ∧ ∃ A', A'.p = A3.p ∧ Mod false A3 H3 A' H' ∧
    RdS false C B H' A' (anews B.rows a xs st3).1 (ms ++ (anews B.rows a xs st3).2) (N + 1 + 2 * (anews B.rows a xs st3).2.length)
def spAnew (C : Addr) : Sp := fun vs H Q _ => ∃ (B : Bk) (A : RdA) (st : St) (ms : List Mend) (N a : Nat), vs = [.ref A.p, .int (a : Nat)] ∧ B.Ok ∧ RdS false C B H A st ms N ∧ StOk B.rows st ∧ N ≤ 790000 ∧
  ∀ H' A', A'.p = A.p → Mod false A H A' H' → RdS false C B H' A' (openAnew B.rows st a).1 (ms ++ (openAnew B.rows st a).2) (N + 60) → Q .non H'
theorem c_R_open_anew (D : Defs K mg C) (T : Tx K mg C ea) : C8.Met P w K mg base 6 C "open_anew" (spAnew C) [] := by
  refine D.d_R_open_anew.met T.cl sc_R_open_anew (fun vs H Q E h => ?_) (fun f cdv A outer s H vs Q E hr h => ?_)
  · obtain ⟨B, A, st, ms, N, a, rfl, _⟩ := h
    rfl
  obtain ⟨B, A, st, ms, N, a, rfl, hB, R, O, hN, k⟩ := h
  have c_R_wall_key : C8.Met P w K mg base 4 C "wall_key" (spWallKey C) [] := c_R_wall_key D T
  have c_R_put_open : C8.Met P w K mg base 5 C "put_open" (spPutOpen C) [] := c_R_put_open D T
  have c_shut_from : C8.Cal P w K mg base 4 "shut_from" spShutFrom [] := c_shut_from D T
  have c_is_barred : C8.Cal P w K mg base 4 "is_barred" spBarred [] := c_is_barred D T
  refine ⟨_, (pss_cons (ps_set (i := 2) sc_R_open_anew.nd rfl (Or.inl rfl) (C8.pe_mt0 c_R_wall_key hr (by decide) (pv 0)))
      (pss_cons (ps_set (i := 3) sc_R_open_anew.nd rfl (Or.inl rfl) (pe_dget (hu_of hr) (pe_fld (pv 0) rfl) (pv 2) (fun _ _ => rfl)))
      (pss_cons (ps_dput (hu_of hr) (pe_fld (pv 0) rfl) (pv 2) (pe_lst pa_nil) rfl)
      (pss_one (ps_for PassesOwn.never rfl (pi_list (pv 3)) (pg_name (i := 4) sc_R_open_anew.nd rfl (Or.inl rfl)) (pss_cons (ps_set (i := 5) sc_R_open_anew.nd rfl (Or.inl rfl) (pe_slice sl_tupA (pe_fld (pv 0) rfl) (po_some (pv 2)) po_none))
      (pss_cons (ps_set (i := 6) sc_R_open_anew.nd rfl (Or.inl rfl) (pe_cmpR op_eq (C8.pe_c c_shut_from hr (by decide) rfl (pa_cons (pe_fld (pv 0) rfl) (pa_cons (pe_fld (pv 0) rfl) (pa_cons (pv 4) pa_nil)))) (pe_callB call_lenQ (by rfl) T.b_len PySem.boot_len (pa_cons (pe_fld (pv 0) rfl) pa_nil)) (nomark _)))
      (pss_cons (ps_set (i := 7) sc_R_open_anew.nd rfl (Or.inl rfl) (pe_and (pv 6) (pe_one (pe_not (C8.pe_c c_is_barred hr (by decide) rfl (pa_cons (pe_fld (pv 0) rfl) (pa_cons (pe_fld (pv 0) rfl) (pa_cons (pv 4) pa_nil))))))))
      (pss_one (ps_if (PW.pt (pw_and (pt_cmpR op_notIn_seq (pv 4) (pv 5) (by rfl)) (pw_and (pt_val (pv 7)) (pw_and1 (pt_cmpR op_lt (pe_callB call_lenQ (by rfl) T.b_len PySem.boot_len (pa_cons (pe_fld (pv 0) rfl) pa_nil)) (C8.pe_gc rfl T.deep) (nomark _)))))) (pss_one (ps_expr (C8.pe_mt c_R_put_open hr (by decide) (pv 0) (pa_cons (pv 1) (pa_cons (pv 4) (pa_cons pe_str pa_nil)))))) pss_nil)))))))))), ?_⟩
  have hlen := O.len
  obtain ⟨ks, ek, hkn⟩ := keys_cons (rows := B.rows) st.rn
  walk_at "go"
  refine ⟨_, _, _, rfl, R.ins, rfl, ?_⟩
  walk_at "go"
  refine ⟨B, A, _, _, _, _, _, _, rfl, hB, R, by omega, fun H1 s1 => ?_⟩
  have R1 := R.same s1
  obtain ⟨ar, rs, er, hr1, kvs, g1, g2, g3⟩ := RdAt.wrow R1
  walk_at "go"
  refine w_fW T R1 ?_
  walk_at "go"
  refine w_dgI g1 g3 ?_
  walk_at "go"
  refine w_mkL fun b H2 n2 s2 l2 => ?_
  walk_at "go"
  refine w_fW T (R1.same s2) ?_
  walk_at "go"
  refine w_dpI (s2 _ _ g1) (szM' (by omega)) fun H3 b3 l3 => ?_
  rw [ek] at R1
  obtain ⟨R3, m3⟩ := R1.wnew (ws := []) (M := N + 1) hkn n2 s2 l2 (s2 _ _ g1) b3 l3 (Nat.zero_le _) (Nat.le_refl _)
  rw [← ek] at R3
  have hno := R1.old_row er n2
  have hr3 : H3 ar = some (.lst (st.wtop.map V.str)) := b3 _ _ (fun z => R1.wl (all_rs (by rw [er]; exact List.mem_cons_self)) z.symm) (s2 _ _ hr1)
  obtain ⟨A3, hA3⟩ : ∃ A3, A3 = A.setR (b :: A.rs.tail) := ⟨_, rfl⟩
  rw [← hA3] at R3 m3 hno
  have e3 : A3.p = A.p := by rw [hA3] <;> rfl
  have R3' : RdS false C B H3 A3 { st with wtop := [] } ms (N + 1) := R3
  have O3 : StOk B.rows { st with wtop := [] } := O.wait (ws := []) (by intro x hx; cases hx)
  have m03 : Mod false A H A3 H3 := (Mod.same s1).trans m3
  walk_at "go"
  rw [← e3]
  generalize hst3 : ({ st with wtop := [] } : St) = st3 at R3' O3
  have hkey : wallKey B.rows st3.rn = wallKey B.rows st.rn := by rw [← hst3]
  rw [← hkey]
  refine w_forL (SqL.of hr3) (fun i σ H' => AnewInv C B A3 H3 ms N st3 ar a (st.wtop.take i) σ H')
    ⟨⟨_, _, _, _, rfl⟩, A3, rfl, Mod.same (Same.refl H3), by rw [List.take_zero]; show RdS _ _ _ _ _ st3 (_ ++ []) _; rw [List.append_nil]; exact R3'⟩ ?_ ?_ ?_
  · rintro i σ H' hi ⟨_, A', _, m', _⟩
    exact SqL.of (m' _ _ hno hr3).1
  · rintro i v σ H' hv ⟨⟨v1, v2, v3, v4, rfl⟩, A', e', m', R'⟩
    obtain ⟨x, hx, rfl⟩ := map_get hv
    have hxa := O.wt x (List.mem_of_getElem? hx)
    obtain ⟨r, hrr, hrn⟩ := hxa.1
    have hro : rowOf B.rows x = some r := by rw [← hrn]; exact row_mem hB.good hrr
    have hx8 : x.length ≤ 8 := by rw [← hrn]; exact (hB.good.nm r hrr).2.1
    have htk : ∀ y ∈ st.wtop.take i, AnewB B.rows y := fun y hy => O.wt y (List.mem_of_mem_take hy)
    obtain ⟨O', orn⟩ := anews_ok (at_ := a) (xs := st.wtop.take i) O3 htk
    have hk' := anews_key (at_ := a) (st := st3) htk
    have hsn := anews_snoc (rows := B.rows) (at_ := a) (x := x) (xs := st.wtop.take i) (st := st3)
    rw [← take_snoc hx] at hsn
    have hl' := O'.len
    have no : ∀ H6, Same H' H6 → mayAnew B.rows (anews B.rows a (st.wtop.take i) st3).1.rn x = false → ∀ w1 w2 w3 : Option V, AnewInv C B A3 H3 ms N st3 ar a (st.wtop.take (i + 1)) [some (V.ref A3.p), some (.int (a : Nat)), some (.int (wallKey B.rows st3.rn : Nat)), some (.ref ar), some (.str x), w1, w2, w3] H6 := fun H6 s6 hm w1 w2 w3 => by
      refine ⟨⟨_, _, _, _, rfl⟩, A', e', m'.trans (Mod.same s6), ?_⟩
      rw [hsn, if_neg (by rw [hm]; decide)]
      exact RdAt.same R' s6
    have yes : ∀ H6 A6, A6.p = A'.p → Mod false A' H' A6 H6 → RdS false C B H6 A6 (beginOne B.rows (anews B.rows a (st.wtop.take i) st3).1 x) ((ms ++ (anews B.rows a (st.wtop.take i) st3).2) ++ [mOpen a x "anew"]) (N + 1 + 2 * (anews B.rows a (st.wtop.take i) st3).2.length + 2) →
        mayAnew B.rows (anews B.rows a (st.wtop.take i) st3).1.rn x = true → ∀ w1 w2 w3 : Option V, AnewInv C B A3 H3 ms N st3 ar a (st.wtop.take (i + 1)) [some (V.ref A3.p), some (.int (a : Nat)), some (.int (wallKey B.rows st3.rn : Nat)), some (.ref ar), some (.str x), w1, w2, w3] H6 := fun H6 A6 e6 m6 R6 hm w1 w2 w3 => by
      refine ⟨⟨_, _, _, _, rfl⟩, A6, e6.trans e', m'.trans m6, ?_⟩
      rw [hsn, if_pos hm]
      dsimp only
      rw [List.length_append, List.length_singleton, ← List.append_assoc]
      have e2 : N + 1 + 2 * ((anews B.rows a (st.wtop.take i) st3).2.length + 1) = N + 1 + 2 * (anews B.rows a (st.wtop.take i) st3).2.length + 2 := by omega
      rw [e2]
      exact R6
    generalize anews B.rows a (st.wtop.take i) st3 = pr at R' O' orn hl' no yes hk'
    obtain ⟨st', ms'⟩ := pr
    dsimp only at R' O' orn hl' no yes hk'
    rw [← hk'] at no yes ⊢
    rw [← e'] at no yes ⊢
    walk_at "go"
    refine w_fN T R' ?_
    walk_at "go"
    refine w_slT R'.nam fun t H4 s4 l4 => ?_
    rw [cut_from, ← List.map_drop, near_drop] at l4
    have R4 := RdAt.same R' s4
    walk_at "go"
    refine w_fB T R4 ?_
    walk_at "go"
    refine w_fN T R4 ?_
    walk_at "go"
    refine ⟨B, A'.n, st'.rn, x, r, rfl, hB, R4.sg, R4.nam, by omega, hro, fun H5 s5 => ?_⟩
    have R5 := R4.same s5
    walk_at "go"
    refine w_fN T R5 ?_
    walk_at "go"
    refine w_lenT (SqT.of R5.nam) ?_
    rw [List.length_map, List.length_reverse]
    walk_at "go"
    rw [dec_nat]
    walk_at "go"
    have i5 : Same H' H5 := s4.trans s5
    have mfalse : decide (shutFrom B.rows st'.rn x = st'.rn.length) = false ∨ barred B.rows st'.rn x = true ∨ x ∈ near B.rows st'.rn ∨ ¬ st'.rn.length < 20 → mayAnew B.rows st'.rn x = false := fun h => by
      unfold mayAnew
      rcases h with h | h | h | h
      · rw [h]
        simp
      · rw [h]
        simp
      · rw [decide_eq_true h]
        simp
      · rw [decide_eq_false h]
        simp
    refine w_2 (fun e1 => ?_) (fun e1 => ?_)
    · walk_at "go"
      refine w_fB T R5 ?_
      walk_at "go"
      refine w_fN T R5 ?_
      walk_at "go"
      refine ⟨B, A'.n, st'.rn, x, r, rfl, hB, R5.sg, R5.nam, by omega, hro, fun H6 s6 => ?_⟩
      have R6 := R5.same s6
      have i6 : Same H' H6 := i5.trans s6
      walk_at "go"
      refine w_notInSs (.inr (SqT.of (s6 _ _ (s5 _ _ l4)))) ?_
      walk_at "go"
      refine w_2 (fun e2 => ?_) (fun e2 => ?_)
      · walk_at "go"
        refine w_2 (fun e3 => ?_) (fun e3 => ?_)
        · walk_at "go"
          refine w_fN T R6 ?_
          walk_at "go"
          refine w_lenT (SqT.of R6.nam) ?_
          rw [List.length_map, List.length_reverse]
          walk_at "go"
          refine w_2 (fun e4 => ?_) (fun e4 => ?_)
          · have h4 : st'.rn.length < 20 := by
              have := of_decide_eq_true e4
              omega
            walk_at "go"
            refine ⟨_, _, _, rfl, R6.ins, rfl, ?_⟩
            walk_at "go"
            refine ⟨B, A', _, _, _, a, x, "anew", rfl, hB, R6, O', by omega, by omega, fun H7 A7 e7 m7 R7 => ?_⟩
            refine yes H7 A7 e7 ((Mod.same i6).trans m7) R7 ?_ _ _ _
            unfold mayAnew
            have h2 : x ∉ near B.rows st'.rn := by simpa using e2
            rw [e1, decide_eq_false h2, decide_eq_true h4]
            rw [show (!barred B.rows st'.rn x) = true from e3] <;> rfl
          · have h4 : ¬ st'.rn.length < 20 := by
              have := of_decide_eq_false e4
              omega
            walk_at "go"
            exact no H6 i6 (mfalse (.inr (.inr (.inr h4)))) _ _ _
        · have h3 : barred B.rows st'.rn x = true := by simpa using e3
          walk_at "go"
          exact no H6 i6 (mfalse (.inr (.inl h3))) _ _ _
      · have h2 : x ∈ near B.rows st'.rn := by simpa using e2
        walk_at "go"
        exact no H6 i6 (mfalse (.inr (.inr (.inl h2)))) _ _ _
    · walk_at "go"
      refine w_notInSs (.inr (SqT.of (s5 _ _ l4))) ?_
      walk_at "go"
      rw [e1]
      refine w_2 (fun e2 => ?_) (fun e2 => ?_)
      · walk_at "go"
        exact no H5 i5 (mfalse (.inl e1)) _ _ _
      · walk_at "go"
        exact no H5 i5 (mfalse (.inl e1)) _ _ _
  · rintro σ H' ⟨⟨v1, v2, v3, v4, rfl⟩, A', e', m', R'⟩
    rw [List.length_map, List.take_length] at R'
    obtain ⟨O', orn⟩ := anews_ok (at_ := a) (xs := st.wtop) O3 O.wt
    have hl' := O'.len
    refine k H' A' (e'.trans e3) (m03.trans m') ?_
    unfold openAnew
    rw [hst3]
    exact RdAt.more R' (by omega)
end
end Tg

namespace Tg
open PySem PySem.Spec PyProof.Rows L2
section
variable {P : Program} {w : World} {K : PySem.W.Frag} {mg : Str → Option Value} {base : Heap} {C ea : Addr}
theorem w_neTn {H : Hp} {Q : VK} {q : Addr} (h0 : H q = some (.tup [])) (k : Q (.bl true) H) : rNeD K .non (.ref q) H Q :=
  w_neD (d := .none) .non (.tup (SqT.of h0) .nil) (by decide) (by decide) k
theorem hosts_none {rows : List Row} {rk : Str → Nat} {rn : List Str} (h : hostsFor rows rk rn = none) (hl : rn.length ≤ 20) : hostsIn rows rk rn ≠ [] := fun z => by
  unfold hostsFor at h
  rw [z, List.length_nil, if_neg (by omega)] at h
  cases h
theorem w_if_and {b1 b2 : Bool} {t : TT} {σ : L2.St} {H : Hp} {R : Bool → Hp → Prop} (h1 : b1 = true → ∀ R' : Bool → Hp → Prop, R' b2 H → t σ H R') (k : R (b1 && b2) H) : if b1 = true then t σ H R else R false H := by
  cases b1 with
  | true => exact iteT (h1 rfl R k)
  | false => exact iteF k
def spRunTok (C : Addr) : Sp := fun vs H Q _ => ∃ (B : Bk) (A : RdA) (st : St) (ms : List Mend) (N a b : Nat) (raw : List Nat), vs = [.ref A.p, .int (a : Nat), .int (b : Nat), .str (sOf (told raw)), .str (sOf raw)] ∧ B.Ok ∧ RdS false C B H A st ms N ∧ StOk B.rows st ∧ raw.length ≤ 3000 ∧ N ≤ 780000 ∧
  ∀ H' A', A'.p = A.p → Mod false A H A' H' → RdS false C B H' A' (runTok B.rows B.rk st a b raw).1 (ms ++ (runTok B.rows B.rk st a b raw).2) (N + 200 + 2 * raw.length) → Q .non H'
theorem c_R_run_token (D : Defs K mg C) (T : Tx K mg C ea) : C8.Met P w K mg base 7 C "run_token" (spRunTok C) [] := by
  refine D.d_R_run_token.met T.cl sc_R_run_token (fun vs H Q E h => ?_) (fun f cdv A outer s H vs Q E hr h => ?_)
  · obtain ⟨B, A, st, ms, N, a, b, raw, rfl, _⟩ := h
    rfl
  obtain ⟨B, A, st, ms, N, a, b, raw, rfl, hB, R, O, hraw, hN, k⟩ := h
  have c_hosts_for : C8.Cal P w K mg base 5 "hosts_for" spHostsFor [] := c_hosts_for D T
  have c_lone_ones : C8.Cal P w K mg base 1 "lone_ones" spLoneOnes [] := c_lone_ones D T
  have c_escaped : C8.Cal P w K mg base 1 "escaped" spEscaped [] := c_escaped D T
  have c_R_put_open : C8.Met P w K mg base 5 C "put_open" (spPutOpen C) [] := c_R_put_open D T
  have c_R_open_anew : C8.Met P w K mg base 6 C "open_anew" (spAnew C) [] := c_R_open_anew D T
  have c_R_lie_in : C8.Met P w K mg base 1 C "lie_in" (spLieIn C) [] := c_R_lie_in D T
  refine ⟨_, (pss_cons (ps_set (i := 5) sc_R_run_token.nd rfl (Or.inl rfl) (C8.pe_c c_hosts_for hr (by decide) rfl (pa_cons (pe_fld (pv 0) rfl) (pa_cons (pe_fld (pv 0) rfl) pa_nil))))
      (pss_cons (ps_if (PW.pt (pw_and (pt_cmpR (op_neD (hu64 hr)) (pv 5) (pe_tup pa_nil) (nomark _)) (pw_and1 (pt_cmpR op_eq (pe_bm PySem.F.plainAttrs_str PySem.F.slot_str_strip PySem.F.type_str_strip mt_stripQ (pv 4) (pa_cons pe_str pa_nil)) pe_str (nomark _))))) (pss_cons (ps_expr (pe_bm PySem.F.plainAttrs_list PySem.F.slot_list_append PySem.F.type_list_append mt_append (pe_fld (pv 0) rfl) (pa_cons (pe_tup (pa_cons (pv 1) (pa_cons (pv 2) (pa_cons pe_str (pa_cons pe_str pa_nil))))) pa_nil)))
      (pss_one ps_retN)) pss_nil)
      (pss_cons (ps_if (pt_cmpR op_isN1 (pv 5) pe_non (nomark _)) (pss_cons (ps_expr (pe_bm PySem.F.plainAttrs_list PySem.F.slot_list_append PySem.F.type_list_append mt_append (pe_fld (pv 0) rfl) (pa_cons (pe_tup (pa_cons (pv 1) (pa_cons (pv 2) (pa_cons pe_str (pa_cons pe_str pa_nil))))) pa_nil)))
      (pss_one ps_retN)) pss_nil)
      (pss_cons (ps_for PassesOwn.never rfl (pi_tup (pv 5)) (pg_name (i := 6) sc_R_run_token.nd rfl (Or.inl rfl)) (pss_one (ps_expr (C8.pe_mt c_R_put_open hr (by decide) (pv 0) (pa_cons (pv 1) (pa_cons (pv 6) (pa_cons pe_str pa_nil)))))))
      (pss_cons (ps_expr (C8.pe_mt c_R_open_anew hr (by decide) (pv 0) (pa_cons (pv 1) pa_nil)))
      (pss_cons (ps_for PassesOwn.never rfl (pi_list (C8.pe_c c_lone_ones hr (by decide) rfl (pa_cons (pv 4) pa_nil))) (pg_name (i := 7) sc_R_run_token.nd rfl (Or.inl rfl)) (pss_one (ps_expr (pe_bm PySem.F.plainAttrs_list PySem.F.slot_list_append PySem.F.type_list_append mt_append (pe_fld (pv 0) rfl) (pa_cons (pe_tup (pa_cons (pe_op op_add (pv 1) (pv 7)) (pa_cons (pe_op op_add (pe_op op_add (pv 1) (pv 7)) pe_int) (pa_cons (C8.pe_c c_escaped hr (by decide) rfl (pa_cons (pe_ix ix_str (pv 4) (pv 7) (fun _ _ => rfl)) pa_nil)) (pa_cons pe_str pa_nil))))) pa_nil)))))
      (pss_one (ps_expr (C8.pe_mt c_R_lie_in hr (by decide) (pv 0) (pa_cons (pv 3) pa_nil)))))))))), ?_⟩
  have hlen := O.len
  have hrl : (sOf raw).length ≤ sizeLine := by
    rw [sOf_len]
    exact szM (by omega)
  have hbl : decide (Txt.stripChars (sOf raw) " \n" = "") = raw.all (fun c => decide (c = 32 ∨ c = 10)) := by
    rw [strip_blank, sOf_toList]
  -- a run that is dropped
  have drop : ∀ (H1 : Hp) (rule : Str) (q : Addr) (H2 : Hp), Mod false A H A H1 → RdS false C B H1 A st ms N → Same H1 H2 → H2 q = some (.tup [.int (a : Nat), .int (b : Nat), .str "", .str rule]) → runTok B.rows B.rk st a b raw = (st, [⟨a, b, "", rule⟩]) → rAppend (.ref A.m) [.ref q] H2 (fun _ H' => Q .non H') := fun H1 rule q H2 m1 R1 s2 l2 er => by
    refine w_mend R1 s2 l2 (by omega) fun H3 m3 R3 => ?_
    refine k H3 A rfl (m1.trans m3) ?_
    rw [er]
    exact RdAt.more R3 (by omega)
  walk_at "go"
  refine w_fB T R ?_
  walk_at "go"
  refine w_fN T R ?_
  walk_at "go"
  refine ⟨B, A.n, st.rn, rfl, hB, R.sg, R.nam, by omega, O.inb, fun hh H1 s1 => ?_, fun H1 p hs hh s1 hp => ?_⟩
  · have R1 := RdAt.same R s1
    have hne := hosts_none hh hlen
    walk_at "go"
    refine w_mkT fun q H2 _ s2 l2 => ?_
    refine w_neTn l2 ?_
    have R2 := RdAt.same R1 s2
    have m2 : Mod false A H A H2 := Mod.same (s1.trans s2)
    walk_at "go"
    refine w_strip hrl ?_
    walk_at "go"
    rw [hbl]
    refine w_2 (fun e => ?_) (fun e => ?_)
    · walk_at "go"
      refine w_fM T R2 ?_
      refine w_tyM R2 ?_
      walk_at "go"
      refine w_mkT fun q2 H3 _ s3 l3 => ?_
      walk_at "go"
      refine drop H2 "blank" q2 H3 m2 R2 s3 l3 ?_
      unfold runTok
      rw [if_pos ⟨hne, e⟩]
    · walk_at "go"
      refine w_fM T R2 ?_
      refine w_tyM R2 ?_
      walk_at "go"
      refine w_mkT fun q2 H3 _ s3 l3 => ?_
      walk_at "go"
      refine drop H2 "deep" q2 H3 m2 R2 s3 l3 ?_
      unfold runTok
      rw [if_neg (fun z => by rw [z.2] at e; cases e), hh]
  obtain ⟨hs1, hs2⟩ := hosts_for_some hh
  have hsb : Inb B.rows hs := by
    rw [hs1]
    exact (hostsIn_ok hB.good st.rn).1
  have R1 := RdAt.same R s1
  walk_at "go"
  refine w_mkT fun q H2 _ s2 l2 => ?_
  refine w_neT0 (s2 _ _ hp) l2 (hsb.ok hB.good) ?_
  have R2 := RdAt.same R1 s2
  have m2 : Mod false A H A H2 := Mod.same (s1.trans s2)
  walk_at "go"
  refine w_if_and (b2 := raw.all (fun c => decide (c = 32 ∨ c = 10))) (fun _ R' k' => ?_) ?_
  · walk_at "go"
    refine w_strip hrl ?_
    walk_at "go"
    rw [hbl]
    exact k'
  refine w_2 (fun e => ?_) (fun e => ?_)
  · obtain ⟨e1, e2⟩ := Bool.and_eq_true_iff.mp e
    walk_at "go"
    refine w_fM T R2 ?_
    refine w_tyM R2 ?_
    walk_at "go"
    refine w_mkT fun q2 H3 _ s3 l3 => ?_
    walk_at "go"
    refine drop H2 "blank" q2 H3 m2 R2 s3 l3 ?_
    unfold runTok
    rw [if_pos ⟨(fun z => by rw [hs1, z] at e1; cases e1), e2⟩]
  have hnb : ¬ (hostsIn B.rows B.rk st.rn ≠ [] ∧ raw.all (fun c => decide (c = 32 ∨ c = 10)) = true) := fun z => by
    rw [z.2, Bool.and_true] at e
    rw [← hs1] at z
    cases hs with
    | nil => exact z.1 rfl
    | cons x y => cases e
  have er : runTok B.rows B.rk st a b raw = (lieIn (openAnew B.rows (putOpens B.rows a "host" hs st).1 a).1 (.text (sOf (told raw))), (putOpens B.rows a "host" hs st).2 ++ ((openAnew B.rows (putOpens B.rows a "host" hs st).1 a).2 ++ (lones 0 raw).map (mSign a))) := by
    unfold runTok
    rw [if_neg hnb, hh] <;> rfl
  rw [er] at k
  dsimp only at k
  obtain ⟨O3, orn, _⟩ := opens_ok (at_ := a) (rule := "host") (xs := hs) O hsb hs2
  have hol := O3.len
  have hsl : hs.length ≤ 20 := by omega
  walk_at "go"
  refine w_forT (SqT.of (s2 _ _ hp)) (fun i σ H' => (∃ v w, σ = [some (.ref A.p), some (.int (a : Nat)), some (.int (b : Nat)), some (.str (sOf (told raw))), some (.str (sOf raw)), some (.ref p), v, w]) ∧ ∃ A', A'.p = A.p ∧ Mod false A H2 A' H' ∧
    RdS false C B H' A' (putOpens B.rows a "host" (hs.take i) st).1 (ms ++ (putOpens B.rows a "host" (hs.take i) st).2) (N + 2 * i))
    ⟨⟨_, _, rfl⟩, A, rfl, Mod.same (Same.refl H2), by rw [List.take_zero]; show RdS _ _ _ _ _ st (_ ++ []) _; rw [List.append_nil]; exact R2⟩ ?_ ?_ ?_
  · rintro i σ H' hi ⟨_, A', _, m', _⟩
    exact SqT.of (RdAt.tups R2 m' _ _ (s2 _ _ hp))
  · rintro i v σ H' hv ⟨⟨v0, w0, rfl⟩, A', e', m', R'⟩
    obtain ⟨y, hy, rfl⟩ := map_get hv
    have hyl := (List.getElem?_eq_some_iff.mp hy).1
    have hy8 := hsb.short hB.good y (List.mem_of_getElem? hy)
    obtain ⟨O', orn', _⟩ := opens_ok (at_ := a) (rule := "host") (xs := hs.take i) O (fun z hz => hsb z (List.mem_of_mem_take hz)) (by rw [List.length_take]; omega)
    rw [← e']
    walk_at "go"
    refine ⟨_, _, _, rfl, R'.ins, rfl, ?_⟩
    walk_at "go"
    refine ⟨B, A', _, _, _, a, y, "host", rfl, hB, R', O', by omega, by omega, fun H7 A7 e7 m7 R7 => ?_⟩
    refine ⟨⟨_, _, rfl⟩, A7, e7, m'.trans m7, ?_⟩
    rw [take_snoc hy, putOpens_snoc]
    rw [List.append_assoc] at R7
    have e2 : N + 2 * (i + 1) = N + 2 * i + 2 := by omega
    rw [e2]
    exact R7
  rintro σ H3 ⟨⟨v0, w0, rfl⟩, A3, e3, m3, R3⟩
  rw [List.length_map, List.take_length] at R3
  rw [← e3]
  walk_at "go"
  refine ⟨_, _, _, rfl, R3.ins, rfl, ?_⟩
  walk_at "go"
  refine ⟨B, A3, _, _, _, a, rfl, hB, R3, O3, by omega, fun H4 A4 e4 m4 R4 => ?_⟩
  have O4 : StOk B.rows (openAnew B.rows (putOpens B.rows a "host" hs st).1 a).1 := (anews_ok (O3.wait (ws := []) (by intro x hx; cases hx)) O3.wt).1
  generalize openAnew B.rows (putOpens B.rows a "host" hs st).1 a = pr at R4 O4 k
  obtain ⟨st4, ms4⟩ := pr
  dsimp only at R4 O4 k
  have R4' : RdS false C B H4 A4 st4 (ms ++ (putOpens B.rows a "host" hs st).2 ++ ms4) (N + 120) := RdAt.more R4 (by omega)
  have ems : ∀ X, ms ++ ((putOpens B.rows a "host" hs st).2 ++ (ms4 ++ X)) = (ms ++ (putOpens B.rows a "host" hs st).2 ++ ms4) ++ X := fun X => by simp only [List.append_assoc]
  rw [ems] at k
  generalize ms ++ (putOpens B.rows a "host" hs st).2 ++ ms4 = ms5 at R4' k
  have m04 : Mod false A H A4 H4 := (m2.trans m3).trans m4
  have hll := lones_len raw
  walk_at "go"
  refine ⟨sOf raw, rfl, by rw [sOf_len]; omega, fun H5 l n5 s5 l5 => ?_⟩
  rw [sOf_toList] at l5
  have fl : ¬ Foot false A4 l := R4'.not_free n5
  have R5 := RdAt.same R4' s5
  rw [← e4]
  refine w_forL (SqL.of l5) (fun i σ H' => (∃ v w, σ = [some (.ref A4.p), some (.int (a : Nat)), some (.int (b : Nat)), some (.str (sOf (told raw))), some (.str (sOf raw)), some (.ref p), v, w]) ∧ Mod false A4 H5 A4 H' ∧
    RdS false C B H' A4 st4 (ms5 ++ ((lones 0 raw).take i).map (mSign a)) (N + 120 + i))
    ⟨⟨_, _, rfl⟩, Mod.same (Same.refl H5), by rw [List.take_zero]; show RdS _ _ _ _ _ st4 (_ ++ []) _; rw [List.append_nil]; exact R5⟩ ?_ ?_ ?_
  · rintro i σ H' hi ⟨_, m', _⟩
    exact SqL.of (m' _ _ fl l5).1
  · rintro i v σ H' hv ⟨⟨v0, w0, rfl⟩, m', R'⟩
    obtain ⟨y, hy, rfl⟩ := map_get hv
    obtain ⟨y3, hy2, rfl⟩ := map_get hy
    have hyl := (List.getElem?_eq_some_iff.mp hy2).1
    obtain ⟨j, ej, hj, hc⟩ := lones_mem _ raw 0 (Nat.le_refl _) _ (List.mem_of_getElem? hy2)
    rw [Nat.add_zero] at ej
    rw [← ej] at hj
    walk_at "go"
    refine w_fM T R' ?_
    refine w_tyM R' ?_
    walk_at "go"
    refine w_ixS (a := y3.2) hrl ?_ ?_
    · rw [sOf_toList]
      exact atI_nat hj
    walk_at "go"
    refine ⟨y3.2, rfl, hc, ?_⟩
    walk_at "go"
    refine w_mkT fun q2 H6 _ s6 l6 => ?_
    walk_at "go"
    refine w_mend (a := a + y3.1) (b := a + y3.1 + 1) R' s6 l6 (by omega) fun H7 m7 R7 => ?_
    refine ⟨⟨_, _, rfl⟩, m'.trans m7, ?_⟩
    rw [take_snoc hy2, List.map_append, ← List.append_assoc]
    exact R7
  · rintro σ H6 ⟨⟨v0, w0, rfl⟩, m6, R6⟩
    rw [List.length_map, List.length_map, List.take_length] at R6
    walk_at "go"
    refine ⟨_, _, _, rfl, R6.ins, rfl, ?_⟩
    walk_at "go"
    refine ⟨B, A4, _, _, _, _, _, _, _, raw.length, _, .text (sOf (told raw)), rfl, hB, R6, fun u hu => ?_, .text _, fun z hz => ?_, by omega, fun H7 m7 R7 => ?_⟩
    · have := O4.lev u hu
      exact ⟨by omega, this.2⟩
    · cases hz
      rw [sOf_len]
      exact told_len _ raw (Nat.le_refl _)
    · refine k H7 A4 (e4.trans e3) (((m04.trans (Mod.same s5)).trans m6).trans m7) ?_
      exact RdAt.more R7 (by omega)
end
end Tg

namespace Tg
open PySem PySem.Spec PyProof.Rows L2
theorem But.trans {l : Addr} {H H1 H2 : Hp} (a : But l H H1) (b : But l H1 H2) : But l H H2 := fun c o n h => b c o n (a c o n h)
theorem But.same {l : Addr} {H H1 : Hp} (a : Same H H1) : But l H H1 := fun c o _ h => a c o h
theorem w_disp0 {σ : L2.St} {H : Hp} {Q : VK} (k : ∀ r w H', H r = none → H w = none → r ≠ w → Same H H' → H' r = some (.lst []) → H' w = some (.dK [(Sum.inl 0, .ref r)]) → Q (.ref w) H') : tDisp [(tC (.int 0), tLst tNil)] σ H Q := by
  intro p hp
  refine ⟨Nat.zero_le _, fun r hr => ?_⟩
  have e1 : r ≠ p := fun z => by
    rw [z, upd_same] at hr
    cases hr
  rw [upd_ne e1] at hr
  have e2 : upd (upd H p (.dK [])) r (.lst []) p = some (.dK []) := by rw [upd_ne (fun z => e1 z.symm), upd_same]
  refine ⟨e2, [(Sum.inl 0, .ref r)], rfl, (by decide : 1 ≤ 15), k r p _ hr hp e1 (fun b o h => ?_) ?_ upd_same⟩
  · rw [upd_ne (ne_of_none h hp), upd_ne (ne_of_none h hr), upd_ne (ne_of_none h hp)]
    exact h
  · rw [upd_ne e1, upd_same]
section
variable {P : Program} {w : World} {K : PySem.W.Frag} {mg : Str → Option Value} {base : Heap} {C ea : Addr}
def spInit (C : Addr) : Sp := fun vs H Q _ => ∃ (B : Bk) (x dx : Addr) (H0 : Hp), vs = [.ref x, .ref B.b] ∧ B.Ok ∧ Same B.G H0 ∧ H0 x = none ∧ H0 dx = none ∧ dx ≠ x ∧ H = upd (upd H0 dx (.own x)) x (.ins C dx []) ∧
  ∀ H' A, A.p = x → (∀ b o, H0 b = some o → H' b = some o ∧ ¬ Foot false A b) → RdS false C B H' A st0 [] 1 → Q .non H'
theorem c_R_init (D : Defs K mg C) (T : Tx K mg C ea) : C8.Mak P w K mg base 1 "Reader" C (spInit C) [] := by
  refine D.d_R_init.mak sc_R_init (fun vs H Q E h => ?_) (fun f cdv A outer s H vs Q E hr h => ?_)
  · obtain ⟨B, x, dx, H0, rfl, _⟩ := h
    rfl
  obtain ⟨B, x, dx, H0, rfl, hB, s0, hx, hdx, hne, rfl, k⟩ := h
  refine ⟨_, (pss_cons (ps_fld (pv 0) (pv 1) rfl)
      (pss_cons (ps_fld (pv 0) (pe_tup pa_nil) rfl)
      (pss_cons (ps_fld (pv 0) (pe_lst (pa_cons (pe_lst pa_nil) pa_nil)) rfl)
      (pss_cons (ps_fld (pv 0) (pe_disp (pps_cons pe_int (pe_lst pa_nil) pps_nil) (by rfl) (by rfl) (fun z => by cases z) (by decide)) rfl)
      (pss_one (ps_fld (pv 0) (pe_lst pa_nil) rfl)))))), ?_⟩
  have sH : Same H0 (upd (upd H0 dx (.own x)) x (.ins C dx [])) := (sm_new hdx).trans (sm_new (by rw [upd_ne (fun z => hne z.symm)]; exact hx))
  have lx : upd (upd H0 dx (.own x)) x (.ins C dx []) x = some (.ins C dx []) := upd_same
  generalize upd (upd H0 dx (.own x)) x (.ins C dx []) = H at sH lx ⊢
  walk_at "go"
  refine w_sfldV lx T.cl T.nBook (by decide) fun H1 b1 l1 => ?_
  walk_at "go"
  refine w_mkT fun n H2 n2 s2 l2 => ?_
  walk_at "go"
  refine w_sfldV (s2 _ _ l1) T.cl T.nNames (by decide : 1 < 1000) fun H3 b3 l3 => ?_
  walk_at "go"
  refine w_mkL fun a H4 n4 s4 l4 => ?_
  walk_at "go"
  refine w_mkL fun h H5 n5 s5 l5 => ?_
  walk_at "go"
  refine w_sfldV (s5 _ _ (s4 _ _ l3)) T.cl T.nHeaps (by decide : 2 < 1000) fun H6 b6 l6 => ?_
  walk_at "go"
  refine w_disp0 fun r w H7 nr nw nrw s7 lr lw => ?_
  walk_at "go"
  refine w_sfldV (s7 _ _ l6) T.cl T.nWaiting (by decide : 3 < 1000) fun H8 b8 l8 => ?_
  walk_at "go"
  refine w_mkL fun m H9 nm s9 lm => ?_
  walk_at "go"
  refine w_sfldV (s9 _ _ l8) T.cl T.nMends (by decide : 4 < 1000) fun H10 b10 l10 => ?_
  walk_at "go"
  have k9 : But x H9 H10 := b10
  have k7 : But x H7 H10 := (b8.trans (.same s9)).trans k9
  have k6 : But x H6 H10 := (But.same s7).trans k7
  have k5 : But x H5 H10 := b6.trans k6
  have k4 : But x H4 H10 := (But.same s5).trans k5
  have k2 : But x H2 H10 := (b3.trans (.same s4)).trans k4
  have kH : But x H H10 := (b1.trans (.same s2)).trans k2
  have z0 : But x H0 H10 := (But.same sH).trans kH
  have s010 : Same H0 H10 := fun b o q => z0 b o (ne_of_none q hx) q
  -- what is free later was free
  have fz : ∀ {b : Addr} {Hi : Hp}, But x H0 Hi → Hi b = none → b ≠ x → H0 b = none := fun {b Hi} q1 q2 q3 => by
    cases e : H0 b with
    | none => rfl
    | some o =>
      rw [q1 b o q3 e] at q2
      cases q2
  have nx : ∀ {b : Addr} {Hi : Hp} {o : HO}, Hi b = none → Hi x = some o → b ≠ x := fun {b Hi o} q1 q2 z => by
    rw [z, q2] at q1
    cases q1
  have j1 : But x H0 H1 := (But.same sH).trans b1
  have j3 : But x H0 H3 := (j1.trans (.same s2)).trans b3
  have j4 : But x H0 H4 := j3.trans (.same s4)
  have j6 : But x H0 H6 := (j4.trans (.same s5)).trans b6
  have j8 : But x H0 H8 := (j6.trans (.same s7)).trans b8
  have nn : n ≠ x := nx n2 l1
  have na : a ≠ x := nx n4 l3
  have nh : h ≠ x := nx n5 (s4 _ _ l3)
  have nrx : r ≠ x := nx nr l6
  have nwx : w ≠ x := nx nw l6
  have nmx : m ≠ x := nx nm l8
  have zn : H0 n = none := fz j1 n2 nn
  have za : H0 a = none := fz j3 n4 na
  have zh : H0 h = none := fz j4 n5 nh
  have zr : H0 r = none := fz j6 nr nrx
  have zw : H0 w = none := fz j6 nw nwx
  have zm : H0 m = none := fz j8 nm nmx
  have fa : H10 a = some (.lst []) := k4 _ _ na l4
  have fh : H10 h = some (.lst [.ref a]) := k5 _ _ nh l5
  have fr : H10 r = some (.lst []) := k7 _ _ nrx lr
  have fw : H10 w = some (.dK [(Sum.inl 0, .ref r)]) := k7 _ _ nwx lw
  have fm : H10 m = some (.lst []) := k9 _ _ nmx lm
  have fn : H10 n = some (.tup []) := k2 _ _ nn l2
  -- later ones are not earlier ones
  have h4_6 : But x H4 H6 := (But.same s5).trans b6
  have h4_8 : But x H4 H8 := (h4_6.trans (.same s7)).trans b8
  have h5_6 : But x H5 H6 := b6
  have h5_8 : But x H5 H8 := (b6.trans (.same s7)).trans b8
  have h7_8 : But x H7 H8 := b8
  have dra : r ≠ a := fun z => by
    rw [z, h4_6 _ _ na l4] at nr
    cases nr
  have drh : r ≠ h := fun z => by
    rw [z, h5_6 _ _ nh l5] at nr
    cases nr
  have dma : m ≠ a := fun z => by
    rw [z, h4_8 _ _ na l4] at nm
    cases nm
  have dmh : m ≠ h := fun z => by
    rw [z, h5_8 _ _ nh l5] at nm
    cases nm
  have dmr : m ≠ r := fun z => by
    rw [z, h7_8 _ _ nrx lr] at nm
    cases nm
  have dha : h ≠ a := ne_of fh fa (by intro z; cases z)
  obtain ⟨A, hA⟩ : ∃ A : RdA, A = ⟨x, dx, n, h, w, m, [a], [r]⟩ := ⟨_, rfl⟩
  have hall : A.all false = [m, h, a, r] := by rw [hA] <;> rfl
  have hz : ∀ b, Foot false A b → H0 b = none := by
    rintro b (f | f | f)
    · rw [f, hA]
      exact hx
    · rw [f, hA]
      exact zw
    · rw [hall] at f
      rcases List.mem_cons.mp f with rfl | f
      · exact zm
      rcases List.mem_cons.mp f with rfl | f
      · exact zh
      rcases List.mem_cons.mp f with rfl | f
      · exact za
      rw [List.mem_singleton.mp f]
      exact zr
  refine k H10 A (by rw [hA]) (fun b o q => ⟨s010 b o q, fun f => by rw [hz b f] at q; cases q⟩) ?_
  have key : keys B.rows [] = [0] := by rw [keys]
  refine ⟨s0.trans s010, fun b f => s0.free (hz b f), by rw [hA]; exact l10, by rw [hA]; exact fn, by rw [hA]; exact ⟨fh, .one ⟨[], fa, .nil⟩⟩, ?_, by rw [hA]; exact ⟨[], fm, .nil⟩, ?_, by rw [hA]; exact fun z => nwx z.symm, ?_⟩
  · rw [hA]
    show WaitsAt H10 w [r] [[]] (keys B.rows []) 1
    rw [key]
    refine ⟨⟨_, fw, Nat.le_refl _, fun i j b hi hb => ?_⟩, rfl, .one fr⟩
    cases i with
    | zero =>
      cases hi
      cases hb
      rfl
    | succ i => cases hi
  · rw [hall]
    simp [dra, dma, dmh, dmr, dha, Ne.symm drh, Ne.symm dra]
  · exact ⟨fun q hq => by rw [List.mem_singleton.mp hq]; exact ⟨Nat.zero_le _, fun s hs => by cases hs⟩, fun q hq => by rw [List.mem_singleton.mp hq]; exact Nat.zero_le _, Nat.zero_le _⟩
/-! one piece -/
def spPiece (C : Addr) : Sp := fun vs H Q _ => ∃ (B : Bk) (A : RdA) (st : St) (ms : List Mend) (N : Nat) (cs : List Nat) (t : Tok3), vs = [.ref A.p, .str (kindS t.kind), .int (t.start : Nat), .int (t.stop : Nat), .str (tellOf cs t), .str (sOf (cut cs t.start t.stop))] ∧ B.Ok ∧ RdS false C B H A st ms N ∧ StOk B.rows st ∧ cs.length ≤ 3000 ∧ N ≤ 770000 ∧
  ∀ H' A', A'.p = A.p → Mod false A H A' H' → RdS false C B H' A' (stepTok B.rows B.rk cs st t).1 (stepTok B.rows B.rk cs st t).2 (N + cost t) → Q (.ref A'.m) H'
theorem c_R_piece (D : Defs K mg C) (T : Tx K mg C ea) : C8.Met P w K mg base 26 C "piece" (spPiece C) [] := by
  refine D.d_R_piece.met T.cl sc_R_piece (fun vs H Q E h => ?_) (fun f cdv A outer s H vs Q E hr h => ?_)
  · obtain ⟨B, A, st, ms, N, cs, t, rfl, _⟩ := h
    rfl
  obtain ⟨B, A, st, ms, N, cs, ⟨kd, a, b⟩, rfl, hB, R, O, hcs, hN, k⟩ := h
  have c_R_open_token : C8.Met P w K mg base 25 C "open_token" (spOpenTok C) [] := c_R_open_token D T
  have c_R_close_token : C8.Met P w K mg base 8 C "close_token" (spCloseTok C) [] := c_R_close_token D T
  have c_R_run_token : C8.Met P w K mg base 7 C "run_token" (spRunTok C) [] := c_R_run_token D T
  refine ⟨_, (pss_cons (ps_fld (pv 0) (pe_lst pa_nil) rfl)
      (Evl.pss_cut (ps_if (pt_cmpR op_eq (pv 1) pe_str (nomark _)) (pss_one (ps_expr (C8.pe_mt c_R_open_token hr (by decide) (pv 0) (pa_cons (pv 2) (pa_cons (pv 3) (pa_cons (pv 4) pa_nil)))))) (pss_one (ps_if (pt_cmpR op_eq (pv 1) pe_str (nomark _)) (pss_one (ps_expr (C8.pe_mt c_R_close_token hr (by decide) (pv 0) (pa_cons (pv 2) (pa_cons (pv 3) (pa_cons (pv 4) pa_nil)))))) (pss_one (ps_expr (C8.pe_mt c_R_run_token hr (by decide) (pv 0) (pa_cons (pv 2) (pa_cons (pv 3) (pa_cons (pv 4) (pa_cons (pv 5) pa_nil))))))))))
      (pss_one (ps_ret (pe_fld (pv 0) rfl))))), ?_⟩
  walk_at "go"
  refine w_mkL fun m H1 n1 s1 l1 => ?_
  walk_at "go"
  refine w_sfldV (RdAt.same R s1).ins T.cl T.nMends (rf_len _ _ _ _ _) fun H2 b2 l2 => ?_
  obtain ⟨R2, m2⟩ := RdAt.mnew (m := m) R n1 s1 l1 b2 l2
  have R2' : RdS false C B H2 (A.setM m) st [] N := R2
  walk_at "go"
  refine w_cut (M := fun σ H' => ∃ A', A'.p = A.p ∧ (∃ v1 v2 v3 v4 v5, σ = [some (.ref A.p), v1, v2, v3, v4, v5]) ∧ Mod false A H A' H' ∧ RdS false C B H' A' (stepTok B.rows B.rk cs st ⟨kd, a, b⟩).1 (stepTok B.rows B.rk cs st ⟨kd, a, b⟩).2 (N + cost ⟨kd, a, b⟩)) ?_ ?_
  · walk_at "go"
    cases kd with
    | opn =>
      rw [show decide (kindS Kind.opn = ("open" : Str)) = true from by decide]
      walk_at "go"
      refine ⟨_, _, _, rfl, R2'.ins, rfl, ?_⟩
      walk_at "go"
      refine ⟨B, A.setM m, st, [], N, a, b, _, rfl, hB, R2', O, by omega, fun H3 A3 e3 m3 R3 => ?_⟩
      refine ⟨A3, e3, ⟨_, _, _, _, _, rfl⟩, m2.trans m3, ?_⟩
      exact RdAt.more R3 (by unfold cost; omega)
    | cls =>
      rw [show decide (kindS Kind.cls = ("open" : Str)) = false from by decide]
      walk_at "go"
      rw [show decide (kindS Kind.cls = ("close" : Str)) = true from by decide]
      walk_at "go"
      refine ⟨_, _, _, rfl, R2'.ins, rfl, ?_⟩
      walk_at "go"
      refine ⟨B, A.setM m, st, [], N, a, b, _, rfl, hB, R2', O, by omega, fun H3 A3 e3 m3 R3 => ?_⟩
      refine ⟨A3, e3, ⟨_, _, _, _, _, rfl⟩, m2.trans m3, ?_⟩
      exact RdAt.more R3 (by unfold cost; omega)
    | run =>
      rw [show decide (kindS Kind.run = ("open" : Str)) = false from by decide]
      walk_at "go"
      rw [show decide (kindS Kind.run = ("close" : Str)) = false from by decide]
      walk_at "go"
      refine ⟨_, _, _, rfl, R2'.ins, rfl, ?_⟩
      walk_at "go"
      have hcl := cut_len cs a b
      have hcl2 := cut_len2 cs a b
      refine ⟨B, A.setM m, st, [], N, a, b, cut cs a b, rfl, hB, R2', O, by omega, by omega, fun H3 A3 e3 m3 R3 => ?_⟩
      refine ⟨A3, e3, ⟨_, _, _, _, _, rfl⟩, m2.trans m3, ?_⟩
      exact RdAt.more R3 (by unfold cost; dsimp only; omega)
  · rintro σ H3 ⟨A3, e3, ⟨_, _, _, _, _, rfl⟩, m3, R3⟩
    rw [← e3]
    walk_at "go"
    refine w_fM T R3 ?_
    exact k H3 A3 e3 m3 R3
def spFinish (C : Addr) : Sp := fun vs H Q _ => ∃ (B : Bk) (A : RdA) (st : St) (ms : List Mend) (N b : Nat), vs = [.ref A.p, .int (b : Nat)] ∧ B.Ok ∧ RdS false C B H A st ms N ∧ StOk B.rows st ∧ N ≤ 780000 ∧
  ∀ H' A', A'.p = A.p → Mod false A H A' H' → RdS false C B H' A' (closeTo B.rows b "end" 0 st).1 (closeTo B.rows b "end" 0 st).2 (N + 40) → Q (.ref A'.m) H'
theorem c_R_finish (D : Defs K mg C) (T : Tx K mg C ea) : C8.Met P w K mg base 6 C "finish" (spFinish C) [] := by
  refine D.d_R_finish.met T.cl sc_R_finish (fun vs H Q E h => ?_) (fun f cdv A outer s H vs Q E hr h => ?_)
  · obtain ⟨B, A, st, ms, N, b, rfl, _⟩ := h
    rfl
  obtain ⟨B, A, st, ms, N, b, rfl, hB, R, O, hN, k⟩ := h
  have c_R_put_closed : C8.Met P w K mg base 5 C "put_closed" (spPutClosed C) [] := c_R_put_closed D T
  refine ⟨_, (pss_cons (ps_fld (pv 0) (pe_lst pa_nil) rfl)
      (pss_cons (ps_expr (C8.pe_mt c_R_put_closed hr (by decide) (pv 0) (pa_cons (pv 1) (pa_cons pe_int (pa_cons pe_str pa_nil)))))
      (pss_one (ps_ret (pe_fld (pv 0) rfl))))), ?_⟩
  walk_at "go"
  refine w_mkL fun m H1 n1 s1 l1 => ?_
  walk_at "go"
  refine w_sfldV (RdAt.same R s1).ins T.cl T.nMends (rf_len _ _ _ _ _) fun H2 b2 l2 => ?_
  obtain ⟨R2, m2⟩ := RdAt.mnew (m := m) R n1 s1 l1 b2 l2
  have R2' : RdS false C B H2 (A.setM m) st [] N := R2
  walk_at "go"
  refine ⟨_, _, _, rfl, R2'.ins, rfl, ?_⟩
  walk_at "go"
  refine ⟨B, A.setM m, st, [], N, b, 0, "end", rfl, hB, R2', O, by omega, fun H3 A3 e3 m3 R3 => ?_⟩
  have e3' : A3.p = A.p := e3
  rw [← e3']
  walk_at "go"
  refine w_fM T R3 ?_
  exact k H3 A3 e3' (m2.trans m3) R3
def spWhole (C : Addr) : Sp := fun vs H Q _ => ∃ (B : Bk) (A : RdA) (rn : List Str) (top : List Tree) (rws : List (List Str)) (ks : List Nat) (ms : List Mend) (N : Nat), vs = [.ref A.p] ∧ RdAt false C B H A rn [top] rws ks ms N ∧
  ∀ H' p q us, Same H H' → H' p = some (.tup [.str "", .ref q]) → H' q = some (.tup us) → PartsV H' us top → Q (.ref p) H'
theorem c_R_whole (D : Defs K mg C) (T : Tx K mg C ea) : C8.Met P w K mg base 1 C "whole" (spWhole C) [] := by
  refine D.d_R_whole.met T.cl sc_R_whole (fun vs H Q E h => ?_) (fun f cdv A outer s H vs Q E hr h => ?_)
  · obtain ⟨B, A, rn, top, rws, ks, ms, N, rfl, _⟩ := h
    rfl
  obtain ⟨B, A, rn, top, rws, ks, ms, N, rfl, R, k⟩ := h
  refine ⟨_, (pss_one (ps_ret (pe_tup (pa_cons pe_str (pa_cons (pe_callTy call_tupQ (by rfl) T.b_tuple (by decide +kernel) (pa_cons (pe_ix ix_list (pe_fld (pv 0) rfl) pe_int (fun _ _ => rfl)) pa_nil)) pa_nil))))), ?_⟩
  obtain ⟨a, hs, ea, us, hu, hus⟩ := R.hd
  have e1 : hs = [] := by
    have := R.hpl.at_.len
    rw [ea] at this
    exact List.length_eq_zero_iff.mp (Nat.succ.inj this)
  have hl := R.hpl.l
  rw [ea, e1] at hl
  walk_at "go"
  refine w_fH T R ?_
  walk_at "go"
  refine w_ixL (SqL.of hl) rfl ?_
  walk_at "go"
  refine w_tupL (SqL.of hu) fun q H1 n1 s1 l1 => ?_
  walk_at "go"
  refine w_mkT fun p H2 n2 s2 l2 => ?_
  exact k H2 p q us (s1.trans s2) l2 (s2 _ _ l1) (PartsV.mono (tups_same (s1.trans s2)) _ _ hus)
end
end Tg

namespace Tg
open PySem PySem.Spec PyProof.Rows L2
section
variable {P : Program} {w : World} {K : PySem.W.Frag} {mg : Str → Option Value} {base : Heap} {C ea : Addr}
theorem w_make {σ : L2.St} {H : Hp} {Q : VK} {sp : Sp} {E : XK} {t : TA} (k : t σ H fun vs H1 => ∀ x dx, H1 x = none → H1 dx = none → dx ≠ x → sp (.ref x :: (vs ++ [])) (upd (upd H1 dx (.own x)) x (.ins C dx [])) (fun v H2 => v = .non ∧ Q (.ref x) H2) E) : tMake C sp [] E t σ H Q := k
def spReadText : Sp := fun vs H Q _ => ∃ (B : Bk) (cs : List Nat), vs = [.ref B.b, .str (sOf cs)] ∧ B.Ok ∧ Same B.G H ∧ cs.length ≤ 2000 ∧ (∀ c ∈ cs, c < 128) ∧
  ∀ H' p t q, Same H H' → H q = none → H' p = some (.tup [.ref t, .ref q]) → PartV H' (.ref t) (.node "" (readAll B.rows B.rk cs).1) → MendsAt H' q (readAll B.rows B.rk cs).2 → Q (.ref p) H'
theorem steps_all {rows : List Row} {rk : Str → Nat} {cs : List Nat} : (readAll rows rk cs) = ((closeTo rows cs.length "end" 0 (steps rows rk cs (toks cs 0 0) st0).1).1.top, (steps rows rk cs (toks cs 0 0) st0).2 ++ (closeTo rows cs.length "end" 0 (steps rows rk cs (toks cs 0 0) st0).1).2) := rfl
theorem c_read_text (D : Defs K mg C) (T : Tx K mg C ea) : C8.Cal P w K mg base 27 "read_text" spReadText [] := by
  refine D.d_read_text.cal sc_read_text (fun vs H Q E h => ?_) (fun f cdv A outer s H vs Q E hr h => ?_)
  · obtain ⟨B, cs, rfl, _⟩ := h
    rfl
  obtain ⟨B, cs, rfl, hB, s0, hcs, hsm, k⟩ := h
  have c_tokens_of : C8.Cal P w K mg base 3 "tokens_of" spTokensOf [] := c_tokens_of D T
  have c_R_init : C8.Mak P w K mg base 1 "Reader" C (spInit C) [] := c_R_init D T
  have c_R_piece : C8.Met P w K mg base 26 C "piece" (spPiece C) [] := c_R_piece D T
  have c_R_finish : C8.Met P w K mg base 6 C "finish" (spFinish C) [] := c_R_finish D T
  have c_R_whole : C8.Met P w K mg base 1 C "whole" (spWhole C) [] := c_R_whole D T
  refine ⟨_, (pss_cons (ps_set (i := 2) sc_read_text.nd rfl (Or.inl rfl) (C8.pe_mk c_R_init hr (by decide) rfl (pa_cons (pv 0) pa_nil)))
      (pss_cons (ps_set (i := 3) sc_read_text.nd rfl (Or.inl rfl) (pe_lst pa_nil))
      (pss_cons (ps_for PassesOwn.never rfl (pi_list (C8.pe_c c_tokens_of hr (by decide) rfl (pa_cons (pv 1) pa_nil))) (pg_tup rfl (pgs_cons (pg_name (i := 4) sc_read_text.nd rfl (Or.inl rfl)) (pgs_cons (pg_name (i := 5) sc_read_text.nd rfl (Or.inl rfl)) (pgs_cons (pg_name (i := 6) sc_read_text.nd rfl (Or.inl rfl)) (pgs_cons (pg_name (i := 7) sc_read_text.nd rfl (Or.inl rfl)) pgs_nil))))) (pss_one (ps_expr (pe_bm PySem.F.plainAttrs_list PySem.F.slot_list_extend PySem.F.type_list_extend mt_extend (pv 3) (pa_cons (C8.pe_mt c_R_piece hr (by decide) (pv 2) (pa_cons (pv 4) (pa_cons (pv 5) (pa_cons (pv 6) (pa_cons (pv 7) (pa_cons (pe_slice sl_str (pv 1) (po_some (pv 5)) (po_some (pv 6))) pa_nil)))))) pa_nil)))))
      (pss_cons (ps_expr (pe_bm PySem.F.plainAttrs_list PySem.F.slot_list_extend PySem.F.type_list_extend mt_extend (pv 3) (pa_cons (C8.pe_mt c_R_finish hr (by decide) (pv 2) (pa_cons (pe_callB call_lenS (by rfl) T.b_len PySem.boot_len (pa_cons (pv 1) pa_nil)) pa_nil)) pa_nil)))
      (pss_one (ps_ret (pe_tup (pa_cons (C8.pe_mt0 c_R_whole hr (by decide) (pv 2)) (pa_cons (pv 3) pa_nil))))))))), ?_⟩
  have hzl : (sOf cs).length = cs.length := sOf_len cs
  have hzs : (sOf cs).length ≤ sizeLine := by
    rw [hzl]
    exact szM (by omega)
  have hcost : ((toks cs 0 0).map cost).sum ≤ 404000 := by
    have := toks_cost cs cs.length 0 0 (by omega) (by omega) (by omega)
    omega
  walk_at "go"
  refine w_make ?_
  walk_at "go"
  intro x dx hx hdx hne
  refine ⟨B, x, dx, H, rfl, hB, s0, hx, hdx, hne, rfl, fun H1 A e1 m1 R1 => ⟨rfl, ?_⟩⟩
  have s1 : Same H H1 := fun b o q => (m1 b o q).1
  subst e1
  walk_at "go"
  refine w_mkL fun l H2 n2 s2 l2 => ?_
  walk_at "go"
  have fl0 : ¬ Foot false A l := R1.not_free n2
  have zl : H l = none := none_back s1 n2
  have R2 := RdAt.same R1 s2
  have s02 := s1.trans s2
  have out2 : ∀ b o, H b = some o → ¬ Foot false A b := fun b o q => (m1 b o q).2
  refine ⟨sOf cs, rfl, by rw [hzl]; omega, fun H3 p3 ts n3 s3 l3 hts => ?_⟩
  rw [sOf_toList] at hts
  have R3 := RdAt.same R2 s3
  have fp3 : ¬ Foot false A p3 := R2.not_free n3
  have np3 : p3 ≠ l := fun z => by
    rw [z, l2] at n3
    cases n3
  have s03 := s02.trans s3
  have l3' := s3 _ _ l2
  refine w_forL (SqL.of l3) (fun i σ H' => ∃ A' us, A'.p = A.p ∧ (∃ v1 v2 v3 v4, σ = [some (.ref B.b), some (.str (sOf cs)), some (.ref A.p), some (.ref l), v1, v2, v3, v4]) ∧ Same H H' ∧ (∀ b o, H b = some o → ¬ Foot false A' b) ∧ H' p3 = some (.lst ts) ∧ ¬ Foot false A' p3 ∧ Tups H3 H' ∧
      H' l = some (.lst us) ∧ ¬ Foot false A' l ∧ All2 (MendAt H') us (steps B.rows B.rk cs ((toks cs 0 0).take i) st0).2 ∧ ∃ ms, RdS false C B H' A' (steps B.rows B.rk cs ((toks cs 0 0).take i) st0).1 ms (1 + (((toks cs 0 0).take i).map cost).sum))
    ⟨A, [], rfl, ⟨_, _, _, _, rfl⟩, s03, out2, l3, fp3, Tups.refl H3, l3', fl0, .nil, [], R3⟩ ?_ ?_ ?_
  · rintro i σ H' hi ⟨A', us, e', _, s', o', lp, _⟩
    exact SqL.of lp
  · rintro i v σ H' hv ⟨A', us, e', ⟨v1, v2, v3, v4, rfl⟩, s', o', lp, fp, tu, ll, fl, hus, ms, R'⟩
    obtain ⟨t, ht, pt, rfl, hpt⟩ := hts.get hv
    have hcs2 : (((toks cs 0 0).take (i + 1)).map cost).sum = (((toks cs 0 0).take i).map cost).sum + cost t := by
      rw [take_snoc ht, cost_app]
      rfl
    have hle : (((toks cs 0 0).take (i + 1)).map cost).sum ≤ ((toks cs 0 0).map cost).sum := by
      rw [← List.take_append_drop (i + 1) (toks cs 0 0), cost_app, List.take_append_drop]
      exact Nat.le_add_right _ _
    obtain ⟨O', hul⟩ := steps_ok hB.good hsm (ts := (toks cs 0 0).take i) st0_ok
    have hul2 := hus.len
    rw [← e']
    walk_at "go"
    refine w_gT (SqT.of (tu _ _ hpt)) rfl ?_
    walk_at "go"
    refine w_tyL ll ?_
    walk_at "go"
    refine ⟨_, _, _, rfl, R'.ins, rfl, ?_⟩
    walk_at "go"
    refine w_slS hzs ?_
    rw [cutS_nat, sOf_toList]
    walk_at "go"
    refine ⟨B, A', _, ms, _, cs, t, rfl, hB, R', O', by omega, by omega, fun H5 A5 e5 m5 R5 => ?_⟩
    obtain ⟨l5, fl5⟩ := m5 _ _ fl ll
    obtain ⟨lp5, fp5⟩ := m5 _ _ fp lp
    have tu5 : Tups H' H5 := RdAt.tups R' m5
    obtain ⟨us5, hm5, hms5⟩ := R5.mds.ex
    have hb5 := R5.bd.md
    have hl5 := hms5.len
    walk_at "go"
    refine w_ext l5 hm5 (szM (by omega)) fun H6 b6 l6 => ?_
    have R6 := RdAt.out R5 fl5 l5 (by
      cases e : B.G l with
      | none => rfl
      | some o =>
        rw [s0 _ _ e] at zl
        cases zl) b6
    have tu6 : Tups H5 H6 := tups_but l5 rfl b6
    refine ⟨A5, us ++ us5, e5, ⟨_, _, _, _, rfl⟩, fun b o q => b6 b o (fun z => by rw [z, zl] at q; cases q) (m5 b o (o' b o q) (s' b o q)).1, fun b o q => (m5 b o (o' b o q) (s' b o q)).2, b6 _ _ np3 lp5, fp5, (tu.trans tu5).trans tu6, l6, fl5, ?_, ?_⟩
    · rw [take_snoc ht, steps_snoc]
      exact (hus.mono (mend_mono (tu5.trans tu6))).app (hms5.mono (mend_mono tu6))
    · refine ⟨(stepTok B.rows B.rk cs (steps B.rows B.rk cs ((toks cs 0 0).take i) st0).1 t).2, ?_⟩
      rw [hcs2, take_snoc ht, steps_snoc, ← Nat.add_assoc]
      exact R6
  · rintro σ H4 ⟨A4, us, e4, ⟨v1, v2, v3, v4, rfl⟩, s4, o4, lp, fp, tu, ll, fl, hus, ms, R4⟩
    rw [hts.len, List.take_length] at hus R4
    obtain ⟨O4, hul⟩ := steps_ok hB.good hsm (ts := toks cs 0 0) st0_ok
    have hul2 := hus.len
    rw [← e4]
    walk_at "go"
    refine w_tyL ll ?_
    walk_at "go"
    refine ⟨_, _, _, rfl, R4.ins, rfl, ?_⟩
    walk_at "go"
    refine w_lenS hzs ?_
    rw [hzl]
    walk_at "go"
    refine ⟨B, A4, _, ms, _, cs.length, rfl, hB, R4, O4, by omega, fun H5 A5 e5 m5 R5 => ?_⟩
    obtain ⟨l5, fl5⟩ := m5 _ _ fl ll
    have tu5 : Tups H4 H5 := RdAt.tups R4 m5
    obtain ⟨us5, hm5, hms5⟩ := R5.mds.ex
    have hb5 := R5.bd.md
    have hl5 := hms5.len
    rw [← e5]
    walk_at "go"
    refine w_ext l5 hm5 (szM (by omega)) fun H6 b6 l6 => ?_
    have R6 := RdAt.out R5 fl5 l5 (by
      cases e : B.G l with
      | none => rfl
      | some o =>
        rw [s0 _ _ e] at zl
        cases zl) b6
    have tu6 : Tups H5 H6 := tups_but l5 rfl b6
    have s6 : Same H H6 := fun b o q => b6 b o (fun z => by rw [z, zl] at q; cases q) (m5 b o (o4 b o q) (s4 b o q)).1
    obtain ⟨O5, ern, _⟩ := close_ok hB.good cs.length "end" 0 _ (steps B.rows B.rk cs (toks cs 0 0) st0).1 rfl O4
    rw [Nat.sub_zero, List.drop_length] at ern
    have eout : (closeTo B.rows cs.length "end" 0 (steps B.rows B.rk cs (toks cs 0 0) st0).1).1.outer = [] := by
      have := O5.outl
      rw [ern] at this
      exact List.length_eq_zero_iff.mp this
    rw [eout] at R6
    walk_at "go"
    refine ⟨_, _, _, rfl, R6.ins, rfl, ?_⟩
    walk_at "go"
    refine ⟨B, A5, _, _, _, _, _, _, rfl, R6, fun H7 p q us7 s7 hp hq hps => ?_⟩
    walk_at "go"
    refine w_mkT fun p8 H8 n8 s8 l8 => ?_
    walk_at "go"
    refine k H8 p8 p l ((s6.trans s7).trans s8) zl l8 ?_ ?_
    · exact .node (s8 _ _ hp) (s8 _ _ hq) (PartsV.mono (tups_same s8) _ _ hps)
    · refine ⟨us ++ us5, s8 _ _ (s7 _ _ l6), ?_⟩
      rw [steps_all]
      exact (hus.mono (mend_mono ((tu5.trans tu6).trans (tups_same (s7.trans s8))))).app (hms5.mono (mend_mono (tu6.trans (tups_same (s7.trans s8)))))
end
end Tg

namespace Tg
open PySem PySem.Spec PyProof.Rows L2
theorem near_all {rows : List Row} (rn : List Str) : (near rows rn).length + wallKey rows rn = rn.length := by
  have h := congrArg List.length (near_drop (rows := rows) rn)
  have h2 := wallKey_le (rows := rows) rn
  rw [List.length_drop, List.length_reverse] at h
  omega
theorem near_at {rows : List Row} {rn : List Str} (j : Nat) : rn.reverse[wallKey rows rn + j]? = (near rows rn)[j]? := by
  rw [← near_drop, List.getElem?_drop]
/-- "" for none -/
@[reducible] def so : Option Str → Str
  | none => ""
  | some s => s
theorem frame_ne {rows : List Row} {rk : Str → Nat} (g : Good rows rk) {x f : Str} (h : frameOf rows x = some f) : f ≠ "" := by
  obtain ⟨r, hr, hn, _⟩ := frame_some h
  rw [← hn]
  exact (g.nm r hr).1
section
variable {P : Program} {w : World} {K : PySem.W.Frag} {mg : Str → Option Value} {base : Heap} {C ea : Addr}
theorem c_l_row (D : Defs K mg C) (T : Tx K mg C ea) : C8.Cal P w K mg base 1 "_law_row" spRowWith [] := by
  refine D.d_l_row.cal sc_l_row (fun vs H Q E h => ?_) (fun f cdv A outer s H vs Q E hr h => ?_)
  · obtain ⟨B, x, rfl, _⟩ := h
    rfl
  obtain ⟨B, x, rfl, hB, s0, k1, k2⟩ := h
  refine ⟨_, (pss_cons (ps_for PassesOwn.never rfl (pi_tup (pv 0)) (pg_name (i := 2) sc_l_row.nd rfl (Or.inl rfl)) (pss_one (ps_if (pt_cmpR op_eq (pe_ix ix_tup (pv 2) pe_int (fun _ _ => rfl)) (pv 1) (nomark _)) (pss_one (ps_ret (pv 2))) pss_nil)))
      (pss_one (ps_ret pe_non))), ?_⟩
  obtain ⟨ps, hb, hl, hrow⟩ := hB.at_
  walk_at "go"
  refine w_forT (SqT.of (s0 _ _ hb)) (fun i σ H' => H' = H ∧ (∃ v, σ = [some (.ref B.b), some (.str x), v]) ∧ (B.rows.take i).find? (fun r => decide (r.name = x)) = none) ⟨rfl, ⟨_, rfl⟩, rfl⟩ (fun i σ H' _ h => by rw [h.1]; exact SqT.of (s0 _ _ hb)) ?_ ?_
  · rintro i y σ H' hi ⟨rfl, ⟨v, rfl⟩, hf⟩
    obtain ⟨p, hp, rfl⟩ := map_get hi
    obtain ⟨r, hr2⟩ := get_of_len hl hp
    obtain ⟨q1, q2, h1, h2, h3⟩ := hrow i p r hp hr2
    walk_at "go"
    refine w_ixT (SqT.of (s0 _ _ h1)) (by exact rfl) ?_
    walk_at "go"
    refine w_2 (fun e => ?_) (fun e => ?_)
    · walk_at "go"
      exact k2 r p ((find_take hf hr2).1 e) ⟨q1, q2, h1, h2, h3⟩
    · walk_at "go"
      exact ⟨rfl, ⟨_, rfl⟩, (find_take hf hr2).2 e⟩
  · rintro σ H' ⟨rfl, ⟨v, rfl⟩, hf⟩
    rw [List.length_map, hl] at hf
    walk_at "go"
    exact k1 (find_all hf)
def spLFrame : Sp := fun vs H Q _ => ∃ (B : Bk) (x : Str), vs = [.ref B.b, .str x] ∧ B.Ok ∧ Same B.G H ∧ Q (.str (so (frameOf B.rows x))) H
theorem c_l_frame (D : Defs K mg C) (T : Tx K mg C ea) : C8.Cal P w K mg base 1 "_law_frame" spLFrame [] := by
  refine D.d_l_frame.cal sc_l_frame (fun vs H Q E h => ?_) (fun f cdv A outer s H vs Q E hr h => ?_)
  · obtain ⟨B, x, rfl, _⟩ := h
    rfl
  obtain ⟨B, x, rfl, hB, s0, k⟩ := h
  refine ⟨_, (pss_cons (ps_for PassesOwn.never rfl (pi_tup (pv 0)) (pg_name (i := 2) sc_l_frame.nd rfl (Or.inl rfl)) (pss_one (ps_if (PW.pt (pw_and (pt_cmpR op_eq (pe_ix ix_tup (pv 2) pe_int (fun _ _ => rfl)) (pv 1) (nomark _)) (pw_and1 (pt_cmpR op_ne (pv 1) pe_str (nomark _))))) (pss_one (ps_ret (pe_ix ix_tup (pv 2) pe_int (fun _ _ => rfl)))) pss_nil)))
      (pss_one (ps_ret pe_str))), ?_⟩
  obtain ⟨ps, hb, hl, hrow⟩ := hB.at_
  walk_at "go"
  refine w_forT (SqT.of (s0 _ _ hb)) (fun i σ H' => H' = H ∧ (∃ v, σ = [some (.ref B.b), some (.str x), v]) ∧ (B.rows.take i).find? (fun r => decide (hostOf B.rows r.name = some x)) = none) ⟨rfl, ⟨_, rfl⟩, rfl⟩ (fun i σ H' _ h => by rw [h.1]; exact SqT.of (s0 _ _ hb)) ?_ ?_
  · rintro i y σ H' hi ⟨rfl, ⟨v, rfl⟩, hf⟩
    obtain ⟨p, hp, rfl⟩ := map_get hi
    obtain ⟨r, hr2⟩ := get_of_len hl hp
    obtain ⟨q1, q2, h1, h2, h3⟩ := hrow i p r hp hr2
    have hrm := List.mem_of_getElem? hr2
    have hh := host_row hB.good hrm x
    walk_at "go"
    refine w_ixT (SqT.of (s0 _ _ h1)) (by exact rfl) ?_
    walk_at "go"
    refine w_2 (fun e => ?_) (fun e => ?_)
    · walk_at "go"
      refine w_2 (fun e2 => ?_) (fun e2 => ?_)
      · walk_at "go"
        refine w_ixT (SqT.of (s0 _ _ h1)) (by exact rfl) ?_
        have hx : hostOf B.rows r.name = some x := hh.mpr ⟨of_decide_eq_true e, by simpa using e2⟩
        have e3 : frameOf B.rows x = some r.name := by
          unfold frameOf
          rw [(find_take hf hr2).1 (decide_eq_true hx)] <;> rfl
        rw [e3] at k
        exact k
      · walk_at "go"
        exact ⟨rfl, ⟨_, rfl⟩, (find_take hf hr2).2 (decide_eq_false fun z => (hh.mp z).2 (by simpa using e2))⟩
    · walk_at "go"
      exact ⟨rfl, ⟨_, rfl⟩, (find_take hf hr2).2 (decide_eq_false fun z => of_decide_eq_false e (hh.mp z).1)⟩
  · rintro σ H' ⟨rfl, ⟨v, rfl⟩, hf⟩
    rw [List.length_map, hl] at hf
    walk_at "go"
    have e3 : frameOf B.rows x = none := by
      unfold frameOf
      rw [find_all hf] <;> rfl
    rw [e3] at k
    exact k
theorem c_l_fence (D : Defs K mg C) (T : Tx K mg C ea) : C8.Cal P w K mg base 2 "_law_fence" spWall [] := by
  refine D.d_l_fence.cal sc_l_fence (fun vs H Q E h => ?_) (fun f cdv A outer s H vs Q E hr h => ?_)
  · obtain ⟨B, x, rfl, _⟩ := h
    rfl
  obtain ⟨B, x, rfl, hB, s0, k⟩ := h
  have c_l_row : C8.Cal P w K mg base 1 "_law_row" spRowWith [] := c_l_row D T
  refine ⟨_, (pss_cons (ps_set (i := 2) sc_l_fence.nd rfl (Or.inl rfl) (C8.pe_c c_l_row hr (by decide) rfl (pa_cons (pv 0) (pa_cons (pv 1) pa_nil))))
      (pss_one (ps_ret (pe_and (pe_cmpR op_notN1 (pv 2) pe_non (nomark _)) (pe_one (pe_cmpR op_in_seq (pe_ix ix_tup (pv 2) pe_int (fun _ _ => rfl)) (pe_tup (pa_cons pe_str (pa_cons pe_str pa_nil))) (by rfl))))))), ?_⟩
  walk_at "go"
  refine ⟨B, x, rfl, hB, s0, fun h => ?_, fun r p h hR => ?_⟩
  · have e : wall B.rows x = false := by
      unfold wall sortOf
      rw [h] <;> rfl
    walk_at "go"
    rw [← e]
    exact k H (Same.refl H)
  · obtain ⟨q1, q2, h1, h2, h3⟩ := hR
    have e : wall B.rows x = decide (r.sort ∈ (["room", "frame"] : List Str)) := by
      unfold wall sortOf
      rw [h] <;> rfl
    walk_at "go"
    refine w_ixT (SqT.of (s0 _ _ h1)) (by exact rfl) ?_
    walk_at "go"
    refine w_mkT fun p3 H3 n3 s3 t3 => ?_
    refine w_inSs (ys := ["room", "frame"]) (Or.inr (SqT.of t3)) ?_
    rw [← e]
    exact k H3 s3
theorem c_l_belongs (D : Defs K mg C) (T : Tx K mg C ea) : C8.Cal P w K mg base 2 "_law_belongs" spBelongs [] := by
  refine D.d_l_belongs.cal sc_l_belongs (fun vs H Q E h => ?_) (fun f cdv A outer s H vs Q E hr h => ?_)
  · obtain ⟨B, x, f, rfl, _⟩ := h
    rfl
  obtain ⟨B, x, fr, rfl, hB, s0, k⟩ := h
  have c_l_frame : C8.Cal P w K mg base 1 "_law_frame" spLFrame [] := c_l_frame D T
  refine ⟨_, (pss_cons (ps_set (i := 3) sc_l_belongs.nd rfl (Or.inl rfl) (C8.pe_c c_l_frame hr (by decide) rfl (pa_cons (pv 0) (pa_cons (pv 1) pa_nil))))
      (pss_cons (ps_while PassesOwn.never (pt_cmpR op_ne (pv 3) pe_str (nomark _)) (pss_cons (ps_if (pt_cmpR op_eq (pv 3) (pv 2) (nomark _)) (pss_one (ps_ret pe_bl)) pss_nil)
      (pss_one (ps_set (i := 3) sc_l_belongs.nd rfl (Or.inl rfl) (C8.pe_c c_l_frame hr (by decide) rfl (pa_cons (pv 0) (pa_cons (pv 3) pa_nil)))))))
      (pss_one (ps_ret pe_bl)))), ?_⟩
  walk_at "go"
  refine ⟨B, x, rfl, hB, s0, ?_⟩
  rw [belongs_eq hB.good] at k
  refine w_seq (w_while (fun m σ H' => H' = H ∧ ∃ o : Option Str, σ = [some (.ref B.b), some (.str x), some (.str fr), some (.str (so o))] ∧ (∀ g, o = some g → g ≠ "") ∧ m = (match o with | none => 0 | some g => B.rk g + 1) ∧ beOf B.rows B.rk (frameOf B.rows x) fr = beOf B.rows B.rk o fr) _ ⟨rfl, frameOf B.rows x, rfl, fun g hg => frame_ne hB.good hg, rfl, rfl⟩ ?_)
  rintro m σ H' ⟨rfl, o, rfl, hne, hm, ho⟩
  walk_at "go"
  cases o with
  | none =>
    rw [show (!decide (so none = ("" : Str))) = false from by decide]
    walk_at "go"
    rw [ho] at k
    exact k
  | some g =>
    have hg := hne g rfl
    have hm' : m = B.rk g + 1 := hm
    rw [show (!decide (so (some g) = ("" : Str))) = true from by rw [decide_eq_false hg] <;> rfl]
    walk_at "go"
    refine w_N ?_
    walk_at "go"
    refine w_2 (fun e => ?_) (fun e => ?_)
    · walk_at "go"
      have e2 : g = fr := of_decide_eq_true e
      have : beOf B.rows B.rk (some g) fr = true := if_pos e2
      rw [ho, this] at k
      exact k
    · walk_at "go"
      have e2 : ¬ g = fr := of_decide_eq_false e
      refine ⟨B, g, rfl, hB, s0, ?_⟩
      have h1 : beOf B.rows B.rk (some g) fr = beOf B.rows B.rk (frameOf B.rows g) fr := by
        rw [← belongs_eq hB.good]
        exact if_neg e2
      refine ⟨_, ?_, rfl, frameOf B.rows g, rfl, fun g2 hg2 => frame_ne hB.good hg2, rfl, by rw [ho, h1]⟩
      rw [hm']
      cases e3 : frameOf B.rows g with
      | none => exact Nat.succ_pos _
      | some g2 => exact Nat.succ_lt_succ (frame_rk hB.good e3)
def spLNear : Sp := fun vs H Q _ => ∃ (B : Bk) (n : Addr) (rn : List Str), vs = [.ref B.b, .ref n] ∧ B.Ok ∧ Same B.G H ∧ H n = some (.lst (rn.reverse.map V.str)) ∧ rn.length ≤ 1000 ∧ ∀ H' p, H p = none → Same H H' → H' p = some (.lst ((near B.rows rn).map V.str)) → Q (.ref p) H'
theorem c_l_near (D : Defs K mg C) (T : Tx K mg C ea) : C8.Cal P w K mg base 3 "_law_near" spLNear [] := by
  refine D.d_l_near.cal sc_l_near (fun vs H Q E h => ?_) (fun f cdv A outer s H vs Q E hr h => ?_)
  · obtain ⟨B, n, rn, rfl, _⟩ := h
    rfl
  obtain ⟨B, n, rn, rfl, hB, s0, hn, hlen, k⟩ := h
  have c_l_fence : C8.Cal P w K mg base 2 "_law_fence" spWall [] := c_l_fence D T
  refine ⟨_, (pss_cons (ps_set (i := 2) sc_l_near.nd rfl (Or.inl rfl) (pe_lst pa_nil))
      (pss_cons (ps_for PassesOwn.never rfl (pi_list (pv 1)) (pg_name (i := 3) sc_l_near.nd rfl (Or.inl rfl)) (pss_cons (ps_expr (pe_bm PySem.F.plainAttrs_list PySem.F.slot_list_append PySem.F.type_list_append mt_append (pv 2) (pa_cons (pv 3) pa_nil)))
      (pss_one (ps_if (pt_val (C8.pe_c c_l_fence hr (by decide) rfl (pa_cons (pv 0) (pa_cons (pv 3) pa_nil)))) (pss_one (ps_set (i := 2) sc_l_near.nd rfl (Or.inl rfl) (pe_lst pa_nil))) pss_nil))))
      (pss_one (ps_ret (pv 2))))), ?_⟩
  walk_at "go"
  refine w_mkL fun l H1 n1 s1 l1 => ?_
  walk_at "go"
  refine w_forL (SqL.of (s1 _ _ hn)) (fun i σ H' => ∃ (l : Addr) (v : Option V), σ = [some (.ref B.b), some (.ref n), some (.ref l), v] ∧ Same H H' ∧ H l = none ∧ H' l = some (.lst ((near B.rows (rn.reverse.take i).reverse).map V.str)))
    ⟨l, _, rfl, s1, n1, l1⟩ (fun i σ H' _ h => by obtain ⟨_, _, _, z, _⟩ := h; exact SqL.of (z _ _ hn)) ?_ ?_
  · rintro i y σ H' hi ⟨l2, v, rfl, s2, n2, h2⟩
    obtain ⟨x, hx, rfl⟩ := map_get hi
    have hnl := near_len (rows := B.rows) (rn.reverse.take i).reverse
    rw [List.length_reverse, List.length_take, List.length_reverse] at hnl
    walk_at "go"
    refine w_tyL h2 ?_
    walk_at "go"
    refine w_app h2 (szM' (by rw [List.length_map]; omega)) fun H3 b3 l3 => ?_
    have s3 : Same H H3 := sm_but s2 n2 b3
    walk_at "go"
    refine ⟨B, x, rfl, hB, s0.trans s3, fun H4 s4 => ?_⟩
    walk_at "go"
    have e1 : near B.rows (rn.reverse.take (i + 1)).reverse = if wall B.rows x = true then [] else near B.rows (rn.reverse.take i).reverse ++ [x] := by
      rw [take_rev_succ hx, near_snoc]
    refine w_2 (fun e => ?_) (fun e => ?_)
    · rw [if_pos e] at e1
      walk_at "go"
      refine w_mkL fun l5 H5 n5 s5 l5' => ?_
      walk_at "go"
      exact ⟨l5, _, rfl, s3.trans (s4.trans s5), none_back (s3.trans s4) n5, by rw [e1]; exact l5'⟩
    · rw [if_neg (by rw [e]; decide)] at e1
      walk_at "go"
      refine ⟨l2, _, rfl, s3.trans s4, n2, ?_⟩
      rw [e1, List.map_append]
      exact s4 _ _ l3
  · rintro σ H' ⟨l2, v, rfl, s2, n2, h2⟩
    rw [List.length_map, List.length_reverse, List.take_of_length_le (by rw [List.length_reverse]; exact Nat.le_refl _), List.reverse_reverse] at h2
    walk_at "go"
    exact k _ _ n2 s2 h2
def spLLast : Sp := fun vs H Q _ => ∃ (B : Bk) (n : Addr) (rn : List Str) (x : Str), vs = [.ref B.b, .ref n, .str x] ∧ B.Ok ∧ Same B.G H ∧ H n = some (.lst (rn.reverse.map V.str)) ∧ rn.length ≤ 1000 ∧ ∀ H', Same H H' → Q (oi (lastOne B.rows B.rk x rn)) H'
theorem c_l_last (D : Defs K mg C) (T : Tx K mg C ea) : C8.Cal P w K mg base 3 "_law_last" spLLast [] := by
  refine D.d_l_last.cal sc_l_last (fun vs H Q E h => ?_) (fun f cdv A outer s H vs Q E hr h => ?_)
  · obtain ⟨B, n, rn, x, rfl, _⟩ := h
    rfl
  obtain ⟨B, n, rn, x, rfl, hB, s0, hn, hlen, k⟩ := h
  have c_l_fence : C8.Cal P w K mg base 2 "_law_fence" spWall [] := c_l_fence D T
  have c_l_belongs : C8.Cal P w K mg base 2 "_law_belongs" spBelongs [] := c_l_belongs D T
  refine ⟨_, (pss_cons (ps_for PassesOwn.never rfl (pi_revR (by rfl) T.b_reversed (prg_1 (by rfl) T.b_range (pe_callB call_lenQ (by rfl) T.b_len PySem.boot_len (pa_cons (pv 1) pa_nil)))) (pg_name (i := 3) sc_l_last.nd rfl (Or.inl rfl)) (pss_cons (ps_if (pt_cmpR op_eq (pe_ix ix_list (pv 1) (pv 3) (fun _ _ => rfl)) (pv 2) (nomark _)) (pss_one (ps_ret (pv 3))) pss_nil)
      (pss_one (ps_if (PW.pt (pw_and (pt_val (C8.pe_c c_l_fence hr (by decide) rfl (pa_cons (pv 0) (pa_cons (pe_ix ix_list (pv 1) (pv 3) (fun _ _ => rfl)) pa_nil)))) (pw_and1 (pt_not (pt_val (C8.pe_c c_l_belongs hr (by decide) rfl (pa_cons (pv 0) (pa_cons (pe_ix ix_list (pv 1) (pv 3) (fun _ _ => rfl)) (pa_cons (pv 2) pa_nil))))))))) (pss_one (ps_ret pe_non)) pss_nil))))
      (pss_one (ps_ret pe_non))), ?_⟩
  walk_at "go"
  refine w_lenL (SqL.of hn) ?_
  rw [List.length_map, List.length_reverse]
  refine w_forV (by omega) (fun i σ H' => (∃ v, σ = [some (.ref B.b), some (.ref n), some (.str x), v]) ∧ Same H H' ∧ lastOne B.rows B.rk x rn = lastOne B.rows B.rk x (rn.drop i)) ⟨⟨_, rfl⟩, Same.refl H, rfl⟩ ?_ ?_
  · rintro i σ H' hi ⟨⟨v, rfl⟩, s1, ho⟩
    obtain ⟨y, hy⟩ := get_lt hi
    have hy2 : rn.reverse[rn.length - 1 - i]? = some y := by rw [rev_get hi]; exact hy
    rw [lastOne_drop hy] at ho
    walk_at "go"
    refine w_ixL (SqL.of (s1 _ _ hn)) (at_rev hy2) ?_
    walk_at "go"
    refine w_2 (fun e => ?_) (fun e => ?_)
    · walk_at "go"
      rw [if_pos (of_decide_eq_true e)] at ho
      rw [ho] at k
      exact k _ s1
    · rw [if_neg (of_decide_eq_false e)] at ho
      walk_at "go"
      refine w_ixL (SqL.of (s1 _ _ hn)) (at_rev hy2) ?_
      walk_at "go"
      refine ⟨B, y, rfl, hB, s0.trans s1, fun H2 s2 => ?_⟩
      walk_at "go"
      have fin : (wall B.rows y && !belongs B.rows B.rk y x) = false → lastOne B.rows B.rk x rn = lastOne B.rows B.rk x (rn.drop (i + 1)) := fun z => by rw [ho, z]; exact if_neg Bool.false_ne_true
      refine w_2 (fun e2 => ?_) (fun e2 => ?_)
      · walk_at "go"
        refine w_ixL (SqL.of (s2 _ _ (s1 _ _ hn))) (at_rev hy2) ?_
        walk_at "go"
        refine ⟨B, y, x, rfl, hB, s0.trans (s1.trans s2), ?_⟩
        walk_at "go"
        refine w_2 (fun e3 => ?_) (fun e3 => ?_)
        · walk_at "go"
          rw [e2, e3, if_pos (show (true && true) = true from rfl)] at ho
          rw [ho] at k
          exact k _ (s1.trans s2)
        · walk_at "go"
          exact ⟨⟨_, rfl⟩, s1.trans s2, fin (by rw [e2, e3] <;> rfl)⟩
      · walk_at "go"
        exact ⟨⟨_, rfl⟩, s1.trans s2, fin (by rw [e2] <;> rfl)⟩
  · rintro σ H' ⟨⟨v, rfl⟩, s1, ho⟩
    rw [List.drop_length] at ho
    walk_at "go"
    rw [ho] at k
    exact k _ s1
def spLHosts : Sp := fun vs H Q _ => ∃ (B : Bk) (n : Addr) (rn : List Str), vs = [.ref B.b, .ref n] ∧ B.Ok ∧ Same B.G H ∧ H n = some (.lst (rn.reverse.map V.str)) ∧ rn.length ≤ 1000 ∧ Inb B.rows rn ∧ ∀ H' p, H p = none → Same H H' → H' p = some (.lst ((hostsIn B.rows B.rk rn).map V.str)) → Q (.ref p) H'
theorem c_l_hosts (D : Defs K mg C) (T : Tx K mg C ea) : C8.Cal P w K mg base 2 "_law_hosts" spLHosts [] := by
  refine D.d_l_hosts.cal sc_l_hosts (fun vs H Q E h => ?_) (fun f cdv A outer s H vs Q E hr h => ?_)
  · obtain ⟨B, n, rn, rfl, _⟩ := h
    rfl
  obtain ⟨B, n, rn, rfl, hB, s0, hn, hlen, hin, k⟩ := h
  have c_l_row : C8.Cal P w K mg base 1 "_law_row" spRowWith [] := c_l_row D T
  refine ⟨_, (pss_cons (ps_set (i := 2) sc_l_hosts.nd rfl (Or.inl rfl) (pe_lst pa_nil))
      (pss_cons (ps_set (i := 3) sc_l_hosts.nd rfl (Or.inl rfl) pe_str)
      (Evl.pss_cut (ps_if (pt_cmpR op_gt (pe_callB call_lenQ (by rfl) T.b_len PySem.boot_len (pa_cons (pv 1) pa_nil)) pe_int (nomark _)) (pss_one (ps_set (i := 3) sc_l_hosts.nd rfl (Or.inl rfl) (pe_ix ix_list (pv 1) (pe_un un_neg pe_int) (fun _ _ => rfl)))) pss_nil)
      (Evl.pss_cut (ps_while PassesOwn.never (PW.pt (pw_and (pt_cmpR op_ne (pv 3) pe_str (nomark _)) (pw_and1 (pt_cmpR op_eq (pe_ix ix_tup (C8.pe_c c_l_row hr (by decide) rfl (pa_cons (pv 0) (pa_cons (pv 3) pa_nil))) pe_int (fun _ _ => rfl)) pe_str (nomark _))))) (pss_cons (ps_set (i := 3) sc_l_hosts.nd rfl (Or.inl rfl) (pe_ix ix_tup (C8.pe_c c_l_row hr (by decide) rfl (pa_cons (pv 0) (pa_cons (pv 3) pa_nil))) pe_int (fun _ _ => rfl)))
      (pss_one (ps_expr (pe_bm PySem.F.plainAttrs_list PySem.F.slot_list_append PySem.F.type_list_append mt_append (pv 2) (pa_cons (pv 3) pa_nil))))))
      (pss_one (ps_ret (pv 2))))))), ?_⟩
  walk_at "go"
  refine w_mkL fun l H1 n1 s1 l1 => ?_
  walk_at "go"
  refine w_cut (M := fun σ' H' => σ' = [some (.ref B.b), some (.ref n), some (.ref l), some (.str (rn.headD ""))] ∧ H' = H1) ?_ ?_
  · walk_at "go"
    refine w_lenL (SqL.of (s1 _ _ hn)) ?_
    rw [List.length_map, List.length_reverse]
    walk_at "go"
    cases rn with
    | nil =>
      refine w_2 (fun e => ?_) (fun e => ?_)
      · have := of_decide_eq_true e
        simp at this
      · walk_at "go"
        exact ⟨rfl, rfl⟩
    | cons y r =>
      have e1 : atI ((y :: r).reverse.map V.str) (-1) = some (.str y) := by
        rw [List.reverse_cons, List.map_append]
        exact atI_last _ _
      refine w_2 (fun e => ?_) (fun e => ?_)
      · walk_at "go"
        refine w_ixL (SqL.of (s1 _ _ hn)) e1 ?_
        exact ⟨rfl, rfl⟩
      · have h3 := of_decide_eq_false e
        rw [List.length_cons] at h3
        omega
  · rintro σ' H' ⟨rfl, rfl⟩
    have htot := (hostsIn_ok hB.good rn).2
    refine w_cut (M := fun σ' H' => (∃ v, σ' = [some (.ref B.b), some (.ref n), some (.ref l), v]) ∧ Same H H' ∧ H' l = some (.lst ((hostsIn B.rows B.rk rn).map V.str))) ?_ ?_
    · refine w_while (fun m σ' H' => ∃ (pre : List Str) (x : Str), σ' = [some (.ref B.b), some (.ref n), some (.ref l), some (.str x)] ∧ Same H H' ∧ H' l = some (.lst (pre.map V.str)) ∧ ((x = "" ∧ pre = hostsIn B.rows B.rk rn) ∨ ((∃ r ∈ B.rows, r.name = x) ∧ pre ++ hostsFrom B.rows B.rk x = hostsIn B.rows B.rk rn)) ∧ m = 13 - B.rk x) _
        ⟨[], rn.headD "", rfl, s1, l1, ?_, rfl⟩ ?_
      · cases rn with
        | nil => exact .inl ⟨rfl, rfl⟩
        | cons y r => exact .inr ⟨hin y List.mem_cons_self, rfl⟩
      · rintro m σ' H' ⟨pre, x, rfl, s4, l4, hp, hm⟩
        walk_at "go"
        rcases hp with ⟨rfl, hp⟩ | ⟨⟨r, hr1, hr2⟩, hp⟩
        · rw [show (!decide (("" : Str) = ("" : Str))) = false from by decide]
          walk_at "go"
          exact ⟨⟨_, rfl⟩, s4, by rw [← hp]; exact l4⟩
        · have hx : x ≠ "" := by
            rw [← hr2]
            exact (hB.good.nm r hr1).1
          have hro : rowOf B.rows x = some r := by
            rw [← hr2]
            exact row_mem hB.good hr1
          have hso : sortOf B.rows x = some r.sort := by
            unfold sortOf
            rw [hro] <;> rfl
          rw [show (!decide (x = ("" : Str))) = true from by rw [decide_eq_false hx] <;> rfl]
          walk_at "go"
          refine ⟨B, x, rfl, hB, s0.trans s4, (fun h => by rw [hro] at h; cases h), fun r2 p h hR => ?_⟩
          obtain rfl : r = r2 := Option.some.inj (hro.symm.trans h)
          obtain ⟨q1, q2, h1, h2, h3⟩ := hR
          have s04 := s0.trans s4
          walk_at "go"
          refine w_ixT (SqT.of (s04 _ _ h1)) (by exact rfl) ?_
          walk_at "go"
          refine w_2 (fun e3 => ?_) (fun e3 => ?_)
          · have e4 : r.sort = "frame" := of_decide_eq_true e3
            have e5 : hostOf B.rows x = some r.host := by
              unfold hostOf
              rw [hro]
              exact if_pos e4
            obtain ⟨_, hq, hrk1, hrk2⟩ := host_some hB.good e5
            have hlen2 : pre.length ≤ 13 := by
              have := congrArg List.length hp
              rw [List.length_append] at this
              omega
            refine w_N ?_
            walk_at "go"
            refine ⟨B, x, rfl, hB, s04, (fun h => by rw [hro] at h; cases h), fun r2 p h hR => ?_⟩
            obtain rfl : r = r2 := Option.some.inj (hro.symm.trans h)
            obtain ⟨q1, q2, h1, h2, h3⟩ := hR
            walk_at "go"
            refine w_ixT (SqT.of (s04 _ _ h1)) (by exact rfl) ?_
            walk_at "go"
            refine w_tyL l4 ?_
            walk_at "go"
            refine w_app l4 (szM' (by rw [List.length_map]; omega)) fun H5 b5 l5 => ?_
            refine ⟨_, ?_, pre ++ [r.host], r.host, rfl, sm_but s4 n1 b5, by rw [List.map_append]; exact l5, .inr ⟨hq, ?_⟩, rfl⟩
            · omega
            · rw [← hp, hostsFrom_eq hB.good x, e5, List.append_assoc] <;> rfl
          · have e4 : ¬ r.sort = "frame" := of_decide_eq_false e3
            have e6 : hostsFrom B.rows B.rk x = [] := by
              rw [hostsFrom_eq hB.good, host_none (by rw [hso]; exact fun z => e4 (Option.some.inj z))]
            rw [e6, List.append_nil] at hp
            walk_at "go"
            exact ⟨⟨_, rfl⟩, s4, by rw [← hp]; exact l4⟩
    · rintro σ' H' ⟨⟨v, rfl⟩, s2, h2⟩
      walk_at "go"
      exact k _ _ n1 s2 h2
def spLKey : Sp := fun vs H Q _ => ∃ (B : Bk) (n : Addr) (rn : List Str), vs = [.ref B.b, .ref n] ∧ B.Ok ∧ Same B.G H ∧ H n = some (.lst (rn.reverse.map V.str)) ∧ rn.length ≤ 1000 ∧ ∀ H', Same H H' → Q (.int (wallKey B.rows rn : Nat)) H'
theorem c_l_key (D : Defs K mg C) (T : Tx K mg C ea) : C8.Cal P w K mg base 4 "_law_key" spLKey [] := by
  refine D.d_l_key.cal sc_l_key (fun vs H Q E h => ?_) (fun f cdv A outer s H vs Q E hr h => ?_)
  · obtain ⟨B, n, rn, rfl, _⟩ := h
    rfl
  obtain ⟨B, n, rn, rfl, hB, s0, hn, hlen, k⟩ := h
  have c_l_near : C8.Cal P w K mg base 3 "_law_near" spLNear [] := c_l_near D T
  refine ⟨_, (pss_one (ps_ret (pe_op op_sub (pe_callB call_lenQ (by rfl) T.b_len PySem.boot_len (pa_cons (pv 1) pa_nil)) (pe_callB call_lenQ (by rfl) T.b_len PySem.boot_len (pa_cons (C8.pe_c c_l_near hr (by decide) rfl (pa_cons (pv 0) (pa_cons (pv 1) pa_nil))) pa_nil))))), ?_⟩
  walk_at "go"
  refine w_lenL (SqL.of hn) ?_
  rw [List.length_map, List.length_reverse]
  walk_at "go"
  refine ⟨B, n, rn, rfl, hB, s0, hn, hlen, fun H1 p n1 s1 hp => ?_⟩
  walk_at "go"
  refine w_lenL (SqL.of hp) ?_
  rw [List.length_map]
  have e := near_all (rows := B.rows) rn
  refine w_I0 ?_
  have e2 : ((rn.length : Nat) : Int) - (((near B.rows rn).length : Nat) : Int) = ((wallKey B.rows rn : Nat) : Int) := by omega
  rw [e2]
  exact k _ s1
end
end Tg

namespace Tg
open PySem PySem.Spec PyProof.Rows L2
/-- the first place at which one of the near ones is shut, from a place on -/
def shutAt (rows : List Row) (rn : List Str) (x : Str) (k : Nat) : Nat := match ((near rows rn).drop k).findIdx? fun y => decide (y ∈ shutsOf rows x) with
  | some j => wallKey rows rn + k + j
  | none => rn.length
theorem shutAt_zero {rows : List Row} {rn : List Str} {x : Str} : shutAt rows rn x 0 = shutFrom rows rn x := by
  unfold shutAt shutFrom
  rw [List.drop_zero]
  have := near_all (rows := rows) rn
  cases e : (near rows rn).findIdx? fun y => decide (y ∈ shutsOf rows x) with
  | some j =>
    show wallKey rows rn + 0 + j = rn.length - (near rows rn).length + j
    omega
  | none => rfl
theorem shutAt_end {rows : List Row} {rn : List Str} {x : Str} : shutAt rows rn x (near rows rn).length = rn.length := by
  unfold shutAt
  rw [List.drop_length] <;> rfl
theorem shutAt_step {rows : List Row} {rn : List Str} {x y : Str} {k : Nat} (h : (near rows rn)[k]? = some y) : shutAt rows rn x k = if y ∈ shutsOf rows x then wallKey rows rn + k else shutAt rows rn x (k + 1) := by
  unfold shutAt
  rw [drop_of_get h, List.findIdx?_cons]
  by_cases e : y ∈ shutsOf rows x
  · rw [decide_eq_true e, if_pos rfl, if_pos e] <;> rfl
  · rw [decide_eq_false e, if_neg (by decide), if_neg e]
    cases e2 : ((near rows rn).drop (k + 1)).findIdx? fun y => decide (y ∈ shutsOf rows x) with
    | none => rfl
    | some j =>
      show wallKey rows rn + k + (j + 1) = wallKey rows rn + (k + 1) + j
      omega
section
variable {P : Program} {w : World} {K : PySem.W.Frag} {mg : Str → Option Value} {base : Heap} {C ea : Addr}
def spLWanted (m : Nat) : Sp := fun vs H Q _ => ∃ (B : Bk) (n : Addr) (rn : List Str) (x : Str), vs = [.ref B.b, .ref n, .str x] ∧ B.Ok ∧ Same B.G H ∧ H n = some (.lst (rn.reverse.map V.str)) ∧ rn.length ≤ 1000 ∧ Inb B.rows rn ∧ (∃ r ∈ B.rows, r.name = x) ∧ B.rk x < m ∧
  ∀ H' p q, Same H H' → H' p = some (.tup [.int ((wanted B.rows B.rk rn x).1 : Nat), .ref q]) → H' q = some (.lst ((wanted B.rows B.rk rn x).2.map V.str)) → Q (.ref p) H'
theorem c_l_wanted_n (D : Defs K mg C) (T : Tx K mg C ea) : ∀ m : Nat, C8.Cal P w K mg base (7 + m) "_law_wanted" (spLWanted m) []
  | 0 => D.d_l_wanted.never fun vs H Q E h => by
    obtain ⟨B, n, rn, x, _, _, _, _, _, _, _, h, _⟩ := h
    exact absurd h (Nat.not_lt_zero _)
  | m + 1 => by
    have c_l_wanted : C8.Cal P w K mg base (7 + m) "_law_wanted" (spLWanted m) [] := c_l_wanted_n D T m
    refine D.d_l_wanted.cal (k := 7 + m) sc_l_wanted (fun vs H Q E h => ?_) (fun f cdv A outer s H vs Q E hr h => ?_)
    · obtain ⟨B, n, rn, x, rfl, _⟩ := h
      rfl
    obtain ⟨B, n, rn, x, rfl, hB, s0, hn, hlen, hin, hx, hm, k⟩ := h
    have c_l_row : C8.Cal P w K mg base 1 "_law_row" spRowWith [] := c_l_row D T
    have c_l_frame : C8.Cal P w K mg base 1 "_law_frame" spLFrame [] := c_l_frame D T
    have c_l_hosts : C8.Cal P w K mg base 2 "_law_hosts" spLHosts [] := c_l_hosts D T
    have c_l_last : C8.Cal P w K mg base 3 "_law_last" spLLast [] := c_l_last D T
    have c_l_near : C8.Cal P w K mg base 3 "_law_near" spLNear [] := c_l_near D T
    refine ⟨_, (pss_cons (ps_set (i := 3) sc_l_wanted.nd rfl (Or.inl rfl) (C8.pe_c c_l_frame hr (by omega) rfl (pa_cons (pv 0) (pa_cons (pv 2) pa_nil))))
      (pss_cons (ps_if (pt_cmpR op_ne (pv 3) pe_str (nomark _)) (pss_cons (ps_set (i := 4) sc_l_wanted.nd rfl (Or.inl rfl) (C8.pe_c c_l_last hr (by omega) rfl (pa_cons (pv 0) (pa_cons (pv 1) (pa_cons (pv 3) pa_nil)))))
      (pss_cons (ps_if (pt_cmpR op_notN1 (pv 4) pe_non (nomark _)) (pss_one (ps_ret (pe_tup (pa_cons (pe_op op_add (pv 4) pe_int) (pa_cons (pe_lst (pa_cons (pv 2) pa_nil)) pa_nil))))) pss_nil)
      (pss_cons (ps_asg (C8.pe_c c_l_wanted hr (by omega) rfl (pa_cons (pv 0) (pa_cons (pv 1) (pa_cons (pv 3) pa_nil)))) (pg_tup rfl (pgs_cons (pg_name (i := 5) sc_l_wanted.nd rfl (Or.inl rfl)) (pgs_cons (pg_name (i := 6) sc_l_wanted.nd rfl (Or.inl rfl)) pgs_nil))))
      (pss_one (ps_ret (pe_tup (pa_cons (pv 5) (pa_cons (pe_op op_cat (pv 6) (pe_lst (pa_cons (pv 2) pa_nil))) pa_nil)))))))) pss_nil)
      (pss_cons (ps_set (i := 7) sc_l_wanted.nd rfl (Or.inl rfl) (C8.pe_c c_l_hosts hr (by omega) rfl (pa_cons (pv 0) (pa_cons (pv 1) pa_nil))))
      (pss_cons (ps_if (pt_cmpR (op_neD (hu64 hr)) (pv 7) (pe_lst pa_nil) (nomark _)) (pss_one (ps_ret (pe_tup (pa_cons (pe_callB call_lenQ (by rfl) T.b_len PySem.boot_len (pa_cons (pv 1) pa_nil)) (pa_cons (pe_op op_cat (pv 7) (pe_lst (pa_cons (pv 2) pa_nil))) pa_nil))))) pss_nil)
      (pss_cons (ps_set (i := 5) sc_l_wanted.nd rfl (Or.inl rfl) (pe_callB call_lenQ (by rfl) T.b_len PySem.boot_len (pa_cons (pv 1) pa_nil)))
      (pss_cons (ps_set (i := 8) sc_l_wanted.nd rfl (Or.inl rfl) (pe_op op_sub (pv 5) (pe_callB call_lenQ (by rfl) T.b_len PySem.boot_len (pa_cons (C8.pe_c c_l_near hr (by omega) rfl (pa_cons (pv 0) (pa_cons (pv 1) pa_nil))) pa_nil))))
      (pss_cons (ps_for PassesOwn.never rfl (pi_revR (by rfl) T.b_reversed (prg_2 (by rfl) T.b_range (pv 8) (pv 5))) (pg_name (i := 9) sc_l_wanted.nd rfl (Or.inl rfl)) (pss_one (ps_if (pt_cmpR op_in_seq (pe_ix ix_list (pv 1) (pv 9) (fun _ _ => rfl)) (pe_ix ix_tup (C8.pe_c c_l_row hr (by omega) rfl (pa_cons (pv 0) (pa_cons (pv 2) pa_nil))) pe_int (fun _ _ => rfl)) (by rfl)) (pss_one (ps_set (i := 5) sc_l_wanted.nd rfl (Or.inl rfl) (pv 9))) pss_nil)))
      (pss_one (ps_ret (pe_tup (pa_cons (pv 5) (pa_cons (pe_lst (pa_cons (pv 2) pa_nil)) pa_nil)))))))))))), ?_⟩
    obtain ⟨r, hr1, hr2⟩ := hx
    have hrow : rowOf B.rows x = some r := by rw [← hr2]; exact row_mem hB.good hr1
    have hw := wanted_eq hB.good rn x
    walk_at "go"
    refine ⟨B, x, rfl, hB, s0, ?_⟩
    walk_at "go"
    cases ef : frameOf B.rows x with
    | some fr =>
      rw [ef] at hw
      simp only at hw
      have hrk := frame_rk hB.good ef
      have hfn := frame_ne hB.good ef
      rw [show (!decide (so (some fr) = ("" : Str))) = true from by rw [decide_eq_false hfn] <;> rfl]
      walk_at "go"
      refine ⟨B, n, rn, fr, rfl, hB, s0, hn, hlen, fun H1 s1 => ?_⟩
      walk_at "go"
      cases el : lastOne B.rows B.rk fr rn with
      | some j =>
        rw [el] at hw
        simp only at hw
        refine w_T ?_
        walk_at "go"
        refine w_mkL fun q H2 n2 s2 t2 => ?_
        walk_at "go"
        refine w_mkT fun p H3 n3 s3 t3 => ?_
        refine k H3 p q (s1.trans (s2.trans s3)) ?_ ?_
        · rw [hw]
          exact t3
        · rw [hw]
          exact s3 _ _ t2
      | none =>
        rw [el] at hw
        simp only at hw
        refine w_F ?_
        walk_at "go"
        refine ⟨B, n, rn, fr, rfl, hB, s0.trans s1, s1 _ _ hn, hlen, hin, frame_in ef, by omega, fun H2 p q s2 hp hq => ?_⟩
        refine w_gT (SqT.of hp) rfl ?_
        walk_at "go"
        refine w_mkL fun u H3 n3 s3 t3 => ?_
        have hrkb : B.rk fr ≤ 12 := by
          obtain ⟨rf, hrf, hnf⟩ := frame_in ef
          rw [← hnf]
          exact hB.good.rkb rf hrf
        obtain ⟨_, _, hwl2, _⟩ := wanted_ok hB.good rn 12 fr hrkb (frame_in ef)
        refine w_cat (xs := (wanted B.rows B.rk rn fr).2.map V.str) (ys := [.str x]) (s3 _ _ hq) t3 ?_ fun v H4 n4 s4 h4 => ?_
        · rw [List.length_map, List.length_singleton]
          exact sz1000 (by omega)
        walk_at "go"
        refine w_mkT fun p2 H5 n5 s5 t5 => ?_
        refine k H5 p2 v (s1.trans (s2.trans (s3.trans (s4.trans s5)))) ?_ ?_
        · rw [hw]
          exact t5
        · rw [hw, List.map_append]
          exact s5 _ _ h4
    | none =>
      rw [ef] at hw
      simp only at hw
      rw [show (!decide (so none = ("" : Str))) = false from by decide]
      walk_at "go"
      refine ⟨B, n, rn, rfl, hB, s0, hn, hlen, hin, fun H1 q n1 s1 hq => ?_⟩
      walk_at "go"
      refine w_mkL fun u H2 n2 s2 t2 => ?_
      obtain ⟨hh1, hh2⟩ := hostsIn_ok hB.good rn
      refine w_neL0 (SqL.of (s2 _ _ hq)) t2 (hh1.ok hB.good) ?_
      walk_at "go"
      have s12 := s1.trans s2
      by_cases hh : hostsIn B.rows B.rk rn = []
      · rw [if_neg (by simp [hh])] at hw
        rw [hh]
        rw [show (!([] : List Str).isEmpty) = false from rfl]
        walk_at "go"
        refine w_lenL (SqL.of (s12 _ _ hn)) ?_
        rw [List.length_map, List.length_reverse]
        walk_at "go"
        refine ⟨B, n, rn, rfl, hB, s0.trans s12, s12 _ _ hn, hlen, fun H3 pn n3 s3 hpn => ?_⟩
        walk_at "go"
        refine w_lenL (SqL.of hpn) ?_
        rw [List.length_map]
        walk_at "go"
        have hna := near_all (rows := B.rows) rn
        have s13 := s12.trans s3
        have eb : ((rn.length : Nat) : Int) - (((near B.rows rn).length : Nat) : Int) = ((wallKey B.rows rn : Nat) : Int) := by omega
        rw [eb]
        refine ⟨_, _, rfl, rfl, by omega, by omega, by omega, by omega, ?_⟩
        have en : (((rn.length : Nat) : Int) - ((wallKey B.rows rn : Nat) : Int)).toNat = (near B.rows rn).length := by omega
        rw [en]
        refine w_forC (fun i σ H' => (∃ v, σ = [some (.ref B.b), some (.ref n), some (.str x), some (.str ""), none, some (.int (shutAt B.rows rn x ((near B.rows rn).length - i) : Nat)), none, some (.ref q), some (.int (wallKey B.rows rn : Nat)), v]) ∧ Same H H')
          ⟨⟨none, ?_⟩, s13⟩ ?_ ?_
        · rw [Nat.sub_zero, shutAt_end]
          rfl
        · rintro i σ H' hi ⟨⟨v, rfl⟩, s4⟩
          obtain ⟨y, hy⟩ := get_lt (xs := near B.rows rn) (i := (near B.rows rn).length - 1 - i) (by omega)
          have hy2 := near_at (rows := B.rows) (rn := rn) ((near B.rows rn).length - 1 - i)
          rw [hy] at hy2
          have hst := shutAt_step (x := x) hy
          have e3 : (near B.rows rn).length - 1 - i + 1 = (near B.rows rn).length - i := by omega
          have e4 : (near B.rows rn).length - (i + 1) = (near B.rows rn).length - 1 - i := by omega
          rw [e3] at hst
          rw [e4]
          have e5 : ((wallKey B.rows rn : Nat) : Int) + (((near B.rows rn).length : Nat) : Int) - 1 + (i : Nat) * (-1) = ((wallKey B.rows rn + ((near B.rows rn).length - 1 - i) : Nat) : Int) := by omega
          rw [e5]
          walk_at "go"
          refine w_ixL (SqL.of (s4 _ _ hn)) (at_rev hy2) ?_
          walk_at "go"
          refine ⟨B, x, rfl, hB, s0.trans s4, (fun h => by rw [hrow] at h; cases h), fun r2 p h hR => ?_⟩
          obtain rfl : r = r2 := Option.some.inj (hrow.symm.trans h)
          obtain ⟨q1, q2, h1, h2, h3⟩ := hR
          have s04 := s0.trans s4
          walk_at "go"
          refine w_ixT (SqT.of (s04 _ _ h1)) (by exact rfl) ?_
          refine w_inSs (ys := r.shuts) (Or.inr (SqT.of (s04 _ _ h2))) ?_
          walk_at "go"
          rw [shuts_of hrow] at hst
          refine w_2 (fun e => ?_) (fun e => ?_)
          · rw [if_pos (of_decide_eq_true e)] at hst
            walk_at "go"
            rw [hst]
            exact ⟨⟨_, rfl⟩, s4⟩
          · rw [if_neg (of_decide_eq_false e)] at hst
            walk_at "go"
            rw [hst]
            exact ⟨⟨_, rfl⟩, s4⟩
        · rintro σ H' ⟨⟨v, rfl⟩, s4⟩
          rw [Nat.sub_self, shutAt_zero]
          walk_at "go"
          refine w_mkL fun q3 H4 n4 s5 t4 => ?_
          walk_at "go"
          refine w_mkT fun p5 H5 n5 s6 t5 => ?_
          refine k H5 p5 q3 (s4.trans (s5.trans s6)) ?_ ?_
          · rw [hw]
            exact t5
          · rw [hw]
            exact s6 _ _ t4
      · rw [if_pos hh] at hw
        have he : (!(hostsIn B.rows B.rk rn).isEmpty) = true := by
          cases e : hostsIn B.rows B.rk rn with
          | nil => exact absurd e hh
          | cons a b => rfl
        rw [he]
        walk_at "go"
        refine w_lenL (SqL.of (s2 _ _ (s1 _ _ hn))) ?_
        walk_at "go"
        refine w_mkL fun q3 H3 n3 s3 t3 => ?_
        refine w_cat (xs := (hostsIn B.rows B.rk rn).map V.str) (ys := [.str x]) (s3 _ _ (s2 _ _ hq)) t3 (by rw [List.length_map, List.length_singleton]; exact sz1000 (by omega)) fun v H4 n4 s4 h4 => ?_
        walk_at "go"
        refine w_mkT fun p5 H5 n5 s5 t5 => ?_
        refine k H5 p5 v (s1.trans (s2.trans (s3.trans (s4.trans s5)))) ?_ ?_
        · rw [hw]
          rw [List.length_map, List.length_reverse] at t5
          exact t5
        · rw [hw, List.map_append]
          exact s5 _ _ h4
theorem c_l_wanted (D : Defs K mg C) (T : Tx K mg C ea) : C8.Cal P w K mg base 20 "_law_wanted" (spLWanted 13) [] := cal_mono (c_l_wanted_n D T 13) (by decide)
def spLPlan : Sp := fun vs H Q _ => ∃ (B : Bk) (n : Addr) (rn : List Str) (x : Str), vs = [.ref B.b, .ref n, .str x] ∧ B.Ok ∧ Same B.G H ∧ H n = some (.lst (rn.reverse.map V.str)) ∧ rn.length ≤ 900 ∧ Inb B.rows rn ∧ (∃ r ∈ B.rows, r.name = x) ∧
  (∀ H' p rule, Same H H' → opening B.rows B.rk rn x = .drop rule → H' p = some (.tup [.str "drop", .str rule]) → Q (.ref p) H') ∧
  (∀ H' p q kept put, Same H H' → opening B.rows B.rk rn x = .opn kept put → H' p = some (.tup [.str "open", .int (kept : Nat), .ref q]) → H' q = some (.tup (put.map V.str)) → Q (.ref p) H')
theorem any_take {α : Type} {p : α → Bool} : ∀ {xs : List α}, (∀ y ∈ xs, p y = false) → xs.any p = false
  | [], _ => rfl
  | x :: xs, h => by rw [List.any_cons, h x List.mem_cons_self, any_take fun y hy => h y (List.mem_cons_of_mem _ hy)] <;> rfl
theorem c_l_plan (D : Defs K mg C) (T : Tx K mg C ea) : C8.Cal P w K mg base 21 "_law_plan" spLPlan [] := by
  refine D.d_l_plan.cal sc_l_plan (fun vs H Q E h => ?_) (fun f cdv A outer s H vs Q E hr h => ?_)
  · obtain ⟨B, n, rn, x, rfl, _⟩ := h
    rfl
  obtain ⟨B, n, rn, x, rfl, hB, s0, hn, hlen, hin, hx, k1, k2⟩ := h
  have c_l_wanted : C8.Cal P w K mg base 20 "_law_wanted" (spLWanted 13) [] := c_l_wanted D T
  have c_l_near : C8.Cal P w K mg base 3 "_law_near" spLNear [] := c_l_near D T
  have c_l_row : C8.Cal P w K mg base 1 "_law_row" spRowWith [] := c_l_row D T
  refine ⟨_, (pss_cons (ps_asg (C8.pe_c c_l_wanted hr (by decide) rfl (pa_cons (pv 0) (pa_cons (pv 1) (pa_cons (pv 2) pa_nil)))) (pg_tup rfl (pgs_cons (pg_name (i := 3) sc_l_plan.nd rfl (Or.inl rfl)) (pgs_cons (pg_name (i := 4) sc_l_plan.nd rfl (Or.inl rfl)) pgs_nil))))
      (pss_cons (ps_set (i := 5) sc_l_plan.nd rfl (Or.inl rfl) (pe_callTy call_listQ (by rfl) T.b_list (by decide +kernel) (pa_cons (pe_slice sl_list (pv 1) po_none (po_some (pv 3))) pa_nil)))
      (pss_cons (ps_for PassesOwn.never rfl (pi_list (pv 4)) (pg_name (i := 6) sc_l_plan.nd rfl (Or.inl rfl)) (pss_cons (ps_for PassesOwn.never rfl (pi_list (C8.pe_c c_l_near hr (by decide) rfl (pa_cons (pv 0) (pa_cons (pv 5) pa_nil)))) (pg_name (i := 7) sc_l_plan.nd rfl (Or.inl rfl)) (pss_one (ps_if (pt_cmpR op_in_seq (pv 7) (pe_ix ix_tup (C8.pe_c c_l_row hr (by decide) rfl (pa_cons (pv 0) (pa_cons (pv 6) pa_nil))) pe_int (fun _ _ => rfl)) (by rfl)) (pss_one (ps_ret (pe_tup (pa_cons pe_str (pa_cons pe_str pa_nil))))) pss_nil)))
      (pss_one (ps_expr (pe_bm PySem.F.plainAttrs_list PySem.F.slot_list_append PySem.F.type_list_append mt_append (pv 5) (pa_cons (pv 6) pa_nil))))))
      (pss_cons (ps_if (pt_cmpR op_gt (pe_callB call_lenQ (by rfl) T.b_len PySem.boot_len (pa_cons (pv 5) pa_nil)) pe_int (nomark _)) (pss_one (ps_ret (pe_tup (pa_cons pe_str (pa_cons pe_str pa_nil))))) pss_nil)
      (pss_one (ps_ret (pe_tup (pa_cons pe_str (pa_cons (pv 3) (pa_cons (pe_callTy call_tupQ (by rfl) T.b_tuple (by decide +kernel) (pa_cons (pv 4) pa_nil)) pa_nil)))))))))), ?_⟩
  have hrkb : B.rk x ≤ 12 := by
    obtain ⟨r, h1, h2⟩ := hx
    rw [← h2]
    exact hB.good.rkb r h1
  obtain ⟨w1, w2, w3, w4⟩ := wanted_ok hB.good rn 12 x hrkb hx
  walk_at "go"
  refine ⟨B, n, rn, x, rfl, hB, s0, hn, by omega, hin, hx, by omega, fun H1 p q s1 hp hq => ?_⟩
  refine w_gT (SqT.of hp) rfl ?_
  walk_at "go"
  refine w_slL (SqL.of (s1 _ _ hn)) fun u0 H2 n2 s2 hu0 => ?_
  walk_at "go"
  refine w_listL (.inl (SqL.of hu0)) fun u H3 n3 s3 hu => ?_
  have ecut : cutV (rn.reverse.map V.str) none (some ((wanted B.rows B.rk rn x).1 : Int)) = ((rn.drop (rn.length - (wanted B.rows B.rk rn x).1)).reverse).map V.str := by
    unfold cutV
    rw [HT.sIx_none, HT.sIx_nat, List.drop_zero, Nat.sub_zero, List.length_map, List.length_reverse, Nat.min_eq_left w1, ← List.map_take, rev_take w1]
  rw [ecut] at hu
  walk_at "go"
  have s13 := s1.trans (s2.trans s3)
  have hqu : H3 q = some (.lst ((wanted B.rows B.rk rn x).2.map V.str)) := s3 _ _ (s2 _ _ hq)
  have nqu : q ≠ u := fun z => by
    rw [z] at hq
    rw [s2 _ _ hq] at n3
    cases n3
  have zu : H u = none := none_back (s1.trans s2) n3
  refine w_forL (SqL.of hqu) (fun i σ' H' => ∃ (rs : List Str) (v1 v2 : Option V), σ' = [some (.ref B.b), some (.ref n), some (.str x), some (.int ((wanted B.rows B.rk rn x).1 : Nat)), some (.ref q), some (.ref u), v1, v2] ∧ But u H3 H' ∧ Same H H' ∧ H' u = some (.lst (rs.reverse.map V.str)) ∧
      rs.length = (rn.drop (rn.length - (wanted B.rows B.rk rn x).1)).length + i ∧ barStep B.rows (rn.drop (rn.length - (wanted B.rows B.rk rn x).1)) (wanted B.rows B.rk rn x).2 = barStep B.rows rs ((wanted B.rows B.rk rn x).2.drop i))
    ⟨_, _, _, rfl, fun b o _ h => h, s13, hu, rfl, rfl⟩ (fun i σ' H' _ h => by obtain ⟨_, _, _, _, z, _⟩ := h; exact SqL.of (z _ _ nqu hqu)) ?_ ?_
  · rintro i v σ' H' hi ⟨rs, v0, v00, rfl, b3, s4, ha, hrl, hb⟩
    obtain ⟨y, hy, rfl⟩ := map_get hi
    have hil := (List.getElem?_eq_some_iff.mp hy).1
    rw [drop_of_get hy] at hb
    obtain ⟨ry, hry⟩ := w2.row hB.good (List.mem_of_getElem? hy)
    have hdl : (rn.drop (rn.length - (wanted B.rows B.rk rn x).1)).length ≤ rn.length := by
      rw [List.length_drop]
      omega
    have hb2 : barStep B.rows (rn.drop (rn.length - (wanted B.rows B.rk rn x).1)) (wanted B.rows B.rk rn x).2 = (barred B.rows rs y || barStep B.rows (y :: rs) ((wanted B.rows B.rk rn x).2.drop (i + 1))) := hb
    walk_at "go"
    refine ⟨B, u, rs, rfl, hB, s0.trans s4, ha, by omega, fun H4 p4 n4 s5 hp4 => ?_⟩
    have hbe : barred B.rows rs y = (near B.rows rs).any fun z => decide (z ∈ ry.bars) := by
      unfold barred
      rw [bars_of hry]
    refine w_forL (SqL.of hp4) (fun j σ'' H'' => (∃ v2, σ'' = [some (.ref B.b), some (.ref n), some (.str x), some (.int ((wanted B.rows B.rk rn x).1 : Nat)), some (.ref q), some (.ref u), some (.str y), v2]) ∧ Same H4 H'' ∧ ∀ z ∈ (near B.rows rs).take j, decide (z ∈ ry.bars) = false)
      ⟨⟨_, rfl⟩, Same.refl H4, by rw [List.take_zero]; intro z hz; cases hz⟩ (fun j σ'' H'' _ h => SqL.of (h.2.1 _ _ hp4)) ?_ ?_
    · rintro j v5 σ'' H'' hj ⟨⟨v2, rfl⟩, s6, hno⟩
      obtain ⟨z, hz, rfl⟩ := map_get hj
      have s06 := s0.trans (s4.trans (s5.trans s6))
      walk_at "go"
      refine ⟨B, y, rfl, hB, s06, (fun h => by rw [hry] at h; cases h), fun r2 p h hR => ?_⟩
      obtain rfl : ry = r2 := Option.some.inj (hry.symm.trans h)
      obtain ⟨q1, q2, h1, h2, h3⟩ := hR
      walk_at "go"
      refine w_ixT (SqT.of (s06 _ _ h1)) (by exact rfl) ?_
      refine w_inSs (ys := ry.bars) (Or.inr (SqT.of (s06 _ _ h3))) ?_
      walk_at "go"
      refine w_2 (fun e => ?_) (fun e => ?_)
      · walk_at "go"
        refine w_mkT fun p5 H5 n5 s7 t5 => ?_
        refine k1 H5 p5 "barred" (s4.trans (s5.trans (s6.trans s7))) ?_ t5
        unfold opening
        rw [if_pos]
        rw [hb2, hbe, List.any_eq_true.mpr ⟨z, List.mem_of_getElem? hz, e⟩, Bool.true_or]
      · walk_at "go"
        refine ⟨⟨_, rfl⟩, s6, fun z2 hz2 => ?_⟩
        rw [take_snoc hz] at hz2
        rcases List.mem_append.mp hz2 with hz2 | hz2
        · exact hno z2 hz2
        · rw [List.mem_singleton.mp hz2]
          exact e
    · rintro σ'' H'' ⟨⟨v2, rfl⟩, s6, hno⟩
      rw [List.length_map, List.take_length] at hno
      have hnb : barred B.rows rs y = false := by
        rw [hbe]
        exact any_take hno
      have s56 := s5.trans s6
      walk_at "go"
      refine w_tyL (s56 _ _ ha) ?_
      walk_at "go"
      refine w_app (s56 _ _ ha) (szM' (by rw [List.length_map, List.length_reverse]; omega)) fun H7 b7 l7 => ?_
      refine ⟨y :: rs, _, _, rfl, fun b o hne h => b7 b o hne (s56 b o (b3 b o hne h)), sm_but (s4.trans s56) zu b7, ?_, by rw [List.length_cons]; omega, by rw [hb2, hnb, Bool.false_or]⟩
      rw [List.reverse_cons, List.map_append]
      exact l7
  · rintro σ' H' ⟨rs, v0, v00, rfl, b3, s4, ha, hrl, hb⟩
    rw [List.length_map] at hrl hb
    rw [List.drop_length] at hb
    have hb2 : barStep B.rows (rn.drop (rn.length - (wanted B.rows B.rk rn x).1)) (wanted B.rows B.rk rn x).2 = false := hb
    have hq4 := b3 _ _ nqu hqu
    walk_at "go"
    refine w_lenL (SqL.of ha) ?_
    rw [List.length_map, List.length_reverse]
    walk_at "go"
    refine w_2 (fun e => ?_) (fun e => ?_)
    · have e' : rs.length > 20 := by
        have := of_decide_eq_true e
        omega
      walk_at "go"
      refine w_mkT fun p5 H5 n5 s5 t5 => ?_
      refine k1 H5 p5 "deep" (s4.trans s5) ?_ t5
      unfold opening
      rw [if_neg (by rw [hb2]; decide), if_pos (by omega)]
    · have e' : ¬ rs.length > 20 := by
        have := of_decide_eq_false e
        omega
      walk_at "go"
      refine w_tupL (SqL.of hq4) fun q5 H5 n5 s5 t5 => ?_
      walk_at "go"
      refine w_mkT fun p6 H6 n6 s6 t6 => ?_
      refine k2 H6 p6 q5 _ _ (s4.trans (s5.trans s6)) ?_ t6 (s6 _ _ t5)
      unfold opening
      rw [if_neg (by rw [hb2]; decide), if_neg (by omega)]
end
end Tg

namespace Tg
open PySem PySem.Spec PyProof.Rows L2
section
variable {σ : L2.St} {K : PySem.W.Frag} {mg : Str → Option Value} {C ea : Addr} {B : Bk} {H H1 : Hp} {Q : VK} {A : RdA} {rn : List Str} {hps : List (List Tree)} {rws : List (List Str)} {ks : List Nat} {ms : List Mend} {N : Nat}
theorem w_lB {p : Addr} (R : RdAt true C B H A rn hps rws ks ms N) (k : Q (.ref B.b) H) (e : A.p = p := by rfl) : DgW (.ref p) (.str "book") H Q := by
  subst e
  exact w_dgS R.ins (lf_book _ _ _ _ _) k
theorem w_lN {p : Addr} (R : RdAt true C B H A rn hps rws ks ms N) (k : Q (.ref A.n) H) (e : A.p = p := by rfl) : DgW (.ref p) (.str "names") H Q := by
  subst e
  exact w_dgS R.ins (lf_names _ _ _ _ _) k
theorem w_lH {p : Addr} (R : RdAt true C B H A rn hps rws ks ms N) (k : Q (.ref A.h) H) (e : A.p = p := by rfl) : DgW (.ref p) (.str "heaps") H Q := by
  subst e
  exact w_dgS R.ins (lf_heaps _ _ _ _ _) k
theorem w_lW {p : Addr} (R : RdAt true C B H A rn hps rws ks ms N) (k : Q (.ref A.w) H) (e : A.p = p := by rfl) : DgW (.ref p) (.str "waits") H Q := by
  subst e
  exact w_dgS R.ins (lf_waits _ _ _ _ _) k
theorem w_lM {p : Addr} (R : RdAt true C B H A rn hps rws ks ms N) (k : Q (.ref A.m) H) (e : A.p = p := by rfl) : DgW (.ref p) (.str "mends") H Q := by
  subst e
  exact w_dgS R.ins (lf_mends _ _ _ _ _) k
/-- the law's names -/
theorem RdAt.lnam (R : RdAt true C B H A rn hps rws ks ms N) : H A.n = some (.lst (rn.reverse.map V.str)) := R.nam
end
section
variable {P : Program} {w : World} {K : PySem.W.Frag} {mg : Str → Option Value} {base : Heap} {C ea : Addr}
def spLBegin (C : Addr) : Sp := fun vs H Q _ => ∃ (B : Bk) (A : RdA) (st : St) (ms : List Mend) (N : Nat) (x : Str), vs = [.ref A.p, .str x] ∧ B.Ok ∧ RdS true C B H A st ms N ∧ st.rn.length ≤ 100 ∧ st.outer.length ≤ 100 ∧ N ≤ 900000 ∧
  ∀ H' A', A'.p = A.p → Mod true A H A' H' → RdS true C B H' A' (beginOne B.rows st x) ms (N + 1) → Q .non H'
theorem c_l_begin (D : Defs K mg C) (T : Tx K mg C ea) : C8.Cal P w K mg base 3 "_law_begin" (spLBegin C) [] := by
  refine D.d_l_begin.cal sc_l_begin (fun vs H Q E h => ?_) (fun f cdv A outer s H vs Q E hr h => ?_)
  · obtain ⟨B, A, st, ms, N, x, rfl, _⟩ := h
    rfl
  obtain ⟨B, A, st, ms, N, x, rfl, hB, R, hlen, hout, hN, k⟩ := h
  have c_l_fence : C8.Cal P w K mg base 2 "_law_fence" spWall [] := c_l_fence D T
  refine ⟨_, (pss_cons (ps_expr (pe_bm PySem.F.plainAttrs_list PySem.F.slot_list_append PySem.F.type_list_append mt_append (pe_dget (hu_of hr) (pv 0) pe_str (fun _ _ => rfl)) (pa_cons (pv 1) pa_nil)))
      (pss_cons (ps_expr (pe_bm PySem.F.plainAttrs_list PySem.F.slot_list_append PySem.F.type_list_append mt_append (pe_dget (hu_of hr) (pv 0) pe_str (fun _ _ => rfl)) (pa_cons (pe_lst pa_nil) pa_nil)))
      (pss_one (ps_if (pt_val (C8.pe_c c_l_fence hr (by decide) rfl (pa_cons (pe_dget (hu_of hr) (pv 0) pe_str (fun _ _ => rfl)) (pa_cons (pv 1) pa_nil)))) (pss_one (ps_dput (hu_of hr) (pe_dget (hu_of hr) (pv 0) pe_str (fun _ _ => rfl)) (pe_callB call_lenQ (by rfl) T.b_len PySem.boot_len (pa_cons (pe_dget (hu_of hr) (pv 0) pe_str (fun _ _ => rfl)) pa_nil)) (pe_lst pa_nil) rfl)) pss_nil)))), ?_⟩
  have hhl : A.hs.length ≤ 1000000 := by
    have := R.hpl.at_.len
    rw [List.length_cons] at this
    omega
  walk_at "go"
  refine w_lN R ?_
  refine w_tyL R.lnam ?_
  walk_at "go"
  refine w_app R.lnam (szM' (by rw [List.length_map, List.length_reverse]; omega)) fun H1 b1 l1 => ?_
  have l1' : H1 A.n = some (.lst ((x :: st.rn).reverse.map V.str)) := by
    rw [List.reverse_cons, List.map_append]
    exact l1
  obtain ⟨R1, m1⟩ := RdAt.nput R b1 l1'
  walk_at "go"
  refine w_lH R1 ?_
  refine w_tyL R1.hpl.l ?_
  walk_at "go"
  refine w_mkL fun a H2 n2 s2 l2 => ?_
  walk_at "go"
  refine w_app ((R1.same s2).hpl.l) (by rw [List.length_map, List.length_reverse]; exact szM' hhl) fun H3 b3 l3 => ?_
  obtain ⟨R3, m3⟩ := R1.hpush n2 s2 l2 b3 l3
  have m03 := m1.trans m3
  walk_at "go"
  refine w_lB R3 ?_
  walk_at "go"
  refine ⟨B, x, rfl, hB, R3.sg, fun H4 s4 => ?_⟩
  have R4 := R3.same s4
  walk_at "go"
  refine w_2 (fun e => ?_) (fun e => ?_)
  · walk_at "go"
    refine w_mkL fun r H5 n5 s5 l5 => ?_
    have R5 := R4.same s5
    walk_at "go"
    refine w_lW R5 ?_
    walk_at "go"
    refine w_lN R5 ?_
    walk_at "go"
    refine w_lenL (SqL.of R5.lnam) ?_
    obtain ⟨kvs, g1, g2, g3⟩ := R5.wts.d
    have el : ((((x :: st.rn).reverse.map V.str).length : Nat) : Int) = ((st.rn.length + 1 : Nat) : Int) := by
      rw [List.length_map, List.length_reverse, List.length_cons]
    rw [el]
    refine w_dpI g1 (szM' (by omega)) fun H6 b6 l6 => ?_
    obtain ⟨R6, m6⟩ := R4.wpush (k := st.rn.length + 1) (ws := []) (M := N + 1) (fun z => by have := keys_le z; omega) n5 s5 l5 g1 b6 l6 (Nat.zero_le _) (Nat.le_refl _)
    walk_at "go"
    refine k H6 _ ?e ((m03.trans (Mod.same s4)).trans m6) ?_
    case e => rfl
    rw [begin_t e]
    unfold RdS
    rw [keys_wall e]
    exact R6
  · walk_at "go"
    refine k H4 _ ?e (m03.trans (Mod.same s4)) ?_
    case e => rfl
    rw [begin_f e]
    unfold RdS
    rw [keys_free e]
    exact R4.more (Nat.le_succ N)
def spLLie (C : Addr) : Sp := fun vs H Q _ => ∃ (B : Bk) (A : RdA) (rn : List Str) (top : List Tree) (hps : List (List Tree)) (rws : List (List Str)) (ks : List Nat) (ms : List Mend) (N L : Nat) (v : V) (t : Tree), vs = [.ref A.p, v] ∧ B.Ok ∧ RdAt true C B H A rn (top :: hps) rws ks ms N ∧ (∀ u ∈ top, tdep u ≤ 30 ∧ tOk u = true) ∧ PartV H v t ∧ (∀ s, t = .text s → s.length ≤ L) ∧ N + L ≤ 900000 ∧
  ∀ H', Mod true A H A H' → RdAt true C B H' A rn (lieHeap top t :: hps) rws ks ms (N + L + 1) → Q .non H'
theorem c_l_lie (D : Defs K mg C) (T : Tx K mg C ea) : C8.Cal P w K mg base 1 "_law_lie" (spLLie C) [] := by
  refine D.d_l_lie.cal sc_l_lie (fun vs H Q E h => ?_) (fun f cdv A outer s H vs Q E hr h => ?_)
  · obtain ⟨B, A, rn, top, hps, rws, ks, ms, N, L, v, t, rfl, _⟩ := h
    rfl
  obtain ⟨B, A, rn, top, hps, rws, ks, ms, N, L, v, t, rfl, hB, R, hok, hv, hL, hN, k⟩ := h
  refine ⟨_, (pss_cons (ps_set (i := 2) sc_l_lie.nd rfl (Or.inl rfl) (pe_ix ix_list (pe_dget (hu_of hr) (pv 0) pe_str (fun _ _ => rfl)) (pe_un un_neg pe_int) (fun _ _ => rfl)))
      (Evl.pss_cut (ps_if (PW.pt (pw_and (pt_val (pe_callB call_isi (by rfl) T.b_isinstance (by decide +kernel) (pa_cons (pv 1) (pa_cons (pe_bltn rfl T.b_str (by decide +kernel) (v := .ty "str") rfl) pa_nil)))) (pw_and (pt_cmpR (op_neD (hu64 hr)) (pv 2) (pe_lst pa_nil) (nomark _)) (pw_and1 (pt_val (pe_callB call_isi (by rfl) T.b_isinstance (by decide +kernel) (pa_cons (pe_ix ix_list (pv 2) (pe_un un_neg pe_int) (fun _ _ => rfl)) (pa_cons (pe_bltn rfl T.b_str (by decide +kernel) (v := .ty "str") rfl) pa_nil)))))))) (pss_one (ps_set (i := 1) sc_l_lie.nd rfl (Or.inl rfl) (pe_op op_addS (pe_bm0 PySem.F.plainAttrs_list PySem.F.slot_list_pop PySem.F.type_list_pop mt_pop (pv 2)) (pv 1)))) pss_nil)
      (pss_one (ps_expr (pe_bm PySem.F.plainAttrs_list PySem.F.slot_list_append PySem.F.type_list_append mt_append (pv 2) (pa_cons (pv 1) pa_nil)))))), ?_⟩
  obtain ⟨a, hs, ea, us, h1, h2⟩ := R.hd
  have hul := parts_len h2
  obtain ⟨hbt, hbx⟩ := R.bd.hp _ List.mem_cons_self
  have ebd := bd_lie R.bd hL
  have ix0 : atI (A.hs.reverse.map V.ref) (-1) = some (.ref a) := by
    rw [ea, List.reverse_cons, List.map_append]
    exact atI_last _ _
  walk_at "go"
  refine w_lH R ?_
  walk_at "go"
  refine w_ixL (SqL.of R.hpl.l) ix0 ?_
  walk_at "go"
  refine w_cut (M := fun σ H' => ∃ v' us0 ts0 t', σ = [some (.ref A.p), some v', some (.ref a)] ∧ (∃ H1, Same H H1 ∧ But a H1 H') ∧ H' a = some (.lst us0) ∧ PartsV H' us0 ts0 ∧ PartV H' v' t' ∧ ts0 ++ [t'] = lieHeap top t ∧ us0.length ≤ us.length) ?_ ?_
  · have same : ∀ H1, Same H H1 → lieHeap top t = top ++ [t] → ∃ v' us0 ts0 t', ([some (.ref A.p), some v, some (.ref a)] : L2.St) = [some (.ref A.p), some v', some (.ref a)] ∧ (∃ H2, Same H H2 ∧ But a H2 H1) ∧ H1 a = some (.lst us0) ∧ PartsV H1 us0 ts0 ∧ PartV H1 v' t' ∧ ts0 ++ [t'] = lieHeap top t ∧ us0.length ≤ us.length := fun H1 s1 el =>
      ⟨v, us, top, t, rfl, ⟨H1, s1, fun b o _ h => h⟩, s1 _ _ h1, PartsV.mono (tups_same s1) _ _ h2, PartV.mono (tups_same s1) _ _ hv, el.symm, Nat.le_refl _⟩
    cases hv with
    | node g1 g2 g3 =>
      walk_at "go"
      refine w_isiTS g1 ?_
      walk_at "go"
      exact same H (Same.refl H) (lie_node _ _ _)
    | text s =>
      walk_at "go"
      refine w_isiS ?_
      walk_at "go"
      refine w_mkL fun q H1 n1 s1 l1 => ?_
      refine w_neP0 (s1 _ _ h1) (PartsV.mono (tups_same s1) _ _ h2) l1 hok ?_
      walk_at "go"
      rcases List.eq_nil_or_concat top with e | ⟨i, u, e⟩
      · have e0 : (!top.isEmpty) = false := by rw [e] <;> rfl
        rw [e0]
        walk_at "go"
        exact same H1 s1 (by rw [e] <;> rfl)
      · rw [List.concat_eq_append] at e
        have e0 : (!top.isEmpty) = true := by rw [e]; simp
        rw [e0]
        have h2' := h2
        rw [e] at h2'
        obtain ⟨us', v', e1, h3, h4⟩ := parts_last h2'
        have ix1 : atI us (-1) = some v' := by rw [e1]; exact atI_last _ _
        walk_at "go"
        refine w_ixL (SqL.of (s1 _ _ h1)) ix1 ?_
        walk_at "go"
        cases h4 with
        | node g1 g2 g3 =>
          refine w_isiTS (s1 _ _ g1) ?_
          walk_at "go"
          exact same H1 s1 (by rw [e, lie_other])
        | text u =>
          refine w_isiS ?_
          walk_at "go"
          refine w_tyL (s1 _ _ h1) ?_
          have q1 := hbx u (by rw [e]; exact List.mem_append_right _ List.mem_cons_self)
          have q2 := hL s rfl
          refine w_pop (y := V.str u) (s1 _ _ h1) ?_ fun H2 b2 l2 => ?_
          · rw [e1]
            simp
          walk_at "go"
          refine w_addS (szM (by omega)) ?_
          walk_at "go"
          have tu : Tups H1 H2 := tups_but (s1 _ _ h1) rfl b2
          rw [e1, List.dropLast_concat] at l2
          refine ⟨.str (u ++ s), us', i, .text (u ++ s), rfl, ⟨H1, s1, b2⟩, l2, PartsV.mono ((tups_same s1).trans tu) _ _ h3, .text _, by rw [e, lie_text], ?_⟩
          rw [e1, List.length_append]
          exact Nat.le_add_right _ _
  · rintro σ H2 ⟨v', us0, ts0, t', rfl, ⟨H1, s1, b2⟩, l2, hp0, hv', et, hlen0⟩
    walk_at "go"
    refine w_tyL l2 ?_
    walk_at "go"
    refine w_app l2 (szM' (by omega)) fun H3 b3 l3 => ?_
    have tu : Tups H2 H3 := tups_but l2 rfl b3
    have q : HeapAt H3 a (lieHeap top t) := ⟨_, l3, by rw [← et]; exact parts_app (PartsV.mono tu _ _ hp0) (parts_one (PartV.mono tu _ _ hv'))⟩
    obtain ⟨R3, m3⟩ := (R.same s1).hput ea (b2.trans b3) q ebd (by omega)
    exact k H3 ((Mod.same s1).trans m3) R3
def spLEnd (C : Addr) : Sp := fun vs H Q _ => ∃ (B : Bk) (A : RdA) (st : St) (ms : List Mend) (N : Nat) (x : Str) (r : List Str), vs = [.ref A.p] ∧ B.Ok ∧ RdS true C B H A st ms N ∧ StOk B.rows st ∧ st.rn = x :: r ∧ N ≤ 900000 ∧
  ∀ H' A', A'.p = A.p → Mod true A H A' H' → RdS true C B H' A' (endOne B.rows st) ms (N + 1) → Q .non H'
theorem c_l_end (D : Defs K mg C) (T : Tx K mg C ea) : C8.Cal P w K mg base 2 "_law_end" (spLEnd C) [] := by
  refine D.d_l_end.cal sc_l_end (fun vs H Q E h => ?_) (fun f cdv A outer s H vs Q E hr h => ?_)
  · obtain ⟨B, A, st, ms, N, x, r, rfl, _⟩ := h
    rfl
  obtain ⟨B, A, st, ms, N, x, r, rfl, hB, R, O, hrn, hN, k⟩ := h
  have c_l_lie : C8.Cal P w K mg base 1 "_law_lie" (spLLie C) [] := c_l_lie D T
  refine ⟨_, (pss_cons (ps_set (i := 1) sc_l_end.nd rfl (Or.inl rfl) (pe_bm0 PySem.F.plainAttrs_list PySem.F.slot_list_pop PySem.F.type_list_pop mt_pop (pe_dget (hu_of hr) (pv 0) pe_str (fun _ _ => rfl))))
      (pss_cons (ps_set (i := 2) sc_l_end.nd rfl (Or.inl rfl) (pe_bm0 PySem.F.plainAttrs_list PySem.F.slot_list_pop PySem.F.type_list_pop mt_pop (pe_dget (hu_of hr) (pv 0) pe_str (fun _ _ => rfl))))
      (pss_one (ps_expr (C8.pe_c c_l_lie hr (by decide) rfl (pa_cons (pv 0) (pa_cons (pe_tup (pa_cons (pv 1) (pa_cons (pe_callTy call_tupQ (by rfl) T.b_tuple (by decide +kernel) (pa_cons (pv 2) pa_nil)) pa_nil))) pa_nil))))))), ?_⟩
  obtain ⟨hp, os, eo⟩ := O.out hrn
  have hlen := O.len
  rw [hrn, List.length_cons] at hlen
  have ea1 : (popOne B.rows st).wtop :: (popOne B.rows st).wouter = if wall B.rows x = true then st.wouter else st.wtop :: st.wouter := by
    unfold popOne
    rw [hrn]
    show (if wall B.rows x = true then st.wouter.headD [] else st.wtop) :: (if wall B.rows x = true then st.wouter.tail else st.wouter) = _
    cases ew : wall B.rows x with
    | true =>
      obtain ⟨a, b, e⟩ := O.wout hrn ew
      rw [e] <;> rfl
    | false => rfl
  unfold RdS at R
  have hn := R.lnam
  rw [hrn, List.reverse_cons, List.map_append] at hn
  walk_at "go"
  refine w_lN R ?_
  refine w_tyL hn ?_
  refine w_pop (y := V.str x) hn ?_ fun H1 b1 l1 => ?_
  · rw [List.length_append]
    simp
  rw [show (List.map V.str r.reverse ++ List.map V.str [x]).dropLast = List.map V.str r.reverse from List.dropLast_concat] at l1
  obtain ⟨R1, m1⟩ := R.nput b1 l1
  walk_at "go"
  refine w_lH R1 ?_
  rw [eo] at R1
  obtain ⟨a, hs, ehs, hat⟩ := R1.hd
  have hl := R1.hpl.l
  rw [ehs, List.reverse_cons, List.map_append] at hl
  refine w_tyL hl ?_
  refine w_pop (y := V.ref a) hl ?_ fun H4 b4 l4 => ?_
  · rw [List.length_append]
    simp
  rw [show (List.map V.ref hs.reverse ++ List.map V.ref [a]).dropLast = List.map V.ref hs.reverse from List.dropLast_concat] at l4
  obtain ⟨R4, m4⟩ := R1.hpop ehs b4 l4
  have hna : a ≠ A.h := fun z => R1.nd'.2.1 (by rw [← z, ehs]; exact List.mem_cons_self)
  have hat4 : HeapAt H4 a st.top := hat.keep (fun o h => b4 _ _ hna h) (tups_but hl rfl b4)
  obtain ⟨us, hu, hus⟩ := hat4
  have m04 := m1.trans m4
  -- the waiting rows
  obtain ⟨A5, e5, R5, m5⟩ : ∃ A5 : RdA, A5.p = A.p ∧ RdAt true C B H4 A5 r (hp :: os) ((popOne B.rows st).wtop :: (popOne B.rows st).wouter) (keys B.rows r) ms N ∧ Mod true A H A5 H4 := by
    rw [ea1]
    cases ew : wall B.rows x with
    | true =>
      rw [if_pos rfl]
      rw [hrn, keys_wall ew] at R4
      obtain ⟨ar, rs, er, _⟩ := R4.rd
      obtain ⟨R5, m5⟩ := R4.wtail er
      exact ⟨(A.setH hs).setR rs, rfl, R5, m04.trans m5⟩
    | false =>
      rw [if_neg (by decide)]
      rw [hrn, keys_free ew] at R4
      exact ⟨A.setH hs, rfl, R4, m04⟩
  rw [← e5]
  walk_at "go"
  refine w_tupL (SqL.of hu) fun q H6 n6 s6 l6 => ?_
  walk_at "go"
  refine w_mkT fun q2 H7 n7 s7 l7 => ?_
  walk_at "go"
  have s67 := s6.trans s7
  refine ⟨B, A5, r, hp, os, (popOne B.rows st).wtop :: (popOne B.rows st).wouter, keys B.rows r, ms, N, 0, .ref q2, .node x st.top, rfl, hB, R5.same s67, ?_, ?_, ?_, by omega, ?_⟩
  · intro u hu2
    have := O.levo 0 hp (by rw [eo] <;> rfl) u hu2
    exact ⟨by omega, this.2⟩
  · exact .node l7 (s7 _ _ l6) (PartsV.mono (tups_same s67) _ _ hus)
  · intro s z
    cases z
  · intro H8 m8 R8
    refine k H8 A5 e5 ((m5.trans (Mod.same s67)).trans m8) ?_
    have ee : endOne B.rows st = { rn := r, top := lieHeap hp (.node x st.top), outer := os, wtop := (popOne B.rows st).wtop, wouter := (popOne B.rows st).wouter } := by
      rw [end_eq hrn]
      unfold popOne lieIn
      rw [hrn, eo] <;> rfl
    rw [ee]
    exact R8
end
end Tg

namespace Tg
open PySem PySem.Spec PyProof.Rows L2
section
variable {rows : List Row}
/-- those that wait, of some names from the first on -/
def fW (rows : List Row) (zs : List Str) : List Str := (zs.takeWhile fun y => !wall rows y).filter fun y => decide (sortOf rows y = some ("anew" : Str))
def gW (rows : List Row) : Nat → List Str → List Str
  | 0, zs => fW rows zs
  | _ + 1, [] => []
  | _ + 1, y :: r => if wall rows y = true then [] else fW rows r
theorem anew_sort_free {y : Str} (h : sortOf rows y = some ("anew" : Str)) : wall rows y = false := by
  unfold wall
  rw [h]
  rfl
theorem tw_snoc {α : Type} {p : α → Bool} {y : α} : ∀ {zs : List α}, (zs ++ [y]).takeWhile p = if zs.all p = true then zs ++ [y].takeWhile p else zs.takeWhile p
  | [] => rfl
  | z :: zs => by
    have ih := tw_snoc (p := p) (y := y) (zs := zs)
    cases e : p z with
    | true =>
      have e1 : ((z :: zs) ++ [y]).takeWhile p = z :: (zs ++ [y]).takeWhile p := by rw [List.cons_append, List.takeWhile_cons, if_pos e]
      have e2 : (z :: zs).takeWhile p = z :: zs.takeWhile p := by rw [List.takeWhile_cons, if_pos e]
      have e3 : (z :: zs).all p = zs.all p := by rw [List.all_cons, e, Bool.true_and]
      rw [e1, e2, e3, ih]
      split <;> rfl
    | false =>
      have e1 : ((z :: zs) ++ [y]).takeWhile p = [] := by rw [List.cons_append, List.takeWhile_cons, if_neg (by rw [e]; decide)]
      have e2 : (z :: zs).takeWhile p = [] := by rw [List.takeWhile_cons, if_neg (by rw [e]; decide)]
      have e3 : (z :: zs).all p = false := by rw [List.all_cons, e, Bool.false_and]
      rw [e1, e2, e3, if_neg (by decide)]
theorem fW_snoc {zs : List Str} {y : Str} : fW rows (zs ++ [y]) = fW rows zs ++ (if (decide (sortOf rows y = some ("anew" : Str)) && zs.all fun y => !wall rows y) = true then [y] else []) := by
  unfold fW
  rw [tw_snoc]
  cases ea : zs.all fun y => !wall rows y with
  | false =>
    rw [if_neg (by decide), Bool.and_false, if_neg (by decide), List.append_nil]
  | true =>
    rw [if_pos rfl, Bool.and_true, List.filter_append, tw_all (fun z hz => List.all_eq_true.mp ea z hz)]
    congr 1
    by_cases e : sortOf rows y = some ("anew" : Str)
    · rw [if_pos (decide_eq_true e), List.takeWhile_cons, anew_sort_free e]
      simp [e]
    · rw [if_neg (by rw [decide_eq_false e]; decide), List.takeWhile_cons]
      split
      · simp [e]
      · rfl
theorem gW_snoc {d : Nat} (hd : d ≤ 1) {zs : List Str} {y : Str} : gW rows d (zs ++ [y]) = gW rows d zs ++ (if (decide (sortOf rows y = some ("anew" : Str)) && (zs.all (fun y => !wall rows y) && decide (d ≤ zs.length))) = true then [y] else []) := by
  cases d with
  | zero =>
    show fW rows (zs ++ [y]) = fW rows zs ++ _
    rw [fW_snoc, decide_eq_true (Nat.zero_le _), Bool.and_true]
  | succ d =>
    obtain rfl : d = 0 := by omega
    cases zs with
    | nil =>
      rw [show decide (0 + 1 ≤ ([] : List Str).length) = false from rfl, Bool.and_false, Bool.and_false, if_neg (by decide)]
      show (if wall rows y = true then [] else fW rows []) = []
      split <;> rfl
    | cons z zs =>
      show (if wall rows z = true then [] else fW rows (zs ++ [y])) = (if wall rows z = true then [] else fW rows zs) ++ _
      rw [List.all_cons, show decide (0 + 1 ≤ (z :: zs).length) = true from decide_eq_true (by rw [List.length_cons]; omega), Bool.and_true]
      cases e : wall rows z with
      | true =>
        rw [if_pos rfl, if_pos rfl, Bool.not_true, Bool.false_and, Bool.and_false, if_neg (by decide)] <;> rfl
      | false =>
        rw [if_neg (by decide), if_neg (by decide), fW_snoc, Bool.not_false, Bool.true_and]
theorem key_zero : ∀ {rn : List Str}, wallKey rows rn = 0 ↔ (rn.all fun y => !wall rows y) = true
  | [] => ⟨fun _ => rfl, fun _ => rfl⟩
  | x :: r => by
    rw [wallKey, List.all_cons]
    cases e : wall rows x with
    | true =>
      rw [if_pos rfl, Bool.not_true, Bool.false_and]
      exact ⟨(fun h => by cases h), (fun h => by cases h)⟩
    | false =>
      rw [if_neg (by decide), Bool.not_false, Bool.true_and]
      exact key_zero
theorem near_full {zs : List Str} : decide ((near rows zs.reverse).length = zs.length) = zs.all fun y => !wall rows y := by
  have h1 := near_all (rows := rows) zs.reverse
  rw [List.length_reverse] at h1
  have h2 := key_zero (rows := rows) (rn := zs.reverse)
  rw [List.all_reverse] at h2
  refine Bool.eq_iff_iff.mpr ⟨fun h => h2.mp (by have := of_decide_eq_true h; omega), fun h => decide_eq_true (by have := h2.mpr h; omega)⟩
theorem gW_len {d : Nat} {zs : List Str} : (gW rows d zs).length ≤ zs.length := by
  have f : ∀ zs, (fW rows zs).length ≤ zs.length := fun zs => Nat.le_trans (List.length_filter_le _ _) (List.takeWhile_sublist _).length_le
  cases d with
  | zero => exact f zs
  | succ d =>
    cases zs with
    | nil => exact Nat.le_refl _
    | cons y r =>
      show (if wall rows y = true then [] else fW rows r).length ≤ _
      split
      · exact Nat.zero_le _
      · exact Nat.le_succ_of_le (f r)
theorem gW_anew {d : Nat} {zs : List Str} (h : Inb rows zs) : ∀ x ∈ gW rows d zs, AnewB rows x := by
  have f : ∀ zs, Inb rows zs → ∀ x ∈ fW rows zs, AnewB rows x := fun zs h x hx => by
    obtain ⟨h1, h2⟩ := List.mem_filter.mp hx
    exact ⟨h x ((List.takeWhile_sublist _).subset h1), of_decide_eq_true h2⟩
  cases d with
  | zero => exact f zs h
  | succ d =>
    cases zs with
    | nil =>
      intro x hx
      cases hx
    | cons y r =>
      intro x hx
      change x ∈ (if wall rows y = true then [] else fW rows r) at hx
      split at hx
      · cases hx
      · exact f r (fun z hz => h z (List.mem_cons_of_mem _ hz)) x hx
end
theorem cut_mid (xs : List V) {a b : Nat} (h : a ≤ b) (hb : b ≤ xs.length) : cutV xs (some (a : Int)) (some (b : Int)) = (xs.drop a).take (b - a) := by
  unfold cutV
  rw [HT.sIx_nat, HT.sIx_nat, Nat.min_eq_left hb, Nat.min_eq_left (Nat.le_trans h hb)]
/-- the state behind a shutting -/
def lShut (rows : List Row) (at_ : Nat) (rule : Str) (kept d : Nat) (st : St) : St :=
  waitMore (if d = 0 then (closeTo rows at_ rule kept st).1 else endOne rows (closeTo rows at_ rule (kept + d) st).1) (gW rows d (st.rn.reverse.drop kept))
section
variable {P : Program} {w : World} {K : PySem.W.Frag} {mg : Str → Option Value} {base : Heap} {C ea : Addr}
def spLShut (C : Addr) : Sp := fun vs H Q _ => ∃ (B : Bk) (A : RdA) (st : St) (ms : List Mend) (N kept at_ d : Nat) (rule : Str), vs = [.ref A.p, .int (kept : Nat), .int (at_ : Nat), .str rule, .int ((kept + d : Nat) : Int)] ∧ B.Ok ∧ RdS true C B H A st ms N ∧ StOk B.rows st ∧ N ≤ 790000 ∧ d ≤ 1 ∧ kept + d ≤ st.rn.length ∧
  ∀ H' A', A'.p = A.p → Mod true A H A' H' → RdS true C B H' A' (lShut B.rows at_ rule kept d st) (ms ++ (closeTo B.rows at_ rule (kept + d) st).2) (N + 70) → Q .non H'
theorem c_l_shut (D : Defs K mg C) (T : Tx K mg C ea) : C8.Cal P w K mg base 5 "_law_shut" (spLShut C) [] := by
  refine D.d_l_shut.cal sc_l_shut (fun vs H Q E h => ?_) (fun f cdv A outer s H vs Q E hr h => ?_)
  · obtain ⟨B, A, st, ms, N, kept, at_, d, rule, rfl, _⟩ := h
    rfl
  obtain ⟨B, A, st, ms, N, kept, at_, d, rule, rfl, hB, R, O, hN, hd, hkd, k⟩ := h
  have c_l_near : C8.Cal P w K mg base 3 "_law_near" spLNear [] := c_l_near D T
  have c_l_row : C8.Cal P w K mg base 1 "_law_row" spRowWith [] := c_l_row D T
  have c_l_fence : C8.Cal P w K mg base 2 "_law_fence" spWall [] := c_l_fence D T
  have c_l_end : C8.Cal P w K mg base 2 "_law_end" (spLEnd C) [] := c_l_end D T
  have c_l_key : C8.Cal P w K mg base 4 "_law_key" spLKey [] := c_l_key D T
  refine ⟨_, (pss_cons (ps_set (i := 5) sc_l_shut.nd rfl (Or.inl rfl) (pe_callTy call_listQ (by rfl) T.b_list (by decide +kernel) (pa_cons (pe_dget (hu_of hr) (pv 0) pe_str (fun _ _ => rfl)) pa_nil)))
      (pss_cons (ps_set (i := 6) sc_l_shut.nd rfl (Or.inl rfl) (pe_lst pa_nil))
      (pss_cons (ps_for PassesOwn.never rfl (pi_range2 (by rfl) T.b_range (pa_cons (pv 1) (pa_cons (pe_callB call_lenQ (by rfl) T.b_len PySem.boot_len (pa_cons (pv 5) pa_nil)) pa_nil))) (pg_name (i := 7) sc_l_shut.nd rfl (Or.inl rfl)) (pss_cons (ps_set (i := 8) sc_l_shut.nd rfl (Or.inl rfl) (C8.pe_c c_l_near hr (by decide) rfl (pa_cons (pe_dget (hu_of hr) (pv 0) pe_str (fun _ _ => rfl)) (pa_cons (pe_slice sl_list (pv 5) (po_some (pv 1)) (po_some (pv 7))) pa_nil))))
      (pss_one (ps_if (PW.pt (pw_and (pt_cmpR op_eq (pe_ix ix_tup (C8.pe_c c_l_row hr (by decide) rfl (pa_cons (pe_dget (hu_of hr) (pv 0) pe_str (fun _ _ => rfl)) (pa_cons (pe_ix ix_list (pv 5) (pv 7) (fun _ _ => rfl)) pa_nil))) pe_int (fun _ _ => rfl)) pe_str (nomark _)) (pw_and (pt_cmpR op_eq (pe_callB call_lenQ (by rfl) T.b_len PySem.boot_len (pa_cons (pv 8) pa_nil)) (pe_op op_sub (pv 7) (pv 1)) (nomark _)) (pw_and1 (pt_cmpR op_ge (pv 7) (pv 4) (nomark _)))))) (pss_one (ps_expr (pe_bm PySem.F.plainAttrs_list PySem.F.slot_list_append PySem.F.type_list_append mt_append (pv 6) (pa_cons (pe_ix ix_list (pv 5) (pv 7) (fun _ _ => rfl)) pa_nil)))) pss_nil))))
      (Evl.pss_cut (ps_if (PW.pt (pw_and (pt_cmpR op_gt (pv 4) (pv 1) (nomark _)) (pw_and1 (pt_val (C8.pe_c c_l_fence hr (by decide) rfl (pa_cons (pe_dget (hu_of hr) (pv 0) pe_str (fun _ _ => rfl)) (pa_cons (pe_ix ix_list (pv 5) (pv 1) (fun _ _ => rfl)) pa_nil))))))) (pss_one (ps_set (i := 6) sc_l_shut.nd rfl (Or.inl rfl) (pe_lst pa_nil))) pss_nil)
      (pss_cons (ps_while PassesOwn.never (pt_cmpR op_gt (pe_callB call_lenQ (by rfl) T.b_len PySem.boot_len (pa_cons (pe_dget (hu_of hr) (pv 0) pe_str (fun _ _ => rfl)) pa_nil)) (pv 4) (nomark _)) (pss_cons (ps_expr (pe_bm PySem.F.plainAttrs_list PySem.F.slot_list_append PySem.F.type_list_append mt_append (pe_dget (hu_of hr) (pv 0) pe_str (fun _ _ => rfl)) (pa_cons (pe_tup (pa_cons (pv 2) (pa_cons (pv 2) (pa_cons (pe_op op_addS (pe_op op_addS pe_str (pe_ix ix_list (pe_dget (hu_of hr) (pv 0) pe_str (fun _ _ => rfl)) (pe_un un_neg pe_int) (fun _ _ => rfl))) pe_str) (pa_cons (pv 3) pa_nil))))) pa_nil)))
      (pss_one (ps_expr (C8.pe_c c_l_end hr (by decide) rfl (pa_cons (pv 0) pa_nil))))))
      (Evl.pss_cut (ps_if (pt_cmpR op_gt (pv 4) (pv 1) (nomark _)) (pss_one (ps_expr (C8.pe_c c_l_end hr (by decide) rfl (pa_cons (pv 0) pa_nil)))) pss_nil)
      (pss_cons (ps_set (i := 9) sc_l_shut.nd rfl (Or.inl rfl) (C8.pe_c c_l_key hr (by decide) rfl (pa_cons (pe_dget (hu_of hr) (pv 0) pe_str (fun _ _ => rfl)) (pa_cons (pe_dget (hu_of hr) (pv 0) pe_str (fun _ _ => rfl)) pa_nil))))
      (pss_one (ps_dput (hu_of hr) (pe_dget (hu_of hr) (pv 0) pe_str (fun _ _ => rfl)) (pv 9) (pe_op op_cat (pe_dget (hu_of hr) (pe_dget (hu_of hr) (pv 0) pe_str (fun _ _ => rfl)) (pv 9) (fun _ _ => rfl)) (pv 6)) rfl))))))))), ?_⟩
  have hlen := O.len
  walk_at "go"
  refine w_lN R ?_
  walk_at "go"
  refine w_listL (.inl (SqL.of R.lnam)) fun c H1 n1 s1 l1 => ?_
  walk_at "go"
  refine w_mkL fun l H2 n2 s2 l2 => ?_
  walk_at "go"
  refine w_lenL (SqL.of (s2 _ _ l1)) ?_
  rw [List.length_map, List.length_reverse]
  walk_at "go"
  refine w_forR2 (by omega) ?_
  have en : (((st.rn.length : Nat) : Int) - ((kept : Nat) : Int)).toNat = st.rn.length - kept := by omega
  rw [en]
  have s02 := s1.trans s2
  have zl : H l = none := none_back s1 n2
  have inb2 : Inb B.rows (st.rn.reverse.drop kept) := fun y hy => O.inb y (List.mem_reverse.mp (List.mem_of_mem_drop hy))
  generalize hys : st.rn.reverse.drop kept = ys at inb2
  have hyl : ys.length = st.rn.length - kept := by rw [← hys, List.length_drop, List.length_reverse]
  have hyg : ∀ i : Nat, ys[i]? = st.rn.reverse[kept + i]? := fun i => by rw [← hys, List.getElem?_drop]
  refine w_forR (fun i σ H' => (∃ v1 v2, σ = [some (.ref A.p), some (.int (kept : Nat)), some (.int (at_ : Nat)), some (.str rule), some (.int ((kept + d : Nat) : Int)), some (.ref c), some (.ref l), v1, v2, none]) ∧ Same H H' ∧ But l H2 H' ∧ H' l = some (.lst ((gW B.rows d (ys.take i)).map V.str)))
    ⟨⟨_, _, rfl⟩, s02, fun b o _ h => h, by rw [List.take_zero]; cases d <;> exact l2⟩ ?_ ?_
  · rintro i σ H' hi ⟨⟨v1, v2, rfl⟩, s3, b3, l3⟩
    obtain ⟨y, hy⟩ := get_lt (xs := ys) (i := i) (by omega)
    have hy2 := hyg i
    rw [hy] at hy2
    obtain ⟨ry, hry⟩ := inb2.row hB.good (List.mem_of_getElem? hy)
    have R3 : RdS true C B H' A st ms N := RdAt.same R s3
    have hc3 : H' c = some (.lst (st.rn.reverse.map V.str)) := b3 _ _ (fun z => by rw [z, n2] at l1; cases l1) (s2 _ _ l1)
    walk_at "go"
    refine w_lB R3 ?_
    walk_at "go"
    have ei : ((kept : Nat) : Int) + (i : Nat) = ((kept + i : Nat) : Int) := by omega
    rw [ei]
    refine w_slL (SqL.of hc3) fun q H4 n4 s4 l4 => ?_
    rw [cut_mid _ (by omega) (by rw [List.length_map, List.length_reverse]; omega), ← List.map_drop, ← List.map_take, hys, show kept + i - kept = i by omega] at l4
    walk_at "go"
    refine ⟨B, q, (ys.take i).reverse, rfl, hB, (RdAt.same R3 s4).sg, by rw [List.reverse_reverse]; exact l4, by rw [List.length_reverse, List.length_take]; omega, fun H5 q5 n5 s5 l5 => ?_⟩
    have s35 := s4.trans s5
    have R5 := RdAt.same R3 s35
    walk_at "go"
    refine w_lB R5 ?_
    walk_at "go"
    refine w_ixL (SqL.of (s35 _ _ hc3)) (at_rev hy2.symm) ?_
    walk_at "go"
    refine ⟨B, y, rfl, hB, R5.sg, (fun h => by rw [hry] at h; cases h), fun r2 p h hR => ?_⟩
    obtain rfl : ry = r2 := Option.some.inj (hry.symm.trans h)
    obtain ⟨q1, q2, h1, h2, h3⟩ := hR
    have hso : sortOf B.rows y = some ry.sort := by
      unfold sortOf
      rw [hry] <;> rfl
    have hsd : decide (sortOf B.rows y = some ("anew" : Str)) = decide (ry.sort = ("anew" : Str)) := by
      rw [hso]
      exact decide_eq_decide.mpr ⟨fun z => Option.some.inj z, fun z => congrArg some z⟩
    have hg := gW_snoc (rows := B.rows) hd (zs := ys.take i) (y := y)
    have htl : (ys.take i).length = i := by rw [List.length_take]; omega
    rw [← take_snoc hy, hsd, htl] at hg
    have l35 := s35 _ _ l3
    have nf := near_full (rows := B.rows) (zs := ys.take i)
    rw [htl] at nf
    have no : ∀ w1 w2 : Option V, (decide (ry.sort = ("anew" : Str)) && ((ys.take i).all (fun y => !wall B.rows y) && decide (d ≤ i))) = false →
        (∃ v1 v2, [some (V.ref A.p), some (.int (kept : Nat)), some (.int (at_ : Nat)), some (.str rule), some (.int ((kept + d : Nat) : Int)), some (.ref c), some (.ref l), w1, w2, none] = [some (.ref A.p), some (.int (kept : Nat)), some (.int (at_ : Nat)), some (.str rule), some (.int ((kept + d : Nat) : Int)), some (.ref c), some (.ref l), v1, v2, none]) ∧ Same H H5 ∧ But l H2 H5 ∧ H5 l = some (.lst ((gW B.rows d (ys.take (i + 1))).map V.str)) := fun w1 w2 hz =>
      ⟨⟨_, _, rfl⟩, s3.trans s35, b3.trans (.same s35), by rw [hg, hz, if_neg (by decide), List.append_nil]; exact l35⟩
    walk_at "go"
    refine w_ixT (SqT.of (R5.sg _ _ h1)) (by exact rfl) ?_
    walk_at "go"
    refine w_2 (fun e1 => ?_) (fun e1 => ?_)
    · walk_at "go"
      refine w_lenL (SqL.of l5) ?_
      rw [List.length_map]
      walk_at "go"
      have e5 : decide ((((near B.rows (ys.take i).reverse).length : Nat) : Int) = ((kept + i : Nat) : Int) - ((kept : Nat) : Int)) = (ys.take i).all (fun y => !wall B.rows y) := by
        rw [← nf]
        exact decide_eq_decide.mpr ⟨fun z => by omega, fun z => by omega⟩
      rw [e5]
      refine w_2 (fun e2 => ?_) (fun e2 => ?_)
      · walk_at "go"
        have e6 : decide (((kept + d : Nat) : Int) ≤ ((kept + i : Nat) : Int)) = decide (d ≤ i) := decide_eq_decide.mpr ⟨fun z => by omega, fun z => by omega⟩
        rw [e6]
        refine w_2 (fun e3 => ?_) (fun e3 => ?_)
        · walk_at "go"
          refine w_tyL l35 ?_
          walk_at "go"
          refine w_ixL (SqL.of (s35 _ _ hc3)) (at_rev hy2.symm) ?_
          walk_at "go"
          have hgl := gW_len (rows := B.rows) (d := d) (zs := ys.take i)
          refine w_app l35 (szM' (by rw [List.length_map]; omega)) fun H6 b6 l6 => ?_
          refine ⟨⟨_, _, rfl⟩, sm_but (s3.trans s35) zl b6, (b3.trans (.same s35)).trans b6, ?_⟩
          rw [hg, e1, e2, e3, if_pos (by decide), List.map_append]
          exact l6
        · walk_at "go"
          exact no _ _ (by rw [e1, e2, e3] <;> rfl)
      · walk_at "go"
        exact no _ _ (by rw [e1, e2] <;> rfl)
    · walk_at "go"
      exact no _ _ (by rw [e1] <;> rfl)
  rintro σ H3 ⟨⟨v1, v2, rfl⟩, s3, b3, l3⟩
  rw [← hyl, List.take_length] at l3
  have R3 : RdS true C B H3 A st ms N := RdAt.same R s3
  have hc3 : H3 c = some (.lst (st.rn.reverse.map V.str)) := b3 _ _ (fun z => by rw [z, n2] at l1; cases l1) (s2 _ _ l1)
  have fl : ¬ Foot true A l := R.not_free zl
  have hgl := gW_len (rows := B.rows) (d := d) (zs := ys)
  walk_at "go"
  refine w_cut (M := fun σ H' => ∃ (l4 : Addr) (v1 v2 : Option V), σ = [some (.ref A.p), some (.int (kept : Nat)), some (.int (at_ : Nat)), some (.str rule), some (.int ((kept + d : Nat) : Int)), some (.ref c), some (.ref l4), v1, v2, none] ∧ Same H3 H' ∧ ¬ Foot true A l4 ∧ H' l4 = some (.lst ((gW B.rows d ys).map V.str))) ?_ ?_
  · walk_at "go"
    refine w_2 (fun e1 => ?_) (fun e1 => ?_)
    · have hd1 : d = 1 := by
        have := of_decide_eq_true e1
        omega
      subst hd1
      obtain ⟨y, hy⟩ := get_lt (xs := ys) (i := 0) (by omega)
      have hy2 := hyg 0
      rw [hy, Nat.add_zero] at hy2
      walk_at "go"
      refine w_lB R3 ?_
      walk_at "go"
      refine w_ixL (SqL.of hc3) (at_rev hy2.symm) ?_
      walk_at "go"
      refine ⟨B, y, rfl, hB, R3.sg, fun H4 s4 => ?_⟩
      walk_at "go"
      refine w_2 (fun e2 => ?_) (fun e2 => ?_)
      · walk_at "go"
        refine w_mkL fun l4 H5 n5 s5 l5 => ?_
        refine ⟨l4, _, _, rfl, s4.trans s5, (RdAt.same R3 s4).not_free n5, ?_⟩
        have eg : gW B.rows 1 ys = [] := by
          cases ys with
          | nil => rfl
          | cons a r =>
            cases hy
            exact if_pos e2
        rw [eg]
        exact l5
      · walk_at "go"
        exact ⟨l, _, _, rfl, s4, fl, s4 _ _ l3⟩
    · walk_at "go"
      exact ⟨l, _, _, rfl, Same.refl H3, fl, l3⟩
  rintro σ H4 ⟨l4, v3, v4, rfl, s4, fl4, f4⟩
  have R4 : RdS true C B H4 A st ms N := RdAt.same R3 s4
  refine w_seq (w_while (fun m σ H' => ∃ A' st' ms' N', A'.p = A.p ∧ σ = [some (.ref A.p), some (.int (kept : Nat)), some (.int (at_ : Nat)), some (.str rule), some (.int ((kept + d : Nat) : Int)), some (.ref c), some (.ref l4), v3, v4, none] ∧ Mod true A H4 A' H' ∧ RdS true C B H' A' st' (ms ++ ms') N' ∧ StOk B.rows st' ∧ m = st'.rn.length ∧ N' + 2 * m ≤ N + 40 ∧
    (closeTo B.rows at_ rule (kept + d) st').1 = (closeTo B.rows at_ rule (kept + d) st).1 ∧ ms' ++ (closeTo B.rows at_ rule (kept + d) st').2 = (closeTo B.rows at_ rule (kept + d) st).2) _
    ⟨A, st, [], N, rfl, rfl, Mod.same (Same.refl H4), by rw [List.append_nil]; exact R4, O, rfl, by omega, rfl, rfl⟩ ?_)
  rintro m σ H5 ⟨A1, st1, ms1, N1, e1, rfl, m1, R1, O1, hm, hN1, hc1, hc2⟩
  rw [← e1]
  have hl1 := O1.len
  walk_at "go"
  refine w_lN R1 ?_
  walk_at "go"
  refine w_lenL (SqL.of R1.lnam) ?_
  rw [List.length_map, List.length_reverse]
  walk_at "go"
  refine w_2 (fun e => ?_) (fun e => ?_)
  · have hk : kept + d < st1.rn.length := by
      have := of_decide_eq_true e
      omega
    refine w_N ?_
    obtain ⟨x, r, hrn⟩ : ∃ x r, st1.rn = x :: r := by
      cases h : st1.rn with
      | nil =>
        rw [h] at hk
        cases hk
      | cons x r => exact ⟨x, r, rfl⟩
    have hxl := O1.inb.short hB.good x (by rw [hrn]; exact List.mem_cons_self)
    have ix : atI (st1.rn.reverse.map V.str) (-1) = some (.str x) := by
      rw [hrn, List.reverse_cons, List.map_append]
      exact atI_last _ _
    walk_at "go"
    refine w_lM R1 ?_
    refine w_tyM R1 ?_
    walk_at "go"
    refine w_lN R1 ?_
    walk_at "go"
    refine w_ixL (SqL.of R1.lnam) ix ?_
    refine w_addS (szM ?_) ?_
    · show 2 + x.length ≤ _
      omega
    walk_at "go"
    refine w_addS (szM ?_) ?_
    · rw [str_app_len]
      show 2 + x.length + 1 ≤ _
      omega
    walk_at "go"
    refine w_mkT fun q H6 _ s6 l6 => ?_
    walk_at "go"
    refine w_mend R1 s6 l6 (by omega) fun H7 m7 R7 => ?_
    walk_at "go"
    refine ⟨B, A1, st1, _, N1 + 1, x, r, rfl, hB, R7, O1, hrn, by omega, fun H8 A8 e8 m8 R8 => ?_⟩
    have hst := closeTo_step (rows := B.rows) (at_ := at_) (rule := rule) hrn hk
    rw [hst] at hc1 hc2
    have hle : (endOne B.rows st1).rn.length + 1 = st1.rn.length := by rw [end_rn hrn, hrn] <;> rfl
    refine ⟨_, ?_, A8, endOne B.rows st1, ms1 ++ [mClose at_ x rule], N1 + 1 + 1, e8, rfl, (m1.trans m7).trans m8, ?_, O1.end_ hB.good hrn, rfl, ?_, hc1, ?_⟩
    · omega
    · rw [← List.append_assoc]
      exact R8
    · omega
    · rw [List.append_assoc]
      exact hc2
  have hk : st1.rn.length ≤ kept + d := by
    have := of_decide_eq_false e
    omega
  obtain ⟨cl1, cl2, cl3⟩ := close_ok hB.good at_ rule (kept + d) _ st rfl O
  rw [closeTo_done hk] at hc1 hc2
  rw [List.append_nil] at hc2
  rw [← hc1] at cl1 cl2
  dsimp only at cl1 cl2 hc1
  obtain ⟨f5, fl5⟩ := m1 _ _ fl4 f4
  have m05 : Mod true A H A1 H5 := (Mod.same (s3.trans s4)).trans m1
  rw [← hc2] at k
  refine w_cut (M := fun σ H' => ∃ A6 st6, A6.p = A.p ∧ σ = [some (.ref A.p), some (.int (kept : Nat)), some (.int (at_ : Nat)), some (.str rule), some (.int ((kept + d : Nat) : Int)), some (.ref c), some (.ref l4), v3, v4, none] ∧ Mod true A H A6 H' ∧ RdS true C B H' A6 st6 (ms ++ ms1) (N + 41) ∧ StOk B.rows st6 ∧ H' l4 = some (.lst ((gW B.rows d ys).map V.str)) ∧
    lShut B.rows at_ rule kept d st = waitMore st6 (gW B.rows d ys)) ?_ ?_
  · walk_at "go"
    refine w_2 (fun e2 => ?_) (fun e2 => ?_)
    · have hd1 : d = 1 := by
        have := of_decide_eq_true e2
        omega
      subst hd1
      walk_at "go"
      obtain ⟨y, r, hyr⟩ : ∃ y r, st1.rn = y :: r := by
        cases h : st1.rn with
        | cons y r => exact ⟨y, r, rfl⟩
        | nil =>
          rw [h] at cl2
          have := congrArg List.length cl2
          rw [List.length_drop, List.length_nil] at this
          omega
      refine ⟨B, A1, st1, _, N1, y, r, rfl, hB, R1, O1, hyr, by omega, fun H6 A6 e6 m6 R6 => ?_⟩
      refine ⟨A6, endOne B.rows st1, e6.trans e1, by rw [e1], m05.trans m6, RdAt.more R6 (by omega), O1.end_ hB.good hyr, (m6 _ _ fl5 f5).1, ?_⟩
      unfold lShut
      rw [hys, if_neg (by decide), ← hc1]
    · have hd0 : d = 0 := by
        have := of_decide_eq_false e2
        omega
      subst hd0
      walk_at "go"
      refine ⟨A1, st1, e1, by rw [e1], m05, RdAt.more R1 (by omega), O1, f5, ?_⟩
      unfold lShut
      rw [hys, if_pos rfl]
      rw [Nat.add_zero] at hc1
      rw [← hc1]
  · rintro σ H6 ⟨A6, st6, e6, rfl, m6, R6, O6, f6, ek⟩
    have hl6 := O6.len
    obtain ⟨ks, eks, hkn⟩ := keys_cons (rows := B.rows) st6.rn
    rw [← e6]
    walk_at "go"
    refine w_lB R6 ?_
    walk_at "go"
    refine w_lN R6 ?_
    walk_at "go"
    refine ⟨B, A6.n, st6.rn, rfl, hB, R6.sg, R6.lnam, by omega, fun H7 s7 => ?_⟩
    have R7 := RdAt.same R6 s7
    obtain ⟨ar, rs, er, hr7, kvs, g1, g2, g3⟩ := RdAt.wrow R7
    have hwt := R7.bd.rw _ List.mem_cons_self
    walk_at "go"
    refine w_lW R7 ?_
    walk_at "go"
    refine w_dgI g1 g3 ?_
    walk_at "go"
    refine w_cat hr7 (s7 _ _ f6) (szM (by rw [List.length_map, List.length_map]; omega)) fun b H8 n8 s8 l8 => ?_
    rw [← List.map_append] at l8
    walk_at "go"
    refine w_lW (RdAt.same R7 s8) ?_
    walk_at "go"
    refine w_dpI (s8 _ _ g1) (szM' (by omega)) fun H9 b9 l9 => ?_
    rw [eks] at R7
    obtain ⟨R9, m9⟩ := R7.wnew (M := N + 70) hkn n8 s8 l8 (s8 _ _ g1) b9 l9 (by rw [List.length_append]; omega) (by omega)
    rw [← eks] at R9
    walk_at "go"
    refine k H9 _ ?e ((m6.trans (Mod.same s7)).trans m9) ?_
    case e => exact e6
    rw [ek]
    exact R9
end
end Tg

namespace Tg
open PySem PySem.Spec PyProof.Rows L2
theorem lastOne_at {rows : List Row} {rk : Str → Nat} {x : Str} : ∀ {rn : List Str} {n : Nat}, lastOne rows rk x rn = some n → rn.reverse[n]? = some x
  | [], n, h => by cases h
  | y :: r, n, h => by
    rw [lastOne] at h
    rw [List.reverse_cons]
    split at h
    · rename_i e
      cases h
      rw [← e]
      rw [List.getElem?_append_right (by rw [List.length_reverse]; exact Nat.le_refl _), List.length_reverse, Nat.sub_self] <;> rfl
    · split at h
      · cases h
      · have h2 := lastOne_lt h
        rw [List.getElem?_append_left (by rw [List.length_reverse]; exact h2)]
        exact lastOne_at h
theorem gW_close {rows : List Row} {rn : List Str} {n : Nat} {x : Str} (h : rn.reverse[n]? = some x) : gW rows 1 (rn.reverse.drop n) = if wall rows x = true then [] else toWait rows rn (n + 1) := by
  rw [drop_of_get h] <;> rfl
theorem last_at {row : List Str} {x : Str} {j : Nat} (h : row[j]? = some x) (hn : ∀ m, j < m → row[m]? ≠ some x) : lastIdx row x = some j := by
  have hj := (List.getElem?_eq_some_iff.mp h).1
  have e : row.reverse.findIdx? (fun y => decide (y = x)) = some (row.length - 1 - j) := by
    rw [List.findIdx?_eq_some_iff_getElem]
    refine ⟨by rw [List.length_reverse]; omega, ?_, fun m hm => ?_⟩
    · refine decide_eq_true ?_
      have := rev_get hj
      rw [h] at this
      exact (List.getElem?_eq_some_iff.mp this).2
    · intro z
      have z' := of_decide_eq_true z
      have hml : m < row.length := by omega
      have h2 : row.reverse[m]? = some x := List.getElem?_eq_some_iff.mpr ⟨by rw [List.length_reverse]; exact hml, z'⟩
      rw [List.getElem?_reverse hml] at h2
      exact hn _ (by omega) h2
  unfold lastIdx
  rw [e]
  show some (row.length - 1 - (row.length - 1 - j)) = some j
  congr 1
  omega
theorem plan_kept {rows : List Row} {rk : Str → Nat} (g : Good rows rk) {rn : List Str} {x : Str} {kept : Nat} {put : List Str} (hx : ∃ r ∈ rows, r.name = x) (h : opening rows rk rn x = .opn kept put) : kept ≤ rn.length := by
  unfold opening at h
  split at h
  · cases h
  · split at h
    · cases h
    · cases h
      exact (wanted_ok g rn (rk x) x (Nat.le_refl _) hx).1
theorem sort_none {rows : List Row} {x : Str} (h : rowOf rows x = none) : sortOf rows x = none := by
  unfold sortOf
  rw [h] <;> rfl
theorem sort_some {rows : List Row} {x : Str} {r : Row} (h : rowOf rows x = some r) : sortOf rows x = some r.sort := by
  unfold sortOf
  rw [h] <;> rfl
section
variable {P : Program} {w : World} {K : PySem.W.Frag} {mg : Str → Option Value} {base : Heap} {C ea : Addr}
def spLOpenTag (C : Addr) : Sp := fun vs H Q _ => ∃ (B : Bk) (A : RdA) (st : St) (ms : List Mend) (N a b : Nat) (x : Str), vs = [.ref A.p, .int (a : Nat), .int (b : Nat), .str x] ∧ B.Ok ∧ RdS true C B H A st ms N ∧ StOk B.rows st ∧ N ≤ 780000 ∧
  ∀ H' A', A'.p = A.p → Mod true A H A' H' → RdS true C B H' A' (openTok B.rows B.rk st a b x).1 (ms ++ (openTok B.rows B.rk st a b x).2) (N + 200) → Q .non H'
theorem c_l_open_tag (D : Defs K mg C) (T : Tx K mg C ea) : C8.Cal P w K mg base 22 "_law_open_tag" (spLOpenTag C) [] := by
  refine D.d_l_open_tag.cal sc_l_open_tag (fun vs H Q E h => ?_) (fun f cdv A outer s H vs Q E hr h => ?_)
  · obtain ⟨B, A, st, ms, N, a, b, x, rfl, _⟩ := h
    rfl
  obtain ⟨B, A, st, ms, N, a, b, x, rfl, hB, R, O, hN, k⟩ := h
  have c_l_row : C8.Cal P w K mg base 1 "_law_row" spRowWith [] := c_l_row D T
  have c_l_plan : C8.Cal P w K mg base 21 "_law_plan" spLPlan [] := c_l_plan D T
  have c_l_shut : C8.Cal P w K mg base 5 "_law_shut" (spLShut C) [] := c_l_shut D T
  have c_l_begin : C8.Cal P w K mg base 3 "_law_begin" (spLBegin C) [] := c_l_begin D T
  have c_l_lie : C8.Cal P w K mg base 1 "_law_lie" (spLLie C) [] := c_l_lie D T
  refine ⟨_, (pss_cons (ps_set (i := 4) sc_l_open_tag.nd rfl (Or.inl rfl) (pe_dget (hu_of hr) (pv 0) pe_str (fun _ _ => rfl)))
      (pss_cons (ps_set (i := 5) sc_l_open_tag.nd rfl (Or.inl rfl) (pe_tup (pa_cons pe_str (pa_cons pe_str pa_nil))))
      (Evl.pss_cut (ps_if (pt_cmpR op_notN1 (C8.pe_c c_l_row hr (by decide) rfl (pa_cons (pv 4) (pa_cons (pv 3) pa_nil))) pe_non (nomark _)) (pss_one (ps_set (i := 5) sc_l_open_tag.nd rfl (Or.inl rfl) (C8.pe_c c_l_plan hr (by decide) rfl (pa_cons (pv 4) (pa_cons (pe_dget (hu_of hr) (pv 0) pe_str (fun _ _ => rfl)) (pa_cons (pv 3) pa_nil)))))) pss_nil)
      (pss_cons (ps_if (pt_cmpR op_eq (pe_ix ix_tup (pv 5) pe_int (fun _ _ => rfl)) pe_str (nomark _)) (pss_cons (ps_expr (pe_bm PySem.F.plainAttrs_list PySem.F.slot_list_append PySem.F.type_list_append mt_append (pe_dget (hu_of hr) (pv 0) pe_str (fun _ _ => rfl)) (pa_cons (pe_tup (pa_cons (pv 1) (pa_cons (pv 2) (pa_cons pe_str (pa_cons (pe_ix ix_tup (pv 5) pe_int (fun _ _ => rfl)) pa_nil))))) pa_nil)))
      (pss_one ps_retN)) pss_nil)
      (pss_cons (ps_expr (C8.pe_c c_l_shut hr (by decide) rfl (pa_cons (pv 0) (pa_cons (pe_ix ix_tup (pv 5) pe_int (fun _ _ => rfl)) (pa_cons (pv 1) (pa_cons pe_str (pa_cons (pe_ix ix_tup (pv 5) pe_int (fun _ _ => rfl)) pa_nil)))))))
      (pss_cons (ps_for PassesOwn.never rfl (pi_tup (pe_slice sl_tupA (pe_ix ix_tup (pv 5) pe_int (fun _ _ => rfl)) po_none (po_some (pe_un un_neg pe_int)))) (pg_name (i := 6) sc_l_open_tag.nd rfl (Or.inl rfl)) (pss_cons (ps_expr (pe_bm PySem.F.plainAttrs_list PySem.F.slot_list_append PySem.F.type_list_append mt_append (pe_dget (hu_of hr) (pv 0) pe_str (fun _ _ => rfl)) (pa_cons (pe_tup (pa_cons (pv 1) (pa_cons (pv 1) (pa_cons (pe_op op_addS (pe_op op_addS pe_str (pv 6)) pe_str) (pa_cons pe_str pa_nil))))) pa_nil)))
      (pss_one (ps_expr (C8.pe_c c_l_begin hr (by decide) rfl (pa_cons (pv 0) (pa_cons (pv 6) pa_nil)))))))
      (pss_one (ps_if (pt_cmpR op_eq (pe_ix ix_tup (C8.pe_c c_l_row hr (by decide) rfl (pa_cons (pv 4) (pa_cons (pv 3) pa_nil))) pe_int (fun _ _ => rfl)) pe_str (nomark _)) (pss_one (ps_expr (C8.pe_c c_l_lie hr (by decide) rfl (pa_cons (pv 0) (pa_cons (pe_tup (pa_cons (pv 3) (pa_cons (pe_tup pa_nil) pa_nil))) pa_nil))))) (pss_one (ps_expr (C8.pe_c c_l_begin hr (by decide) rfl (pa_cons (pv 0) (pa_cons (pv 3) pa_nil))))))))))))), ?_⟩
  have hlen := O.len
  walk_at "go"
  refine w_lB R ?_
  walk_at "go"
  refine w_mkT fun p0 H1 n1 s1 l1 => ?_
  have R1 : RdS true C B H1 A st ms N := RdAt.same R s1
  walk_at "go"
  refine w_cut (M := fun σ H' => ∃ p, σ = [some (.ref A.p), some (.int (a : Nat)), some (.int (b : Nat)), some (.str x), some (.ref B.b), some (.ref p), none] ∧ Same H H' ∧ ((rowOf B.rows x = none ∧ H' p = some (.tup [.str "drop", .str "strange"])) ∨ ((∃ r, rowOf B.rows x = some r) ∧ ((∃ rule, opening B.rows B.rk st.rn x = .drop rule ∧ H' p = some (.tup [.str "drop", .str rule])) ∨
    ∃ kept put q, opening B.rows B.rk st.rn x = .opn kept put ∧ H' p = some (.tup [.str "open", .int (kept : Nat), .ref q]) ∧ H' q = some (.tup (put.map V.str)))))) ?_ ?_
  · walk_at "go"
    refine ⟨B, x, rfl, hB, R1.sg, fun hh => ?_, fun r p hh hR => ?_⟩
    · walk_at "go"
      exact ⟨p0, rfl, s1, .inl ⟨hh, l1⟩⟩
    · have hx : ∃ r ∈ B.rows, r.name = x := ⟨r, row_some hh⟩
      walk_at "go"
      refine w_lN R1 ?_
      walk_at "go"
      refine ⟨B, A.n, st.rn, x, rfl, hB, R1.sg, R1.lnam, by omega, O.inb, hx, fun H2 p rule s2 ho hp => ?_, fun H2 p q kept put s2 ho hp hq => ?_⟩
      · exact ⟨p, rfl, s1.trans s2, .inr ⟨⟨r, hh⟩, .inl ⟨rule, ho, hp⟩⟩⟩
      · exact ⟨p, rfl, s1.trans s2, .inr ⟨⟨r, hh⟩, .inr ⟨kept, put, q, ho, hp, hq⟩⟩⟩
  rintro σ H2 ⟨p, rfl, s2, hcase⟩
  have R2 : RdS true C B H2 A st ms N := RdAt.same R s2
  have drop : ∀ rule, H2 p = some (.tup [.str "drop", .str rule]) → openTok B.rows B.rk st a b x = (st, [⟨a, b, "", rule⟩]) → ∀ (q : Addr) (H3 : Hp), Same H2 H3 → H3 q = some (.tup [.int (a : Nat), .int (b : Nat), .str "", .str rule]) → rAppend (.ref A.m) [.ref q] H3 (fun _ H' => Q .non H') := fun rule hp er q H3 s3 l3 => by
    refine w_mend R2 s3 l3 (by omega) fun H4 m4 R4 => ?_
    refine k H4 A rfl ((Mod.same s2).trans m4) ?_
    rw [er]
    exact RdAt.more R4 (by omega)
  rcases hcase with ⟨hh, hp⟩ | ⟨⟨r, hh⟩, ⟨rule, ho, hp⟩ | ⟨kept, put, q, ho, hp, hq⟩⟩
  · walk_at "go"
    refine w_ixT (SqT.of hp) rfl ?_
    walk_at "go"
    rw [show decide (("drop" : Str) = "drop") = true from by decide]
    walk_at "go"
    refine w_lM R2 ?_
    refine w_tyM R2 ?_
    walk_at "go"
    refine w_ixT (SqT.of hp) rfl ?_
    walk_at "go"
    refine w_mkT fun q3 H3 _ s3 l3 => ?_
    walk_at "go"
    refine drop "strange" hp ?_ q3 H3 s3 l3
    unfold openTok
    rw [if_pos (sort_none hh)]
  · have hs : sortOf B.rows x ≠ none := by
      rw [sort_some hh]
      exact fun z => by cases z
    walk_at "go"
    refine w_ixT (SqT.of hp) rfl ?_
    walk_at "go"
    rw [show decide (("drop" : Str) = "drop") = true from by decide]
    walk_at "go"
    refine w_lM R2 ?_
    refine w_tyM R2 ?_
    walk_at "go"
    refine w_ixT (SqT.of hp) rfl ?_
    walk_at "go"
    refine w_mkT fun q3 H3 _ s3 l3 => ?_
    walk_at "go"
    exact drop rule hp (openTok_drop hs ho) q3 H3 s3 l3
  have hs : sortOf B.rows x ≠ none := by
    rw [sort_some hh]
    exact fun z => by cases z
  have hx : ∃ r ∈ B.rows, r.name = x := ⟨r, row_some hh⟩
  obtain ⟨p1, p2, ps, p3⟩ := plan_ok hB.good O.inb hx ho
  have hkl := plan_kept hB.good hx ho
  obtain ⟨cl1, cl2, cl3⟩ := close_ok hB.good a "shut" kept _ st rfl O
  have hlp : put.length = ps.length + 1 := by rw [p3, List.length_append] <;> rfl
  have hcl : (closeTo B.rows a "shut" kept st).1.rn.length ≤ 20 := cl1.len
  walk_at "go"
  refine w_ixT (SqT.of hp) rfl ?_
  walk_at "go"
  rw [show decide (("open" : Str) = "drop") = false from by decide]
  walk_at "go"
  refine w_ixT (SqT.of hp) rfl ?_
  walk_at "go"
  refine w_ixT (SqT.of hp) rfl ?_
  walk_at "go"
  refine ⟨B, A, st, ms, N, kept, a, 0, "shut", rfl, hB, R2, O, by omega, by omega, by omega, fun H5 A3 e3 m5 R5 => ?_⟩
  have hp5 := RdAt.tups R2 m5 _ _ hp
  have hq5 := RdAt.tups R2 m5 _ _ hq
  have m05 : Mod true A H A3 H5 := (Mod.same s2).trans m5
  have O5 := wait_ok (ws := toWait B.rows st.rn kept) cl1 (to_wait_anew O.inb)
  have els : lShut B.rows a "shut" kept 0 st = waitMore (closeTo B.rows a "shut" kept st).1 (toWait B.rows st.rn kept) := rfl
  rw [els] at R5
  generalize hst5 : waitMore (closeTo B.rows a "shut" kept st).1 (toWait B.rows st.rn kept) = st5 at O5 R5
  have R5' : RdS true C B H5 A3 st5 (ms ++ (closeTo B.rows a "shut" kept st).2) (N + 70) := R5
  have hrn5 : st5.rn = (closeTo B.rows a "shut" kept st).1.rn := by rw [← hst5] <;> rfl
  rw [← e3]
  walk_at "go"
  refine w_ixT (SqT.of hp5) rfl ?_
  walk_at "go"
  refine w_slT hq5 fun t H6 s6 l6 => ?_
  have ecut : cutV (put.map V.str) none (some (-1)) = ps.map V.str := by
    rw [p3, List.map_append]
    exact cut_init _ _
  rw [ecut] at l6
  have R6 : RdS true C B H6 A3 st5 (ms ++ (closeTo B.rows a "shut" kept st).2) (N + 70) := RdAt.same R5' s6
  have inps : Inb B.rows ps := fun y hy => p2 y (by rw [p3]; exact List.mem_append_left _ hy)
  have hps20 : st5.rn.length + ps.length + 1 ≤ 20 := by
    rw [hrn5, cl2]
    omega
  refine w_forT (SqT.of l6) (fun i σ H' => (∃ v, σ = [some (.ref A3.p), some (.int (a : Nat)), some (.int (b : Nat)), some (.str x), some (.ref B.b), some (.ref p), v]) ∧ ∃ A', A'.p = A3.p ∧ Mod true A3 H6 A' H' ∧
    RdS true C B H' A' (putOpens B.rows a "frame" (ps.take i) st5).1 ((ms ++ (closeTo B.rows a "shut" kept st).2) ++ (putOpens B.rows a "frame" (ps.take i) st5).2) (N + 70 + 2 * i))
    ⟨⟨_, rfl⟩, A3, rfl, Mod.same (Same.refl H6), by rw [List.take_zero]; show RdS _ _ _ _ _ st5 (_ ++ []) _; rw [List.append_nil]; exact R6⟩ ?_ ?_ ?_
  · rintro i σ H' hi ⟨_, A', _, m', _⟩
    exact SqT.of (RdAt.tups R6 m' _ _ l6)
  · rintro i v σ H' hv ⟨⟨v0, rfl⟩, A', e', m', R'⟩
    obtain ⟨y, hy, rfl⟩ := map_get hv
    have hyl := (List.getElem?_eq_some_iff.mp hy).1
    have hy8 := inps.short hB.good y (List.mem_of_getElem? hy)
    obtain ⟨O', orn, _⟩ := opens_ok (at_ := a) (rule := "frame") (xs := ps.take i) O5 (fun z hz => inps z (List.mem_of_mem_take hz)) (by rw [List.length_take]; omega)
    have ol := O'.len
    have oo := O'.outl
    rw [← e']
    walk_at "go"
    refine w_lM R' ?_
    refine w_tyM R' ?_
    walk_at "go"
    refine w_addS (szM ?_) ?_
    · show 1 + y.length ≤ _
      omega
    walk_at "go"
    refine w_addS (szM ?_) ?_
    · rw [str_app_len]
      show 1 + y.length + 1 ≤ _
      omega
    walk_at "go"
    refine w_mkT fun q7 H7 _ s7 l7 => ?_
    walk_at "go"
    refine w_mend R' s7 l7 (by omega) fun H8 m8 R8 => ?_
    walk_at "go"
    refine ⟨B, A', _, _, _, y, rfl, hB, R8, by omega, by omega, by omega, fun H9 A9 e9 m9 R9 => ?_⟩
    refine ⟨⟨_, rfl⟩, A9, e9, (m'.trans m8).trans m9, ?_⟩
    rw [take_snoc hy, putOpens_snoc]
    rw [List.append_assoc] at R9
    exact R9
  · rintro σ H' ⟨⟨v0, rfl⟩, A', e', m', R'⟩
    rw [List.length_map, List.take_length] at R'
    obtain ⟨O', orn, _⟩ := opens_ok (at_ := a) (rule := "frame") (xs := ps) O5 inps (by omega)
    have et := openTok_opn (a := a) (b := b) hs ho
    have ed : put.dropLast = ps := by rw [p3, List.dropLast_concat]
    rw [ed, hst5] at et
    have m0' := (m05.trans (Mod.same s6)).trans m'
    rw [← e']
    have e0 : A'.p = A.p := e'.trans e3
    walk_at "go"
    refine ⟨B, x, rfl, hB, R'.sg, (fun h => by rw [hh] at h; cases h), fun r2 p9 h hR => ?_⟩
    obtain rfl : r = r2 := Option.some.inj (hh.symm.trans h)
    obtain ⟨q1, q2, h1, h2, h3⟩ := hR
    have hsd : decide (sortOf B.rows x = some ("bare" : Str)) = decide (r.sort = ("bare" : Str)) := by
      rw [sort_some hh]
      exact decide_eq_decide.mpr ⟨fun z => Option.some.inj z, fun z => congrArg some z⟩
    walk_at "go"
    refine w_ixT (SqT.of (R'.sg _ _ h1)) (by exact rfl) ?_
    walk_at "go"
    rw [← hsd]
    refine w_2 (fun e2 => ?_) (fun e2 => ?_)
    · have e2' : sortOf B.rows x = some ("bare" : Str) := of_decide_eq_true e2
      rw [if_pos e2'] at et
      walk_at "go"
      refine w_mkT fun t1 H7 _ s7 l7 => ?_
      walk_at "go"
      refine w_mkT fun t2 H8 _ s8 l8 => ?_
      walk_at "go"
      refine ⟨B, A', _, _, _, _, _, _, _, 0, .ref t2, .node x [], rfl, hB, RdAt.same R' (s7.trans s8), fun u hu => ?_, .node l8 (s8 _ _ l7) .nil, ?_, by omega, fun H9 m9 R9 => ?_⟩
      · have := O'.lev u hu
        exact ⟨by omega, this.2⟩
      · intro s z
        cases z
      · refine k H9 A' e0 (((m0'.trans (Mod.same s7)).trans (Mod.same s8)).trans m9) ?_
        rw [et]
        rw [List.append_assoc] at R9
        exact R9.more (by omega)
    · have e2' : ¬ sortOf B.rows x = some ("bare" : Str) := of_decide_eq_false e2
      rw [if_neg e2'] at et
      walk_at "go"
      have hl' := O'.len
      have ho' := O'.outl
      refine ⟨B, A', _, _, _, x, rfl, hB, R', by omega, by omega, by omega, fun H9 A9 e9 m9 R9 => ?_⟩
      refine k H9 A9 (e9.trans e0) (m0'.trans m9) ?_
      rw [et]
      rw [List.append_assoc] at R9
      exact RdAt.more R9 (by omega)
def spLCloseTag (C : Addr) : Sp := fun vs H Q _ => ∃ (B : Bk) (A : RdA) (st : St) (ms : List Mend) (N a b : Nat) (x : Str), vs = [.ref A.p, .int (a : Nat), .int (b : Nat), .str x] ∧ B.Ok ∧ RdS true C B H A st ms N ∧ StOk B.rows st ∧ N ≤ 780000 ∧
  ∀ H' A', A'.p = A.p → Mod true A H A' H' → RdS true C B H' A' (closeTok B.rows B.rk st a b x).1 (ms ++ (closeTok B.rows B.rk st a b x).2) (N + 200) → Q .non H'
theorem c_l_close_tag (D : Defs K mg C) (T : Tx K mg C ea) : C8.Cal P w K mg base 6 "_law_close_tag" (spLCloseTag C) [] := by
  refine D.d_l_close_tag.cal sc_l_close_tag (fun vs H Q E h => ?_) (fun f cdv A outer s H vs Q E hr h => ?_)
  · obtain ⟨B, A, st, ms, N, a, b, x, rfl, _⟩ := h
    rfl
  obtain ⟨B, A, st, ms, N, a, b, x, rfl, hB, R, O, hN, k⟩ := h
  have c_l_last : C8.Cal P w K mg base 3 "_law_last" spLLast [] := c_l_last D T
  have c_l_shut : C8.Cal P w K mg base 5 "_law_shut" (spLShut C) [] := c_l_shut D T
  have c_l_key : C8.Cal P w K mg base 4 "_law_key" spLKey [] := c_l_key D T
  refine ⟨_, (pss_cons (ps_set (i := 4) sc_l_close_tag.nd rfl (Or.inl rfl) (C8.pe_c c_l_last hr (by decide) rfl (pa_cons (pe_dget (hu_of hr) (pv 0) pe_str (fun _ _ => rfl)) (pa_cons (pe_dget (hu_of hr) (pv 0) pe_str (fun _ _ => rfl)) (pa_cons (pv 3) pa_nil)))))
      (pss_cons (ps_if (pt_cmpR op_notN1 (pv 4) pe_non (nomark _)) (pss_cons (ps_expr (C8.pe_c c_l_shut hr (by decide) rfl (pa_cons (pv 0) (pa_cons (pv 4) (pa_cons (pv 1) (pa_cons pe_str (pa_cons (pe_op op_add (pv 4) pe_int) pa_nil)))))))
      (pss_one ps_retN)) pss_nil)
      (pss_cons (ps_set (i := 5) sc_l_close_tag.nd rfl (Or.inl rfl) (pe_dget (hu_of hr) (pe_dget (hu_of hr) (pv 0) pe_str (fun _ _ => rfl)) (C8.pe_c c_l_key hr (by decide) rfl (pa_cons (pe_dget (hu_of hr) (pv 0) pe_str (fun _ _ => rfl)) (pa_cons (pe_dget (hu_of hr) (pv 0) pe_str (fun _ _ => rfl)) pa_nil))) (fun _ _ => rfl)))
      (pss_cons (ps_set (i := 6) sc_l_close_tag.nd rfl (Or.inl rfl) pe_str)
      (pss_cons (ps_for PassesOwn.never rfl (pi_revR (by rfl) T.b_reversed (prg_1 (by rfl) T.b_range (pe_callB call_lenQ (by rfl) T.b_len PySem.boot_len (pa_cons (pv 5) pa_nil)))) (pg_name (i := 7) sc_l_close_tag.nd rfl (Or.inl rfl)) (pss_one (ps_if (PW.pt (pw_and (pt_cmpR op_eq (pe_ix ix_list (pv 5) (pv 7) (fun _ _ => rfl)) (pv 3) (nomark _)) (pw_and1 (pt_cmpR op_eq (pv 6) pe_str (nomark _))))) (pss_cons (ps_expr (pe_bm PySem.F.plainAttrs_list PySem.F.slot_list_pop PySem.F.type_list_pop mt_popAt (pv 5) (pa_cons (pv 7) pa_nil)))
      (pss_one (ps_set (i := 6) sc_l_close_tag.nd rfl (Or.inl rfl) pe_str))) pss_nil)))
      (pss_one (ps_expr (pe_bm PySem.F.plainAttrs_list PySem.F.slot_list_append PySem.F.type_list_append mt_append (pe_dget (hu_of hr) (pv 0) pe_str (fun _ _ => rfl)) (pa_cons (pe_tup (pa_cons (pv 1) (pa_cons (pv 2) (pa_cons pe_str (pa_cons (pv 6) pa_nil))))) pa_nil))))))))), ?_⟩
  have hlen := O.len
  walk_at "go"
  refine w_lB R ?_
  walk_at "go"
  refine w_lN R ?_
  walk_at "go"
  refine ⟨B, A.n, st.rn, x, rfl, hB, R.sg, R.lnam, by omega, fun H1 s1 => ?_⟩
  have R1 : RdS true C B H1 A st ms N := RdAt.same R s1
  unfold closeTok at k
  cases hk : lastOne B.rows B.rk x st.rn with
  | some kept =>
    rw [hk] at k
    have hlt := lastOne_lt hk
    walk_at "go"
    refine ⟨B, A, st, ms, N, kept, a, 1, "left", rfl, hB, R1, O, by omega, by omega, by omega, fun H2 A2 e2 m2 R2 => ?_⟩
    walk_at "go"
    refine k H2 A2 e2 ((Mod.same s1).trans m2) ?_
    have els : lShut B.rows a "left" kept 1 st = waitMore (endOne B.rows (closeTo B.rows a "left" (kept + 1) st).1) (if wall B.rows x = true then [] else toWait B.rows st.rn (kept + 1)) := by
      rw [← gW_close (lastOne_at hk)] <;> rfl
    rw [els] at R2
    exact RdAt.more R2 (by omega)
  | none =>
    rw [hk] at k
    dsimp only at k
    walk_at "go"
    refine w_lW R1 ?_
    walk_at "go"
    refine w_lB R1 ?_
    walk_at "go"
    refine w_lN R1 ?_
    walk_at "go"
    refine ⟨B, A.n, st.rn, rfl, hB, R1.sg, R1.lnam, by omega, fun H2 s2 => ?_⟩
    have R2 : RdS true C B H2 A st ms N := RdAt.same R1 s2
    obtain ⟨ar, rs, er, hr2, kvs, g1, g2, g3⟩ := RdAt.wrow R2
    have hwt := R2.bd.rw _ List.mem_cons_self
    refine w_dgI g1 g3 ?_
    walk_at "go"
    refine w_lenL (SqL.of hr2) ?_
    rw [List.length_map]
    refine w_forV (by omega) (fun i σ H' => ∃ (row : List Str) (rule : Str), (∃ v, σ = [some (.ref A.p), some (.int (a : Nat)), some (.int (b : Nat)), some (.str x), some .non, some (.ref ar), some (.str rule), v]) ∧ Mod true A H2 A H' ∧ RdS true C B H' A { st with wtop := row } ms N ∧ H' ar = some (.lst (row.map V.str)) ∧
      ((rule = "stray" ∧ row = st.wtop ∧ ∀ m, st.wtop.length - i ≤ m → st.wtop[m]? ≠ some x) ∨ (rule = "late" ∧ ∃ j, st.wtop.length - i ≤ j ∧ row = st.wtop.eraseIdx j ∧ lastIdx st.wtop x = some j)))
      ⟨st.wtop, "stray", ⟨_, rfl⟩, Mod.same (Same.refl H2), R2, hr2, .inl ⟨rfl, rfl, fun m hm => ?_⟩⟩ ?_ ?_
    · rw [List.getElem?_eq_none (by omega)]
      exact fun z => by cases z
    · rintro i σ H' hi ⟨row, rule, ⟨v, rfl⟩, m', R', hr', hc⟩
      obtain ⟨y, hy⟩ := get_lt (xs := st.wtop) (i := st.wtop.length - 1 - i) (by omega)
      rcases hc with ⟨rfl, rfl, hno⟩ | ⟨rfl, j, hj, rfl, hl⟩
      · walk_at "go"
        refine w_ixL (SqL.of hr') (atI_nat (by rw [List.getElem?_map, hy] <;> rfl)) ?_
        walk_at "go"
        refine w_2 (fun e => ?_) (fun e => ?_)
        · have e' : y = x := of_decide_eq_true e
          walk_at "go"
          rw [show decide (("stray" : Str) = "stray") = true from by decide]
          walk_at "go"
          refine w_tyL hr' ?_
          walk_at "go"
          refine w_popAt hr' (by rw [List.getElem?_map, hy] <;> rfl) (by rw [List.length_map]; omega) fun H3 b3 l3 => ?_
          rw [erase_map] at l3
          have hle : (st.wtop.eraseIdx (st.wtop.length - 1 - i)).length ≤ N := Nat.le_trans (List.length_eraseIdx_le _ _) hwt
          obtain ⟨R3, m3⟩ := RdAt.wlist (M := N) R' er b3 l3 hle (Nat.le_refl _)
          walk_at "go"
          refine ⟨_, "late", ⟨_, rfl⟩, m'.trans m3, R3, l3, .inr ⟨rfl, _, by omega, rfl, ?_⟩⟩
          exact last_at (by rw [hy, e']) fun m hm => hno m (by omega)
        · have e' : ¬ y = x := of_decide_eq_false e
          walk_at "go"
          refine ⟨_, "stray", ⟨_, rfl⟩, m', R', hr', .inl ⟨rfl, rfl, fun m hm => ?_⟩⟩
          by_cases hme : m = st.wtop.length - 1 - i
          · rw [hme, hy]
            exact fun z => e' (Option.some.inj z)
          · exact hno m (by omega)
      · have hy2 : (st.wtop.eraseIdx j)[st.wtop.length - 1 - i]? = some y := by
          rw [List.getElem?_eraseIdx_of_lt (by omega)]
          exact hy
        walk_at "go"
        refine w_ixL (SqL.of hr') (atI_nat (by rw [List.getElem?_map, hy2] <;> rfl)) ?_
        walk_at "go"
        refine w_2 (fun e => ?_) (fun e => ?_)
        · walk_at "go"
          rw [show decide (("late" : Str) = "stray") = false from by decide]
          walk_at "go"
          exact ⟨_, "late", ⟨_, rfl⟩, m', R', hr', .inr ⟨rfl, j, by omega, rfl, hl⟩⟩
        · walk_at "go"
          exact ⟨_, "late", ⟨_, rfl⟩, m', R', hr', .inr ⟨rfl, j, by omega, rfl, hl⟩⟩
    · rintro σ H3 ⟨row, rule, ⟨v, rfl⟩, m3, R3, hr3, hc⟩
      walk_at "go"
      refine w_lM R3 ?_
      refine w_tyM R3 ?_
      walk_at "go"
      refine w_mkT fun q4 H4 _ s4 l4 => ?_
      walk_at "go"
      refine w_mend R3 s4 l4 (by omega) fun H5 m5 R5 => ?_
      refine k H5 A rfl (((Mod.same (s1.trans s2)).trans m3).trans m5) ?_
      rcases hc with ⟨rfl, rfl, hno⟩ | ⟨rfl, j, hj, rfl, hl⟩
      · rw [last_none (x := x) (row := st.wtop) (fun z => by
          obtain ⟨i, hi, e⟩ := List.mem_iff_getElem.mp z
          exact hno i (by omega) (by rw [List.getElem?_eq_getElem hi, e]))]
        exact RdAt.more R5 (by omega)
      · rw [hl]
        exact RdAt.more R5 (by omega)
end
end Tg

namespace Tg
open PySem PySem.Spec PyProof.Rows L2
section
variable {K : PySem.W.Frag} {σ : L2.St} {H : Hp} {Q : VK}
theorem w_eqL0 {p q : Addr} {ys : List Str} (h : SqL K H p (ys.map V.str)) (h0 : H q = some (.lst [])) (hy : ∀ y ∈ ys, sOk y = true) (k : Q (.bl ys.isEmpty) H) : rEqD K (.ref p) (.ref q) H Q :=
  w_eqD (.lst h (dp_strs ys)) (.lst (SqL.of h0) .nil) (shaped_lst (lay_strs hy) (by rw [dep_strs]; omega)) (by decide) (by rw [eqv_lnil, List.isEmpty_map]; exact k)
/-- a comprehension over a text -/
theorem w_lcS {z : Str} {g : TG} {tt : TT} {te : TE} {vs : List Nat} (Pv : Addr → Nat → Hp → Prop) (h0 : ∀ Dl, H Dl = none → Pv Dl 0 (upd H Dl (.lst [])))
    (hs : ∀ Dl i c H', z.cps.toList[i]? = some c → Pv Dl i H' → g (.str ⟨#[c]⟩) (wipe σ vs) H' fun σ2 H2 => wipe σ2 vs = wipe σ vs ∧ tt σ2 H2 fun b H3 => if b = true then te σ2 H3 fun y H4 => ∃ acc, H4 Dl = some (.lst acc) ∧ acc.length < sizeLine ∧ Pv Dl (i + 1) (upd H4 Dl (.lst (acc ++ [y]))) else Pv Dl (i + 1) H3)
    (hd : ∀ Dl H', Pv Dl z.length H' → Q (.ref Dl) H') : LcW (Its z) σ H g tt te vs Q :=
  fun Dl hD => lc_it walk_str (Pv Dl) (h0 Dl hD) (fun _ _ _ _ => trivial) (fun i x Ha Hb hi hP hy => by
    obtain ⟨rfl, c, hc, rfl⟩ := hy
    exact hs Dl i c _ (by rw [Array.getElem?_toList]; exact hc) hP) (hd Dl)
end
/-- what stands against one coming again -/
def aC (rows : List Row) (x y : Str) : Bool := decide (y = x) || (decide (y ∈ shutsOf rows x) || decide (y ∈ barsOf rows x))
theorem filter_none {α : Type} {p : α → Bool} : ∀ {xs : List α}, (xs.filter p).isEmpty = xs.all fun y => !p y
  | [] => rfl
  | x :: xs => by
    rw [List.filter_cons, List.all_cons]
    cases e : p x with
    | true => rfl
    | false =>
      rw [if_neg (by decide), filter_none] <;> rfl
theorem all_or {α : Type} {p q : α → Bool} : ∀ {xs : List α}, (xs.all fun y => !(p y || q y)) = ((xs.all fun y => !p y) && xs.all fun y => !q y)
  | [] => rfl
  | x :: xs => by
    rw [List.all_cons, List.all_cons, List.all_cons, all_or]
    cases p x <;> cases q x <;> simp
theorem any_all {α : Type} {p : α → Bool} : ∀ {xs : List α}, (!xs.any p) = xs.all fun y => !p y
  | [] => rfl
  | x :: xs => by
    rw [List.any_cons, List.all_cons, Bool.not_or, any_all]
theorem not_mem_all {x : Str} : ∀ {xs : List Str}, (!decide (x ∈ xs)) = xs.all fun y => !decide (y = x)
  | [] => rfl
  | y :: ys => by
    rw [List.all_cons, ← not_mem_all]
    by_cases e : y = x
    · simp [e]
    · have e2 : ¬ x = y := fun z => e z.symm
      simp [e, e2]
theorem shut_all {rows : List Row} {rn : List Str} {x : Str} : decide (shutFrom rows rn x = rn.length) = (near rows rn).all fun y => !decide (y ∈ shutsOf rows x) := by
  have hl := near_len (rows := rows) rn
  unfold shutFrom
  cases e : (near rows rn).findIdx? fun y => decide (y ∈ shutsOf rows x) with
  | none =>
    dsimp only
    rw [decide_eq_true rfl, Eq.comm]
    refine List.all_eq_true.mpr fun y hy => ?_
    rw [List.findIdx?_eq_none_iff.mp e y hy] <;> rfl
  | some k =>
    obtain ⟨h1, h2, _⟩ := List.findIdx?_eq_some_iff_getElem.mp e
    dsimp only
    rw [decide_eq_false (by omega), Eq.comm]
    refine List.all_eq_false.mpr ⟨_, List.getElem_mem h1, ?_⟩
    rw [h2]
    decide
theorem may_eq {rows : List Row} {rn : List Str} {x : Str} : mayAnew rows rn x = (((near rows rn).filter (aC rows x)).isEmpty && decide (rn.length < 20)) := by
  have e : ((near rows rn).filter (aC rows x)).isEmpty = (!decide (x ∈ near rows rn) && (decide (shutFrom rows rn x = rn.length) && !barred rows rn x)) := by
    rw [filter_none]
    unfold aC
    rw [all_or, all_or, not_mem_all, shut_all]
    unfold barred
    rw [any_all]
  unfold mayAnew
  rw [e]
section
variable {P : Program} {w : World} {K : PySem.W.Frag} {mg : Str → Option Value} {base : Heap} {C ea : Addr}
def spLAnew (C : Addr) : Sp := fun vs H Q _ => ∃ (B : Bk) (A : RdA) (st : St) (ms : List Mend) (N a : Nat), vs = [.ref A.p, .int (a : Nat)] ∧ B.Ok ∧ RdS true C B H A st ms N ∧ StOk B.rows st ∧ N ≤ 790000 ∧
  ∀ H' A', A'.p = A.p → Mod true A H A' H' → RdS true C B H' A' (openAnew B.rows st a).1 (ms ++ (openAnew B.rows st a).2) (N + 60) → Q .non H'
def LAnewInv (C : Addr) (B : Bk) (A3 : RdA) (H3 : Hp) (ms : List Mend) (N : Nat) (st3 : St) (ar : Addr) (a : Nat) (xs : List Str) (σ : L2.St) (H' : Hp) : Prop :=
  (∃ v1 v2 v3 v4 v5, σ = [some (.ref A3.p), some (.int (a : Nat)), some (.ref B.b), some (.int (wallKey B.rows st3.rn : Nat)), some (.ref ar), v1, v2, v3, v4, v5]) ∧ ∃ A', A'.p = A3.p ∧ Mod true A3 H3 A' H' ∧
    RdS true C B H' A' (anews B.rows a xs st3).1 (ms ++ (anews B.rows a xs st3).2) (N + 1 + 2 * (anews B.rows a xs st3).2.length)
theorem c_l_anew (D : Defs K mg C) (T : Tx K mg C ea) : C8.Cal P w K mg base 5 "_law_anew" (spLAnew C) [] := by
  refine D.d_l_anew.cal sc_l_anew (fun vs H Q E h => ?_) (fun f cdv A outer s H vs Q E hr h => ?_)
  · obtain ⟨B, A, st, ms, N, a, rfl, _⟩ := h
    rfl
  obtain ⟨B, A, st, ms, N, a, rfl, hB, R, O, hN, k⟩ := h
  have c_l_key : C8.Cal P w K mg base 4 "_law_key" spLKey [] := c_l_key D T
  have c_l_near : C8.Cal P w K mg base 3 "_law_near" spLNear [] := c_l_near D T
  have c_l_row : C8.Cal P w K mg base 1 "_law_row" spRowWith [] := c_l_row D T
  have c_l_begin : C8.Cal P w K mg base 3 "_law_begin" (spLBegin C) [] := c_l_begin D T
  refine ⟨_, (pss_cons (ps_set (i := 2) sc_l_anew.nd rfl (Or.inl rfl) (pe_dget (hu_of hr) (pv 0) pe_str (fun _ _ => rfl)))
      (pss_cons (ps_set (i := 3) sc_l_anew.nd rfl (Or.inl rfl) (C8.pe_c c_l_key hr (by decide) rfl (pa_cons (pv 2) (pa_cons (pe_dget (hu_of hr) (pv 0) pe_str (fun _ _ => rfl)) pa_nil))))
      (pss_cons (ps_set (i := 4) sc_l_anew.nd rfl (Or.inl rfl) (pe_dget (hu_of hr) (pe_dget (hu_of hr) (pv 0) pe_str (fun _ _ => rfl)) (pv 3) (fun _ _ => rfl)))
      (pss_cons (ps_dput (hu_of hr) (pe_dget (hu_of hr) (pv 0) pe_str (fun _ _ => rfl)) (pv 3) (pe_lst pa_nil) rfl)
      (pss_one (ps_for PassesOwn.never rfl (pi_list (pv 4)) (pg_name (i := 5) sc_l_anew.nd rfl (Or.inr rfl)) (pss_cons (ps_set (i := 6) sc_l_anew.nd rfl (Or.inl rfl) (C8.pe_c c_l_near hr (by decide) rfl (pa_cons (pv 2) (pa_cons (pe_dget (hu_of hr) (pv 0) pe_str (fun _ _ => rfl)) pa_nil))))
      (pss_cons (ps_set (i := 7) sc_l_anew.nd rfl (Or.inr rfl) (C8.pe_c c_l_row hr (by decide) rfl (pa_cons (pv 2) (pa_cons (pv 5) pa_nil))))
      (pss_cons (ps_setLc (i := 8) (own := [("_law_other", 9)]) (g := gName 9) (by rfl) sc_l_anew.nd rfl rfl (sw_true rfl rfl rfl (by decide +kernel)) (pi_list (pv 6)) (blkOk_by (own := [("_law_other", 9)]) (N := N_l_anew) (sc := defScope s_l_anew) (by decide +kernel)) (fun _ _ _ _ _ => pg_name (i := 9) sc_l_anew.nd rfl (Or.inl rfl)) (fun _ _ _ _ _ => pts_one (PW.pt (pw_or (pt_cmpR op_eq (pv 9) (pv 5) (nomark _)) (pw_or (pt_cmpR (r := rIn K false) op_in_seq (pv 9) (pe_ix (r := rIxT K) ix_tup (pv 7) pe_int (fun _ _ => rfl)) (by rfl)) (pw_or1 (pt_cmpR (r := rIn K false) op_in_seq (pv 9) (pe_ix (r := rIxT K) ix_tup (pv 7) pe_int (fun _ _ => rfl)) (by rfl))))))) (fun _ _ _ _ _ => (pv 9)))
      (pss_one (ps_if (PW.pt (pw_and (pt_cmpR (op_eqD (hu64 hr)) (pv 8) (pe_lst pa_nil) (nomark _)) (pw_and1 (pt_cmpR op_lt (pe_callB call_lenQ (by rfl) T.b_len PySem.boot_len (pa_cons (pe_dget (hu_of hr) (pv 0) pe_str (fun _ _ => rfl)) pa_nil)) pe_int (nomark _))))) (pss_cons (ps_expr (pe_bm PySem.F.plainAttrs_list PySem.F.slot_list_append PySem.F.type_list_append mt_append (pe_dget (hu_of hr) (pv 0) pe_str (fun _ _ => rfl)) (pa_cons (pe_tup (pa_cons (pv 1) (pa_cons (pv 1) (pa_cons (pe_op op_addS (pe_op op_addS pe_str (pv 5)) pe_str) (pa_cons pe_str pa_nil))))) pa_nil)))
      (pss_one (ps_expr (C8.pe_c c_l_begin hr (by decide) rfl (pa_cons (pv 0) (pa_cons (pv 5) pa_nil)))))) pss_nil))))))))))), ?_⟩
  have hlen := O.len
  obtain ⟨ks, ek, hkn⟩ := keys_cons (rows := B.rows) st.rn
  walk_at "go"
  refine w_lB R ?_
  walk_at "go"
  refine w_lN R ?_
  walk_at "go"
  refine ⟨B, A.n, st.rn, rfl, hB, R.sg, R.lnam, by omega, fun H1 s1 => ?_⟩
  have R1 : RdS true C B H1 A st ms N := RdAt.same R s1
  obtain ⟨ar, rs, er, hr1, kvs, g1, g2, g3⟩ := RdAt.wrow R1
  walk_at "go"
  refine w_lW R1 ?_
  walk_at "go"
  refine w_dgI g1 g3 ?_
  walk_at "go"
  refine w_mkL fun b H2 n2 s2 l2 => ?_
  walk_at "go"
  refine w_lW (RdAt.same R1 s2) ?_
  walk_at "go"
  refine w_dpI (s2 _ _ g1) (szM' (by omega)) fun H3 b3 l3 => ?_
  unfold RdS at R1
  rw [ek] at R1
  obtain ⟨R3, m3⟩ := R1.wnew (ws := []) (M := N + 1) hkn n2 s2 l2 (s2 _ _ g1) b3 l3 (Nat.zero_le _) (Nat.le_refl _)
  rw [← ek] at R3
  have hno := R1.old_row er n2
  have hr3 : H3 ar = some (.lst (st.wtop.map V.str)) := b3 _ _ (fun z => R1.wl (all_rs (by rw [er]; exact List.mem_cons_self)) z.symm) (s2 _ _ hr1)
  obtain ⟨A3, hA3⟩ : ∃ A3, A3 = A.setR (b :: A.rs.tail) := ⟨_, rfl⟩
  rw [← hA3] at R3 m3 hno
  have e3 : A3.p = A.p := by rw [hA3] <;> rfl
  have R3' : RdS true C B H3 A3 { st with wtop := [] } ms (N + 1) := R3
  have O3 : StOk B.rows { st with wtop := [] } := O.wait (ws := []) (by intro x hx; cases hx)
  have m03 : Mod true A H A3 H3 := (Mod.same s1).trans m3
  walk_at "go"
  rw [← e3]
  generalize hst3 : ({ st with wtop := [] } : St) = st3 at R3' O3
  have hkey : wallKey B.rows st3.rn = wallKey B.rows st.rn := by rw [← hst3]
  rw [← hkey]
  refine w_forL (SqL.of hr3) (fun i σ H' => LAnewInv C B A3 H3 ms N st3 ar a (st.wtop.take i) σ H')
    ⟨⟨_, _, _, _, _, rfl⟩, A3, rfl, Mod.same (Same.refl H3), by rw [List.take_zero]; show RdS _ _ _ _ _ st3 (_ ++ []) _; rw [List.append_nil]; exact R3'⟩ ?_ ?_ ?_
  · rintro i σ H' hi ⟨_, A', _, m', _⟩
    exact SqL.of (m' _ _ hno hr3).1
  · rintro i v σ H' hv ⟨⟨v1, v2, v3, v4, v5, rfl⟩, A', e', m', R'⟩
    obtain ⟨x, hx, rfl⟩ := map_get hv
    have hxa := O.wt x (List.mem_of_getElem? hx)
    obtain ⟨r, hrr, hrn⟩ := hxa.1
    have hro : rowOf B.rows x = some r := by rw [← hrn]; exact row_mem hB.good hrr
    have hx8 : x.length ≤ 8 := by rw [← hrn]; exact (hB.good.nm r hrr).2.1
    have htk : ∀ y ∈ st.wtop.take i, AnewB B.rows y := fun y hy => O.wt y (List.mem_of_mem_take hy)
    obtain ⟨O', orn⟩ := anews_ok (at_ := a) (xs := st.wtop.take i) O3 htk
    have hsn := anews_snoc (rows := B.rows) (at_ := a) (x := x) (xs := st.wtop.take i) (st := st3)
    rw [← take_snoc hx] at hsn
    have hl' := O'.len
    have ho' := O'.outl
    have no : ∀ H6, Same H' H6 → mayAnew B.rows (anews B.rows a (st.wtop.take i) st3).1.rn x = false → ∀ w1 w2 w3 w4 : Option V, LAnewInv C B A3 H3 ms N st3 ar a (st.wtop.take (i + 1)) [some (V.ref A3.p), some (.int (a : Nat)), some (.ref B.b), some (.int (wallKey B.rows st3.rn : Nat)), some (.ref ar), some (.str x), w1, w2, w3, w4] H6 := fun H6 s6 hm w1 w2 w3 w4 => by
      refine ⟨⟨_, _, _, _, _, rfl⟩, A', e', m'.trans (Mod.same s6), ?_⟩
      rw [hsn, if_neg (by rw [hm]; decide)]
      exact RdAt.same R' s6
    have yes : ∀ H6 A6, A6.p = A'.p → Mod true A' H' A6 H6 → RdS true C B H6 A6 (beginOne B.rows (anews B.rows a (st.wtop.take i) st3).1 x) ((ms ++ (anews B.rows a (st.wtop.take i) st3).2) ++ [mOpen a x "anew"]) (N + 1 + 2 * (anews B.rows a (st.wtop.take i) st3).2.length + 1 + 1) →
        mayAnew B.rows (anews B.rows a (st.wtop.take i) st3).1.rn x = true → ∀ w1 w2 w3 w4 : Option V, LAnewInv C B A3 H3 ms N st3 ar a (st.wtop.take (i + 1)) [some (V.ref A3.p), some (.int (a : Nat)), some (.ref B.b), some (.int (wallKey B.rows st3.rn : Nat)), some (.ref ar), some (.str x), w1, w2, w3, w4] H6 := fun H6 A6 e6 m6 R6 hm w1 w2 w3 w4 => by
      refine ⟨⟨_, _, _, _, _, rfl⟩, A6, e6.trans e', m'.trans m6, ?_⟩
      rw [hsn, if_pos hm]
      dsimp only
      rw [List.length_append, List.length_singleton, ← List.append_assoc]
      have e2 : N + 1 + 2 * ((anews B.rows a (st.wtop.take i) st3).2.length + 1) = N + 1 + 2 * (anews B.rows a (st.wtop.take i) st3).2.length + 1 + 1 := by omega
      rw [e2]
      exact R6
    generalize anews B.rows a (st.wtop.take i) st3 = pr at R' O' orn hl' ho' no yes
    obtain ⟨st', ms'⟩ := pr
    dsimp only at R' O' orn hl' ho' no yes
    rw [← e'] at no yes ⊢
    have hin := O'.inb
    walk_at "go"
    refine w_lN R' ?_
    walk_at "go"
    refine ⟨B, A'.n, st'.rn, rfl, hB, R'.sg, R'.lnam, by omega, fun H4 t n4 s4 l4 => ?_⟩
    have R4 := RdAt.same R' s4
    walk_at "go"
    refine ⟨B, x, rfl, hB, R4.sg, (fun h => by rw [hro] at h; cases h), fun r2 p h hR => ?_⟩
    obtain rfl : r = r2 := Option.some.inj (hro.symm.trans h)
    obtain ⟨q1, q2, h1, h2, h3⟩ := hR
    walk_at "go"
    have hnl := near_len (rows := B.rows) st'.rn
    refine w_lcL (SqL.of l4) (fun Dl j H'' => H4 Dl = none ∧ Same H4 H'' ∧ H'' Dl = some (.lst ((((near B.rows st'.rn).take j).filter (aC B.rows x)).map V.str)))
      (fun Dl hD => ⟨hD, sm_new hD, upd_same⟩) (fun Dl j H'' _ h => SqL.of (h.2.1 _ _ l4)) ?_ ?_
    · rintro Dl j v H'' hj ⟨hD, s5, hl⟩
      obtain ⟨y, hy, rfl⟩ := map_get hj
      have hjl := (List.getElem?_eq_some_iff.mp hy).1
      have sg5 := R4.sg.trans s5
      have hf : ((near B.rows st'.rn).take (j + 1)).filter (aC B.rows x) = ((near B.rows st'.rn).take j).filter (aC B.rows x) ++ (if aC B.rows x y = true then [y] else []) := by
        rw [take_snoc hy, List.filter_append, List.filter_cons]
        rfl
      have hlt : (((near B.rows st'.rn).take j).filter (aC B.rows x)).length ≤ 1000 := by
        have := List.length_filter_le (aC B.rows x) ((near B.rows st'.rn).take j)
        rw [List.length_take] at this
        omega
      have ac : aC B.rows x y = (decide (y = x) || (decide (y ∈ r.shuts) || decide (y ∈ r.bars))) := by
        unfold aC
        rw [shuts_of hro, bars_of hro]
      have add : aC B.rows x y = true → ∃ acc, H'' Dl = some (.lst acc) ∧ acc.length < sizeLine ∧ H4 Dl = none ∧ Same H4 (upd H'' Dl (.lst (acc ++ [V.str y]))) ∧ upd H'' Dl (.lst (acc ++ [V.str y])) Dl = some (.lst ((((near B.rows st'.rn).take (j + 1)).filter (aC B.rows x)).map V.str)) := fun hc =>
        ⟨_, hl, szM' (by rw [List.length_map]; omega), hD, sm_but s5 hD but_upd, by rw [hf, if_pos hc, List.map_append]; exact upd_same⟩
      walk_at "go"
      refine ⟨rfl, ?_⟩
      walk_at "go"
      refine w_2 (fun e1 => ?_) (fun e1 => ?_)
      · walk_at "go"
        exact add (by rw [ac, e1] <;> rfl)
      · walk_at "go"
        refine w_ixT (SqT.of (sg5 _ _ h1)) (by exact rfl) ?_
        refine w_inSs (ys := r.shuts) (Or.inr (SqT.of (sg5 _ _ h2))) ?_
        walk_at "go"
        refine w_2 (fun e2 => ?_) (fun e2 => ?_)
        · walk_at "go"
          exact add (by rw [ac, e2, Bool.true_or, Bool.or_true])
        · walk_at "go"
          refine w_ixT (SqT.of (sg5 _ _ h1)) (by exact rfl) ?_
          refine w_inSs (ys := r.bars) (Or.inr (SqT.of (sg5 _ _ h3))) ?_
          walk_at "go"
          refine w_2 (fun e3 => ?_) (fun e3 => ?_)
          · walk_at "go"
            exact add (by rw [ac, e3, Bool.or_true, Bool.or_true])
          · refine ⟨hD, s5, ?_⟩
            rw [hf, if_neg (by rw [ac, e1, e2, e3]; decide), List.append_nil]
            exact hl
    · rintro Dl H5 ⟨hD, s5, hl⟩
      rw [List.length_map, List.take_length] at hl
      have R5 := RdAt.same R4 s5
      have hfin : Inb B.rows ((near B.rows st'.rn).filter (aC B.rows x)) := fun y hy => hin y (by
        have := (List.mem_filter.mp hy).1
        rw [← near_drop] at this
        exact List.mem_reverse.mp (List.mem_of_mem_drop this))
      have may := may_eq (rows := B.rows) (rn := st'.rn) (x := x)
      walk_at "go"
      refine w_mkL fun q6 H6 n6 s6 l6 => ?_
      have R6 := RdAt.same R5 s6
      have i6 : Same H' H6 := s4.trans (s5.trans s6)
      refine w_eqL0 (SqL.of (s6 _ _ hl)) l6 (hfin.ok hB.good) ?_
      walk_at "go"
      refine w_2 (fun e1 => ?_) (fun e1 => ?_)
      · walk_at "go"
        refine w_lN R6 ?_
        walk_at "go"
        refine w_lenL (SqL.of R6.lnam) ?_
        rw [List.length_map, List.length_reverse]
        walk_at "go"
        refine w_2 (fun e2 => ?_) (fun e2 => ?_)
        · have h20 : st'.rn.length < 20 := by
            have := of_decide_eq_true e2
            omega
          walk_at "go"
          refine w_lM R6 ?_
          refine w_tyM R6 ?_
          walk_at "go"
          refine w_addS (szM ?_) ?_
          · show 1 + x.length ≤ _
            omega
          walk_at "go"
          refine w_addS (szM ?_) ?_
          · rw [str_app_len]
            show 1 + x.length + 1 ≤ _
            omega
          walk_at "go"
          refine w_mkT fun q7 H7 _ s7 l7 => ?_
          walk_at "go"
          refine w_mend R6 s7 l7 (by omega) fun H8 m8 R8 => ?_
          walk_at "go"
          refine ⟨B, A', st', _, _, x, rfl, hB, R8, by omega, by omega, by omega, fun H9 A9 e9 m9 R9 => ?_⟩
          exact yes H9 A9 e9 (((Mod.same i6).trans m8).trans m9) R9 (by rw [may, e1, decide_eq_true h20] <;> rfl) _ _ _ _
        · have h20 : ¬ st'.rn.length < 20 := by
            have := of_decide_eq_false e2
            omega
          walk_at "go"
          exact no H6 i6 (by rw [may, decide_eq_false h20, Bool.and_false]) _ _ _ _
      · walk_at "go"
        exact no H6 i6 (by rw [may, e1, Bool.false_and]) _ _ _ _
  · rintro σ H' ⟨⟨v1, v2, v3, v4, v5, rfl⟩, A', e', m', R'⟩
    rw [List.length_map, List.take_length] at R'
    obtain ⟨O', orn⟩ := anews_ok (at_ := a) (xs := st.wtop) O3 O.wt
    have hl' := O'.len
    refine k H' A' (e'.trans e3) (m03.trans m') ?_
    unfold openAnew
    rw [hst3]
    exact RdAt.more R' (by omega)
end
end Tg

namespace Tg
open PySem PySem.Spec PyProof.Rows L2
/-- what each unit of a run tells: place, length, sign -/
def units : Nat → List Nat → List (Nat × Nat × Nat)
  | i, 38 :: 108 :: 59 :: r => (i, 3, 60) :: units (i + 3) r
  | i, 38 :: 97 :: 59 :: r => (i, 3, 38) :: units (i + 3) r
  | i, c :: r => (i, 1, c) :: units (i + 1) r
  | _, [] => []
theorem units_miss {i c : Nat} {r : List Nat} (h1 : ¬ (c :: r).take 3 = [38, 108, 59]) (h2 : ¬ (c :: r).take 3 = [38, 97, 59]) : units i (c :: r) = (i, 1, c) :: units (i + 1) r := by
  rw [units]
  · intro s e1 e2
    subst e1 e2
    exact h1 rfl
  · intro s e1 e2
    subst e1 e2
    exact h2 rfl
theorem told_miss {c : Nat} {r : List Nat} (h1 : ¬ (c :: r).take 3 = [38, 108, 59]) (h2 : ¬ (c :: r).take 3 = [38, 97, 59]) : told (c :: r) = c :: told r := by
  rw [told]
  · intro s e1 e2
    subst e1 e2
    exact h1 rfl
  · intro s e1 e2
    subst e1 e2
    exact h2 rfl
theorem lones_miss {i c : Nat} {r : List Nat} (h1 : ¬ (c :: r).take 3 = [38, 108, 59]) (h2 : ¬ (c :: r).take 3 = [38, 97, 59]) : lones i (c :: r) = if c = 60 ∨ c = 38 then (i, c) :: lones (i + 1) r else lones (i + 1) r := by
  rw [lones]
  · intro s e1 e2
    subst e1 e2
    exact h1 rfl
  · intro s e1 e2
    subst e1 e2
    exact h2 rfl
def uLone (u : Nat × Nat × Nat) : Bool := decide (u.2.1 = 1) && (decide (u.2.2 = 60) || decide (u.2.2 = 38))
theorem units_told : ∀ (n : Nat) (l : List Nat) (i : Nat), l.length ≤ n → told l = (units i l).map fun u => u.2.2
  | n, [], i, _ => by
    rw [told, units] <;> rfl
  | 0, c :: r, _, h => by simp at h
  | n + 1, c :: r, i, h => by
    by_cases q1 : (c :: r).take 3 = [38, 108, 59]
    · obtain ⟨s, e⟩ := take3_form q1
      rw [e] at h ⊢
      have := units_told n s (i + 3) (by simp at h; omega)
      show 60 :: told s = 60 :: (units (i + 3) s).map _
      rw [this]
    · by_cases q2 : (c :: r).take 3 = [38, 97, 59]
      · obtain ⟨s, e⟩ := take3_form q2
        rw [e] at h ⊢
        have := units_told n s (i + 3) (by simp at h; omega)
        show 38 :: told s = 38 :: (units (i + 3) s).map _
        rw [this]
      · have := units_told n r (i + 1) (by simp at h; omega)
        rw [told_miss q1 q2, units_miss q1 q2, this] <;> rfl
theorem units_lone : ∀ (n : Nat) (l : List Nat) (i : Nat), l.length ≤ n → lones i l = ((units i l).filter uLone).map fun u => (u.1, u.2.2)
  | n, [], i, _ => by
    rw [lones, units] <;> rfl
  | 0, c :: r, _, h => by simp at h
  | n + 1, c :: r, i, h => by
    by_cases q1 : (c :: r).take 3 = [38, 108, 59]
    · obtain ⟨s, e⟩ := take3_form q1
      rw [e] at h ⊢
      exact units_lone n s (i + 3) (by simp at h; omega)
    · by_cases q2 : (c :: r).take 3 = [38, 97, 59]
      · obtain ⟨s, e⟩ := take3_form q2
        rw [e] at h ⊢
        exact units_lone n s (i + 3) (by simp at h; omega)
      · have := units_lone n r (i + 1) (by simp at h; omega)
        rw [lones_miss q1 q2, units_miss q1 q2, List.filter_cons]
        have eu : uLone (i, 1, c) = decide (c = 60 ∨ c = 38) := by
          unfold uLone
          rw [show decide ((i, 1, c).2.1 = 1) = true from rfl, Bool.true_and, ← Bool.decide_or]
        rw [eu]
        by_cases hc : c = 60 ∨ c = 38
        · rw [if_pos hc, if_pos (decide_eq_true hc), List.map_cons, this]
        · rw [if_neg hc, if_neg (by rw [decide_eq_false hc]; decide), this]
theorem units_len : ∀ (n : Nat) (l : List Nat) (i : Nat), l.length ≤ n → (units i l).length ≤ l.length := fun n l i h => by
  have := congrArg List.length (units_told n l i h)
  rw [List.length_map] at this
  rw [← this]
  exact told_len n l h
def UAt (H : Hp) (v : V) (u : Nat × Nat × Nat) : Prop := ∃ p, v = .ref p ∧ H p = some (.tup [.int (u.1 : Nat), .int (u.2.1 : Nat), .str ⟨#[u.2.2]⟩])
theorem uat_mono {H H' : Hp} (e : Tups H H') (v : V) (u : Nat × Nat × Nat) (h : UAt H v u) : UAt H' v u := by
  obtain ⟨p, h1, h2⟩ := h
  exact ⟨p, h1, e _ _ h2⟩
theorem w_dget2 {td ty tx : TE} {σ : L2.St} {H : Hp} {Q : VK} (k : td σ H fun x H1 => ∃ a, x = .ref a ∧ IsD H1 a ∧ ty σ H1 fun y H2 => tx σ H2 fun z H3 => ∃ o, DGet H3 a y o ∧ Q (o.getD z) H3) : tDGet2 td ty tx σ H Q := k
/-- a dict of two texts to texts -/
theorem w_disp2 {σ : L2.St} {H : Hp} {Q : VK} {k1 k2 : Str} {x1 x2 : V} (hne : ¬ k2 = k1) (k : ∀ w H', H w = none → Same H H' → H' w = some (.dK [(Sum.inr k1, x1), (Sum.inr k2, x2)]) → Q (.ref w) H') : tDisp [(tC (.str k1), tC x1), (tC (.str k2), tC x2)] σ H Q := by
  intro p hp
  refine ⟨upd_same, [(Sum.inr k1, x1), (Sum.inr k2, x2)], rfl, (by decide : 2 ≤ 15), k p _ hp (fun b o h => ?_) ?_⟩
  · rw [upd_ne (ne_of_none h hp), upd_ne (ne_of_none h hp)]
    exact h
  · rw [upd_same]
    have e : mergeK [] [((Sum.inr k1 : Key), x1), (Sum.inr k2, x2)] = [(Sum.inr k1, x1), (Sum.inr k2, x2)] := by
      show putK (putK [] (Sum.inr k1 : Key) x1) (Sum.inr k2) x2 = _
      rw [show putK [] (Sum.inr k1 : Key) x1 = [(Sum.inr k1, x1)] from rfl]
      rw [putK_new]
      · rfl
      · rw [valV_neg (fun z => hne (Sum.inr.inj z).symm)] <;> rfl
    rw [e]
theorem and_l : ("&l;" : Str) = sOf [38, 108, 59] := by decide +kernel
theorem and_a : ("&a;" : Str) = sOf [38, 97, 59] := by decide +kernel
section
variable {P : Program} {w : World} {K : PySem.W.Frag} {mg : Str → Option Value} {base : Heap} {C ea : Addr}
def spLUnits : Sp := fun vs H Q _ => ∃ raw : List Nat, vs = [.str (sOf raw)] ∧ raw.length ≤ 100000 ∧ ∀ H' p us, H p = none → Same H H' → H' p = some (.lst us) → All2 (UAt H') us (units 0 raw) → Q (.ref p) H'
theorem units_at {raw : List Nat} {a : Nat} (h : a < raw.length) : ∃ u rest, units a (raw.drop a) = u :: rest ∧ u.1 = a ∧ rest = units (a + u.2.1) (raw.drop (a + u.2.1)) ∧ 1 ≤ u.2.1 ∧
    u.2.2 = (if (raw.drop a).take 3 = [38, 108, 59] then 60 else if (raw.drop a).take 3 = [38, 97, 59] then 38 else raw[a]'h) ∧ u.2.1 = (if (raw.drop a).take 3 = [38, 108, 59] ∨ (raw.drop a).take 3 = [38, 97, 59] then 3 else 1) := by
  have e0 : raw.drop a = raw[a] :: raw.drop (a + 1) := List.drop_eq_getElem_cons h
  by_cases q1 : (raw.drop a).take 3 = [38, 108, 59]
  · obtain ⟨s, e⟩ := take3_form q1
    refine ⟨(a, 3, 60), units (a + 3) s, by rw [e] <;> rfl, rfl, ?_, (by decide : 1 ≤ 3), by rw [if_pos q1], by rw [if_pos (.inl q1)]⟩
    have : raw.drop (a + 3) = s := by rw [← List.drop_drop, e] <;> rfl
    rw [this]
  · by_cases q2 : (raw.drop a).take 3 = [38, 97, 59]
    · obtain ⟨s, e⟩ := take3_form q2
      refine ⟨(a, 3, 38), units (a + 3) s, by rw [e] <;> rfl, rfl, ?_, (by decide : 1 ≤ 3), by rw [if_neg q1, if_pos q2], by rw [if_pos (.inr q2)]⟩
      have : raw.drop (a + 3) = s := by rw [← List.drop_drop, e] <;> rfl
      rw [this]
    · refine ⟨(a, 1, raw[a]), units (a + 1) (raw.drop (a + 1)), ?_, rfl, rfl, Nat.le_refl _, by rw [if_neg q1, if_neg q2], by rw [if_neg (fun z => z.elim q1 q2)]⟩
      rw [e0] at q1 q2 ⊢
      exact units_miss q1 q2
theorem c_l_units (D : Defs K mg C) (T : Tx K mg C ea) : C8.Cal P w K mg base 1 "_law_units" spLUnits [] := by
  refine D.d_l_units.cal sc_l_units (fun vs H Q E h => ?_) (fun f cdv A outer s H vs Q E hr h => ?_)
  · obtain ⟨raw, rfl, _⟩ := h
    rfl
  obtain ⟨raw, rfl, hraw, k⟩ := h
  refine ⟨_, (pss_cons (ps_set (i := 1) sc_l_units.nd rfl (Or.inl rfl) (pe_lst pa_nil))
      (pss_cons (ps_set (i := 2) sc_l_units.nd rfl (Or.inl rfl) pe_int)
      (pss_cons (ps_while PassesOwn.never (pt_cmpR op_lt (pv 2) (pe_callB call_lenS (by rfl) T.b_len PySem.boot_len (pa_cons (pv 0) pa_nil)) (nomark _)) (pss_cons (ps_set (i := 3) sc_l_units.nd rfl (Or.inl rfl) (pe_dget2 (hu_of hr) (pe_disp (pps_cons pe_str pe_str (pps_cons pe_str pe_str pps_nil)) (by rfl) (by rfl) (fun z => by cases z) (by decide)) (pe_slice sl_str (pv 0) (po_some (pv 2)) (po_some (pe_op op_add (pv 2) pe_int))) (pe_ix ix_str (pv 0) (pv 2) (fun _ _ => rfl)) ⟨rfl, rfl, rfl, rfl⟩))
      (pss_cons (ps_set (i := 4) sc_l_units.nd rfl (Or.inl rfl) (pe_op op_add pe_int (pe_op op_mul pe_int (pe_callTy call_intB (by rfl) T.b_int (by decide +kernel) (pa_cons (pe_cmpR op_in_seq (pe_slice sl_str (pv 0) (po_some (pv 2)) (po_some (pe_op op_add (pv 2) pe_int))) (pe_tup (pa_cons pe_str (pa_cons pe_str pa_nil))) (by rfl)) pa_nil)))))
      (pss_cons (ps_expr (pe_bm PySem.F.plainAttrs_list PySem.F.slot_list_append PySem.F.type_list_append mt_append (pv 1) (pa_cons (pe_tup (pa_cons (pv 2) (pa_cons (pv 4) (pa_cons (pv 3) pa_nil)))) pa_nil)))
      (pss_one (ps_set (i := 2) sc_l_units.nd rfl (Or.inl rfl) (pe_op op_add (pv 2) (pv 4))))))))
      (pss_one (ps_ret (pv 1)))))), ?_⟩
  have hzl : (sOf raw).length ≤ sizeLine := by
    rw [sOf_len]
    exact szM (by omega)
  have hul := units_len _ raw 0 (Nat.le_refl _)
  walk_at "go"
  refine w_mkL fun l H1 n1 s1 l1 => ?_
  walk_at "go"
  refine w_while (fun m σ H' => ∃ (a : Nat) (us : List V) (done : List (Nat × Nat × Nat)) (v1 v2 : Option V), σ = [some (.str (sOf raw)), some (.ref l), some (.int (a : Nat)), v1, v2] ∧ a ≤ raw.length ∧ m = raw.length - a ∧ Same H H' ∧ H' l = some (.lst us) ∧ All2 (UAt H') us done ∧ units 0 raw = done ++ units a (raw.drop a)) _
    ⟨0, [], [], _, _, rfl, Nat.zero_le _, rfl, s1, l1, .nil, by rw [List.drop_zero] <;> rfl⟩ ?_
  rintro m σ H2 ⟨a, us, done, v1, v2, rfl, hal, hm, s2, l2, hus, hd⟩
  walk_at "go"
  refine w_lenS hzl ?_
  rw [sOf_len]
  walk_at "go"
  refine w_2 (fun e => ?_) (fun e => ?_)
  · have hlt : a < raw.length := by
      have := of_decide_eq_true e
      omega
    refine w_N ?_
    obtain ⟨u, rest, hu1, hu2, hu3, hu4, hu5, hu6⟩ := units_at hlt
    have hdl := congrArg List.length hd
    rw [List.length_append, hu1, List.length_cons] at hdl
    have hul2 := hus.len
    walk_at "go"
    refine w_dget2 ?_
    refine w_disp2 (by decide) fun w H3 n3 s3 l3 => ?_
    refine ⟨w, rfl, .inl ⟨_, .inl l3⟩, ?_⟩
    walk_at "go"
    have e3 : ((a : Nat) : Int) + 3 = ((a + 3 : Nat) : Int) := by omega
    refine w_slS hzl ?_
    rw [e3, cutS_nat, sOf_toList]
    have ecut : cut raw a (a + 3) = (raw.drop a).take 3 := by
      unfold cut
      rw [show a + 3 - a = 3 by omega]
    rw [ecut]
    walk_at "go"
    refine w_ixS (a := raw[a]) hzl ?_ ?_
    · rw [sOf_toList]
      exact atI_nat (List.getElem?_eq_getElem hlt)
    refine ⟨_, DGet.k (k := Sum.inr (sOf ((raw.drop a).take 3))) l3, ?_⟩
    have ev : (valV [((Sum.inr "&l;" : Key), V.str "<"), (Sum.inr "&a;", V.str "&")] (Sum.inr (sOf ((raw.drop a).take 3)))).getD (.str ⟨#[raw[a]]⟩) = .str ⟨#[u.2.2]⟩ := by
      rw [hu5]
      by_cases q1 : (raw.drop a).take 3 = [38, 108, 59]
      · rw [if_pos q1, q1, valV_pos (by rw [and_l])] <;> rfl
      · rw [if_neg q1, valV_neg (by rw [and_l]; exact fun z => q1 (sOf_inj (Sum.inr.inj z)).symm)]
        by_cases q2 : (raw.drop a).take 3 = [38, 97, 59]
        · rw [if_pos q2, q2, valV_pos (by rw [and_a])] <;> rfl
        · rw [if_neg q2, valV_neg (by rw [and_a]; exact fun z => q2 (sOf_inj (Sum.inr.inj z)).symm)] <;> rfl
    rw [ev]
    walk_at "go"
    refine w_slS hzl ?_
    rw [e3, cutS_nat, sOf_toList, ecut]
    walk_at "go"
    refine w_mkT fun q4 H4 n4 s4 l4 => ?_
    refine w_inSs (ys := ["&l;", "&a;"]) (.inr (SqT.of l4)) ?_
    have em : decide (sOf ((raw.drop a).take 3) ∈ (["&l;", "&a;"] : List Str)) = decide ((raw.drop a).take 3 = [38, 108, 59] ∨ (raw.drop a).take 3 = [38, 97, 59]) := by
      rw [and_l, and_a]
      refine decide_eq_decide.mpr ⟨fun z => ?_, fun z => ?_⟩
      · rcases List.mem_cons.mp z with z | z
        · exact .inl (sOf_inj z)
        · exact .inr (sOf_inj (List.mem_singleton.mp z))
      · rcases z with z | z
        · rw [z]
          exact List.mem_cons_self
        · rw [z]
          exact List.mem_cons_of_mem _ List.mem_cons_self
    rw [em]
    walk_at "go"
    have el : (1 : Int) + 2 * (if decide ((raw.drop a).take 3 = [38, 108, 59] ∨ (raw.drop a).take 3 = [38, 97, 59]) = true then 1 else 0) = ((u.2.1 : Nat) : Int) := by
      rw [hu6]
      by_cases q : (raw.drop a).take 3 = [38, 108, 59] ∨ (raw.drop a).take 3 = [38, 97, 59]
      · rw [if_pos q, if_pos (decide_eq_true q)] <;> rfl
      · rw [if_neg q, if_neg (by rw [decide_eq_false q]; decide)] <;> rfl
    refine w_I ?_ ?_
    · exact .inl (by decide)
    walk_at "go"
    rw [el]
    have s24 := s3.trans s4
    refine w_tyL (s24 _ _ l2) ?_
    walk_at "go"
    refine w_mkT fun q5 H5 n5 s5 l5 => ?_
    walk_at "go"
    have s25 := s24.trans s5
    refine w_app (s25 _ _ l2) (szM' (by omega)) fun H6 b6 l6 => ?_
    walk_at "go"
    have tu6 : Tups H5 H6 := tups_but (s25 _ _ l2) rfl b6
    have ea : ((a : Nat) : Int) + ((u.2.1 : Nat) : Int) = ((a + u.2.1 : Nat) : Int) := by omega
    rw [ea]
    have hlen3 : a + u.2.1 ≤ raw.length := by
      rw [hu6]
      split
      · rename_i q
        have hq : ((raw.drop a).take 3).length = 3 := by
          rcases q with q | q <;> (rw [q] <;> rfl)
        rw [List.length_take, List.length_drop] at hq
        omega
      · omega
    refine ⟨_, ?_, a + u.2.1, us ++ [.ref q5], done ++ [u], _, _, rfl, hlen3, rfl, sm_but (s2.trans s25) n1 b6, l6, ?_, ?_⟩
    · omega
    · refine (hus.mono (uat_mono ((tups_same s25).trans tu6))).app (.one ⟨q5, rfl, tu6 _ _ ?_⟩)
      rw [hu2]
      exact l5
    · rw [hd, hu1, hu3, List.append_assoc] <;> rfl
  · have hge : raw.length ≤ a := by
      have := of_decide_eq_false e
      omega
    rw [List.drop_of_length_le hge] at hd
    have e0 : units a [] = [] := by rw [units]
    rw [e0, List.append_nil] at hd
    walk_at "go"
    refine k H2 l us n1 s2 l2 ?_
    rw [hd]
    exact hus
end
end Tg

namespace Tg
open PySem PySem.Spec PyProof.Rows L2
theorem sOf_snoc (l : List Nat) (c : Nat) : sOf l ++ (⟨#[c]⟩ : Str) = sOf (l ++ [c]) := by
  show (⟨l.toArray ++ #[c]⟩ : Str) = ⟨(l ++ [c]).toArray⟩
  simp
theorem c_lt : ("<" : Str) = ⟨#[60]⟩ := by decide +kernel
theorem c_am : ("&" : Str) = ⟨#[38]⟩ := by decide +kernel
theorem in_lt (c : Nat) : decide (c ∈ ("<&" : Str).cps.toList) = (decide (c = 60) || decide (c = 38)) := by
  show decide (c ∈ [60, 38]) = _
  rw [← Bool.decide_or]
  exact decide_eq_decide.mpr (by simp)
theorem in_bl (c : Nat) : decide (c ∈ (" \n" : Str).cps.toList) = decide (c = 32 ∨ c = 10) := by
  show decide (c ∈ [32, 10]) = _
  exact decide_eq_decide.mpr (by simp)
section
variable {P : Program} {w : World} {K : PySem.W.Frag} {mg : Str → Option Value} {base : Heap} {C ea : Addr}
def spLRun (C : Addr) : Sp := fun vs H Q _ => ∃ (B : Bk) (A : RdA) (st : St) (ms : List Mend) (N a : Nat) (raw : List Nat), vs = [.ref A.p, .int (a : Nat), .str (sOf raw)] ∧ B.Ok ∧ RdS true C B H A st ms N ∧ StOk B.rows st ∧ raw.length ≤ 3000 ∧ (∀ c ∈ raw, c < 128) ∧ N ≤ 780000 ∧
  ∀ H' A', A'.p = A.p → Mod true A H A' H' → RdS true C B H' A' (runTok B.rows B.rk st a (a + raw.length) raw).1 (ms ++ (runTok B.rows B.rk st a (a + raw.length) raw).2) (N + 200 + 2 * raw.length) → Q .non H'
theorem c_l_run (D : Defs K mg C) (T : Tx K mg C ea) : C8.Cal P w K mg base 6 "_law_run" (spLRun C) [] := by
  refine D.d_l_run.cal sc_l_run (fun vs H Q E h => ?_) (fun f cdv A outer s H vs Q E hr h => ?_)
  · obtain ⟨B, A, st, ms, N, a, raw, rfl, _⟩ := h
    rfl
  obtain ⟨B, A, st, ms, N, a, raw, rfl, hB, R, O, hraw, hsm, hN, k⟩ := h
  have c_l_hosts : C8.Cal P w K mg base 2 "_law_hosts" spLHosts [] := c_l_hosts D T
  have c_l_begin : C8.Cal P w K mg base 3 "_law_begin" (spLBegin C) [] := c_l_begin D T
  have c_l_anew : C8.Cal P w K mg base 5 "_law_anew" (spLAnew C) [] := c_l_anew D T
  have c_l_units : C8.Cal P w K mg base 1 "_law_units" spLUnits [] := c_l_units D T
  have c_l_lie : C8.Cal P w K mg base 1 "_law_lie" (spLLie C) [] := c_l_lie D T
  refine ⟨_, (pss_cons (ps_set (i := 3) sc_l_run.nd rfl (Or.inl rfl) (C8.pe_c c_l_hosts hr (by decide) rfl (pa_cons (pe_dget (hu_of hr) (pv 0) pe_str (fun _ _ => rfl)) (pa_cons (pe_dget (hu_of hr) (pv 0) pe_str (fun _ _ => rfl)) pa_nil))))
      (pss_cons (ps_set (i := 4) sc_l_run.nd rfl (Or.inl rfl) pe_str)
      (Evl.pss_cut (ps_if (PW.pt (pw_and (pt_cmpR (op_neD (hu64 hr)) (pv 3) (pe_lst pa_nil) (nomark _)) (pw_and1 (pt_cmpR (op_eqD (hu64 hr)) (pe_lc (own := [("_law_sign", 9)]) (g := gName 9) (by rfl) sc_l_run.nd (pi_str (pv 2)) (blkOk_by (own := [("_law_sign", 9)]) (N := N_l_run) (sc := defScope s_l_run) (by decide +kernel)) (fun _ _ _ _ _ => pg_name (i := 9) sc_l_run.nd rfl (Or.inl rfl)) (fun _ _ _ _ _ => pts_one (pt_cmpR op_notInS (pv 9) pe_str rfl)) (fun _ _ _ _ _ => (pv 9))) (pe_lst pa_nil) (nomark _))))) (pss_one (ps_set (i := 4) sc_l_run.nd rfl (Or.inl rfl) pe_str)) (pss_one (ps_if (pt_cmpR op_gt (pe_op op_add (pe_callB call_lenQ (by rfl) T.b_len PySem.boot_len (pa_cons (pe_dget (hu_of hr) (pv 0) pe_str (fun _ _ => rfl)) pa_nil)) (pe_callB call_lenQ (by rfl) T.b_len PySem.boot_len (pa_cons (pv 3) pa_nil))) pe_int (nomark _)) (pss_one (ps_set (i := 4) sc_l_run.nd rfl (Or.inl rfl) pe_str)) pss_nil)))
      (pss_cons (ps_if (pt_cmpR op_ne (pv 4) pe_str (nomark _)) (pss_cons (ps_expr (pe_bm PySem.F.plainAttrs_list PySem.F.slot_list_append PySem.F.type_list_append mt_append (pe_dget (hu_of hr) (pv 0) pe_str (fun _ _ => rfl)) (pa_cons (pe_tup (pa_cons (pv 1) (pa_cons (pe_op op_add (pv 1) (pe_callB call_lenS (by rfl) T.b_len PySem.boot_len (pa_cons (pv 2) pa_nil))) (pa_cons pe_str (pa_cons (pv 4) pa_nil))))) pa_nil)))
      (pss_one ps_retN)) pss_nil)
      (pss_cons (ps_for PassesOwn.never rfl (pi_list (pv 3)) (pg_name (i := 5) sc_l_run.nd rfl (Or.inl rfl)) (pss_cons (ps_expr (pe_bm PySem.F.plainAttrs_list PySem.F.slot_list_append PySem.F.type_list_append mt_append (pe_dget (hu_of hr) (pv 0) pe_str (fun _ _ => rfl)) (pa_cons (pe_tup (pa_cons (pv 1) (pa_cons (pv 1) (pa_cons (pe_op op_addS (pe_op op_addS pe_str (pv 5)) pe_str) (pa_cons pe_str pa_nil))))) pa_nil)))
      (pss_one (ps_expr (C8.pe_c c_l_begin hr (by decide) rfl (pa_cons (pv 0) (pa_cons (pv 5) pa_nil)))))))
      (pss_cons (ps_expr (C8.pe_c c_l_anew hr (by decide) rfl (pa_cons (pv 0) (pa_cons (pv 1) pa_nil))))
      (pss_cons (ps_set (i := 6) sc_l_run.nd rfl (Or.inl rfl) pe_str)
      (pss_cons (ps_for PassesOwn.never rfl (pi_list (C8.pe_c c_l_units hr (by decide) rfl (pa_cons (pv 2) pa_nil))) (pg_tup rfl (pgs_cons (pg_name (i := 7) sc_l_run.nd rfl (Or.inl rfl)) (pgs_cons (pg_name (i := 8) sc_l_run.nd rfl (Or.inl rfl)) (pgs_cons (pg_name (i := 9) sc_l_run.nd rfl (Or.inl rfl)) pgs_nil)))) (pss_cons (ps_set (i := 6) sc_l_run.nd rfl (Or.inl rfl) (pe_op op_addS (pv 6) (pv 9)))
      (pss_one (ps_if (PW.pt (pw_and (pt_cmpR op_eq (pv 8) pe_int (nomark _)) (pw_and1 (pt_cmpR op_inS (pv 9) pe_str rfl)))) (pss_cons (ps_set (i := 10) sc_l_run.nd rfl (Or.inl rfl) (pe_dget (hu_of hr) (pe_disp (pps_cons pe_str pe_str (pps_cons pe_str pe_str pps_nil)) (by rfl) (by rfl) (fun z => by cases z) (by decide)) (pv 9) (fun _ _ => rfl)))
      (pss_one (ps_expr (pe_bm PySem.F.plainAttrs_list PySem.F.slot_list_append PySem.F.type_list_append mt_append (pe_dget (hu_of hr) (pv 0) pe_str (fun _ _ => rfl)) (pa_cons (pe_tup (pa_cons (pe_op op_add (pv 1) (pv 7)) (pa_cons (pe_op op_add (pe_op op_add (pv 1) (pv 7)) pe_int) (pa_cons (pv 10) (pa_cons pe_str pa_nil))))) pa_nil))))) pss_nil))))
      (pss_one (ps_expr (C8.pe_c c_l_lie hr (by decide) rfl (pa_cons (pv 0) (pa_cons (pv 6) pa_nil))))))))))))), ?_⟩
  have hlen := O.len
  have hrl : (sOf raw).length ≤ sizeLine := by
    rw [sOf_len]
    exact szM (by omega)
  obtain ⟨hh1, hh2⟩ := hostsIn_ok hB.good st.rn
  walk_at "go"
  refine w_lB R ?_
  walk_at "go"
  refine w_lN R ?_
  walk_at "go"
  refine ⟨B, A.n, st.rn, rfl, hB, R.sg, R.lnam, by omega, O.inb, fun H1 p n1 s1 hp => ?_⟩
  have R1 : RdS true C B H1 A st ms N := RdAt.same R s1
  have fp : ¬ Foot true A p := R.not_free n1
  generalize hhs : hostsIn B.rows B.rk st.rn = hs at hp hh1 hh2
  walk_at "go"
  refine w_cut (M := fun σ H' => σ = [some (.ref A.p), some (.int (a : Nat)), some (.str (sOf raw)), some (.ref p), some (.str (if (!hs.isEmpty && raw.all (fun c => decide (c = 32 ∨ c = 10))) = true then "blank" else if st.rn.length + hs.length > 20 then "deep" else "")), none, none, none, none, none, none] ∧ Same H1 H') ?_ ?_
  · walk_at "go"
    refine w_mkL fun q H2 n2 s2 l2 => ?_
    refine w_neL0 (SqL.of (s2 _ _ hp)) l2 (hh1.ok hB.good) ?_
    walk_at "go"
    cases hs with
    | nil =>
      rw [show (!([] : List Str).isEmpty) = false from rfl]
      walk_at "go"
      refine w_lN (RdAt.same R1 s2) ?_
      walk_at "go"
      refine w_lenL (SqL.of (RdAt.same R1 s2).lnam) ?_
      rw [List.length_map, List.length_reverse]
      walk_at "go"
      refine w_lenL (SqL.of (s2 _ _ hp)) ?_
      rw [List.length_map]
      walk_at "go"
      refine w_2 (fun e => ?_) (fun e => ?_)
      · have := of_decide_eq_true e
        rw [List.length_nil] at this
        omega
      · walk_at "go"
        refine ⟨?_, s2⟩
        rw [Bool.false_and, if_neg (by decide), if_neg (by rw [List.length_nil]; omega)] <;> rfl
    | cons h0 ht =>
      rw [show (!(h0 :: ht).isEmpty) = true from rfl]
      walk_at "go"
      refine ⟨_, rfl, ?_⟩
      refine w_lcS (fun Dl j H'' => H2 Dl = none ∧ Same H2 H'' ∧ H'' Dl = some (.lst ((((raw.take j).filter (fun c => !decide (c = 32 ∨ c = 10))).map (fun c => (⟨#[c]⟩ : Str))).map V.str)))
        (fun Dl hD => ⟨hD, sm_new hD, upd_same⟩) ?_ ?_
      · rintro Dl j c H'' hj ⟨hD, s5, hl⟩
        rw [sOf_toList] at hj
        have hjl := (List.getElem?_eq_some_iff.mp hj).1
        have hf : (raw.take (j + 1)).filter (fun c => !decide (c = 32 ∨ c = 10)) = (raw.take j).filter (fun c => !decide (c = 32 ∨ c = 10)) ++ (if (!decide (c = 32 ∨ c = 10)) = true then [c] else []) := by
          rw [take_snoc hj, List.filter_append, List.filter_cons]
          rfl
        have hlt : ((raw.take j).filter (fun c => !decide (c = 32 ∨ c = 10))).length ≤ 1000000 := by
          have := List.length_filter_le (fun c => !decide (c = 32 ∨ c = 10)) (raw.take j)
          rw [List.length_take] at this
          omega
        walk_at "go"
        refine ⟨rfl, ?_⟩
        walk_at "go"
        rw [in_bl]
        refine w_2 (fun e1 => ?_) (fun e1 => ?_)
        · walk_at "go"
          refine ⟨_, hl, szM' (by rw [List.length_map, List.length_map]; omega), hD, sm_but s5 hD but_upd, ?_⟩
          rw [hf, if_pos e1, List.map_append, List.map_append]
          exact upd_same
        · refine ⟨hD, s5, ?_⟩
          rw [hf, if_neg (by rw [e1]; decide), List.append_nil]
          exact hl
      · rintro Dl H5 ⟨hD, s5, hl⟩
        have hfull : raw.take (sOf raw).length = raw := by rw [sOf_len, List.take_length]
        rw [hfull] at hl
        walk_at "go"
        refine w_mkL fun q6 H6 n6 s6 l6 => ?_
        refine w_eqL0 (SqL.of (s6 _ _ hl)) l6 (fun y hy => ?_) ?_
        · obtain ⟨c, hc, rfl⟩ := List.mem_map.mp hy
          have hc2 := hsm c (List.mem_filter.mp hc).1
          show PyData.strOk ⟨#[c]⟩ = true
          unfold PyData.strOk
          rw [show (⟨#[c]⟩ : Str).cps = #[c] from rfl]
          simp
          omega
        have eb : (((raw.filter (fun c => !decide (c = 32 ∨ c = 10))).map (fun c => (⟨#[c]⟩ : Str))).isEmpty) = raw.all (fun c => decide (c = 32 ∨ c = 10)) := by
          rw [List.isEmpty_map, filter_none]
          congr 1
          funext c
          rw [Bool.not_not]
        rw [eb]
        have s26 := s2.trans (s5.trans s6)
        walk_at "go"
        refine w_2 (fun e1 => ?_) (fun e1 => ?_)
        · walk_at "go"
          refine ⟨?_, s26⟩
          rw [e1] <;> rfl
        · walk_at "go"
          refine w_lN (RdAt.same R1 s26) ?_
          walk_at "go"
          refine w_lenL (SqL.of (RdAt.same R1 s26).lnam) ?_
          rw [List.length_map, List.length_reverse]
          walk_at "go"
          refine w_lenL (SqL.of (s26 _ _ hp)) ?_
          rw [List.length_map]
          walk_at "go"
          refine w_2 (fun e => ?_) (fun e => ?_)
          · have h20 : st.rn.length + (h0 :: ht).length > 20 := by
              have := of_decide_eq_true e
              omega
            walk_at "go"
            refine ⟨?_, s26⟩
            rw [e1, Bool.and_false, if_neg (by decide), if_pos h20] <;> rfl
          · have h20 : ¬ st.rn.length + (h0 :: ht).length > 20 := by
              have := of_decide_eq_false e
              omega
            walk_at "go"
            refine ⟨?_, s26⟩
            rw [e1, Bool.and_false, if_neg (by decide), if_neg h20] <;> rfl
  rintro σ H2 ⟨rfl, s2⟩
  have R2 : RdS true C B H2 A st ms N := RdAt.same R1 s2
  have m2 : Mod true A H A H2 := Mod.same (s1.trans s2)
  have hp2 := s2 _ _ hp
  have drop : ∀ (rule : Str) (q : Addr) (H3 : Hp), Same H2 H3 → H3 q = some (.tup [.int (a : Nat), .int ((a + raw.length : Nat) : Int), .str "", .str rule]) → runTok B.rows B.rk st a (a + raw.length) raw = (st, [⟨a, a + raw.length, "", rule⟩]) → rAppend (.ref A.m) [.ref q] H3 (fun _ H' => Q .non H') := fun rule q H3 s3 l3 er => by
    refine w_mend R2 s3 l3 (by omega) fun H4 m4 R4 => ?_
    refine k H4 A rfl (m2.trans m4) ?_
    rw [er]
    exact RdAt.more R4 (by omega)
  have ne_hs : (!hs.isEmpty) = true ↔ hostsIn B.rows B.rk st.rn ≠ [] := by
    rw [hhs]
    cases hs with
    | nil => exact ⟨(fun z => by cases z), fun z => absurd rfl z⟩
    | cons x y => exact ⟨(fun _ z => by cases z), fun _ => rfl⟩
  by_cases hb : (!hs.isEmpty && raw.all (fun c => decide (c = 32 ∨ c = 10))) = true
  · rw [if_pos hb]
    obtain ⟨e1, e2⟩ := Bool.and_eq_true_iff.mp hb
    walk_at "go"
    rw [show (!decide (("blank" : Str) = "")) = true from by decide]
    walk_at "go"
    refine w_lM R2 ?_
    refine w_tyM R2 ?_
    walk_at "go"
    refine w_lenS hrl ?_
    rw [sOf_len]
    walk_at "go"
    refine w_mkT fun q3 H3 _ s3 l3 => ?_
    walk_at "go"
    refine drop "blank" q3 H3 s3 l3 ?_
    unfold runTok
    rw [if_pos ⟨ne_hs.mp e1, e2⟩]
  rw [if_neg hb]
  have hnb : ¬ (hostsIn B.rows B.rk st.rn ≠ [] ∧ raw.all (fun c => decide (c = 32 ∨ c = 10)) = true) := fun z => hb (by rw [ne_hs.mpr z.1, z.2] <;> rfl)
  by_cases hd : st.rn.length + hs.length > 20
  · rw [if_pos hd]
    walk_at "go"
    rw [show (!decide (("deep" : Str) = "")) = true from by decide]
    walk_at "go"
    refine w_lM R2 ?_
    refine w_tyM R2 ?_
    walk_at "go"
    refine w_lenS hrl ?_
    rw [sOf_len]
    walk_at "go"
    refine w_mkT fun q3 H3 _ s3 l3 => ?_
    walk_at "go"
    refine drop "deep" q3 H3 s3 l3 ?_
    have ho : hostsFor B.rows B.rk st.rn = none := by
      unfold hostsFor
      rw [hhs, if_pos hd]
    unfold runTok
    rw [if_neg hnb, ho]
  rw [if_neg hd]
  have ho : hostsFor B.rows B.rk st.rn = some hs := by
    unfold hostsFor
    rw [hhs, if_neg hd]
  have er : runTok B.rows B.rk st a (a + raw.length) raw = (lieIn (openAnew B.rows (putOpens B.rows a "host" hs st).1 a).1 (.text (sOf (told raw))), (putOpens B.rows a "host" hs st).2 ++ ((openAnew B.rows (putOpens B.rows a "host" hs st).1 a).2 ++ (lones 0 raw).map (mSign a))) := by
    unfold runTok
    rw [if_neg hnb, ho] <;> rfl
  rw [er] at k
  dsimp only at k
  obtain ⟨O3, orn, _⟩ := opens_ok (at_ := a) (rule := "host") (xs := hs) O hh1 (by omega)
  have hol := O3.len
  walk_at "go"
  rw [show (!decide (("" : Str) = "")) = false from by decide]
  walk_at "go"
  refine w_forL (SqL.of hp2) (fun i σ H' => (∃ v, σ = [some (.ref A.p), some (.int (a : Nat)), some (.str (sOf raw)), some (.ref p), some (.str ""), v, none, none, none, none, none]) ∧ ∃ A', A'.p = A.p ∧ Mod true A H2 A' H' ∧
    RdS true C B H' A' (putOpens B.rows a "host" (hs.take i) st).1 (ms ++ (putOpens B.rows a "host" (hs.take i) st).2) (N + 2 * i))
    ⟨⟨_, rfl⟩, A, rfl, Mod.same (Same.refl H2), by rw [List.take_zero]; show RdS _ _ _ _ _ st (_ ++ []) _; rw [List.append_nil]; exact R2⟩ ?_ ?_ ?_
  · rintro i σ H' hi ⟨_, A', _, m', _⟩
    exact SqL.of (m' _ _ fp hp2).1
  · rintro i v σ H' hv ⟨⟨v0, rfl⟩, A', e', m', R'⟩
    obtain ⟨y, hy, rfl⟩ := map_get hv
    have hyl := (List.getElem?_eq_some_iff.mp hy).1
    have hy8 := hh1.short hB.good y (List.mem_of_getElem? hy)
    obtain ⟨O', orn', _⟩ := opens_ok (at_ := a) (rule := "host") (xs := hs.take i) O (fun z hz => hh1 z (List.mem_of_mem_take hz)) (by rw [List.length_take]; omega)
    have ol := O'.len
    have oo := O'.outl
    rw [← e']
    walk_at "go"
    refine w_lM R' ?_
    refine w_tyM R' ?_
    walk_at "go"
    refine w_addS (szM ?_) ?_
    · show 1 + y.length ≤ _
      omega
    walk_at "go"
    refine w_addS (szM ?_) ?_
    · rw [str_app_len]
      show 1 + y.length + 1 ≤ _
      omega
    walk_at "go"
    refine w_mkT fun q7 H7 _ s7 l7 => ?_
    walk_at "go"
    refine w_mend R' s7 l7 (by omega) fun H8 m8 R8 => ?_
    walk_at "go"
    refine ⟨B, A', _, _, _, y, rfl, hB, R8, by omega, by omega, by omega, fun H9 A9 e9 m9 R9 => ?_⟩
    refine ⟨⟨_, rfl⟩, A9, e9, (m'.trans m8).trans m9, ?_⟩
    rw [take_snoc hy, putOpens_snoc]
    rw [List.append_assoc] at R9
    exact R9
  rintro σ H3 ⟨⟨v0, rfl⟩, A3, e3, m3, R3⟩
  rw [List.length_map, List.take_length] at R3
  rw [← e3]
  walk_at "go"
  refine ⟨B, A3, _, _, _, a, rfl, hB, R3, O3, by omega, fun H4 A4 e4 m4 R4 => ?_⟩
  have O4 : StOk B.rows (openAnew B.rows (putOpens B.rows a "host" hs st).1 a).1 := (anews_ok (O3.wait (ws := []) (by intro x hx; cases hx)) O3.wt).1
  generalize openAnew B.rows (putOpens B.rows a "host" hs st).1 a = pr at R4 O4 k
  obtain ⟨st4, ms4⟩ := pr
  dsimp only at R4 O4 k
  have R4' : RdS true C B H4 A4 st4 (ms ++ (putOpens B.rows a "host" hs st).2 ++ ms4) (N + 120) := RdAt.more R4 (by omega)
  have ems : ∀ X, ms ++ ((putOpens B.rows a "host" hs st).2 ++ (ms4 ++ X)) = (ms ++ (putOpens B.rows a "host" hs st).2 ++ ms4) ++ X := fun X => by simp only [List.append_assoc]
  rw [ems] at k
  generalize ms ++ (putOpens B.rows a "host" hs st).2 ++ ms4 = ms5 at R4' k
  have m04 : Mod true A H A4 H4 := (m2.trans m3).trans m4
  have hul := units_len _ raw 0 (Nat.le_refl _)
  have htold := units_told _ raw 0 (Nat.le_refl _)
  have hlone := units_lone _ raw 0 (Nat.le_refl _)
  rw [hlone, List.map_map] at k
  rw [htold] at k
  walk_at "go"
  refine ⟨raw, rfl, by omega, fun H5 l us n5 s5 l5 hus => ?_⟩
  have fl : ¬ Foot true A4 l := R4'.not_free n5
  have R5 : RdS true C B H5 A4 st4 ms5 (N + 120) := RdAt.same R4' s5
  rw [← e4]
  refine w_forL (SqL.of l5) (fun i σ H' => (∃ v5 v7 v8 v9 v10, σ = [some (.ref A4.p), some (.int (a : Nat)), some (.str (sOf raw)), some (.ref p), some (.str ""), v5, some (.str (sOf (((units 0 raw).take i).map fun u => u.2.2))), v7, v8, v9, v10]) ∧ Mod true A4 H5 A4 H' ∧
    RdS true C B H' A4 st4 (ms5 ++ (((units 0 raw).take i).filter uLone).map (fun u => mSign a (u.1, u.2.2))) (N + 120 + i))
    ⟨⟨_, _, _, _, _, rfl⟩, Mod.same (Same.refl H5), by rw [List.take_zero]; show RdS _ _ _ _ _ st4 (_ ++ []) _; rw [List.append_nil]; exact R5⟩ ?_ ?_ ?_
  · rintro i σ H' hi ⟨_, m', _⟩
    exact SqL.of (m' _ _ fl l5).1
  · rintro i v σ H' hv ⟨⟨v5, v7, v8, v9, v10, rfl⟩, m', R'⟩
    obtain ⟨⟨u1, u2, u3⟩, hu, pu, rfl, hpu⟩ := hus.get hv
    have hui := (List.getElem?_eq_some_iff.mp hu).1
    have hpu' := RdAt.tups R5 m' _ _ hpu
    have hf : ((units 0 raw).take (i + 1)).filter uLone = ((units 0 raw).take i).filter uLone ++ (if uLone (u1, u2, u3) = true then [(u1, u2, u3)] else []) := by
      rw [take_snoc hu, List.filter_append, List.filter_cons]
      rfl
    have ht : ((units 0 raw).take (i + 1)).map (fun u => u.2.2) = ((units 0 raw).take i).map (fun u => u.2.2) ++ [u3] := by
      rw [take_snoc hu, List.map_append] <;> rfl
    walk_at "go"
    refine w_gT (SqT.of hpu') rfl ?_
    walk_at "go"
    refine w_addS (szM ?_) ?_
    · rw [sOf_len, List.length_map, List.length_take]
      show _ + 1 ≤ _
      omega
    rw [sOf_snoc, ← ht]
    walk_at "go"
    have no : uLone (u1, u2, u3) = false → RdS true C B H' A4 st4 (ms5 ++ (((units 0 raw).take (i + 1)).filter uLone).map (fun u => mSign a (u.1, u.2.2))) (N + 120 + (i + 1)) := fun hz => by
      rw [hf, if_neg (by rw [hz]; decide), List.append_nil]
      exact RdAt.more R' (by omega)
    have e1' : decide (((u2 : Nat) : Int) = 1) = decide (u2 = 1) := decide_eq_decide.mpr ⟨fun z => by omega, fun z => by omega⟩
    rw [e1']
    refine w_2 (fun e1 => ?_) (fun e1 => ?_)
    · walk_at "go"
      rw [in_lt]
      refine w_2 (fun e2 => ?_) (fun e2 => ?_)
      · have hul1 : uLone (u1, u2, u3) = true := by
          unfold uLone
          rw [show decide ((u1, u2, u3).2.1 = 1) = true from e1, Bool.true_and]
          exact e2
        have hc : u3 = 60 ∨ u3 = 38 := by
          rcases Bool.or_eq_true_iff.mp e2 with z | z
          · exact .inl (of_decide_eq_true z)
          · exact .inr (of_decide_eq_true z)
        walk_at "go"
        refine w_disp2 (by decide) fun wd H6 n6 s6 l6 => ?_
        walk_at "go"
        refine w_dgS (v := .str (if u3 = 60 then "&l;" else "&a;")) l6 ?_ ?_
        · rcases hc with z | z
          · subst z
            rw [if_pos rfl, valV_pos (by rw [c_lt])]
          · subst z
            rw [if_neg (by decide), valV_neg (by rw [c_lt]; exact (by decide : ¬ (Sum.inr ⟨#[60]⟩ : Key) = Sum.inr ⟨#[38]⟩)), valV_pos (by rw [c_am])]
        have R6 := RdAt.same R' s6
        walk_at "go"
        refine w_lM R6 ?_
        refine w_tyM R6 ?_
        walk_at "go"
        refine w_mkT fun q7 H7 _ s7 l7 => ?_
        walk_at "go"
        refine w_mend (a := a + u1) (b := a + u1 + 1) R6 s7 l7 (by omega) fun H8 m8 R8 => ?_
        refine ⟨⟨_, _, _, _, _, rfl⟩, (m'.trans (Mod.same s6)).trans m8, ?_⟩
        rw [hf, if_pos hul1, List.map_append, ← List.append_assoc]
        exact R8
      · walk_at "go"
        refine ⟨⟨_, _, _, _, _, rfl⟩, m', no ?_⟩
        unfold uLone
        rw [show (decide ((u1, u2, u3).2.2 = 60) || decide ((u1, u2, u3).2.2 = 38)) = false from e2, Bool.and_false]
    · walk_at "go"
      refine ⟨⟨_, _, _, _, _, rfl⟩, m', no ?_⟩
      unfold uLone
      rw [show decide ((u1, u2, u3).2.1 = 1) = false from e1, Bool.false_and]
  · rintro σ H6 ⟨⟨v5, v7, v8, v9, v10, rfl⟩, m6, R6⟩
    rw [hus.len, List.take_length] at R6 ⊢
    walk_at "go"
    refine ⟨B, A4, _, _, _, _, _, _, _, raw.length, _, .text (sOf ((units 0 raw).map fun u => u.2.2)), rfl, hB, R6, fun u hu => ?_, .text _, fun z hz => ?_, by omega, fun H7 m7 R7 => ?_⟩
    · have := O4.lev u hu
      exact ⟨by omega, this.2⟩
    · cases hz
      rw [sOf_len, List.length_map]
      exact hul
    · refine k H7 A4 (e4.trans e3) (((m04.trans (Mod.same s5)).trans m6).trans m7) ?_
      exact RdAt.more R7 (by omega)
end
end Tg

namespace Tg
open PySem PySem.Spec PyProof.Rows L2
def T3At (H : Hp) (v : V) (t : Tok3) : Prop := ∃ p, v = .ref p ∧ H p = some (.tup [.str (kindS t.kind), .int (t.start : Nat), .int (t.stop : Nat)])
theorem t3_mono {H H' : Hp} (e : Tups H H') (v : V) (t : Tok3) (h : T3At H v t) : T3At H' v t := by
  obtain ⟨p, h1, h2⟩ := h
  exact ⟨p, h1, e _ _ h2⟩
theorem slash_at (cs : List Nat) (a : Nat) : decide (sOf (cut cs a (a + 2)) = "</") = decide (cs[a]? = some 60 ∧ cs[a + 1]? = some 47) := by
  have e : ("</" : Str) = sOf [60, 47] := by decide +kernel
  rw [e]
  have ec : cut cs a (a + 2) = (cs.drop a).take 2 := by
    unfold cut
    rw [show a + 2 - a = 2 by omega]
  rw [ec]
  have h0 : (cs.drop a)[0]? = cs[a]? := by rw [List.getElem?_drop, Nat.add_zero]
  have h1 : (cs.drop a)[1]? = cs[a + 1]? := by rw [List.getElem?_drop]
  rw [← h0, ← h1]
  refine decide_eq_decide.mpr ⟨fun z => ?_, fun z => ?_⟩
  · have z := sOf_inj z
    cases e1 : cs.drop a with
    | nil =>
      rw [e1] at z
      cases z
    | cons x r =>
      rw [e1] at z
      cases r with
      | nil => cases z
      | cons y r =>
        rw [List.take_succ_cons, List.take_succ_cons, List.take_zero] at z
        cases z
        exact ⟨rfl, rfl⟩
  · cases e1 : cs.drop a with
    | nil =>
      rw [e1] at z
      cases z.1
    | cons x r =>
      rw [e1] at z
      cases r with
      | nil => cases z.2
      | cons y r =>
        obtain ⟨z1, z2⟩ := z
        cases z1
        cases z2
        rfl
theorem toks_ok (cs : List Nat) : ∀ (n a bg : Nat), cs.length - a ≤ n → bg ≤ a → a ≤ cs.length → ∀ t ∈ toks cs a bg, t.start ≤ t.stop ∧ t.stop ≤ cs.length ∧ (t.kind ≠ .run → t.start + 3 ≤ t.stop)
  | n, a, bg, hn, hb, ha => by
    have run : ∀ e, e ≤ cs.length → ∀ t ∈ runIf bg e, t.start ≤ t.stop ∧ t.stop ≤ cs.length ∧ (t.kind ≠ .run → t.start + 3 ≤ t.stop) := fun e he t ht => by
      unfold runIf at ht
      split at ht
      · rw [List.mem_singleton.mp ht]
        exact ⟨by dsimp only; omega, he, fun z => absurd rfl z⟩
      · cases ht
    by_cases h : a < cs.length
    · cases e : tagAt (cs.drop a) with
      | none =>
        cases n with
        | zero => omega
        | succ n =>
          rw [toks_no e h]
          exact toks_ok cs n (a + 1) bg (by omega) (by omega) (by omega)
      | some t =>
        have h60 : cs[a]? = some 60 := Classical.byContradiction fun z => by
          rw [tag_none z] at e
          cases e
        obtain ⟨h1, h2⟩ := tag_len_le h60 e
        rw [toks_tag e h]
        cases n with
        | zero => omega
        | succ n =>
          intro t2 ht2
          rcases List.mem_append.mp ht2 with ht2 | ht2
          · exact run a (by omega) t2 ht2
          · rcases List.mem_cons.mp ht2 with rfl | ht2
            · exact ⟨by dsimp only; omega, h1, fun _ => by dsimp only; omega⟩
            · exact toks_ok cs n (a + tagLen t) (a + tagLen t) (by omega) (Nat.le_refl _) h1 t2 ht2
    · rw [toks_end (by omega)]
      exact run cs.length (Nat.le_refl _)
theorem cut_exact {cs : List Nat} {a b : Nat} (h : a ≤ b) (hb : b ≤ cs.length) : (cut cs a b).length = b - a := by
  unfold cut
  rw [List.length_take, List.length_drop]
  omega
section
variable {P : Program} {w : World} {K : PySem.W.Frag} {mg : Str → Option Value} {base : Heap} {C ea : Addr}
def nameEnd (cs : List Nat) (s : Nat) : Nat := if 1 ≤ letters (cs.drop s) ∧ letters (cs.drop s) ≤ 8 ∧ cs[s + letters (cs.drop s)]? = some 62 then s + letters (cs.drop s) else s
def spLNameEnd : Sp := fun vs H Q _ => ∃ (cs : List Nat) (s : Nat), vs = [.str (sOf cs), .int (s : Nat)] ∧ cs.length ≤ 100000 ∧ s ≤ cs.length ∧ Q (.int (nameEnd cs s : Nat)) H
theorem c_l_name_end (D : Defs K mg C) (T : Tx K mg C ea) : C8.Cal P w K mg base 1 "_law_name_end" spLNameEnd [] := by
  refine D.d_l_name_end.cal sc_l_name_end (fun vs H Q E h => ?_) (fun f cdv A outer s H vs Q E hr h => ?_)
  · obtain ⟨cs, s, rfl, _⟩ := h
    rfl
  obtain ⟨cs, st, rfl, hz, hst, k⟩ := h
  refine ⟨_, (pss_cons (ps_set (i := 2) sc_l_name_end.nd rfl (Or.inl rfl) (pv 1))
      (Evl.pss_cut (ps_while PassesOwn.never (PW.pt (pw_and (pt_cmpR op_lt (pv 2) (pe_callB call_lenS (by rfl) T.b_len PySem.boot_len (pa_cons (pv 0) pa_nil)) (nomark _)) (pw_and1 (pt_cmpR op_inS (pe_ix ix_str (pv 0) (pv 2) (fun _ _ => rfl)) pe_str rfl)))) (pss_one (ps_set (i := 2) sc_l_name_end.nd rfl (Or.inl rfl) (pe_op op_add (pv 2) pe_int))))
      (pss_cons (ps_if (PW.pt (pw_and (pt_chain op_le op_le pe_int (pe_op op_sub (pv 2) (pv 1)) pe_int) (pw_and1 (pt_cmpR op_eq (pe_slice sl_str (pv 0) (po_some (pv 2)) (po_some (pe_op op_add (pv 2) pe_int))) pe_str (nomark _))))) (pss_one (ps_ret (pv 2))) pss_nil)
      (pss_one (ps_ret (pv 1)))))), ?_⟩
  have hzs : (sOf cs).length ≤ sizeLine := by
    rw [sOf_len]
    exact szM (by omega)
  have eGt : (">" : Str) = ⟨#[62]⟩ := by decide +kernel
  have hll := letters_le (cs.drop st)
  rw [List.length_drop] at hll
  unfold nameEnd at k
  generalize hn : letters (cs.drop st) = n at hll k
  walk_at "go"
  refine w_cut (M := fun σ' H2 => σ' = [some (.str (sOf cs)), some (.int (st : Nat)), some (.int ((st + n : Nat) : Int))] ∧ H2 = H) ?_ ?_
  · refine w_while (fun m σ' H2 => ∃ j : Nat, σ' = [some (.str (sOf cs)), some (.int (st : Nat)), some (.int ((st + j : Nat) : Int))] ∧ H2 = H ∧ j ≤ n ∧ m = n - j) _ ⟨0, rfl, rfl, by omega, rfl⟩ ?_
    rintro m σ' H2 ⟨j, rfl, rfl, hjn, hm⟩
    walk_at "go"
    refine w_lenS hzs ?_
    rw [sOf_len]
    walk_at "go"
    refine w_2 (fun e => ?_) (fun e => ?_)
    · have e' := of_decide_eq_true e
      obtain ⟨c, hc⟩ : ∃ c, cs[st + j]? = some c := get_lt (by omega)
      walk_at "go"
      refine w_ixS (a := c) hzs (by rw [sOf_toList]; exact atI_nat hc) ?_
      walk_at "go"
      rw [let_in]
      have hget : (cs.drop st)[j]? = some c := by rw [List.getElem?_drop]; exact hc
      have hlet := letters_get (l := cs.drop st) (k := j) (by rw [hn]; exact hjn)
      rw [hn] at hlet
      refine w_2 (fun e3 => ?_) (fun e3 => ?_)
      · have hlt := hlet.mp ⟨c, hget, e3⟩
        refine w_N ?_
        walk_at "go"
        exact ⟨n - (j + 1), by omega, j + 1, rfl, rfl, by omega, rfl⟩
      · have hlt : ¬ j < n := fun q => by
          obtain ⟨d, h1, h2⟩ := hlet.mpr q
          rw [hget] at h1
          cases h1
          rw [e3] at h2
          cases h2
        obtain rfl : j = n := by omega
        exact ⟨rfl, rfl⟩
    · have e' := of_decide_eq_false e
      obtain rfl : j = n := by omega
      walk_at "go"
      exact ⟨rfl, rfl⟩
  rintro σ' H2 ⟨rfl, rfl⟩
  have bad : ¬ (1 ≤ n ∧ n ≤ 8 ∧ cs[st + n]? = some 62) → Q (.int (st : Nat)) H2 := fun h => by
    rw [if_neg h] at k
    exact k
  walk_at "go"
  refine w_2 (fun e => ?_) (fun e => ?_)
  · have e' := of_decide_eq_true e
    walk_at "go"
    refine w_2 (fun e2 => ?_) (fun e2 => ?_)
    · have e2' := of_decide_eq_true e2
      walk_at "go"
      refine w_slS hzs ?_
      rw [cut1, eGt, sOf_toList]
      walk_at "go"
      rw [sign_eq]
      refine w_2 (fun e3 => ?_) (fun e3 => ?_)
      · walk_at "go"
        rw [if_pos ⟨by omega, by omega, of_decide_eq_true e3⟩] at k
        exact k
      · walk_at "go"
        exact bad fun h => of_decide_eq_false e3 h.2.2
    · have e2' := of_decide_eq_false e2
      walk_at "go"
      exact bad fun h => by omega
  · have e' := of_decide_eq_false e
    walk_at "go"
    exact bad fun h => by omega
def spLTokens : Sp := fun vs H Q _ => ∃ cs : List Nat, vs = [.str (sOf cs)] ∧ cs.length ≤ 100000 ∧ ∀ H' p us, H p = none → Same H H' → H' p = some (.lst us) → All2 (T3At H') us (toks cs 0 0) → Q (.ref p) H'
theorem c_l_tokens (D : Defs K mg C) (T : Tx K mg C ea) : C8.Cal P w K mg base 2 "_law_tokens" spLTokens [] := by
  refine D.d_l_tokens.cal sc_l_tokens (fun vs H Q E h => ?_) (fun f cdv A outer s H vs Q E hr h => ?_)
  · obtain ⟨cs, rfl, _⟩ := h
    rfl
  obtain ⟨cs, rfl, hz, k⟩ := h
  have c_l_name_end : C8.Cal P w K mg base 1 "_law_name_end" spLNameEnd [] := c_l_name_end D T
  refine ⟨_, (pss_cons (ps_set (i := 1) sc_l_tokens.nd rfl (Or.inl rfl) (pe_lst pa_nil))
      (pss_cons (ps_set (i := 2) sc_l_tokens.nd rfl (Or.inl rfl) pe_int)
      (pss_cons (ps_set (i := 3) sc_l_tokens.nd rfl (Or.inl rfl) pe_int)
      (pss_cons (ps_while PassesOwn.never (pt_cmpR op_lt (pv 3) (pe_callB call_lenS (by rfl) T.b_len PySem.boot_len (pa_cons (pv 0) pa_nil)) (nomark _)) (pss_cons (ps_set (i := 4) sc_l_tokens.nd rfl (Or.inl rfl) (pe_callTy call_intB (by rfl) T.b_int (by decide +kernel) (pa_cons (pe_cmpR op_eq (pe_slice sl_str (pv 0) (po_some (pv 3)) (po_some (pe_op op_add (pv 3) pe_int))) pe_str (nomark _)) pa_nil)))
      (pss_cons (ps_set (i := 5) sc_l_tokens.nd rfl (Or.inl rfl) (pe_op op_add (pe_op op_add (pv 3) pe_int) (pv 4)))
      (Evl.pss_cut (ps_if (pt_cmpR op_eq (pe_ix ix_str (pv 0) (pv 3) (fun _ _ => rfl)) pe_str (nomark _)) (pss_one (ps_set (i := 5) sc_l_tokens.nd rfl (Or.inl rfl) (C8.pe_c c_l_name_end hr (by decide) rfl (pa_cons (pv 0) (pa_cons (pe_op op_add (pe_op op_add (pv 3) pe_int) (pv 4)) pa_nil))))) pss_nil)
      (Evl.pss_cut (ps_if (pt_cmpR op_gt (pv 5) (pe_op op_add (pe_op op_add (pv 3) pe_int) (pv 4)) (nomark _)) (Evl.pss_cut (ps_if (pt_cmpR op_lt (pv 2) (pv 3) (nomark _)) (pss_one (ps_expr (pe_bm PySem.F.plainAttrs_list PySem.F.slot_list_append PySem.F.type_list_append mt_append (pv 1) (pa_cons (pe_tup (pa_cons pe_str (pa_cons (pv 2) (pa_cons (pv 3) pa_nil)))) pa_nil)))) pss_nil)
      (pss_cons (ps_expr (pe_bm PySem.F.plainAttrs_list PySem.F.slot_list_append PySem.F.type_list_append mt_append (pv 1) (pa_cons (pe_tup (pa_cons (pe_ix ix_list (pe_lst (pa_cons pe_str (pa_cons pe_str pa_nil))) (pv 4) (fun _ _ => rfl)) (pa_cons (pv 3) (pa_cons (pe_op op_add (pv 5) pe_int) pa_nil)))) pa_nil)))
      (pss_cons (ps_set (i := 3) sc_l_tokens.nd rfl (Or.inl rfl) (pv 5))
      (pss_one (ps_set (i := 2) sc_l_tokens.nd rfl (Or.inl rfl) (pe_op op_add (pv 5) pe_int)))))) pss_nil)
      (pss_one (ps_set (i := 3) sc_l_tokens.nd rfl (Or.inl rfl) (pe_op op_add (pv 3) pe_int))))))))
      (Evl.pss_cut (ps_if (pt_cmpR op_lt (pv 2) (pe_callB call_lenS (by rfl) T.b_len PySem.boot_len (pa_cons (pv 0) pa_nil)) (nomark _)) (pss_one (ps_expr (pe_bm PySem.F.plainAttrs_list PySem.F.slot_list_append PySem.F.type_list_append mt_append (pv 1) (pa_cons (pe_tup (pa_cons pe_str (pa_cons (pv 2) (pa_cons (pe_callB call_lenS (by rfl) T.b_len PySem.boot_len (pa_cons (pv 0) pa_nil)) pa_nil)))) pa_nil)))) pss_nil)
      (pss_one (ps_ret (pv 1)))))))), ?_⟩
  have hzs : (sOf cs).length ≤ sizeLine := by
    rw [sOf_len]
    exact szM (by omega)
  have eLt : ("<" : Str) = ⟨#[60]⟩ := by decide +kernel
  have htl := toks_len cs cs.length 0 0 (by omega)
  walk_at "go"
  refine w_mkL fun l H1 n1 s1 l1 => ?_
  walk_at "go"
  refine w_while (fun m σ H' => ∃ (a b : Nat) (us : List V) (done : List Tok3) (v4 v5 : Option V), σ = [some (.str (sOf cs)), some (.ref l), some (.int (b : Nat)), some (.int (a : Nat)), v4, v5] ∧ a ≤ cs.length ∧ b ≤ a ∧ m = cs.length - a ∧ Same H H' ∧ H' l = some (.lst us) ∧ All2 (T3At H') us done ∧ toks cs 0 0 = done ++ toks cs a b) _
    ⟨0, 0, [], [], _, _, rfl, Nat.zero_le _, Nat.le_refl _, rfl, s1, l1, .nil, rfl⟩ ?_
  rintro m σ H2 ⟨a, b, us, done, v4, v5, rfl, hal, hba, hm, s2, l2, hus, hd⟩
  have hdl := congrArg List.length hd
  rw [List.length_append] at hdl
  have hul := hus.len
  -- one more token
  have app : ∀ (H3 : Hp) (us' : List V) (done' : List Tok3) (t : Tok3) (q : Addr) (H4 : Hp), Same H H3 → H3 l = some (.lst us') → All2 (T3At H3) us' done' → Same H3 H4 → H4 q = some (.tup [.str (kindS t.kind), .int (t.start : Nat), .int (t.stop : Nat)]) → ∀ H5, But l H4 H5 → H5 l = some (.lst (us' ++ [.ref q])) → Same H H5 ∧ All2 (T3At H5) (us' ++ [.ref q]) (done' ++ [t]) := fun H3 us' done' t q H4 s3 l3 hus' s4 hq H5 b5 l5 => by
    have tu : Tups H4 H5 := tups_but (s4 _ _ l3) rfl b5
    exact ⟨sm_but (s3.trans s4) (none_back (Same.refl H) n1) b5, (hus'.mono (t3_mono ((tups_same s4).trans tu))).app (.one ⟨q, rfl, tu _ _ hq⟩)⟩
  walk_at "go"
  refine w_lenS hzs ?_
  rw [sOf_len]
  walk_at "go"
  refine w_2 (fun e => ?_) (fun e => ?_)
  · have hlt : a < cs.length := by
      have := of_decide_eq_true e
      omega
    obtain ⟨c, hc⟩ := get_lt hlt
    refine w_N ?_
    walk_at "go"
    refine w_slS hzs ?_
    have ea2 : ((a : Nat) : Int) + 2 = ((a + 2 : Nat) : Int) := by omega
    rw [ea2, cutS_nat, sOf_toList]
    walk_at "go"
    rw [slash_at]
    generalize hsl : decide (cs[a]? = some 60 ∧ cs[a + 1]? = some 47) = sl
    have esl : (if sl = true then (1 : Int) else 0) = (((if sl = true then 1 else 0 : Nat) : Nat) : Int) := by cases sl <;> rfl
    rw [esl]
    generalize hsn : (if sl = true then 1 else 0 : Nat) = sn
    have hsn1 : sn ≤ 1 := by
      rw [← hsn]
      split <;> omega
    have ee : ((a : Nat) : Int) + 1 + ((sn : Nat) : Int) = ((a + 1 + sn : Nat) : Int) := by omega
    walk_at "go"
    rw [ee]
    refine w_cut (M := fun σ H' => ∃ en : Nat, σ = [some (.str (sOf cs)), some (.ref l), some (.int (b : Nat)), some (.int (a : Nat)), some (.int (sn : Nat)), some (.int (en : Nat))] ∧ H' = H2 ∧
      ((∃ t, tagAt (cs.drop a) = some t ∧ en + 1 = a + tagLen t ∧ t.1 = sl ∧ a + 1 + sn < en) ∨ (tagAt (cs.drop a) = none ∧ en = a + 1 + sn))) ?_ ?_
    · walk_at "go"
      refine w_ixS (a := c) hzs (by rw [sOf_toList]; exact atI_nat hc) ?_
      walk_at "go"
      have e60 : decide ((⟨#[c]⟩ : Str) = "<") = decide (c = 60) := by
        rw [eLt]
        exact decide_eq_decide.mpr ⟨fun z => by cases z; rfl, fun z => by rw [z]⟩
      rw [e60]
      refine w_2 (fun e1 => ?_) (fun e1 => ?_)
      · have h60 : cs[a]? = some 60 := by rw [hc, of_decide_eq_true e1]
        have hsl2 : slashAt cs a = sl := by
          rw [← hsl]
          unfold slashAt
          exact decide_eq_decide.mpr ⟨fun z => ⟨h60, z⟩, fun z => z.2⟩
        have hfst : firstAt cs a = a + 1 + sn := by
          unfold firstAt
          rw [hsl2, hsn]
        have hfle : a + 1 + sn ≤ cs.length := by
          rw [← hsn]
          cases sl with
          | false => exact hlt
          | true =>
            have h2 := of_decide_eq_true hsl2
            have := (List.getElem?_eq_some_iff.mp h2).1
            show a + 1 + 1 ≤ _
            omega
        have hts := tag_spec h60
        rw [hfst, hsl2] at hts
        walk_at "go"
        rw [ee]
        refine ⟨cs, a + 1 + sn, rfl, hz, hfle, ?_⟩
        refine ⟨_, rfl, rfl, ?_⟩
        unfold nameEnd
        by_cases hq : 1 ≤ letters (cs.drop (a + 1 + sn)) ∧ letters (cs.drop (a + 1 + sn)) ≤ 8 ∧ cs[a + 1 + sn + letters (cs.drop (a + 1 + sn))]? = some 62
        · rw [if_pos hq] at hts ⊢
          refine .inl ⟨_, hts, ?_, rfl, by omega⟩
          unfold tagLen
          rw [← hsn]
          cases sl with
          | true =>
            show a + 1 + 1 + _ + 1 = a + (3 + _)
            omega
          | false =>
            show a + 1 + 0 + _ + 1 = a + (2 + _)
            omega
        · rw [if_neg hq] at hts ⊢
          exact .inr ⟨hts, rfl⟩
      · have h60 : ¬ cs[a]? = some 60 := fun z => by
          rw [hc] at z
          exact of_decide_eq_false e1 (Option.some.inj z)
        walk_at "go"
        exact ⟨_, rfl, rfl, .inr ⟨tag_none h60, rfl⟩⟩
    rintro σ H3 ⟨en, rfl, rfl, hcase⟩
    walk_at "go"
    refine w_cut (M := fun σ H' => ∃ (b2 a2 : Nat) (us' : List V) (done' : List Tok3) (v4 v5 : Option V), σ = [some (.str (sOf cs)), some (.ref l), some (.int (b2 : Nat)), some (.int (a2 : Nat)), v4, v5] ∧ Same H H' ∧ H' l = some (.lst us') ∧ All2 (T3At H') us' done' ∧ toks cs 0 0 = done' ++ toks cs (a2 + 1) b2 ∧ b2 ≤ a2 + 1 ∧ a2 + 1 ≤ cs.length ∧ a < a2 + 1) ?_ ?_
    · walk_at "go"
      rw [ee]
      rcases hcase with ⟨t, ht, hen, htl2, hgt⟩ | ⟨ht, hen⟩
      · have h60 : cs[a]? = some 60 := Classical.byContradiction fun z => by
          rw [tag_none z] at ht
          cases ht
        obtain ⟨h1, h2⟩ := tag_len_le h60 ht
        have htk := toks_tag (bg := b) ht hlt
        refine w_2 (fun e1 => ?_) (fun e1 => ?_)
        · walk_at "go"
          refine w_cut (M := fun σ H' => ∃ us' done', σ = [some (.str (sOf cs)), some (.ref l), some (.int (b : Nat)), some (.int (a : Nat)), some (.int (sn : Nat)), some (.int (en : Nat))] ∧ Same H H' ∧ H' l = some (.lst us') ∧ All2 (T3At H') us' done' ∧ done' = done ++ runIf b a) ?_ ?_
          · walk_at "go"
            refine w_2 (fun e2 => ?_) (fun e2 => ?_)
            · have hlt2 : b < a := by
                have := of_decide_eq_true e2
                omega
              walk_at "go"
              refine w_tyL l2 ?_
              walk_at "go"
              refine w_mkT fun q H4 n4 s4 l4 => ?_
              walk_at "go"
              refine w_app (s4 _ _ l2) (szM' (by omega)) fun H5 b5 l5 => ?_
              obtain ⟨x1, x2⟩ := app _ us done ⟨.run, b, a⟩ q H4 s2 l2 hus s4 l4 H5 b5 l5
              refine ⟨_, _, rfl, x1, l5, x2, ?_⟩
              unfold runIf
              rw [if_pos hlt2]
            · have hlt2 : ¬ b < a := by
                have := of_decide_eq_false e2
                omega
              walk_at "go"
              refine ⟨us, done, rfl, s2, l2, hus, ?_⟩
              unfold runIf
              rw [if_neg hlt2, List.append_nil]
          · rintro σ H4 ⟨us', done', rfl, s4, l4, hus', hd'⟩
            have hul' := hus'.len
            have hdl' : done'.length ≤ done.length + 1 := by
              rw [hd', List.length_append]
              unfold runIf
              split
              · exact Nat.le_refl _
              · exact Nat.le_succ _
            walk_at "go"
            refine w_tyL l4 ?_
            walk_at "go"
            refine w_mkL fun q1 H5 n5 s5 l5 => ?_
            walk_at "go"
            refine w_ixL (v := .str (kindS (if t.1 = true then .cls else .opn))) (SqL.of l5) ?_ ?_
            · rw [htl2, ← hsn]
              cases sl <;> rfl
            walk_at "go"
            have een : ((en : Nat) : Int) + 1 = ((a + tagLen t : Nat) : Int) := by omega
            rw [een]
            refine w_mkT fun q H6 n6 s6 l6 => ?_
            walk_at "go"
            have s56 := s5.trans s6
            refine w_app (s56 _ _ l4) (szM' (by omega)) fun H7 b7 l7 => ?_
            obtain ⟨x1, x2⟩ := app H4 us' done' ⟨if t.1 = true then .cls else .opn, a, a + tagLen t⟩ q H6 s4 l4 hus' s56 l6 H7 b7 l7
            walk_at "go"
            rw [een]
            refine ⟨a + tagLen t, en, _, _, _, _, rfl, x1, l7, x2, ?_, by omega, by omega, by omega⟩
            rw [hd, htk, hd', hen, List.append_assoc, List.append_assoc] <;> rfl
        · have := of_decide_eq_false e1
          omega
      · refine w_2 (fun e1 => ?_) (fun e1 => ?_)
        · have := of_decide_eq_true e1
          omega
        · walk_at "go"
          refine ⟨b, a, us, done, _, _, rfl, s2, l2, hus, ?_, by omega, by omega, by omega⟩
          rw [hd, toks_no ht hlt]
    · rintro σ H4 ⟨b2, a2, us', done', v4', v5', rfl, s4, l4, hus', hd', hb2, ha2, haa⟩
      walk_at "go"
      exact ⟨_, by omega, a2 + 1, b2, us', done', _, _, rfl, ha2, hb2, rfl, s4, l4, hus', hd'⟩
  · have hge : cs.length ≤ a := by
      have := of_decide_eq_false e
      omega
    rw [toks_end hge] at hd
    walk_at "go"
    refine w_cut (M := fun σ H' => ∃ us', (∃ v2 v3, σ = [some (.str (sOf cs)), some (.ref l), v2, v3, v4, v5]) ∧ Same H H' ∧ H' l = some (.lst us') ∧ All2 (T3At H') us' (toks cs 0 0)) ?_ ?_
    · walk_at "go"
      refine w_lenS hzs ?_
      rw [sOf_len]
      walk_at "go"
      refine w_2 (fun e2 => ?_) (fun e2 => ?_)
      · have hlt2 : b < cs.length := by
          have := of_decide_eq_true e2
          omega
        walk_at "go"
        refine w_tyL l2 ?_
        walk_at "go"
        refine w_lenS hzs ?_
        rw [sOf_len]
        walk_at "go"
        refine w_mkT fun q H4 n4 s4 l4 => ?_
        walk_at "go"
        refine w_app (s4 _ _ l2) (szM' (by omega)) fun H5 b5 l5 => ?_
        obtain ⟨x1, x2⟩ := app _ us done ⟨.run, b, cs.length⟩ q H4 s2 l2 hus s4 l4 H5 b5 l5
        refine ⟨_, ⟨_, _, rfl⟩, x1, l5, ?_⟩
        rw [hd]
        unfold runIf
        rw [if_pos hlt2]
        exact x2
      · have hlt2 : ¬ b < cs.length := by
          have := of_decide_eq_false e2
          omega
        walk_at "go"
        refine ⟨us, ⟨_, _, rfl⟩, s2, l2, ?_⟩
        rw [hd]
        unfold runIf
        rw [if_neg hlt2, List.append_nil]
        exact hus
    · rintro σ H3 ⟨us', ⟨v2, v3, rfl⟩, s3, l3, hus'⟩
      walk_at "go"
      exact k H3 l us' n1 s3 l3 hus'
end
end Tg

namespace Tg
open PySem PySem.Spec PyProof.Rows L2
theorem merge_lf (b n h w m : Addr) : mergeK [] (lf b n h w m) = lf b n h w m := rfl
theorem l_start {C : Addr} {B : Bk} {σ : L2.St} {H : Hp} {Q : VK} (hσ : σ[0]? = some (some (.ref B.b))) (s0 : Same B.G H) (k : ∀ H' A, Same H H' → (∀ b o, H b = some o → ¬ Foot true A b) → RdS true C B H' A st0 [] 1 → Q (.ref A.p) H') :
    tDisp [(tC (.str "book"), tVar 0), (tC (.str "names"), tLst tNil), (tC (.str "heaps"), tLst (tCons (tLst tNil) tNil)), (tC (.str "waits"), tDisp [(tC (.int 0), tLst tNil)]), (tC (.str "mends"), tLst tNil)] σ H Q := by
  intro p hp
  refine ⟨_, hσ, ?_⟩
  have sa := sm_new (o := .dK []) hp
  have la : upd H p (.dK []) p = some (.dK []) := upd_same
  generalize upd H p (.dK []) = Ha at sa la ⊢
  refine ⟨Nat.zero_le _, fun n hn => ?_⟩
  have sb := sm_new (o := .lst []) hn
  have lb : upd Ha n (.lst []) n = some (.lst []) := upd_same
  generalize upd Ha n (.lst []) = Hb at sb lb ⊢
  refine ⟨Nat.zero_le _, fun a ha => ?_⟩
  have sc := sm_new (o := .lst []) ha
  have lc : upd Hb a (.lst []) a = some (.lst []) := upd_same
  generalize upd Hb a (.lst []) = Hc at sc lc ⊢
  refine ⟨(by decide : 1 ≤ sizeLine), fun h hh => ?_⟩
  have sd := sm_new (o := .lst [.ref a]) hh
  have ld : upd Hc h (.lst [.ref a]) h = some (.lst [.ref a]) := upd_same
  generalize upd Hc h (.lst [.ref a]) = Hd at sd ld ⊢
  dsimp only [tPairs]
  refine w_c ?_
  refine w_disp0 fun r w He nr nw nrw se lr lw => ?_
  refine ⟨Nat.zero_le _, fun m nm => ?_⟩
  have sf := sm_new (o := .lst []) nm
  have lm : upd He m (.lst []) m = some (.lst []) := upd_same
  generalize upd He m (.lst []) = Hf at sf lm ⊢
  have saf : Same Ha Hf := sb.trans (sc.trans (sd.trans (se.trans sf)))
  refine ⟨saf _ _ la, lf B.b n h w m, rfl, (by decide : 5 ≤ 15), ?_⟩
  rw [merge_lf]
  have bg : But p Hf (upd Hf p (.dK (lf B.b n h w m))) := but_upd
  have lg : upd Hf p (.dK (lf B.b n h w m)) p = some (.dK (lf B.b n h w m)) := upd_same
  generalize upd Hf p (.dK (lf B.b n h w m)) = Hg at bg lg ⊢
  -- apart
  have ap : ∀ {x y : Addr} {Hi : Hp} {o : HO}, Hi x = none → Hi y = some o → x ≠ y := fun {x y Hi o} q1 q2 z => by
    rw [z, q2] at q1
    cases q1
  have np : n ≠ p := ap hn la
  have ap' : a ≠ p := ap ha (sb _ _ la)
  have hp' : h ≠ p := ap hh (sc _ _ (sb _ _ la))
  have rp : r ≠ p := ap nr (sd _ _ (sc _ _ (sb _ _ la)))
  have wp : w ≠ p := ap nw (sd _ _ (sc _ _ (sb _ _ la)))
  have mp : m ≠ p := ap nm (se _ _ (sd _ _ (sc _ _ (sb _ _ la))))
  have an : a ≠ n := ap ha lb
  have hn' : h ≠ n := ap hh (sc _ _ lb)
  have ha' : h ≠ a := ap hh lc
  have rn' : r ≠ n := ap nr (sd _ _ (sc _ _ lb))
  have ra : r ≠ a := ap nr (sd _ _ lc)
  have rh : r ≠ h := ap nr ld
  have mn : m ≠ n := ap nm (se _ _ (sd _ _ (sc _ _ lb)))
  have ma : m ≠ a := ap nm (se _ _ (sd _ _ lc))
  have mh : m ≠ h := ap nm (se _ _ ld)
  have mr : m ≠ r := ap nm lr
  have fn : Hg n = some (.lst []) := bg _ _ np (sf _ _ (se _ _ (sd _ _ (sc _ _ lb))))
  have fa : Hg a = some (.lst []) := bg _ _ ap' (sf _ _ (se _ _ (sd _ _ lc)))
  have fh : Hg h = some (.lst [.ref a]) := bg _ _ hp' (sf _ _ (se _ _ ld))
  have fr : Hg r = some (.lst []) := bg _ _ rp (sf _ _ lr)
  have fw : Hg w = some (.dK [(Sum.inl 0, .ref r)]) := bg _ _ wp (sf _ _ lw)
  have fm : Hg m = some (.lst []) := bg _ _ mp lm
  have sg : Same H Hg := fun b o q => bg b o (ne_of_none q hp) (saf b o (sa b o q))
  have zn : H n = none := none_back sa hn
  have za : H a = none := none_back (sa.trans sb) ha
  have zh : H h = none := none_back (sa.trans (sb.trans sc)) hh
  have zr : H r = none := none_back (sa.trans (sb.trans (sc.trans sd))) nr
  have zw : H w = none := none_back (sa.trans (sb.trans (sc.trans sd))) nw
  have zm : H m = none := none_back (sa.trans (sb.trans (sc.trans (sd.trans se)))) nm
  obtain ⟨A, hA⟩ : ∃ A : RdA, A = ⟨p, p, n, h, w, m, [a], [r]⟩ := ⟨_, rfl⟩
  have hall : A.all true = [m, n, h, a, r] := by rw [hA] <;> rfl
  have hz : ∀ b, Foot true A b → H b = none := by
    rintro b (f | f | f)
    · rw [f, hA]
      exact hp
    · rw [f, hA]
      exact zw
    · rw [hall] at f
      rcases List.mem_cons.mp f with rfl | f
      · exact zm
      rcases List.mem_cons.mp f with rfl | f
      · exact zn
      rcases List.mem_cons.mp f with rfl | f
      · exact zh
      rcases List.mem_cons.mp f with rfl | f
      · exact za
      rw [List.mem_singleton.mp f]
      exact zr
  have e : p = A.p := by rw [hA]
  rw [e]
  refine k Hg A sg (fun b o q f => by rw [hz b f] at q; cases q) ?_
  have key : keys B.rows [] = [0] := by rw [keys]
  refine ⟨s0.trans sg, fun b f => s0.free (hz b f), by rw [hA]; exact lg, by rw [hA]; exact fn, by rw [hA]; exact ⟨fh, .one ⟨[], fa, .nil⟩⟩, ?_, by rw [hA]; exact ⟨[], fm, .nil⟩, ?_, by rw [hA]; exact fun z => wp z.symm, ?_⟩
  · rw [hA]
    show WaitsAt Hg w [r] [[]] (keys B.rows []) 1
    rw [key]
    refine ⟨⟨_, fw, Nat.le_refl _, fun i j b hi hb => ?_⟩, rfl, .one fr⟩
    cases i with
    | zero =>
      cases hi
      cases hb
      rfl
    | succ i => cases hi
  · rw [hall]
    simp [mn, mh, ma, mr, Ne.symm hn', Ne.symm an, Ne.symm rn', ha', Ne.symm rh, Ne.symm ra]
  · exact ⟨fun q hq => by rw [List.mem_singleton.mp hq]; exact ⟨Nat.zero_le _, fun s hs => by cases hs⟩, fun q hq => by rw [List.mem_singleton.mp hq]; exact Nat.zero_le _, Nat.zero_le _⟩
section
variable {P : Program} {w : World} {K : PySem.W.Frag} {mg : Str → Option Value} {base : Heap} {C ea : Addr}
theorem c_l_read (D : Defs K mg C) (T : Tx K mg C ea) : C8.Cal P w K mg base 23 "_law_read" spReadText [] := by
  refine D.d_l_read.cal sc_l_read (fun vs H Q E h => ?_) (fun f cdv A outer s H vs Q E hr h => ?_)
  · obtain ⟨B, cs, rfl, _⟩ := h
    rfl
  obtain ⟨B, cs, rfl, hB, s0, hcs, hsm, k⟩ := h
  have c_l_tokens : C8.Cal P w K mg base 2 "_law_tokens" spLTokens [] := c_l_tokens D T
  have c_l_open_tag : C8.Cal P w K mg base 22 "_law_open_tag" (spLOpenTag C) [] := c_l_open_tag D T
  have c_l_close_tag : C8.Cal P w K mg base 6 "_law_close_tag" (spLCloseTag C) [] := c_l_close_tag D T
  have c_l_run : C8.Cal P w K mg base 6 "_law_run" (spLRun C) [] := c_l_run D T
  have c_l_end : C8.Cal P w K mg base 2 "_law_end" (spLEnd C) [] := c_l_end D T
  refine ⟨_, (pss_cons (ps_set (i := 2) sc_l_read.nd rfl (Or.inl rfl) (pe_disp (pps_cons pe_str (pv 0) (pps_cons pe_str (pe_lst pa_nil) (pps_cons pe_str (pe_lst (pa_cons (pe_lst pa_nil) pa_nil)) (pps_cons pe_str (pe_disp (pps_cons pe_int (pe_lst pa_nil) pps_nil) (by rfl) (by rfl) (fun z => by cases z) (by decide)) (pps_cons pe_str (pe_lst pa_nil) pps_nil))))) (by rfl) (by rfl) (fun z => by cases z) (by decide)))
      (pss_cons (ps_for PassesOwn.never rfl (pi_list (C8.pe_c c_l_tokens hr (by decide) rfl (pa_cons (pv 1) pa_nil))) (pg_tup rfl (pgs_cons (pg_name (i := 3) sc_l_read.nd rfl (Or.inl rfl)) (pgs_cons (pg_name (i := 4) sc_l_read.nd rfl (Or.inl rfl)) (pgs_cons (pg_name (i := 5) sc_l_read.nd rfl (Or.inl rfl)) pgs_nil)))) (pss_one (ps_if (pt_cmpR op_eq (pv 3) pe_str (nomark _)) (pss_one (ps_expr (C8.pe_c c_l_open_tag hr (by decide) rfl (pa_cons (pv 2) (pa_cons (pv 4) (pa_cons (pv 5) (pa_cons (pe_slice sl_str (pv 1) (po_some (pe_op op_add (pv 4) pe_int)) (po_some (pe_op op_sub (pv 5) pe_int))) pa_nil))))))) (pss_one (ps_if (pt_cmpR op_eq (pv 3) pe_str (nomark _)) (pss_one (ps_expr (C8.pe_c c_l_close_tag hr (by decide) rfl (pa_cons (pv 2) (pa_cons (pv 4) (pa_cons (pv 5) (pa_cons (pe_slice sl_str (pv 1) (po_some (pe_op op_add (pv 4) pe_int)) (po_some (pe_op op_sub (pv 5) pe_int))) pa_nil))))))) (pss_one (ps_expr (C8.pe_c c_l_run hr (by decide) rfl (pa_cons (pv 2) (pa_cons (pv 4) (pa_cons (pe_slice sl_str (pv 1) (po_some (pv 4)) (po_some (pv 5))) pa_nil)))))))))))
      (pss_cons (ps_while PassesOwn.never (pt_cmpR (op_neD (hu64 hr)) (pe_dget (hu_of hr) (pv 2) pe_str (fun _ _ => rfl)) (pe_lst pa_nil) (nomark _)) (pss_cons (ps_expr (pe_bm PySem.F.plainAttrs_list PySem.F.slot_list_append PySem.F.type_list_append mt_append (pe_dget (hu_of hr) (pv 2) pe_str (fun _ _ => rfl)) (pa_cons (pe_tup (pa_cons (pe_callB call_lenS (by rfl) T.b_len PySem.boot_len (pa_cons (pv 1) pa_nil)) (pa_cons (pe_callB call_lenS (by rfl) T.b_len PySem.boot_len (pa_cons (pv 1) pa_nil)) (pa_cons (pe_op op_addS (pe_op op_addS pe_str (pe_ix ix_list (pe_dget (hu_of hr) (pv 2) pe_str (fun _ _ => rfl)) (pe_un un_neg pe_int) (fun _ _ => rfl))) pe_str) (pa_cons pe_str pa_nil))))) pa_nil)))
      (pss_one (ps_expr (C8.pe_c c_l_end hr (by decide) rfl (pa_cons (pv 2) pa_nil))))))
      (pss_one (ps_ret (pe_tup (pa_cons (pe_tup (pa_cons pe_str (pa_cons (pe_callTy call_tupQ (by rfl) T.b_tuple (by decide +kernel) (pa_cons (pe_ix ix_list (pe_dget (hu_of hr) (pv 2) pe_str (fun _ _ => rfl)) pe_int (fun _ _ => rfl)) pa_nil)) pa_nil))) (pa_cons (pe_dget (hu_of hr) (pv 2) pe_str (fun _ _ => rfl)) pa_nil)))))))), ?_⟩
  have hzl : (sOf cs).length = cs.length := sOf_len cs
  have hzs : (sOf cs).length ≤ sizeLine := by
    rw [hzl]
    exact szM (by omega)
  have hcost : ((toks cs 0 0).map cost).sum ≤ 404000 := by
    have := toks_cost cs cs.length 0 0 (by omega) (by omega) (by omega)
    omega
  walk_at "go"
  refine l_start (C := C) rfl s0 fun H1 A s1 out R1 => ?_
  walk_at "go"
  refine ⟨cs, rfl, by omega, fun H3 p3 ts n3 s3 l3 hts => ?_⟩
  have R3 := RdAt.same R1 s3
  have fp3 : ¬ Foot true A p3 := R1.not_free n3
  have s03 := s1.trans s3
  refine w_forL (SqL.of l3) (fun i σ H' => ∃ A', A'.p = A.p ∧ (∃ v1 v2 v3, σ = [some (.ref B.b), some (.str (sOf cs)), some (.ref A.p), v1, v2, v3]) ∧ Same H H' ∧ (∀ b o, H b = some o → ¬ Foot true A' b) ∧ H' p3 = some (.lst ts) ∧ ¬ Foot true A' p3 ∧ Tups H3 H' ∧
      (∀ b, Foot true A' b → H b = none) ∧ RdS true C B H' A' (steps B.rows B.rk cs ((toks cs 0 0).take i) st0).1 (steps B.rows B.rk cs ((toks cs 0 0).take i) st0).2 (1 + (((toks cs 0 0).take i).map cost).sum))
    ⟨A, rfl, ⟨_, _, _, rfl⟩, s03, out, l3, fp3, Tups.refl H3, fun b f => ?_, R3⟩ ?_ ?_ ?_
  · cases e : H b with
    | none => rfl
    | some o => exact absurd f (out b o e)
  · rintro i σ H' hi ⟨A', e', _, s', o', lp, _⟩
    exact SqL.of lp
  · rintro i v σ H' hv ⟨A', e', ⟨v1, v2, v3, rfl⟩, s', o', lp, fp, tu, fz, R'⟩
    obtain ⟨t, ht, pt, rfl, hpt⟩ := hts.get hv
    have hcs2 : (((toks cs 0 0).take (i + 1)).map cost).sum = (((toks cs 0 0).take i).map cost).sum + cost t := by
      rw [take_snoc ht, cost_app]
      rfl
    have hle : (((toks cs 0 0).take (i + 1)).map cost).sum ≤ ((toks cs 0 0).map cost).sum := by
      rw [← List.take_append_drop (i + 1) (toks cs 0 0), cost_app, List.take_append_drop]
      exact Nat.le_add_right _ _
    obtain ⟨O', hul⟩ := steps_ok hB.good hsm (ts := (toks cs 0 0).take i) st0_ok
    obtain ⟨t1, t2, t3⟩ := toks_ok cs cs.length 0 0 (by omega) (by omega) (by omega) t (List.mem_of_getElem? ht)
    have next : ∀ H5 A5, A5.p = A'.p → Mod true A' H' A5 H5 → RdS true C B H5 A5 (stepTok B.rows B.rk cs (steps B.rows B.rk cs ((toks cs 0 0).take i) st0).1 t).1 ((steps B.rows B.rk cs ((toks cs 0 0).take i) st0).2 ++ (stepTok B.rows B.rk cs (steps B.rows B.rk cs ((toks cs 0 0).take i) st0).1 t).2) (1 + (((toks cs 0 0).take i).map cost).sum + cost t) →
        ∀ w1 w2 w3 : Option V, ∃ A', A'.p = A.p ∧ (∃ v1 v2 v3, [some (V.ref B.b), some (.str (sOf cs)), some (.ref A.p), w1, w2, w3] = [some (.ref B.b), some (.str (sOf cs)), some (.ref A.p), v1, v2, v3]) ∧ Same H H5 ∧ (∀ b o, H b = some o → ¬ Foot true A' b) ∧ H5 p3 = some (.lst ts) ∧ ¬ Foot true A' p3 ∧ Tups H3 H5 ∧
      (∀ b, Foot true A' b → H b = none) ∧ RdS true C B H5 A' (steps B.rows B.rk cs ((toks cs 0 0).take (i + 1)) st0).1 (steps B.rows B.rk cs ((toks cs 0 0).take (i + 1)) st0).2 (1 + (((toks cs 0 0).take (i + 1)).map cost).sum) := fun H5 A5 e5 m5 R5 w1 w2 w3 => by
      obtain ⟨lp5, fp5⟩ := m5 _ _ fp lp
      have o5 : ∀ b o, H b = some o → ¬ Foot true A5 b := fun b o q => (m5 b o (o' b o q) (s' b o q)).2
      refine ⟨A5, e5.trans e', ⟨_, _, _, rfl⟩, fun b o q => (m5 b o (o' b o q) (s' b o q)).1, o5, lp5, fp5, tu.trans (RdAt.tups R' m5), fun b f => ?_, ?_⟩
      · cases e : H b with
        | none => rfl
        | some o => exact absurd f (o5 b o e)
      · rw [hcs2, take_snoc ht, steps_snoc, ← Nat.add_assoc]
        exact R5
    rw [← e'] at next ⊢
    obtain ⟨kd, a, b⟩ := t
    dsimp only at t1 t2 t3
    walk_at "go"
    refine w_gT (SqT.of (tu _ _ hpt)) rfl ?_
    walk_at "go"
    cases kd with
    | opn =>
      have hab := t3 (by decide)
      have ea : ((a : Nat) : Int) + 1 = ((a + 1 : Nat) : Int) := by omega
      have eb : ((b : Nat) : Int) - 1 = ((b - 1 : Nat) : Int) := by omega
      rw [show decide (kindS Kind.opn = ("open" : Str)) = true from by decide]
      walk_at "go"
      refine w_slS hzs ?_
      rw [ea, eb, cutS_nat, sOf_toList]
      walk_at "go"
      refine ⟨B, A', _, _, _, a, b, _, rfl, hB, R', O', by omega, fun H5 A5 e5 m5 R5 => ?_⟩
      refine next H5 A5 e5 m5 ?_ _ _ _
      exact RdAt.more R5 (by unfold cost; omega)
    | cls =>
      have hab := t3 (by decide)
      have ea : ((a : Nat) : Int) + 2 = ((a + 2 : Nat) : Int) := by omega
      have eb : ((b : Nat) : Int) - 1 = ((b - 1 : Nat) : Int) := by omega
      rw [show decide (kindS Kind.cls = ("open" : Str)) = false from by decide]
      walk_at "go"
      rw [show decide (kindS Kind.cls = ("close" : Str)) = true from by decide]
      walk_at "go"
      refine w_slS hzs ?_
      rw [ea, eb, cutS_nat, sOf_toList]
      walk_at "go"
      refine ⟨B, A', _, _, _, a, b, _, rfl, hB, R', O', by omega, fun H5 A5 e5 m5 R5 => ?_⟩
      refine next H5 A5 e5 m5 ?_ _ _ _
      exact RdAt.more R5 (by unfold cost; omega)
    | run =>
      rw [show decide (kindS Kind.run = ("open" : Str)) = false from by decide]
      walk_at "go"
      rw [show decide (kindS Kind.run = ("close" : Str)) = false from by decide]
      walk_at "go"
      refine w_slS hzs ?_
      rw [cutS_nat, sOf_toList]
      walk_at "go"
      have hcl := cut_exact t1 t2
      refine ⟨B, A', _, _, _, a, cut cs a b, rfl, hB, R', O', by omega, cut_small hsm, by omega, fun H5 A5 e5 m5 R5 => ?_⟩
      rw [show a + (cut cs a b).length = b by omega] at R5
      refine next H5 A5 e5 m5 ?_ _ _ _
      exact RdAt.more R5 (by unfold cost; dsimp only; omega)
  · rintro σ H4 ⟨A4, e4, ⟨v1, v2, v3, rfl⟩, s4, o4, lp, fp, tu, fz, R4⟩
    rw [hts.len, List.take_length] at R4
    obtain ⟨O4, hul⟩ := steps_ok hB.good hsm (ts := toks cs 0 0) st0_ok
    generalize hst4 : steps B.rows B.rk cs (toks cs 0 0) st0 = pr4 at R4 O4 hul
    have hall := steps_all (rows := B.rows) (rk := B.rk) (cs := cs)
    rw [hst4] at hall
    obtain ⟨st4, ms4⟩ := pr4
    dsimp only at R4 O4 hul hall
    rw [hall] at k
    have hl4 := O4.len
    refine w_seq (w_while (fun m σ H' => ∃ A' st' ms' N', A'.p = A.p ∧ σ = [some (.ref B.b), some (.str (sOf cs)), some (.ref A.p), v1, v2, v3] ∧ Same H H' ∧ (∀ b o, H b = some o → ¬ Foot true A' b) ∧ RdS true C B H' A' st' (ms4 ++ ms') N' ∧ StOk B.rows st' ∧ m = st'.rn.length ∧ N' + 2 * m ≤ 404041 ∧
      (closeTo B.rows cs.length "end" 0 st').1 = (closeTo B.rows cs.length "end" 0 st4).1 ∧ ms' ++ (closeTo B.rows cs.length "end" 0 st').2 = (closeTo B.rows cs.length "end" 0 st4).2) _
      ⟨A4, st4, [], _, e4, rfl, s4, o4, by rw [List.append_nil]; exact R4, O4, rfl, by omega, rfl, rfl⟩ ?_)
    rintro m σ H5 ⟨A1, st1, ms1, N1, e1, rfl, s5, o5, Rr, O1, hm, hN1, hc1, hc2⟩
    rw [← e1]
    have hl1 := O1.len
    walk_at "go"
    refine w_lN Rr ?_
    walk_at "go"
    refine w_mkL fun q6 H6 n6 s6 l6 => ?_
    have R6 := RdAt.same Rr s6
    refine w_neL0 (ys := st1.rn.reverse) (SqL.of R6.lnam) l6 (fun y hy => O1.inb.ok hB.good y (List.mem_reverse.mp hy)) ?_
    walk_at "go"
    cases hrn : st1.rn with
    | cons x r =>
      rw [show (!((x :: r).reverse).isEmpty) = true from by simp]
      refine w_T ?_
      refine w_N ?_
      have hxl := O1.inb.short hB.good x (by rw [hrn]; exact List.mem_cons_self)
      have ix : atI (st1.rn.reverse.map V.str) (-1) = some (.str x) := by
        rw [hrn, List.reverse_cons, List.map_append]
        exact atI_last _ _
      walk_at "go"
      refine w_lM R6 ?_
      refine w_tyM R6 ?_
      walk_at "go"
      refine w_lenS hzs ?_
      rw [hzl]
      walk_at "go"
      refine w_lenS hzs ?_
      rw [hzl]
      walk_at "go"
      refine w_lN R6 ?_
      walk_at "go"
      refine w_ixL (SqL.of R6.lnam) ix ?_
      refine w_addS (szM ?_) ?_
      · show 2 + x.length ≤ _
        omega
      walk_at "go"
      refine w_addS (szM ?_) ?_
      · rw [str_app_len]
        show 2 + x.length + 1 ≤ _
        omega
      walk_at "go"
      refine w_mkT fun q H7 _ s7 l7 => ?_
      walk_at "go"
      refine w_mend R6 s7 l7 (by omega) fun H8 m8 R8 => ?_
      walk_at "go"
      refine ⟨B, A1, st1, _, N1 + 1, x, r, rfl, hB, R8, O1, hrn, by omega, fun H9 A9 e9 m9 R9 => ?_⟩
      have hk : 0 < st1.rn.length := by
        rw [hrn, List.length_cons]
        omega
      have hst := closeTo_step (rows := B.rows) (at_ := cs.length) (rule := "end") hrn hk
      rw [hst] at hc1 hc2
      have hle : (endOne B.rows st1).rn.length + 1 = st1.rn.length := by rw [end_rn hrn, hrn] <;> rfl
      have m19 : Mod true A1 H5 A9 H9 := ((Mod.same s6).trans m8).trans m9
      refine ⟨_, ?_, A9, endOne B.rows st1, ms1 ++ [mClose cs.length x "end"], N1 + 1 + 1, e9, rfl, fun b o q => (m19 b o (o5 b o q) (s5 b o q)).1, fun b o q => (m19 b o (o5 b o q) (s5 b o q)).2, ?_, O1.end_ hB.good hrn, rfl, ?_, hc1, ?_⟩
      · omega
      · rw [← List.append_assoc]
        exact R9
      · omega
      · rw [List.append_assoc]
        exact hc2
    | nil =>
      rw [show (!(([] : List Str).reverse).isEmpty) = false from rfl]
      refine w_F ?_
      have hk : st1.rn.length ≤ 0 := by rw [hrn]; exact Nat.le_refl _
      rw [closeTo_done hk] at hc1 hc2
      rw [List.append_nil] at hc2
      dsimp only at hc1
      rw [← hc1, ← hc2] at k
      have eout : st1.outer = [] := by
        have := O1.outl
        rw [hrn] at this
        exact List.length_eq_zero_iff.mp this
      have R6' := R6
      unfold RdS at R6'
      rw [eout] at R6'
      obtain ⟨a, hs, ea, us, hu, hus⟩ := R6'.hd
      have eh : hs = [] := by
        have := R6'.hpl.at_.len
        rw [ea] at this
        exact List.length_eq_zero_iff.mp (Nat.succ.inj this)
      have hl := R6'.hpl.l
      rw [ea, eh] at hl
      walk_at "go"
      refine w_lH R6' ?_
      walk_at "go"
      refine w_ixL (SqL.of hl) rfl ?_
      walk_at "go"
      refine w_tupL (SqL.of hu) fun q H7 n7 s7 l7 => ?_
      walk_at "go"
      refine w_mkT fun t H8 n8 s8 l8 => ?_
      have R8 := RdAt.same R6' (s7.trans s8)
      walk_at "go"
      refine w_lM R8 ?_
      walk_at "go"
      refine w_mkT fun p9 H9 n9 s9 l9 => ?_
      have s69 := s7.trans (s8.trans s9)
      have R9 := RdAt.same R6' s69
      refine k H9 p9 t A1.m (s5.trans (s6.trans s69)) ?_ l9 ?_ R9.mds
      · cases e : H A1.m with
        | none => rfl
        | some o => exact absurd (foot_l all_m) (o5 _ o e)
      · exact .node (s9 _ _ l8) (s9 _ _ (s8 _ _ l7)) (PartsV.mono (tups_same s69) _ _ hus)
end
end Tg

namespace Tg
open PySem PySem.Spec PyProof.Rows L2
theorem sq_same {K : PySem.W.Frag} {H H' : Hp} {a : Addr} {xs : List V} (h : SqL K H a xs) (e : Same H H') : SqL K H' a xs :=
  h.elim (fun h => .inl (h.elim (fun h => .inl (e _ _ h)) fun ⟨o, h⟩ => .inr ⟨o, e _ _ h⟩)) fun h => .inr h
theorem fm_in (i : Int) {m : Int} (h : 0 < m) : 0 ≤ i.fmod m ∧ i.fmod m < m := ⟨Int.fmod_nonneg_of_pos i h, Int.fmod_lt_of_pos i h⟩
section
variable {K : PySem.W.Frag} {σ : L2.St} {H : Hp} {Q : VK}
/-- i % m, m positive -/
theorem w_mod {i m : Int} (h : 0 < m) (k : ∀ r : Int, 0 ≤ r → r < m → Q (.int r) H) : rI (fun _ j => j ≠ 0) (fun i j => V.int (i.fmod j)) (.int i) (.int m) H Q :=
  w_I (by omega) (k _ (fm_in i h).1 (fm_in i h).2)
theorem w_div {i m : Int} (h : 0 < m) (h2 : m < 1073741824) (k : Q (.int (i.fdiv m)) H) : rI CDivN (fun i j => V.int (i.fdiv j)) (.int i) (.int m) H Q :=
  w_I ⟨by omega, by omega⟩ k
theorem w_mul {i j : Int} (h : -(2 ^ 64) < i ∧ i < 2 ^ 64) (k : Q (.int (i * j)) H) : rI CMul (fun i j => V.int (i * j)) (.int i) (.int j) H Q :=
  w_I (.inl h) k
/-- one sign of a text of small signs -/
theorem w_sgn {z : Str} {n : Nat} {i : Int} (h1 : Nat.beq z.cps.size n = true) (h2 : z.cps.toList.all (fun c => decide (c < 128)) = true) (hn : n ≤ 1000) (h0 : 0 ≤ i) (hi : i < (n : Int)) (k : ∀ c, c < 128 → Q (.str ⟨#[c]⟩) H) : rIxS (.str z) (.int i) H Q := by
  have e : z.cps.size = n := Nat.eq_of_beq_eq_true h1
  obtain ⟨j, rfl⟩ := Int.eq_ofNat_of_zero_le h0
  have hj : j < z.cps.toList.length := by
    rw [Array.length_toList, e]
    omega
  refine w_ixS (a := z.cps.toList[j]) (sz1000 (by show z.cps.size ≤ 1000; omega)) (atI_nat (List.getElem?_eq_getElem hj)) (k _ ?_)
  exact of_decide_eq_true (List.all_eq_true.mp h2 _ (List.getElem_mem hj))
end
section
variable {P : Program} {w : World} {K : PySem.W.Frag} {mg : Str → Option Value} {base : Heap} {C ea : Addr}
def spCellAt (K : PySem.W.Frag) : Sp := fun vs H Q _ => ∃ (s : Addr) (cells : List Int) (k : Nat), vs = [.ref s, .int (k : Nat)] ∧ SqL K H s (cells.map V.int) ∧ ∀ i : Int, Q (.int i) H
theorem c_l_cell_at (D : Defs K mg C) (T : Tx K mg C ea) : C8.Cal P w K mg base 1 "_law_cell_at" (spCellAt K) [] := by
  refine D.d_l_cell_at.cal sc_l_cell_at (fun vs H Q E h => ?_) (fun f cdv A outer s H vs Q E hr h => ?_)
  · obtain ⟨s, cells, k, rfl, _⟩ := h
    rfl
  obtain ⟨s, cells, n, rfl, hs, k⟩ := h
  refine ⟨_, (pss_cons (ps_if (pt_cmpR op_lt (pv 1) (pe_callB call_lenQ (by rfl) T.b_len PySem.boot_len (pa_cons (pv 0) pa_nil)) (nomark _)) (pss_one (ps_ret (pe_ix ix_list (pv 0) (pv 1) (fun _ _ => rfl)))) pss_nil)
      (pss_one (ps_ret pe_int))), ?_⟩
  walk_at "go"
  refine w_lenL hs ?_
  rw [List.length_map]
  walk_at "go"
  refine w_2 (fun e => ?_) (fun e => ?_)
  · have e' := of_decide_eq_true e
    obtain ⟨c, hc⟩ := get_lt (xs := cells) (i := n) (by omega)
    walk_at "go"
    refine w_ixL hs (v := .int c) (atI_nat (by rw [List.getElem?_map, hc] <;> rfl)) ?_
    exact k c
  · walk_at "go"
    exact k 0
def spMixed : Sp := fun vs H Q _ => ∃ (c : Int) (k : Nat), vs = [.int c, .int (k : Nat)] ∧ k ≤ 100 ∧ ∀ r : Int, 0 ≤ r → Q (.int r) H
theorem c_l_mixed (D : Defs K mg C) (T : Tx K mg C ea) : C8.Cal P w K mg base 1 "_law_mixed" spMixed [] := by
  refine D.d_l_mixed.cal sc_l_mixed (fun vs H Q E h => ?_) (fun f cdv A outer s H vs Q E hr h => ?_)
  · obtain ⟨c, k, rfl, _⟩ := h
    rfl
  obtain ⟨c, n, rfl, hn, k⟩ := h
  refine ⟨_, (pss_cons (ps_set (i := 2) sc_l_mixed.nd rfl (Or.inl rfl) (pe_op op_fdivN (pv 0) pe_int))
      (pss_cons (ps_if (pt_cmpR op_eq (pe_op op_modN (pv 0) pe_int) pe_int (nomark _)) (pss_one (ps_ret (pe_op op_modN (pe_op op_shr (pv 2) (pe_op op_mul pe_int (pv 1))) (pe_op op_shl pe_int pe_int)))) pss_nil)
      (pss_cons (ps_set (i := 3) sc_l_mixed.nd rfl (Or.inl rfl) (pe_op op_add (pe_op op_modN (pv 2) pe_int) (pe_op op_mul pe_int (pe_op op_add (pv 1) pe_int))))
      (pss_cons (ps_set (i := 3) sc_l_mixed.nd rfl (Or.inl rfl) (pe_op op_modN (pe_op op_add (pe_op op_mul (pv 3) (pv 3)) (pe_op op_mul pe_int (pv 1))) pe_int))
      (pss_one (ps_ret (pe_op op_modN (pe_op op_add (pe_op op_add (pe_op op_mul (pv 3) (pv 3)) (pe_op op_mul pe_int (pv 1))) pe_int) pe_int))))))), ?_⟩
  walk_at "go"
  refine w_div (by decide) (by decide) ?_
  walk_at "go"
  refine w_mod (by decide) fun r0 _ _ => ?_
  walk_at "go"
  refine w_2 (fun e => ?_) (fun e => ?_)
  · walk_at "go"
    refine w_mul (by decide) ?_
    refine w_I ?_ ?_
    · show (0 : Int) ≤ 64 * ((n : Nat) : Int)
      omega
    walk_at "go"
    refine w_I ⟨by decide, by decide, by decide⟩ ?_
    refine w_mod (by decide) fun r h1 h2 => ?_
    exact k r h1
  · walk_at "go"
    refine w_mod (by decide) fun r h1 h2 => ?_
    walk_at "go"
    refine w_mul (by decide) ?_
    walk_at "go"
    refine w_mul ⟨by omega, by omega⟩ ?_
    walk_at "go"
    refine w_mul (by decide) ?_
    walk_at "go"
    refine w_mod (by decide) fun r2 h3 h4 => ?_
    walk_at "go"
    refine w_mul ⟨by omega, by omega⟩ ?_
    walk_at "go"
    refine w_mul (by decide) ?_
    walk_at "go"
    refine w_mod (by decide) fun r3 h5 h6 => ?_
    exact k r3 h5
def spLetters : Sp := fun vs H Q _ => ∃ n : Int, vs = [.int n] ∧ ∀ (H' : Hp) (l : Addr) (xs : List Int), H l = none → Same H H' → H' l = some (.lst (xs.map V.int)) → 1 ≤ xs.length → xs.length ≤ 8 → (∀ x ∈ xs, 0 ≤ x ∧ x < 26) → Q (.ref l) H'
theorem c_l_letters (D : Defs K mg C) (T : Tx K mg C ea) : C8.Cal P w K mg base 1 "_law_letters" spLetters [] := by
  refine D.d_l_letters.cal sc_l_letters (fun vs H Q E h => ?_) (fun f cdv A outer s H vs Q E hr h => ?_)
  · obtain ⟨n, rfl, _⟩ := h
    rfl
  obtain ⟨n, rfl, k⟩ := h
  refine ⟨_, (pss_cons (ps_set (i := 1) sc_l_letters.nd rfl (Or.inl rfl) (pe_lst pa_nil))
      (pss_cons (ps_set (i := 2) sc_l_letters.nd rfl (Or.inl rfl) (pe_op op_add pe_int (pe_op op_modN (pv 0) pe_int)))
      (pss_cons (ps_set (i := 0) sc_l_letters.nd rfl (Or.inl rfl) (pe_op op_fdivN (pv 0) pe_int))
      (pss_cons (ps_for PassesOwn.never rfl (pi_range1 (by rfl) T.b_range (pa_cons (pv 2) pa_nil)) (pg_name (i := 3) sc_l_letters.nd rfl (Or.inl rfl)) (pss_cons (ps_expr (pe_bm PySem.F.plainAttrs_list PySem.F.slot_list_append PySem.F.type_list_append mt_append (pv 1) (pa_cons (pe_op op_modN (pv 0) pe_int) pa_nil)))
      (pss_one (ps_set (i := 0) sc_l_letters.nd rfl (Or.inl rfl) (pe_op op_fdivN (pv 0) pe_int)))))
      (pss_one (ps_ret (pv 1))))))), ?_⟩
  walk_at "go"
  refine w_mkL fun l H1 n1 s1 l1 => ?_
  walk_at "go"
  refine w_mod (by decide) fun r h1 h2 => ?_
  walk_at "go"
  refine w_div (by decide) (by decide) ?_
  walk_at "go"
  refine w_forR1 (by omega) ?_
  refine w_forR (fun i σ H' => (∃ (m : Int) (v : Option V), σ = [some (.int m), some (.ref l), some (.int (1 + r)), v]) ∧ ∃ xs : List Int, Same H H' ∧ H' l = some (.lst (xs.map V.int)) ∧ xs.length = i ∧ ∀ x ∈ xs, 0 ≤ x ∧ x < 26)
    ⟨⟨_, _, rfl⟩, [], s1, l1, rfl, fun x hx => by cases hx⟩ ?_ ?_
  · rintro i σ H' hi ⟨⟨m, v, rfl⟩, xs, s2, l2, hx, hb⟩
    walk_at "go"
    refine w_tyL l2 ?_
    walk_at "go"
    refine w_mod (by decide) fun r2 h3 h4 => ?_
    walk_at "go"
    refine w_app l2 (szM' (by rw [List.length_map]; omega)) fun H3 b3 l3 => ?_
    walk_at "go"
    refine w_div (by decide) (by decide) ?_
    refine ⟨⟨_, _, rfl⟩, xs ++ [r2], sm_but s2 n1 b3, by rw [List.map_append]; exact l3, by rw [List.length_append, hx] <;> rfl, fun x hx => ?_⟩
    rcases List.mem_append.mp hx with hx | hx
    · exact hb x hx
    · rw [List.mem_singleton.mp hx]
      exact ⟨h3, h4⟩
  · rintro σ H' ⟨⟨m, v, rfl⟩, xs, s2, l2, hx, hb⟩
    walk_at "go"
    exact k H' l xs n1 s2 l2 (by omega) (by omega) hb
def spSigns : Sp := fun vs H Q _ => ∃ n : Int, vs = [.int n] ∧ ∀ cs : List Nat, cs.length ≤ 9 → (∀ c ∈ cs, c < 128) → Q (.str (sOf cs)) H
theorem c_l_signs (D : Defs K mg C) (T : Tx K mg C ea) : C8.Cal P w K mg base 1 "_law_signs" spSigns [] := by
  refine D.d_l_signs.cal sc_l_signs (fun vs H Q E h => ?_) (fun f cdv A outer s H vs Q E hr h => ?_)
  · obtain ⟨n, rfl, _⟩ := h
    rfl
  obtain ⟨n, rfl, k⟩ := h
  refine ⟨_, (pss_cons (ps_set (i := 1) sc_l_signs.nd rfl (Or.inl rfl) pe_str)
      (pss_cons (ps_set (i := 2) sc_l_signs.nd rfl (Or.inl rfl) pe_str)
      (pss_cons (ps_for PassesOwn.never rfl (pi_range1 (by rfl) T.b_range (pa_cons pe_int pa_nil)) (pg_name (i := 3) sc_l_signs.nd rfl (Or.inl rfl)) (pss_one (ps_if (pt_cmpR op_gt (pv 0) pe_int (nomark _)) (pss_cons (ps_set (i := 2) sc_l_signs.nd rfl (Or.inl rfl) (pe_op op_addS (pv 2) (pe_ix ix_str (pv 1) (pe_op op_modN (pe_op op_sub (pv 0) pe_int) pe_int) (fun _ _ => rfl))))
      (pss_one (ps_set (i := 0) sc_l_signs.nd rfl (Or.inl rfl) (pe_op op_fdivN (pe_op op_sub (pv 0) pe_int) pe_int)))) pss_nil)))
      (pss_one (ps_ret (pv 2)))))), ?_⟩
  walk_at "go"
  refine w_forR1 (by decide) ?_
  refine w_forR (fun i σ H' => H' = H ∧ ∃ (m : Int) (cs : List Nat) (v : Option V), σ = [some (.int m), _, some (.str (sOf cs)), v] ∧ cs.length ≤ i ∧ ∀ c ∈ cs, c < 128)
    ⟨rfl, n, [], _, rfl, Nat.le_refl _, fun c hc => by cases hc⟩ ?_ ?_
  · rintro i σ H' hi ⟨rfl, m, cs, v, rfl, hl, hb⟩
    have hi9 : i < 9 := hi
    walk_at "go"
    refine w_2 (fun e => ?_) (fun e => ?_)
    · walk_at "go"
      refine w_mod (by decide) fun r h1 h2 => ?_
      refine w_sgn (n := 95) (by decide +kernel) (by decide +kernel) (by decide) h1 h2 fun c hc => ?_
      refine w_addS (szM ?_) ?_
      · rw [sOf_len]
        show cs.length + 1 ≤ _
        omega
      rw [sOf_snoc]
      walk_at "go"
      refine w_div (by decide) (by decide) ?_
      refine ⟨rfl, _, cs ++ [c], _, rfl, by rw [List.length_append]; exact Nat.succ_le_succ hl, fun d hd => ?_⟩
      rcases List.mem_append.mp hd with hd | hd
      · exact hb d hd
      · rw [List.mem_singleton.mp hd]
        exact hc
    · walk_at "go"
      exact ⟨rfl, m, cs, _, rfl, Nat.le_succ_of_le hl, hb⟩
  · rintro σ H' ⟨rfl, m, cs, v, rfl, hl, hb⟩
    walk_at "go"
    exact k cs hl hb
end
end Tg

namespace Tg
open PySem PySem.Spec PyProof.Rows L2
theorem fold_sOf : ∀ (r : List (List Nat)) (acc : Array Nat), (r.map sOf).foldl (fun acc p => acc ++ ("" : Str).cps ++ p.cps) acc = acc ++ r.flatten.toArray
  | [], acc => by simp
  | c :: r, acc => by
    rw [List.map_cons, List.foldl_cons, fold_sOf r]
    rw [show (("" : Str).cps : Array Nat) = #[] from rfl]
    show acc ++ #[] ++ c.toArray ++ r.flatten.toArray = acc ++ (c ++ r.flatten).toArray
    simp
theorem join_sOf (css : List (List Nat)) : Txt.join "" (css.map sOf) = sOf css.flatten := by
  cases css with
  | nil => rfl
  | cons c r =>
    show (⟨(r.map sOf).foldl (fun acc p => acc ++ ("" : Str).cps ++ p.cps) (sOf c).cps⟩ : Str) = sOf (c ++ r.flatten)
    rw [fold_sOf]
    show (⟨c.toArray ++ r.flatten.toArray⟩ : Str) = ⟨(c ++ r.flatten).toArray⟩
    simp
theorem fold_rep : ∀ (n : Nat) (x acc : Array Nat), (List.replicate n x).foldl (· ++ ·) acc = acc ++ (List.replicate n x.toList).flatten.toArray
  | 0, x, acc => by simp
  | n + 1, x, acc => by
    rw [List.replicate_succ, List.foldl_cons, fold_rep n, List.replicate_succ, List.flatten_cons, Array.append_assoc]
    congr 1
    apply Array.toList_inj.mp
    simp
theorem mul_sOf (cs : List Nat) {n : Nat} (h : 1 ≤ n) : Txt.mul (sOf cs) (n : Int) = sOf (List.replicate n cs).flatten := by
  unfold Txt.mul
  rw [if_neg (by omega)]
  by_cases h1 : n = 1
  · subst h1
    rw [if_pos (by rfl)]
    simp
  · by_cases h2 : cs = []
    · subst h2
      rw [if_pos (by simp [sOf_len])]
      congr 1
      simp
    · have h3 : ((n : Int) == 1) = false := beq_eq_false_iff_ne.mpr (by omega)
      have h4 : ((sOf cs).length == 0) = false := by
        rw [sOf_len]
        exact beq_eq_false_iff_ne.mpr fun z => h2 (List.length_eq_zero_iff.mp z)
      rw [if_neg (by rw [h3, h4]; decide), fold_rep, Int.toNat_natCast]
      rw [show (sOf cs).cps.toList = cs from sOf_toList cs]
      show (⟨#[] ++ _⟩ : Str) = ⟨_⟩
      simp
theorem mul_ok (cs : List Nat) {n : Nat} (hn : n ≤ 100) (hl : cs.length ≤ 1000) : MulOk (sOf cs) (n : Int) := by
  have hm : cs.length * n ≤ 100000 := Nat.mul_le_mul hl hn
  refine ⟨?_, fun h1 _ => ?_, fun h1 _ => ?_⟩
  · rw [decide_eq_false (by omega), decide_eq_false (by omega)] <;> rfl
  · rw [sOf_len]
    have : ((cs.length : Nat) : Int) ≤ (2 ^ 63 - 1) / (n : Int) := by
      refine Int.le_ediv_of_mul_le (by omega) ?_
      have e : ((cs.length : Nat) : Int) * (n : Int) = ((cs.length * n : Nat) : Int) := by simp
      rw [e]
      omega
    omega
  · rw [sOf_len, Int.toNat_natCast]
    unfold PySem.Builtin.Str.tooLong
    exact decide_eq_false (by
      rw [sizeLine_eq]
      omega)
theorem pigeon : ∀ {xs ys : List Str}, xs.Nodup → (∀ x ∈ xs, x ∈ ys) → xs.length ≤ ys.length
  | [], ys, _, _ => Nat.zero_le _
  | x :: xs, ys, h1, h2 => by
    obtain ⟨h3, h4⟩ := List.nodup_cons.mp h1
    have hx := h2 x List.mem_cons_self
    have := pigeon (xs := xs) (ys := ys.erase x) h4 fun y hy => (List.mem_erase_of_ne (fun z => h3 (by rw [← z]; exact hy))).mpr (h2 y (List.mem_cons_of_mem _ hy))
    rw [List.length_erase_of_mem hx] at this
    have hp := List.length_pos_of_mem hx
    rw [List.length_cons]
    omega
/-- what names are -/
def NmOk (x : Str) : Prop := ∃ cs : List Nat, x = sOf cs ∧ 1 ≤ cs.length ∧ cs.length ≤ 8 ∧ ∀ c ∈ cs, c < 128
section
variable {P : Program} {w : World} {K : PySem.W.Frag} {mg : Str → Option Value} {base : Heap} {C ea : Addr}
def abc : List Nat := [97, 98, 99, 100, 101, 102, 103, 104, 105, 106, 107, 108, 109, 110, 111, 112, 113, 114, 115, 116, 117, 118, 119, 120, 121, 122]
theorem abc_eq : ("abcdefghijklmnopqrstuvwxyz" : Str) = sOf abc := by decide +kernel
def spare (ns : List Str) : List Str := (abc.map fun c => sOf (List.replicate 8 c)).filter fun x => !decide (x ∈ ns)
theorem eights_nodup : (abc.map fun c => sOf (List.replicate 8 c)).Nodup := by decide +kernel
theorem spare_ne {ns : List Str} (h : ns.length ≤ 11) : ∃ x r, spare ns = x :: r ∧ x ∉ ns ∧ NmOk x := by
  cases e : spare ns with
  | nil =>
    have := pigeon eights_nodup (ys := ns) fun x hx => by
      refine Classical.byContradiction fun z => ?_
      have : x ∈ spare ns := List.mem_filter.mpr ⟨hx, by rw [decide_eq_false z] <;> rfl⟩
      rw [e] at this
      cases this
    have e2 : (abc.map fun c => sOf (List.replicate 8 c)).length = 26 := rfl
    omega
  | cons x r =>
    have hx : x ∈ spare ns := by rw [e]; exact List.mem_cons_self
    obtain ⟨h1, h2⟩ := List.mem_filter.mp hx
    obtain ⟨c, hc, rfl⟩ := List.mem_map.mp h1
    refine ⟨_, r, rfl, by simpa using h2, _, rfl, by simp, by simp, fun d hd => ?_⟩
    rw [List.eq_of_mem_replicate hd]
    exact of_decide_eq_true (List.all_eq_true.mp (show abc.all (fun c => decide (c < 128)) = true from by decide) c hc)
theorem flat_one {α β : Type} (f : α → β) : ∀ xs : List α, (xs.map fun x => [f x]).flatten = xs.map f
  | [] => rfl
  | x :: xs => by
    rw [List.map_cons, List.flatten_cons, flat_one f xs] <;> rfl
theorem abc_get {x : Int} (h : 0 ≤ x ∧ x < 26) : atI ("abcdefghijklmnopqrstuvwxyz" : Str).cps.toList x = some (97 + x.toNat) := by
  obtain ⟨j, rfl⟩ := Int.eq_ofNat_of_zero_le h.1
  rw [abc_eq, sOf_toList]
  refine atI_nat ?_
  have hj : j < 26 := by omega
  rw [Int.toNat_natCast]
  have : ∀ j < 26, abc[j]? = some (97 + j) := by decide
  exact this j hj
theorem w_join {K : PySem.W.Frag} {H : Hp} {Q : VK} {p : Addr} {css : List (List Nat)} (h : H p = some (.lst ((css.map sOf).map V.str))) (hl : css.flatten.length ≤ 100000) (k : Q (.str (sOf css.flatten)) H) : rJoin K (.str "") [.ref p] H Q := by
  refine ⟨"", p, css.map sOf, rfl, rfl, .inl (SqL.of h), ?_, by rw [join_sOf]; exact k⟩
  have e : ((css.map sOf).map (·.length)).sum = css.flatten.length := by
    rw [List.map_map, List.length_flatten]
    congr 2
  rw [e]
  show _ + _ * 0 ≤ _
  omega
theorem eight_mul (c : Nat) : Txt.mul (⟨#[c]⟩ : Str) 8 = sOf (List.replicate 8 c) := mul_sOf [c] (n := 8) (by decide)
theorem eight_ok (c : Nat) : MulOk (⟨#[c]⟩ : Str) 8 := mul_ok [c] (n := 8) (by decide) (by show 1 ≤ 1000; decide)
def spNames : Sp := fun vs H Q _ => ∃ c : Int, vs = [.int c] ∧ ∀ (H' : Hp) (l : Addr) (ns : List Str), H l = none → Same H H' → H' l = some (.lst (ns.map V.str)) → ns.length = 12 → ns.Nodup → (∀ x ∈ ns, NmOk x) → Q (.ref l) H'
theorem w_setLx {l : Addr} {xs : List Int} {v : Int} {H : Hp} {P : Hp → Prop} (h : H l = some (.lst (xs.map V.int))) (hx : 1 ≤ xs.length) (hv : 0 ≤ v ∧ v < 26) (hb : ∀ x ∈ xs, 0 ≤ x ∧ x < 26) (k : ∀ (H1 : Hp) (ys : List Int), But l H H1 → H1 l = some (.lst (ys.map V.int)) → ys.length = xs.length → (∀ x ∈ ys, (0 : Int) ≤ x ∧ x < 26) → P H1) : rSetL (.ref l) (.int (-1)) (.int v) H P := by
  have hix : ixN (xs.map V.int).length (-1) = some (xs.length - 1) := by
    rw [List.length_map]
    unfold ixN
    rw [if_neg (by omega), if_pos (by omega)]
    congr 1
    omega
  refine w_setL h hix fun H1 b1 l1 => ?_
  refine k H1 (xs.set (xs.length - 1) v) b1 (by rw [List.map_set]; exact l1) (List.length_set ..) fun x hx => ?_
  rcases List.mem_or_eq_of_mem_set hx with hx | hx
  · exact hb x hx
  · rw [hx]
    exact hv
theorem c_l_names (D : Defs K mg C) (T : Tx K mg C ea) : C8.Cal P w K mg base 2 "_law_names" spNames [] := by
  refine D.d_l_names.cal sc_l_names (fun vs H Q E h => ?_) (fun f cdv A outer s H vs Q E hr h => ?_)
  · obtain ⟨c, rfl, _⟩ := h
    rfl
  obtain ⟨c, rfl, k⟩ := h
  have c_l_letters : C8.Cal P w K mg base 1 "_law_letters" spLetters [] := c_l_letters D T
  have c_l_mixed : C8.Cal P w K mg base 1 "_law_mixed" spMixed [] := c_l_mixed D T
  refine ⟨_, (pss_cons (ps_set (i := 1) sc_l_names.nd rfl (Or.inr rfl) pe_str)
      (pss_cons (ps_set (i := 2) sc_l_names.nd rfl (Or.inr rfl) (pe_lst pa_nil))
      (pss_cons (ps_for PassesOwn.never rfl (pi_range1 (by rfl) T.b_range (pa_cons pe_int pa_nil)) (pg_name (i := 3) sc_l_names.nd rfl (Or.inl rfl)) (pss_cons (ps_set (i := 4) sc_l_names.nd rfl (Or.inl rfl) (C8.pe_c c_l_letters hr (by decide) rfl (pa_cons (pe_op op_modN (pe_op op_shr (pe_op op_fdivN (pv 0) pe_int) (pe_op op_mul pe_int (pv 3))) (pe_op op_shl pe_int pe_int)) pa_nil)))
      (Evl.pss_cut (ps_if (pt_cmpR op_eq (pe_op op_modN (pv 0) pe_int) pe_int (nomark _)) (pss_cons (ps_set (i := 4) sc_l_names.nd rfl (Or.inl rfl) (C8.pe_c c_l_letters hr (by decide) rfl (pa_cons (C8.pe_c c_l_mixed hr (by decide) rfl (pa_cons (pv 0) (pa_cons pe_int pa_nil))) pa_nil)))
      (pss_one (ps_asg (pe_op op_modN (pe_op op_add (pe_ix ix_list (pv 4) (pe_un un_neg pe_int) (fun _ _ => rfl)) (pv 3)) pe_int) (pg_sub (pv 4) (pe_un un_neg pe_int) set_list)))) pss_nil)
      (pss_cons (ps_set (i := 5) sc_l_names.nd rfl (Or.inl rfl) (pe_bm PySem.F.plainAttrs_str PySem.F.slot_str_join PySem.F.type_str_join mt_joinQ pe_str (pa_cons (pe_lc (own := [("_law_j", 8)]) (g := gName 8) (by rfl) sc_l_names.nd (pi_list (pv 4)) (blkOk_by (own := [("_law_j", 8)]) (N := N_l_names) (sc := defScope s_l_names) (by decide +kernel)) (fun _ _ _ _ _ => pg_name (i := 8) sc_l_names.nd rfl (Or.inl rfl)) (fun _ _ _ _ _ => pts_nil) (fun _ _ _ _ _ => (pe_ix ix_str (pv 1) (pv 8) (fun _ _ => rfl)))) pa_nil)))
      (pss_cons (ps_setLc (i := 6) (own := [("_law_letter", 7)]) (g := gName 7) (by rfl) sc_l_names.nd rfl rfl (sw_true rfl rfl rfl (by decide +kernel)) (pi_str (pv 1)) (blkOk_by (own := [("_law_letter", 7)]) (N := N_l_names) (sc := defScope s_l_names) (by decide +kernel)) (fun _ _ _ _ _ => pg_name (i := 7) sc_l_names.nd rfl (Or.inl rfl)) (fun _ _ _ _ _ => pts_one (pt_cmpR (r := rIn K true) op_notIn_seq (pe_op op_mulS (pv 7) pe_int) (pv 2) (by rfl))) (fun _ _ _ _ _ => (pe_op op_mulS (pv 7) pe_int)))
      (pss_one (ps_expr (pe_bm PySem.F.plainAttrs_list PySem.F.slot_list_append PySem.F.type_list_append mt_append (pv 2) (pa_cons (pe_ix ix_list (pe_lst (pa_cons (pv 5) (pa_cons (pe_ix ix_list (pv 6) pe_int (fun _ _ => rfl)) pa_nil))) (pe_callTy call_intB (by rfl) T.b_int (by decide +kernel) (pa_cons (pe_cmpR op_in_seq (pv 5) (pe_op op_cat (pv 2) (pe_lst (pa_cons pe_str (pa_cons pe_str pa_nil)))) (by rfl)) pa_nil)) (fun _ _ => rfl)) pa_nil)))))))))
      (pss_one (ps_ret (pv 2)))))), ?_⟩
  walk_at "go"
  refine w_mkL fun l H1 n1 s1 l1 => ?_
  walk_at "go"
  refine w_forR1 (by decide) ?_
  refine w_forR (fun i σ H' => (∃ v3 v4 v5 v6, σ = [some (.int c), some (.str "abcdefghijklmnopqrstuvwxyz"), some (.ref l), v3, v4, v5, v6, none, none]) ∧ ∃ ns : List Str, Same H H' ∧ H' l = some (.lst (ns.map V.str)) ∧ ns.length = i ∧ ns.Nodup ∧ ∀ x ∈ ns, NmOk x)
    ⟨⟨_, _, _, _, rfl⟩, [], s1, l1, rfl, List.nodup_nil, fun x hx => by cases hx⟩ ?_ ?_
  · rintro i σ H' hi ⟨⟨v3, v4, v5, v6, rfl⟩, ns, s2, l2, hn, hnd, hok⟩
    have hi12 : i < 12 := hi
    walk_at "go"
    refine w_div (by decide) (by decide) ?_
    walk_at "go"
    refine w_mul (by decide) ?_
    refine w_I (show (0 : Int) ≤ _ by omega) ?_
    walk_at "go"
    refine w_I ⟨by decide, by decide, by decide⟩ ?_
    refine w_mod (by decide) fun r h1 h2 => ?_
    walk_at "go"
    refine ⟨r, rfl, fun H3 sl xs n3 s3 l3 hx1 hx8 hxb => ?_⟩
    walk_at "go"
    refine w_cut (M := fun σ H'' => ∃ (sl : Addr) (xs : List Int), σ = [some (.int c), some (.str "abcdefghijklmnopqrstuvwxyz"), some (.ref l), some (.int (0 + (i : Nat))), some (.ref sl), v5, v6, none, none] ∧ Same H' H'' ∧ H'' sl = some (.lst (xs.map V.int)) ∧ 1 ≤ xs.length ∧ xs.length ≤ 8 ∧ ∀ x ∈ xs, 0 ≤ x ∧ x < 26) ?_ ?_
    · walk_at "go"
      refine w_mod (by decide) fun r2 h3 h4 => ?_
      walk_at "go"
      refine w_2 (fun e => ?_) (fun e => ?_)
      · walk_at "go"
        refine ⟨c, 1, rfl, by decide, fun r3 h5 => ?_⟩
        walk_at "go"
        refine ⟨r3, rfl, fun H4 sl2 ys n4 s4 l4 hy1 hy8 hyb => ?_⟩
        walk_at "go"
        obtain ⟨y, hy⟩ : ∃ y, atI (ys.map V.int) (-1) = some (.int y) := by
          rcases List.eq_nil_or_concat ys with e | ⟨zs, y, e⟩
          · rw [e] at hy1
            exact absurd hy1 (by decide)
          · rw [e, List.concat_eq_append, List.map_append]
            exact ⟨y, atI_last _ _⟩
        refine w_ixL (SqL.of l4) hy ?_
        walk_at "go"
        refine w_mod (by decide) fun r6 h6 h7 => ?_
        walk_at "go"
        refine w_setLx l4 hy1 ⟨h6, h7⟩ hyb fun H5 zs b5 l5 hz1 hzb => ?_
        exact ⟨sl2, zs, rfl, sm_but (s3.trans s4) (none_back s3 n4) b5, l5, by omega, by omega, hzb⟩
      · walk_at "go"
        exact ⟨sl, xs, rfl, s3, l3, hx1, hx8, hxb⟩
    rintro σ H4 ⟨sl, xs, rfl, s4, l4, hx1, hx8, hxb⟩
    have l2' := s4 _ _ l2
    walk_at "go"
    refine w_lcL (SqL.of l4) (fun Dl j H'' => H4 Dl = none ∧ Same H4 H'' ∧ H'' Dl = some (.lst ((((xs.take j).map fun x => [97 + x.toNat]).map sOf).map V.str)))
      (fun Dl hD => ⟨hD, sm_new hD, upd_same⟩) (fun Dl j H'' _ h => SqL.of (h.2.1 _ _ l4)) ?_ ?_
    · rintro Dl j v H'' hj ⟨hD, s5, hl⟩
      obtain ⟨x, hx, rfl⟩ := map_get hj
      have hjl := (List.getElem?_eq_some_iff.mp hx).1
      walk_at "go"
      refine ⟨rfl, ?_⟩
      walk_at "go"
      refine w_ixS (a := 97 + x.toNat) (by decide) (abc_get (hxb x (List.mem_of_getElem? hx))) ?_
      refine ⟨_, hl, szM' (by rw [List.length_map, List.length_map, List.length_map, List.length_take]; omega), hD, sm_but s5 hD but_upd, ?_⟩
      rw [take_snoc hx, List.map_append, List.map_append, List.map_append]
      exact upd_same
    · rintro Dl H5 ⟨hD, s5, hl⟩
      rw [List.length_map, List.take_length] at hl
      walk_at "go"
      refine w_join hl ?_ ?_
      · rw [flat_one, List.length_map]
        omega
      rw [flat_one]
      have hnm : NmOk (sOf (xs.map fun x => 97 + x.toNat)) := ⟨_, rfl, by rw [List.length_map]; exact hx1, by rw [List.length_map]; exact hx8, fun d hd => by
        obtain ⟨x, hx, rfl⟩ := List.mem_map.mp hd
        have := hxb x hx
        omega⟩
      generalize sOf (xs.map fun x => 97 + x.toNat) = nm at hnm ⊢
      have l5 := s5 _ _ l2'
      walk_at "go"
      refine ⟨_, rfl, ?_⟩
      refine w_lcS (fun Dl j H'' => H5 Dl = none ∧ Same H5 H'' ∧ H'' Dl = some (.lst ((((abc.take j).map fun c => sOf (List.replicate 8 c)).filter fun x => !decide (x ∈ ns)).map V.str)))
        (fun Dl hD => ⟨hD, sm_new hD, upd_same⟩) ?_ ?_
      · rintro Dl j d H'' hj ⟨hD, s6, hl6⟩
        rw [abc_eq, sOf_toList] at hj
        have hjl : j < 26 := (List.getElem?_eq_some_iff.mp hj).1
        have hf : (((abc.take (j + 1)).map fun c => sOf (List.replicate 8 c)).filter fun x => !decide (x ∈ ns)) = (((abc.take j).map fun c => sOf (List.replicate 8 c)).filter fun x => !decide (x ∈ ns)) ++ (if (!decide (sOf (List.replicate 8 d) ∈ ns)) = true then [sOf (List.replicate 8 d)] else []) := by
          rw [take_snoc hj, List.map_append, List.filter_append, List.map_cons, List.filter_cons]
          rfl
        have hlt : (((abc.take j).map fun c => sOf (List.replicate 8 c)).filter fun x => !decide (x ∈ ns)).length ≤ 1000 := by
          have := List.length_filter_le (fun x => !decide (x ∈ ns)) ((abc.take j).map fun c => sOf (List.replicate 8 c))
          rw [List.length_map, List.length_take] at this
          omega
        walk_at "go"
        refine ⟨rfl, ?_⟩
        walk_at "go"
        refine w_mulS (eight_ok d) ?_
        rw [eight_mul]
        walk_at "go"
        refine w_notInSs (.inl (SqL.of (s6 _ _ l5))) ?_
        walk_at "go"
        refine w_2 (fun e => ?_) (fun e => ?_)
        · walk_at "go"
          refine w_mulS (eight_ok d) ?_
          rw [eight_mul]
          refine ⟨_, hl6, szM' (by rw [List.length_map]; omega), hD, sm_but s6 hD but_upd, ?_⟩
          rw [hf, if_pos e, List.map_append]
          exact upd_same
        · refine ⟨hD, s6, ?_⟩
          rw [hf, if_neg (by rw [e]; decide), List.append_nil]
          exact hl6
      · rintro Dl2 H6 ⟨hD2, s6, hl6⟩
        rw [show ("abcdefghijklmnopqrstuvwxyz" : Str).length = 26 from by decide +kernel, show abc.take 26 = abc from rfl] at hl6
        change H6 Dl2 = some (.lst ((spare ns).map V.str)) at hl6
        obtain ⟨sp, sr, esp, hspn, hspo⟩ := spare_ne (ns := ns) (by omega)
        rw [esp] at hl6
        have l6 := s6 _ _ l5
        walk_at "go"
        refine w_tyL l6 ?_
        walk_at "go"
        refine w_ixL (SqL.of hl6) (v := .str sp) (atI_nat (j := 0) rfl) ?_
        walk_at "go"
        refine w_mkL fun q7 H7 n7 s7 l7 => ?_
        walk_at "go"
        refine w_mkL fun q8 H8 n8 s8 l8 => ?_
        refine w_cat (xs := ns.map V.str) (ys := ([("bars" : Str), "shuts"]).map V.str) (s8 _ _ (s7 _ _ l6)) l8 (by rw [List.length_map, List.length_map]; exact szM (by show ns.length + 2 ≤ _; omega)) fun q9 H9 n9 s9 l9 => ?_
        rw [← List.map_append] at l9
        refine w_inSs (.inl (SqL.of l9)) ?_
        walk_at "go"
        have s69 := s7.trans (s8.trans s9)
        have fin : ∀ v : Str, v ∉ ns → NmOk v → rAppend (.ref l) [.str v] H9 (fun _ H1 => (∃ v3 v4 v5 v6, [some (V.int c), some (.str "abcdefghijklmnopqrstuvwxyz"), some (.ref l), some (.int (0 + (i : Nat))), some (.ref sl), some (.str nm), some (.ref Dl2), none, none] = [some (.int c), some (.str "abcdefghijklmnopqrstuvwxyz"), some (.ref l), v3, v4, v5, v6, none, none]) ∧ ∃ ns : List Str, Same H H1 ∧ H1 l = some (.lst (ns.map V.str)) ∧ ns.length = i + 1 ∧ ns.Nodup ∧ ∀ x ∈ ns, NmOk x) := fun v hv hvo => by
          have s09 : Same H' H9 := s4.trans (s5.trans (s6.trans s69))
          refine w_app (s09 _ _ l2) (szM' (by rw [List.length_map]; omega)) fun H10 b10 l10 => ?_
          refine ⟨⟨_, _, _, _, rfl⟩, ns ++ [v], sm_but (s2.trans s09) n1 b10, by rw [List.map_append]; exact l10, by rw [List.length_append, hn] <;> rfl, ?_, fun x hx => ?_⟩
          · refine List.nodup_append.mpr ⟨hnd, (by simp), fun a ha b hb => ?_⟩
            rw [List.mem_singleton.mp hb]
            exact fun z => hv (by rw [← z]; exact ha)
          · rcases List.mem_append.mp hx with hx | hx
            · exact hok x hx
            · rw [List.mem_singleton.mp hx]
              exact hvo
        by_cases hin : nm ∈ ns ++ [("bars" : Str), "shuts"]
        · rw [if_pos (decide_eq_true hin)]
          refine w_ixL (SqL.of (s9 _ _ (s8 _ _ l7))) (v := .str sp) rfl ?_
          walk_at "go"
          exact fin sp hspn hspo
        · rw [if_neg (by rw [decide_eq_false hin]; decide)]
          refine w_ixL (SqL.of (s9 _ _ (s8 _ _ l7))) (v := .str nm) rfl ?_
          walk_at "go"
          exact fin nm (fun z => hin (List.mem_append_left _ z)) hnm
  · rintro σ H' ⟨⟨v3, v4, v5, v6, rfl⟩, ns, s2, l2, hn, hnd, hok⟩
    walk_at "go"
    exact k H' l ns n1 s2 l2 hn hnd hok
end
end Tg

namespace Tg
open PySem PySem.Spec PyProof.Rows L2
section
variable {K : PySem.W.Frag} {σ : L2.St} {H : Hp} {Q : VK}
theorem dp_ints (ys : List Int) : DpAll K H (ys.map V.int) (ys.map PyData.int) := by
  induction ys with
  | nil => exact .nil
  | cons y ys ih => exact .cons (.int y) ih
theorem lay_ints (ys : List Int) : PyData.canLayAll0 (ys.map PyData.int) = true := by
  induction ys with
  | nil => rfl
  | cons y ys ih =>
    show (PyData.canLay0 (.int y) && PyData.canLayAll0 (ys.map PyData.int)) = true
    rw [ih, Bool.and_true]
    simp only [PyData.canLay0]
theorem dep_ints (ys : List Int) : PyData.depthAll (ys.map PyData.int) = 0 := by
  induction ys with
  | nil => rfl
  | cons y ys ih =>
    show max (PyData.depth (.int y)) (PyData.depthAll (ys.map PyData.int)) = 0
    rw [ih]
    have e : PyData.depth (.int y) = 0 := by simp only [PyData.depth]
    rw [e] <;> rfl
theorem w_eqLi0 {p q : Addr} {ys : List Int} (h : SqL K H p (ys.map V.int)) (h0 : H q = some (.lst [])) (k : Q (.bl ys.isEmpty) H) : rEqD K (.ref p) (.ref q) H Q :=
  w_eqD (.lst h (dp_ints ys)) (.lst (SqL.of h0) .nil) (shaped_lst (lay_ints ys) (by rw [dep_ints]; omega)) (by decide) (by rw [eqv_lnil, List.isEmpty_map]; exact k)
theorem w_inIsl {a : Int} {p : Addr} {ys : List Int} (h : SqL K H p (ys.map V.int)) (k : Q (.bl (decide (a ∈ ys))) H) : rIn K false (.int a) (.ref p) H Q :=
  ⟨p, _, rfl, Or.inl h, rfl, flat_ints ys, by rw [inV_ints]; exact k⟩
end
theorem at_int {ys : List V} {r : Int} {n : Nat} (h0 : 0 ≤ r) (h1 : r < (n : Int)) (hl : n = ys.length) : ∃ j : Nat, r = (j : Int) ∧ j < ys.length ∧ ∃ v, ys[j]? = some v ∧ atI ys r = some v := by
  obtain ⟨j, rfl⟩ := Int.eq_ofNat_of_zero_le h0
  obtain ⟨v, hv⟩ := get_lt (xs := ys) (i := j) (by omega)
  exact ⟨j, rfl, by omega, v, hv, atI_nat hv⟩
theorem ix_nat {n j : Nat} (h : j < n) : ixN n (j : Int) = some j := by
  unfold ixN
  rw [if_pos (by omega), if_pos (by omega)]
  simp
/-- what the sorts and the hosts are, up to a place -/
structure SrOk (ns sr ho : List Str) (n k : Nat) : Prop where
  ls : sr.length = n
  lh : ho.length = n
  fr : ∀ i, i < k → sr[i]? = some ("frame" : Str) → ∃ j, i < j ∧ j < n ∧ ho[i]? = ns[j]?
  nf : ∀ i, i < k → sr[i]? ≠ some ("frame" : Str) → ho[i]? = some ("" : Str)
  ap : ∀ i, k ≤ i → i < n → ho[i]? = some ("" : Str)
section
variable {P : Program} {w : World} {K : PySem.W.Frag} {mg : Str → Option Value} {base : Heap} {C ea : Addr}
def spSorts (K : PySem.W.Frag) : Sp := fun vs H Q _ => ∃ (s nl : Addr) (cells : List Int) (ns : List Str) (n : Nat), vs = [.ref s, .ref nl, .int (n : Nat)] ∧ SqL K H s (cells.map V.int) ∧ H nl = some (.lst (ns.map V.str)) ∧ ns.length = 12 ∧ n ≤ 12 ∧
  ∀ (H' : Hp) (p a b t : Addr) (sr ho : List Str) (tk : List Int), Same H H' → H' p = some (.tup [.ref a, .ref b, .ref t]) → H' a = some (.lst (sr.map V.str)) → H' b = some (.lst (ho.map V.str)) → H' t = some (.lst (tk.map V.int)) → SrOk ns sr ho n n → Q (.ref p) H'
theorem c_l_sorts (D : Defs K mg C) (T : Tx K mg C ea) : C8.Cal P w K mg base 2 "_law_sorts" (spSorts K) [] := by
  refine D.d_l_sorts.cal sc_l_sorts (fun vs H Q E h => ?_) (fun f cdv A outer s H vs Q E hr h => ?_)
  · obtain ⟨s, nl, cells, ns, n, rfl, _⟩ := h
    rfl
  obtain ⟨sc, nl, cells, ns, n, rfl, hs, hnl, hns, hn, k⟩ := h
  have c_l_cell_at : C8.Cal P w K mg base 1 "_law_cell_at" (spCellAt K) [] := c_l_cell_at D T
  have c_l_mixed : C8.Cal P w K mg base 1 "_law_mixed" spMixed [] := c_l_mixed D T
  refine ⟨_, (pss_cons (ps_set (i := 3) sc_l_sorts.nd rfl (Or.inr rfl) (pe_lst (pa_cons pe_str (pa_cons pe_str (pa_cons pe_str (pa_cons pe_str (pa_cons pe_str (pa_cons pe_str (pa_cons pe_str (pa_cons pe_str (pa_cons pe_str pa_nil)))))))))))
      (pss_cons (ps_set (i := 4) sc_l_sorts.nd rfl (Or.inr rfl) (pe_lc (own := [("_law_k", 7)]) (g := gName 7) (by rfl) sc_l_sorts.nd (pi_range1 (by rfl) T.b_range (pa_cons (pv 2) pa_nil)) (blkOk_by (own := [("_law_k", 7)]) (N := N_l_sorts) (sc := defScope s_l_sorts) (by decide +kernel)) (fun _ _ _ _ _ => pg_name (i := 7) sc_l_sorts.nd rfl (Or.inl rfl)) (fun _ _ _ _ _ => pts_nil) (fun _ _ _ _ _ => (pe_ix (r := rIxL K) ix_list (pv 3) (pe_op op_modN (C8.pe_c c_l_mixed hr (by decide) rfl (pa_cons (C8.pe_c c_l_cell_at hr (by decide) rfl (pa_cons (pv 0) (pa_cons (pe_op op_add pe_int (pv 7)) pa_nil))) (pa_cons pe_int pa_nil))) pe_int) (fun _ _ => rfl)))))
      (pss_cons (ps_setLc (i := 5) (own := [("_law_k", 7)]) (g := gName 7) (by rfl) sc_l_sorts.nd rfl rfl (sw_true rfl rfl rfl (by decide +kernel)) (pi_range1 (by rfl) T.b_range (pa_cons (pv 2) pa_nil)) (blkOk_by (own := [("_law_k", 7)]) (N := N_l_sorts) (sc := defScope s_l_sorts) (by decide +kernel)) (fun _ _ _ _ _ => pg_name (i := 7) sc_l_sorts.nd rfl (Or.inl rfl)) (fun _ _ _ _ _ => pts_nil) (fun _ _ _ _ _ => pe_str))
      (pss_cons (ps_set (i := 6) sc_l_sorts.nd rfl (Or.inr rfl) (pe_lst pa_nil))
      (pss_cons (ps_for PassesOwn.never rfl (pi_range1 (by rfl) T.b_range (pa_cons (pv 2) pa_nil)) (pg_name (i := 7) sc_l_sorts.nd rfl (Or.inl rfl)) (pss_cons (ps_setLc (i := 8) (own := [("_law_j", 9)]) (g := gName 9) (by rfl) sc_l_sorts.nd rfl rfl (sw_true rfl rfl rfl (by decide +kernel)) (pi_range2 (by rfl) T.b_range (pa_cons (pe_op op_add (pv 7) pe_int) (pa_cons (pv 2) pa_nil))) (blkOk_by (own := [("_law_j", 9)]) (N := N_l_sorts) (sc := defScope s_l_sorts) (by decide +kernel)) (fun _ _ _ _ _ => pg_name (i := 9) sc_l_sorts.nd rfl (Or.inl rfl)) (fun _ _ _ _ _ => pts_one (PW.pt (pw_and (pt_cmpR (r := rIn K false) op_in_seq (pe_ix (r := rIxL K) ix_list (pv 4) (pv 9) (fun _ _ => rfl)) (pe_tup (pa_cons pe_str (pa_cons pe_str pa_nil))) (by rfl)) (pw_and1 (pt_cmpR (r := rIn K true) op_notIn_seq (pv 9) (pv 6) (by rfl)))))) (fun _ _ _ _ _ => (pv 9)))
      (Evl.pss_cut (ps_if (PW.pt (pw_and (pt_cmpR op_eq (pe_ix ix_list (pv 4) (pv 7) (fun _ _ => rfl)) pe_str (nomark _)) (pw_and1 (pt_cmpR (op_eqD (hu64 hr)) (pv 8) (pe_lst pa_nil) (nomark _))))) (pss_one (ps_asg (pe_ix ix_list (pe_lst (pa_cons pe_str (pa_cons pe_str pa_nil))) (pe_callTy call_intB (by rfl) T.b_int (by decide +kernel) (pa_cons (pe_cmpR op_in_seq (pv 7) (pv 6) (by rfl)) pa_nil)) (fun _ _ => rfl)) (pg_sub (pv 4) (pv 7) set_list))) pss_nil)
      (pss_one (ps_if (pt_cmpR op_eq (pe_ix ix_list (pv 4) (pv 7) (fun _ _ => rfl)) pe_str (nomark _)) (pss_cons (ps_set (i := 9) sc_l_sorts.nd rfl (Or.inl rfl) (pe_ix ix_list (pv 8) (pe_op op_modN (C8.pe_c c_l_mixed hr (by decide) rfl (pa_cons (C8.pe_c c_l_cell_at hr (by decide) rfl (pa_cons (pv 0) (pa_cons (pe_op op_add pe_int (pv 7)) pa_nil))) (pa_cons pe_int pa_nil))) (pe_callB call_lenQ (by rfl) T.b_len PySem.boot_len (pa_cons (pv 8) pa_nil))) (fun _ _ => rfl)))
      (pss_cons (ps_expr (pe_bm PySem.F.plainAttrs_list PySem.F.slot_list_append PySem.F.type_list_append mt_append (pv 6) (pa_cons (pv 9) pa_nil)))
      (pss_one (ps_asg (pe_ix ix_list (pv 1) (pv 9) (fun _ _ => rfl)) (pg_sub (pv 5) (pv 7) set_list))))) pss_nil)))))
      (pss_one (ps_ret (pe_tup (pa_cons (pv 4) (pa_cons (pv 5) (pa_cons (pv 6) pa_nil))))))))))), ?_⟩
  walk_at "go"
  refine w_mkL fun so H1 n1 s1 l1 => ?_
  have l1' : H1 so = some (.lst (([("plain" : Str), "anew", "frame", "plain", "room", "frame", "bare", "anew", "plain"]).map V.str)) := l1
  walk_at "go"
  refine w_lcR1 (by omega) ?_
  rw [Int.toNat_natCast]
  refine w_lcR (fun Dl j H' => H1 Dl = none ∧ Same H1 H' ∧ ∃ sr : List Str, sr.length = j ∧ H' Dl = some (.lst (sr.map V.str))) (fun Dl hD => ⟨hD, sm_new hD, [], rfl, upd_same⟩) ?_ ?_
  · rintro Dl j H' hj ⟨hD, s2, sr, hsr, hl⟩
    walk_at "go"
    refine ⟨rfl, ?_⟩
    walk_at "go"
    have e2 : (2 : Int) + (0 + ((j : Nat) : Int)) = ((2 + j : Nat) : Int) := by omega
    rw [e2]
    refine ⟨sc, cells, 2 + j, rfl, sq_same (sq_same hs s1) s2, fun i => ?_⟩
    walk_at "go"
    refine ⟨i, 1, rfl, by decide, fun r hr0 => ?_⟩
    walk_at "go"
    refine w_mod (by decide) fun r2 h1 h2 => ?_
    obtain ⟨jj, _, _, v, hv, hat⟩ := at_int (ys := ([("plain" : Str), "anew", "frame", "plain", "room", "frame", "bare", "anew", "plain"]).map V.str) (n := 9) h1 h2 rfl
    obtain ⟨z, hz, rfl⟩ := map_get hv
    refine w_ixL (SqL.of (s2 _ _ l1')) hat ?_
    refine ⟨_, hl, szM' (by rw [List.length_map]; omega), hD, sm_but s2 hD but_upd, sr ++ [z], by rw [List.length_append, hsr] <;> rfl, ?_⟩
    rw [List.map_append]
    exact upd_same
  · rintro a H2 ⟨n2, s2, sr0, hsr0, la⟩
    have s02 := s1.trans s2
    walk_at "go"
    refine w_lcR1 (by omega) ?_
    rw [Int.toNat_natCast]
    refine w_lcR (fun Dl j H' => H2 Dl = none ∧ Same H2 H' ∧ H' Dl = some (.lst ((List.replicate j ("" : Str)).map V.str))) (fun Dl hD => ⟨hD, sm_new hD, upd_same⟩) ?_ ?_
    · rintro Dl j H' hj ⟨hD, s3, hl⟩
      walk_at "go"
      refine ⟨rfl, ?_⟩
      walk_at "go"
      refine ⟨_, hl, szM' (by rw [List.length_map, List.length_replicate]; omega), hD, sm_but s3 hD but_upd, ?_⟩
      rw [List.replicate_succ', List.map_append]
      exact upd_same
    · rintro b H3 ⟨n3, s3, lb⟩
      have s03 := s02.trans s3
      walk_at "go"
      refine w_mkL fun t H4 n4 s4 lt => ?_
      walk_at "go"
      have s04 := s03.trans s4
      have za : H a = none := none_back s1 n2
      have zb : H b = none := none_back s02 n3
      have zt : H t = none := none_back s03 n4
      have nab : a ≠ b := fun z => by
        rw [z] at la
        rw [la] at n3
        cases n3
      have nat : a ≠ t := fun z => by
        rw [z] at la
        rw [s3 _ _ la] at n4
        cases n4
      have nbt : b ≠ t := fun z => by
        rw [z] at lb
        rw [lb] at n4
        cases n4
      refine w_forR1 (by omega) ?_
      rw [Int.toNat_natCast]
      refine w_forR (fun i σ H' => (∃ v7 v8 v9, σ = [some (.ref sc), some (.ref nl), some (.int (n : Nat)), some (.ref so), some (.ref a), some (.ref b), some (.ref t), v7, v8, v9]) ∧ ∃ (sr ho : List Str) (tk : List Int), Same H H' ∧ H' a = some (.lst (sr.map V.str)) ∧ H' b = some (.lst (ho.map V.str)) ∧ H' t = some (.lst (tk.map V.int)) ∧ tk.length ≤ i ∧ SrOk ns sr ho n i)
        ⟨⟨_, _, _, rfl⟩, sr0, List.replicate n "", [], s04, s4 _ _ (s3 _ _ la), s4 _ _ lb, lt, Nat.le_refl _, hsr0, List.length_replicate, fun i hi => absurd hi (Nat.not_lt_zero i), fun i hi => absurd hi (Nat.not_lt_zero i), fun i _ hi => by rw [List.getElem?_replicate, if_pos hi]⟩ ?_ ?_
      · rintro i σ H' hi ⟨⟨v7, v8, v9, rfl⟩, sr, ho, tk, s5, fa, fb, ft, htl, ok⟩
        have e0 : (0 : Int) + ((i : Nat) : Int) = ((i : Nat) : Int) := by omega
        rw [e0]
        walk_at "go"
        refine w_lcR2 (by omega) ?_
        have en : (((n : Nat) : Int) - (((i : Nat) : Int) + 1)).toNat = n - (i + 1) := by omega
        rw [en]
        refine w_lcR (fun Dl j H'' => H' Dl = none ∧ Same H' H'' ∧ ∃ ab : List Int, H'' Dl = some (.lst (ab.map V.int)) ∧ ab.length ≤ j ∧ ∀ x ∈ ab, ∃ m : Nat, x = (m : Int) ∧ i < m ∧ m < n) (fun Dl hD => ⟨hD, sm_new hD, [], upd_same, Nat.le_refl _, fun x hx => by cases hx⟩) ?_ ?_
        · rintro Dl j H'' hj ⟨hD, s6, ab, hl, hab, habb⟩
          have ej : ((i : Nat) : Int) + 1 + ((j : Nat) : Int) = ((i + 1 + j : Nat) : Int) := by omega
          rw [ej]
          obtain ⟨z, hz⟩ := get_lt (xs := sr) (i := i + 1 + j) (by have := ok.ls; omega)
          walk_at "go"
          refine ⟨rfl, ?_⟩
          walk_at "go"
          refine w_ixL (SqL.of (s6 _ _ fa)) (atI_nat (by rw [List.getElem?_map, hz] <;> rfl)) ?_
          walk_at "go"
          refine w_mkT fun q7 H7 n7 s7 l7 => ?_
          refine w_inSs (ys := ["plain", "frame"]) (.inr (SqT.of l7)) ?_
          walk_at "go"
          refine w_2 (fun e => ?_) (fun e => ?_)
          · walk_at "go"
            refine w_notInIs (SqL.of (s7 _ _ (s6 _ _ ft))) ?_
            walk_at "go"
            refine w_2 (fun e2 => ?_) (fun e2 => ?_)
            · walk_at "go"
              refine ⟨_, s7 _ _ hl, szM' (by rw [List.length_map]; omega), hD, sm_but (s6.trans s7) hD but_upd, ab ++ [((i + 1 + j : Nat) : Int)], by rw [List.map_append]; exact upd_same, by rw [List.length_append]; exact Nat.succ_le_succ hab, fun x hx => ?_⟩
              rcases List.mem_append.mp hx with hx | hx
              · exact habb x hx
              · exact ⟨_, List.mem_singleton.mp hx, by omega, by omega⟩
            · exact ⟨hD, s6.trans s7, ab, s7 _ _ hl, Nat.le_succ_of_le hab, habb⟩
          · exact ⟨hD, s6.trans s7, ab, s7 _ _ hl, Nat.le_succ_of_le hab, habb⟩
        · rintro ad H6 ⟨nad, s6, ab, lab, hab, habb⟩
          have s06 := s5.trans s6
          have fa6 := s6 _ _ fa
          have fb6 := s6 _ _ fb
          have ft6 := s6 _ _ ft
          have nada : ad ≠ a := fun z => by
            rw [z, fa] at nad
            cases nad
          obtain ⟨z, hz⟩ := get_lt (xs := sr) (i := i) (by have := ok.ls; omega)
          have hil : i < sr.length := (List.getElem?_eq_some_iff.mp hz).1
          walk_at "go"
          refine w_cut (M := fun σ H'' => ∃ (sr' : List Str), (∃ v9, σ = [some (.ref sc), some (.ref nl), some (.int (n : Nat)), some (.ref so), some (.ref a), some (.ref b), some (.ref t), some (.int (i : Nat)), some (.ref ad), v9]) ∧ Same H H'' ∧ H'' a = some (.lst (sr'.map V.str)) ∧ H'' b = some (.lst (ho.map V.str)) ∧ H'' t = some (.lst (tk.map V.int)) ∧ H'' ad = some (.lst (ab.map V.int)) ∧ SrOk ns sr' ho n i ∧ (sr'[i]? = some ("frame" : Str) → ab ≠ [])) ?_ ?_
          · walk_at "go"
            refine w_ixL (SqL.of fa6) (atI_nat (by rw [List.getElem?_map, hz] <;> rfl)) ?_
            walk_at "go"
            refine w_2 (fun e => ?_) (fun e => ?_)
            · walk_at "go"
              refine w_mkL fun q7 H7 n7 s7 l7 => ?_
              refine w_eqLi0 (SqL.of (s7 _ _ lab)) l7 ?_
              walk_at "go"
              refine w_2 (fun e2 => ?_) (fun e2 => ?_)
              · walk_at "go"
                refine w_mkL fun q8 H8 n8 s8 l8 => ?_
                walk_at "go"
                have s78 := s7.trans s8
                refine w_inIsl (SqL.of (s78 _ _ ft6)) ?_
                walk_at "go"
                obtain ⟨nw, hnw, hnwf⟩ : ∃ nw : Str, atI [V.str "room", V.str "plain"] (if decide (((i : Nat) : Int) ∈ tk) = true then 1 else 0) = some (.str nw) ∧ nw ≠ "frame" := by
                  split
                  · exact ⟨"plain", rfl, by decide⟩
                  · exact ⟨"room", rfl, by decide⟩
                refine w_ixL (SqL.of l8) hnw ?_
                walk_at "go"
                refine w_setL (s78 _ _ fa6) (ix_nat (by rw [List.length_map]; exact hil)) fun H9 b9 l9 => ?_
                rw [← List.map_set] at l9
                refine ⟨sr.set i nw, ⟨_, rfl⟩, sm_but (s06.trans s78) za b9, l9, b9 _ _ nab.symm (s78 _ _ fb6), b9 _ _ nat.symm (s78 _ _ ft6), b9 _ _ nada (s78 _ _ lab), ⟨by rw [List.length_set]; exact ok.ls, ok.lh, fun m hm hf => ?_, fun m hm hf => ?_, ok.ap⟩, fun hf => ?_⟩
                · rw [List.getElem?_set_ne (by omega)] at hf
                  exact ok.fr m hm hf
                · rw [List.getElem?_set_ne (by omega)] at hf
                  exact ok.nf m hm hf
                · rw [List.getElem?_set_self hil] at hf
                  exact absurd (Option.some.inj hf) hnwf
              · walk_at "go"
                refine ⟨sr, ⟨_, rfl⟩, s06.trans s7, s7 _ _ fa6, s7 _ _ fb6, s7 _ _ ft6, s7 _ _ lab, ok, fun _ z => ?_⟩
                rw [z] at e2
                cases e2
            · walk_at "go"
              refine ⟨sr, ⟨_, rfl⟩, s06, fa6, fb6, ft6, lab, ok, fun hf => ?_⟩
              rw [hz] at hf
              exact absurd (Option.some.inj hf) (of_decide_eq_false e)
          · rintro σ H7 ⟨sr', ⟨v9', rfl⟩, s7, fa7, fb7, ft7, lab7, ok7, hne⟩
            obtain ⟨z7, hz7⟩ := get_lt (xs := sr') (i := i) (by have := ok7.ls; omega)
            have hil7 : i < ho.length := by have := ok7.lh; omega
            walk_at "go"
            refine w_ixL (SqL.of fa7) (atI_nat (by rw [List.getElem?_map, hz7] <;> rfl)) ?_
            walk_at "go"
            refine w_2 (fun e => ?_) (fun e => ?_)
            · have ez : sr'[i]? = some ("frame" : Str) := by rw [hz7, of_decide_eq_true e]
              have hpos : 0 < ab.length := List.length_pos_iff.mpr (hne ez)
              walk_at "go"
              have e2 : (2 : Int) + ((i : Nat) : Int) = ((2 + i : Nat) : Int) := by omega
              rw [e2]
              refine ⟨sc, cells, 2 + i, rfl, sq_same hs s7, fun c => ?_⟩
              walk_at "go"
              refine ⟨c, 2, rfl, by decide, fun r hr0 => ?_⟩
              walk_at "go"
              refine w_lenL (SqL.of lab7) ?_
              rw [List.length_map]
              refine w_mod (by omega) fun r2 h1 h2 => ?_
              obtain ⟨jj, _, _, v, hv, hat⟩ := at_int (ys := ab.map V.int) (n := ab.length) h1 h2 (by rw [List.length_map])
              obtain ⟨x, hx, rfl⟩ := map_get hv
              obtain ⟨m, rfl, hm1, hm2⟩ := habb x (List.mem_of_getElem? hx)
              refine w_ixL (SqL.of lab7) hat ?_
              walk_at "go"
              refine w_tyL ft7 ?_
              walk_at "go"
              refine w_app ft7 (szM' (by rw [List.length_map]; omega)) fun H8 b8 l8 => ?_
              obtain ⟨nm, hnm⟩ := get_lt (xs := ns) (i := m) (by omega)
              have s8 : Same H H8 := sm_but s7 zt b8
              walk_at "go"
              refine w_ixL (SqL.of (s8 _ _ hnl)) (atI_nat (by rw [List.getElem?_map, hnm] <;> rfl)) ?_
              walk_at "go"
              refine w_setL (b8 _ _ nbt fb7) (ix_nat (by rw [List.length_map]; exact hil7)) fun H9 b9 l9 => ?_
              rw [← List.map_set] at l9
              refine ⟨⟨_, _, _, rfl⟩, sr', ho.set i nm, tk ++ [(m : Int)], sm_but s8 zb b9, b9 _ _ nab (b8 _ _ nat fa7), l9, b9 _ _ nbt.symm (by rw [List.map_append]; exact l8), by rw [List.length_append]; exact Nat.succ_le_succ htl, ⟨ok7.ls, by rw [List.length_set]; exact ok7.lh, fun m' hm' hf => ?_, fun m' hm' hf => ?_, fun m' hm' hm'' => ?_⟩⟩
              · by_cases em : m' = i
                · subst em
                  exact ⟨m, hm1, hm2, by rw [List.getElem?_set_self hil7, hnm]⟩
                · rw [List.getElem?_set_ne (fun z => em z.symm)]
                  exact ok7.fr m' (by omega) hf
              · by_cases em : m' = i
                · subst em
                  exact absurd ez hf
                · rw [List.getElem?_set_ne (fun z => em z.symm)]
                  exact ok7.nf m' (by omega) hf
              · rw [List.getElem?_set_ne (by omega)]
                exact ok7.ap m' (by omega) hm''
            · walk_at "go"
              have ez : ¬ sr'[i]? = some ("frame" : Str) := fun h => by
                rw [hz7] at h
                exact of_decide_eq_false e (Option.some.inj h)
              refine ⟨⟨_, _, _, rfl⟩, sr', ho, tk, s7, fa7, fb7, ft7, Nat.le_succ_of_le htl, ⟨ok7.ls, ok7.lh, fun m' hm' hf => ?_, fun m' hm' hf => ?_, fun m' hm' hm'' => ok7.ap m' (by omega) hm''⟩⟩
              · by_cases em : m' = i
                · subst em
                  exact absurd hf ez
                · exact ok7.fr m' (by omega) hf
              · by_cases em : m' = i
                · subst em
                  exact ok7.ap m' (Nat.le_refl _) hi
                · exact ok7.nf m' (by omega) hf
      · rintro σ H' ⟨⟨v7, v8, v9, rfl⟩, sr, ho, tk, s5, fa, fb, ft, htl, ok⟩
        walk_at "go"
        refine w_mkT fun p H5 n5 s6 l6 => ?_
        exact k H5 p a b t sr ho tk (s5.trans s6) l6 (s6 _ _ fa) (s6 _ _ fb) (s6 _ _ ft) ok
end
end Tg

namespace Tg
open PySem PySem.Spec PyProof.Rows L2
section
variable {β α : Type} {R : β → α → Prop}
theorem All2.take {vs : List β} {xs : List α} (h : All2 R vs xs) (n : Nat) : All2 R (vs.take n) (xs.take n) := by
  refine ⟨by rw [List.length_take, List.length_take, h.len], fun i v x h1 h2 => ?_⟩
  rw [List.getElem?_take] at h1 h2
  split at h1
  · rw [if_pos (by assumption)] at h2
    exact h.at_ i v x h1 h2
  · cases h1
theorem All2.drop {vs : List β} {xs : List α} (h : All2 R vs xs) (n : Nat) : All2 R (vs.drop n) (xs.drop n) := by
  refine ⟨by rw [List.length_drop, List.length_drop, h.len], fun i v x h1 h2 => ?_⟩
  rw [List.getElem?_drop] at h1 h2
  exact h.at_ _ v x h1 h2
end
/-- a row of the law's book, by its place -/
def RowI (ns sr ho : List Str) (i : Nat) (r : Row) : Prop := ns[i]? = some r.name ∧ sr[i]? = some r.sort ∧ ho[i]? = some r.host
structure BkOk (ns sr ho : List Str) (rs : List Row) (k : Nat) : Prop where
  pm : (rs.map (·.name)).Perm (ns.take k)
  ix : ∀ r ∈ rs, ∃ i, i < k ∧ RowI ns sr ho i r
theorem nodup_at {α : Type} {x : α} : ∀ {xs : List α} {i j : Nat}, xs.Nodup → xs[i]? = some x → xs[j]? = some x → i = j
  | [], i, j, _, h, _ => by cases h
  | y :: ys, 0, 0, _, _, _ => rfl
  | y :: ys, 0, j + 1, h, h1, h2 => by
    cases h1
    rw [List.getElem?_cons_succ] at h2
    exact absurd (List.mem_of_getElem? h2) (List.nodup_cons.mp h).1
  | y :: ys, i + 1, 0, h, h1, h2 => by
    cases h2
    rw [List.getElem?_cons_succ] at h1
    exact absurd (List.mem_of_getElem? h1) (List.nodup_cons.mp h).1
  | y :: ys, i + 1, j + 1, h, h1, h2 => by
    rw [List.getElem?_cons_succ] at h1 h2
    rw [nodup_at (List.nodup_cons.mp h).2 h1 h2]
theorem find_ix {ns : List Str} (h : ns.Nodup) {i : Nat} {x : Str} (hi : ns[i]? = some x) : ns.findIdx (fun y => decide (y = x)) = i := by
  have hl := (List.getElem?_eq_some_iff.mp hi).1
  have e : ns.findIdx? (fun y => decide (y = x)) = some i := by
    rw [List.findIdx?_eq_some_iff_getElem]
    refine ⟨hl, decide_eq_true (List.getElem?_eq_some_iff.mp hi).2, fun j hj z => ?_⟩
    have z' := of_decide_eq_true z
    have := nodup_at h (List.getElem?_eq_some_iff.mpr ⟨Nat.lt_trans hj hl, z'⟩) hi
    omega
  exact (List.findIdx?_eq_some_iff_findIdx_eq.mp e).2
theorem nm_ne {x : Str} (h : NmOk x) : x ≠ "" ∧ x.length ≤ 8 ∧ PyData.strOk x = true := by
  obtain ⟨cs, rfl, h1, h2, h3⟩ := h
  refine ⟨fun z => ?_, by rw [sOf_len]; exact h2, ?_⟩
  · have := congrArg Str.length z
    rw [sOf_len] at this
    rw [this] at h1
    exact absurd h1 (by decide)
  · unfold PyData.strOk sOf
    rw [List.all_toArray]
    exact List.all_eq_true.mpr fun c hc => decide_eq_true (by have := h3 c hc; omega)
theorem book_good {ns sr ho : List Str} {rs : List Row} {n : Nat} (hl : ns.length = 12) (hnd : ns.Nodup) (hok : ∀ x ∈ ns, NmOk x) (hn : n ≤ 12) (so : SrOk ns sr ho n n) (bo : BkOk ns sr ho rs n) : Good rs (fun x => ns.findIdx (fun y => decide (y = x))) := by
  have hrl : rs.length = n := by
    have := bo.pm.length_eq
    rw [List.length_map, List.length_take] at this
    omega
  have hnm : ∀ r ∈ rs, r.name ∈ ns := fun r hr => by
    obtain ⟨i, _, h1, _⟩ := bo.ix r hr
    exact List.mem_of_getElem? h1
  have rk12 : ∀ x : Str, ns.findIdx (fun y => decide (y = x)) ≤ 12 := fun x => by
    have := List.findIdx_le_length (xs := ns) (p := fun y => decide (y = x))
    omega
  refine ⟨by omega, fun i j r s h1 h2 h3 => ?_, fun r hr => nm_ne (hok _ (hnm r hr)), fun r hr hs => ?_, fun r hr hs => ?_, fun r hr => rk12 _⟩
  · have nd : (rs.map (·.name)).Nodup := bo.pm.nodup_iff.mpr (List.Sublist.nodup (List.take_sublist _ _) hnd)
    exact nodup_at (x := r.name) nd (by rw [List.getElem?_map, h1] <;> rfl) (by rw [List.getElem?_map, h2, Option.map_some, h3])
  · obtain ⟨i, hi, h1, h2, h3⟩ := bo.ix r hr
    rw [hs] at h2
    obtain ⟨j, hj1, hj2, hj3⟩ := so.fr i hi h2
    rw [h3] at hj3
    have hmem : r.host ∈ rs.map (·.name) := by
      refine bo.pm.mem_iff.mpr (List.mem_of_getElem? (i := j) ?_)
      rw [List.getElem?_take, if_pos hj2]
      exact hj3.symm
    obtain ⟨q, hq, he⟩ := List.mem_map.mp hmem
    refine ⟨⟨q, hq, he⟩, ?_, rk12 _⟩
    show ns.findIdx (fun y => decide (y = r.name)) < ns.findIdx (fun y => decide (y = r.host))
    rw [find_ix hnd h1, find_ix hnd hj3.symm]
    exact hj1
  · obtain ⟨i, hi, h1, h2, h3⟩ := bo.ix r hr
    have := so.nf i hi (by rw [h2]; exact fun z => hs (Option.some.inj z))
    rw [h3] at this
    exact Option.some.inj this
theorem book_ins {ns sr ho : List Str} {rs : List Row} {k m : Nat} {r : Row} (bo : BkOk ns sr ho rs k) (hr : RowI ns sr ho k r) : BkOk ns sr ho (rs.take m ++ [r] ++ rs.drop m) (k + 1) := by
  refine ⟨?_, fun q hq => ?_⟩
  · rw [List.map_append, List.map_append, List.append_assoc]
    have e1 : ns.take (k + 1) = ns.take k ++ [r.name] := take_snoc hr.1
    rw [e1]
    refine List.Perm.trans (List.perm_append_comm_assoc ..) ?_
    refine List.Perm.trans (List.Perm.append_left _ ?_) (List.perm_append_comm)
    rw [← List.map_append, List.take_append_drop]
    exact bo.pm
  · rcases List.mem_append.mp hq with hq | hq
    · rcases List.mem_append.mp hq with hq | hq
      · obtain ⟨i, hi, h⟩ := bo.ix q (List.mem_of_mem_take hq)
        exact ⟨i, by omega, h⟩
      · rw [List.mem_singleton.mp hq]
        exact ⟨k, by omega, hr⟩
    · obtain ⟨i, hi, h⟩ := bo.ix q (List.mem_of_mem_drop hq)
      exact ⟨i, by omega, h⟩
section
variable {P : Program} {w : World} {K : PySem.W.Frag} {mg : Str → Option Value} {base : Heap} {C ea : Addr}
theorem w_sorted {H : Hp} {Q : VK} {a : Addr} {xs : List Str} (h : SqL K H a (xs.map V.str)) (hl : xs.length < 64) (k : ∀ (ys : List Str) p H1, H p = none → Same H H1 → H1 p = some (.lst (ys.map V.str)) → Q (.ref p) H1) : rSortedS K [.ref a] H Q :=
  ⟨a, xs, rfl, h, hl, fun ys p _ _ hp => k ys p _ hp (sm_new hp) upd_same⟩
def spBook (K : PySem.W.Frag) : Sp := fun vs H Q _ => ∃ (s : Addr) (cells : List Int), vs = [.ref s] ∧ SqL K H s (cells.map V.int) ∧ ∀ (H' : Hp) (B : Bk), Same H H' → B.Ok → Same B.G H' → 1 ≤ B.rows.length → (∀ r ∈ B.rows, NmOk r.name) → Q (.ref B.b) H'
theorem c_l_book (D : Defs K mg C) (T : Tx K mg C ea) : C8.Cal P w K mg base 3 "_law_book" (spBook K) [] := by
  refine D.d_l_book.cal sc_l_book (fun vs H Q E h => ?_) (fun f cdv A outer s H vs Q E hr h => ?_)
  · obtain ⟨s, cells, rfl, _⟩ := h
    rfl
  obtain ⟨sc, cells, rfl, hs, k⟩ := h
  have c_l_cell_at : C8.Cal P w K mg base 1 "_law_cell_at" (spCellAt K) [] := c_l_cell_at D T
  have c_l_mixed : C8.Cal P w K mg base 1 "_law_mixed" spMixed [] := c_l_mixed D T
  have c_l_names : C8.Cal P w K mg base 2 "_law_names" spNames [] := c_l_names D T
  have c_l_sorts : C8.Cal P w K mg base 2 "_law_sorts" (spSorts K) [] := c_l_sorts D T
  refine ⟨_, (pss_cons (ps_set (i := 1) sc_l_book.nd rfl (Or.inr rfl) (C8.pe_c c_l_names hr (by decide) rfl (pa_cons (C8.pe_c c_l_cell_at hr (by decide) rfl (pa_cons (pv 0) (pa_cons pe_int pa_nil))) pa_nil)))
      (pss_cons (ps_set (i := 2) sc_l_book.nd rfl (Or.inl rfl) (pe_op op_add pe_int (pe_op op_modN (C8.pe_c c_l_cell_at hr (by decide) rfl (pa_cons (pv 0) (pa_cons pe_int pa_nil))) pe_int)))
      (pss_cons (ps_asg (C8.pe_c c_l_sorts hr (by decide) rfl (pa_cons (pv 0) (pa_cons (pv 1) (pa_cons (pv 2) pa_nil)))) (pg_tup rfl (pgs_cons (pg_name (i := 3) sc_l_book.nd rfl (Or.inr rfl)) (pgs_cons (pg_name (i := 4) sc_l_book.nd rfl (Or.inl rfl)) (pgs_cons (pg_name (i := 5) sc_l_book.nd rfl (Or.inr rfl)) pgs_nil)))))
      (pss_cons (ps_set (i := 6) sc_l_book.nd rfl (Or.inl rfl) (pe_lst pa_nil))
      (pss_cons (ps_for PassesOwn.never rfl (pi_range1 (by rfl) T.b_range (pa_cons (pv 2) pa_nil)) (pg_name (i := 7) sc_l_book.nd rfl (Or.inr rfl)) (pss_cons (ps_set (i := 8) sc_l_book.nd rfl (Or.inr rfl) (C8.pe_c c_l_cell_at hr (by decide) rfl (pa_cons (pv 0) (pa_cons (pe_op op_add pe_int (pv 7)) pa_nil))))
      (pss_cons (ps_setLc (i := 9) (own := [("_law_j", 13)]) (g := gName 13) (by rfl) sc_l_book.nd rfl rfl (sw_true rfl rfl rfl (by decide +kernel)) (pi_range1 (by rfl) T.b_range (pa_cons (pv 2) pa_nil)) (blkOk_by (own := [("_law_j", 13)]) (N := N_l_book) (sc := defScope s_l_book) (by decide +kernel)) (fun _ _ _ _ _ => pg_name (i := 13) sc_l_book.nd rfl (Or.inl rfl)) (fun _ _ _ _ _ => pts_one (pt_cmpR (r := rIn K false) op_in_seq (pe_ix (r := rIxL K) ix_list (pv 3) (pv 13) (fun _ _ => rfl)) (pe_tup (pa_cons pe_str (pa_cons pe_str pa_nil))) (by rfl))) (fun _ _ _ _ _ => (pv 13)))
      (pss_cons (ps_setLc (i := 10) (own := [("_law_j", 13)]) (g := gName 13) (by rfl) sc_l_book.nd rfl rfl (sw_true rfl rfl rfl (by decide +kernel)) (pi_list (pv 9)) (blkOk_by (own := [("_law_j", 13)]) (N := N_l_book) (sc := defScope s_l_book) (by decide +kernel)) (fun _ _ _ _ _ => pg_name (i := 13) sc_l_book.nd rfl (Or.inl rfl)) (fun _ _ _ _ _ => pts_one (PW.pt (pw_and (pt_cmpR (r := rIn K true) op_notIn_seq (pv 13) (pv 5) (by rfl)) (pw_and (pt_cmpR (r := rIn K true) op_notIn_seq (pv 7) (pv 5) (by rfl)) (pw_and1 (pt_cmpR op_eq (pe_op op_modN (C8.pe_c c_l_mixed hr (by decide) rfl (pa_cons (pv 8) (pa_cons (pe_op op_add pe_int (pv 13)) pa_nil))) pe_int) pe_int (nomark _))))))) (fun _ _ _ _ _ => (pe_ix (r := rIxL K) ix_list (pv 1) (pv 13) (fun _ _ => rfl))))
      (pss_cons (ps_setLc (i := 11) (own := [("_law_j", 13)]) (g := gName 13) (by rfl) sc_l_book.nd rfl rfl (sw_true rfl rfl rfl (by decide +kernel)) (pi_list (pv 9)) (blkOk_by (own := [("_law_j", 13)]) (N := N_l_book) (sc := defScope s_l_book) (by decide +kernel)) (fun _ _ _ _ _ => pg_name (i := 13) sc_l_book.nd rfl (Or.inl rfl)) (fun _ _ _ _ _ => pts_one (pt_cmpR op_eq (pe_op op_modN (C8.pe_c c_l_mixed hr (by decide) rfl (pa_cons (pv 8) (pa_cons (pe_op op_add pe_int (pv 13)) pa_nil))) pe_int) pe_int (nomark _))) (fun _ _ _ _ _ => (pe_ix (r := rIxL K) ix_list (pv 1) (pv 13) (fun _ _ => rfl))))
      (pss_cons (ps_set (i := 12) sc_l_book.nd rfl (Or.inl rfl) (pe_tup (pa_cons (pe_ix ix_list (pv 1) (pv 7) (fun _ _ => rfl)) (pa_cons (pe_ix ix_list (pv 3) (pv 7) (fun _ _ => rfl)) (pa_cons (pe_ix ix_list (pv 4) (pv 7) (fun _ _ => rfl)) (pa_cons (pe_callTy call_tupQ (by rfl) T.b_tuple (by decide +kernel) (pa_cons (pe_callB cr_sortedS (by rfl) T.b_sorted (by decide +kernel) (pa_cons (pv 10) pa_nil)) pa_nil)) (pa_cons (pe_callTy call_tupQ (by rfl) T.b_tuple (by decide +kernel) (pa_cons (pe_callB cr_sortedS (by rfl) T.b_sorted (by decide +kernel) (pa_cons (pv 11) pa_nil)) pa_nil)) pa_nil)))))))
      (pss_one (ps_expr (pe_bm PySem.F.plainAttrs_list PySem.F.slot_list_insert PySem.F.type_list_insert mt_insertQ (pv 6) (pa_cons (pe_op op_modN (C8.pe_c c_l_mixed hr (by decide) rfl (pa_cons (pv 8) (pa_cons pe_int pa_nil))) (pe_op op_add (pv 7) pe_int)) (pa_cons (pv 12) pa_nil)))))))))))
      (pss_one (ps_ret (pe_callTy call_tupQ (by rfl) T.b_tuple (by decide +kernel) (pa_cons (pv 6) pa_nil))))))))), ?_⟩
  walk_at "go"
  refine ⟨sc, cells, 0, rfl, hs, fun c0 => ?_⟩
  walk_at "go"
  refine ⟨c0, rfl, fun H1 nl ns n1 s1 l1 hns hnd hok => ?_⟩
  walk_at "go"
  refine ⟨sc, cells, 1, rfl, sq_same hs s1, fun c1 => ?_⟩
  walk_at "go"
  refine w_mod (by decide) fun r hr0 hr1 => ?_
  obtain ⟨m, rfl⟩ := Int.eq_ofNat_of_zero_le hr0
  walk_at "go"
  have e1 : (1 : Int) + ((m : Nat) : Int) = ((1 + m : Nat) : Int) := by omega
  rw [e1]
  generalize hnn : 1 + m = n
  have hn1 : 1 ≤ n := by omega
  have hn12 : n ≤ 12 := by omega
  refine ⟨sc, nl, cells, ns, n, rfl, sq_same hs s1, l1, hns, hn12, fun H2 p a b t sr ho tk s2 hp fa fb ft so => ?_⟩
  refine w_gT (SqT.of hp) rfl ?_
  walk_at "go"
  refine w_mkL fun rl H3 n3 s3 l3 => ?_
  walk_at "go"
  have s02 := s1.trans s2
  have s03 := s02.trans s3
  have zr : H rl = none := none_back s02 n3
  have fnl : H3 nl = some (.lst (ns.map V.str)) := s3 _ _ (s2 _ _ l1)
  have nne : ∀ {x : Addr} {us : List V}, H2 x = some (.lst us) → x ≠ rl := fun {x us} h z => by
    rw [z, n3] at h
    cases h
  refine w_forR1 (by omega) ?_
  rw [Int.toNat_natCast]
  refine w_forR (fun i σ H' => (∃ v7 v8 v9 v10 v11 v12, σ = [some (.ref sc), some (.ref nl), some (.int (n : Nat)), some (.ref a), some (.ref b), some (.ref t), some (.ref rl), v7, v8, v9, v10, v11, v12, none]) ∧ Same H H' ∧ But rl H3 H' ∧ ∃ (ps : List Addr) (rs : List Row), H' rl = some (.lst (ps.map V.ref)) ∧ All2 (RowAt H') ps rs ∧ BkOk ns sr ho rs i)
    ⟨⟨_, _, _, _, _, _, rfl⟩, s03, fun b o _ h => h, [], [], l3, .nil, ⟨by rw [List.take_zero]; exact List.Perm.nil, fun r hr => by cases hr⟩⟩ ?_ ?_
  · rintro i σ H' hi ⟨⟨v7, v8, v9, v10, v11, v12, rfl⟩, s4, b4, ps, rs, fr, hrs, bo⟩
    have ga : H' a = some (.lst (sr.map V.str)) := b4 _ _ (nne fa) (s3 _ _ fa)
    have gb : H' b = some (.lst (ho.map V.str)) := b4 _ _ (nne fb) (s3 _ _ fb)
    have gt : H' t = some (.lst (tk.map V.int)) := b4 _ _ (nne ft) (s3 _ _ ft)
    have gn : H' nl = some (.lst (ns.map V.str)) := b4 _ _ (nne (s2 _ _ l1)) fnl
    have hpl : ps.length = i := by
      have h1 := hrs.len
      have h2 := bo.pm.length_eq
      rw [List.length_map, List.length_take] at h2
      omega
    have e0 : (0 : Int) + ((i : Nat) : Int) = ((i : Nat) : Int) := by omega
    rw [e0]
    walk_at "go"
    have e2 : (2 : Int) + ((i : Nat) : Int) = ((2 + i : Nat) : Int) := by omega
    rw [e2]
    refine ⟨sc, cells, 2 + i, rfl, sq_same hs s4, fun own => ?_⟩
    walk_at "go"
    refine w_lcR1 (by omega) ?_
    rw [Int.toNat_natCast]
    refine w_lcR (fun Dl j H'' => H' Dl = none ∧ Same H' H'' ∧ ∃ ab : List Int, H'' Dl = some (.lst (ab.map V.int)) ∧ ab.length ≤ j ∧ ∀ x ∈ ab, ∃ m : Nat, x = (m : Int) ∧ m < n) (fun Dl hD => ⟨hD, sm_new hD, [], upd_same, Nat.le_refl _, fun x hx => by cases hx⟩) ?_ ?_
    · rintro Dl j H'' hj ⟨hD, s6, ab, hl, hab, habb⟩
      have ej : (0 : Int) + ((j : Nat) : Int) = ((j : Nat) : Int) := by omega
      rw [ej]
      obtain ⟨z, hz⟩ := get_lt (xs := sr) (i := j) (by have := so.ls; omega)
      walk_at "go"
      refine ⟨rfl, ?_⟩
      walk_at "go"
      refine w_ixL (SqL.of (s6 _ _ ga)) (atI_nat (by rw [List.getElem?_map, hz] <;> rfl)) ?_
      walk_at "go"
      refine w_mkT fun q7 H7 n7 s7 l7 => ?_
      refine w_inSs (ys := ["plain", "anew"]) (.inr (SqT.of l7)) ?_
      walk_at "go"
      refine w_2 (fun e => ?_) (fun e => ?_)
      · walk_at "go"
        refine ⟨_, s7 _ _ hl, szM' (by rw [List.length_map]; omega), hD, sm_but (s6.trans s7) hD but_upd, ab ++ [((j : Nat) : Int)], by rw [List.map_append]; exact upd_same, by rw [List.length_append]; exact Nat.succ_le_succ hab, fun x hx => ?_⟩
        rcases List.mem_append.mp hx with hx | hx
        · exact habb x hx
        · exact ⟨_, List.mem_singleton.mp hx, hj⟩
      · exact ⟨hD, s6.trans s7, ab, s7 _ _ hl, Nat.le_succ_of_le hab, habb⟩
    rintro ad H5 ⟨nad, s5, ab, lab, hab, habb⟩
    walk_at "go"
    refine w_lcL (SqL.of lab) (fun Dl j H'' => H5 Dl = none ∧ Same H5 H'' ∧ ∃ ys : List Str, H'' Dl = some (.lst (ys.map V.str)) ∧ ys.length ≤ j) (fun Dl hD => ⟨hD, sm_new hD, [], upd_same, Nat.le_refl _⟩) (fun Dl j H'' _ h => SqL.of (h.2.1 _ _ lab)) ?_ ?_
    · rintro Dl j v H'' hj ⟨hD, s6, ys, hl, hys⟩
      obtain ⟨x, hx, rfl⟩ := map_get hj
      have hjl := (List.getElem?_eq_some_iff.mp hx).1
      obtain ⟨m2, rfl, hm2⟩ := habb x (List.mem_of_getElem? hx)
      obtain ⟨nm, hnm⟩ := get_lt (xs := ns) (i := m2) (by omega)
      have s56 := s5.trans s6
      have no : H5 Dl = none ∧ Same H5 H'' ∧ ∃ ys : List Str, H'' Dl = some (.lst (ys.map V.str)) ∧ ys.length ≤ j + 1 := ⟨hD, s6, ys, hl, Nat.le_succ_of_le hys⟩
      walk_at "go"
      refine ⟨rfl, ?_⟩
      walk_at "go"
      refine w_notInIs (SqL.of (s56 _ _ gt)) ?_
      walk_at "go"
      refine w_2 (fun e => ?_) (fun e => ?_)
      · walk_at "go"
        refine w_notInIs (SqL.of (s56 _ _ gt)) ?_
        walk_at "go"
        refine w_2 (fun e3 => ?_) (fun e3 => ?_)
        · walk_at "go"
          have e3' : (3 : Int) + ((m2 : Nat) : Int) = ((3 + m2 : Nat) : Int) := by omega
          rw [e3']
          refine ⟨own, 3 + m2, rfl, by omega, fun r4 h4 => ?_⟩
          walk_at "go"
          refine w_mod (by decide) fun r5 h5 h6 => ?_
          walk_at "go"
          refine w_2 (fun e4 => ?_) (fun e4 => ?_)
          · walk_at "go"
            refine w_ixL (SqL.of (s56 _ _ gn)) (v := .str nm) (atI_nat (by rw [List.getElem?_map, hnm] <;> rfl)) ?_
            refine ⟨_, hl, szM' (by rw [List.length_map]; omega), hD, sm_but s6 hD but_upd, ys ++ [nm], by rw [List.map_append]; exact upd_same, by rw [List.length_append]; exact Nat.succ_le_succ hys⟩
          · exact no
        · exact no
      · exact no
    rintro sd H6 ⟨nsd, s6, shs, lsh, hshl⟩
    rw [List.length_map] at hshl
    have lab6 := s6 _ _ lab
    walk_at "go"
    refine w_lcL (SqL.of lab6) (fun Dl j H'' => H6 Dl = none ∧ Same H6 H'' ∧ ∃ ys : List Str, H'' Dl = some (.lst (ys.map V.str)) ∧ ys.length ≤ j) (fun Dl hD => ⟨hD, sm_new hD, [], upd_same, Nat.le_refl _⟩) (fun Dl j H'' _ h => SqL.of (h.2.1 _ _ lab6)) ?_ ?_
    · rintro Dl j v H'' hj ⟨hD, s7, ys, hl, hys⟩
      obtain ⟨x, hx, rfl⟩ := map_get hj
      have hjl := (List.getElem?_eq_some_iff.mp hx).1
      obtain ⟨m2, rfl, hm2⟩ := habb x (List.mem_of_getElem? hx)
      obtain ⟨nm, hnm⟩ := get_lt (xs := ns) (i := m2) (by omega)
      have s57 := s5.trans (s6.trans s7)
      walk_at "go"
      refine ⟨rfl, ?_⟩
      walk_at "go"
      have e3' : (20 : Int) + ((m2 : Nat) : Int) = ((20 + m2 : Nat) : Int) := by omega
      rw [e3']
      refine ⟨own, 20 + m2, rfl, by omega, fun r4 h4 => ?_⟩
      walk_at "go"
      refine w_mod (by decide) fun r5 h5 h6 => ?_
      walk_at "go"
      refine w_2 (fun e4 => ?_) (fun e4 => ?_)
      · walk_at "go"
        refine w_ixL (SqL.of (s57 _ _ gn)) (v := .str nm) (atI_nat (by rw [List.getElem?_map, hnm] <;> rfl)) ?_
        refine ⟨_, hl, szM' (by rw [List.length_map]; omega), hD, sm_but s7 hD but_upd, ys ++ [nm], by rw [List.map_append]; exact upd_same, by rw [List.length_append]; exact Nat.succ_le_succ hys⟩
      · exact ⟨hD, s7, ys, hl, Nat.le_succ_of_le hys⟩
    rintro bd H7 ⟨nbd, s7, brs, lbr, hbrl⟩
    rw [List.length_map] at hbrl
    have s47 := s5.trans (s6.trans s7)
    obtain ⟨xn, hxn⟩ := get_lt (xs := ns) (i := i) (by omega)
    obtain ⟨xs, hxs⟩ := get_lt (xs := sr) (i := i) (by have := so.ls; omega)
    obtain ⟨xh, hxh⟩ := get_lt (xs := ho) (i := i) (by have := so.lh; omega)
    walk_at "go"
    refine w_ixL (SqL.of (s47 _ _ gn)) (v := .str xn) (atI_nat (by rw [List.getElem?_map, hxn] <;> rfl)) ?_
    walk_at "go"
    refine w_ixL (SqL.of (s47 _ _ ga)) (v := .str xs) (atI_nat (by rw [List.getElem?_map, hxs] <;> rfl)) ?_
    walk_at "go"
    refine w_ixL (SqL.of (s47 _ _ gb)) (v := .str xh) (atI_nat (by rw [List.getElem?_map, hxh] <;> rfl)) ?_
    walk_at "go"
    refine w_sorted (SqL.of (s7 _ _ lsh)) (by omega) fun ss p8 H8 n8 s8 l8 => ?_
    walk_at "go"
    refine w_tupL (SqL.of l8) fun q9 H9 n9 s9 l9 => ?_
    walk_at "go"
    have s79 := s8.trans s9
    refine w_sorted (SqL.of (s79 _ _ lbr)) (by omega) fun bb p10 H10 n10 s10 l10 => ?_
    walk_at "go"
    refine w_tupL (SqL.of l10) fun q11 H11 n11 s11 l11 => ?_
    walk_at "go"
    refine w_mkT fun p12 H12 n12 s12 l12 => ?_
    have s7c : Same H7 H12 := s79.trans (s10.trans (s11.trans s12))
    have s4c : Same H' H12 := s47.trans s7c
    walk_at "go"
    refine w_tyL (s4c _ _ fr) ?_
    walk_at "go"
    refine ⟨own, 32, rfl, by decide, fun r4 h4 => ?_⟩
    walk_at "go"
    refine w_mod (by omega) fun r5 h5 h6 => ?_
    obtain ⟨m5, rfl⟩ := Int.eq_ofNat_of_zero_le h5
    walk_at "go"
    refine w_insert (s4c _ _ fr) (szM' (by rw [List.length_map]; omega)) h5 (by omega) fun H13 b13 l13 => ?_
    rw [Int.toNat_natCast, ← List.map_take, ← List.map_drop] at l13
    have rmono : ∀ {pp rr}, RowAt H12 pp rr → RowAt H13 pp rr := fun {pp rr} h => by
      obtain ⟨u1, u2, g1, g2, g3⟩ := h
      have tu : Tups H12 H13 := tups_but (s4c _ _ fr) rfl b13
      exact ⟨u1, u2, tu _ _ g1, tu _ _ g2, tu _ _ g3⟩
    have newr : RowAt H13 p12 ⟨xn, xs, xh, ss, bb⟩ := rmono ⟨q9, q11, l12, s12 _ _ (s11 _ _ (s10 _ _ l9)), s12 _ _ l11⟩
    have hrs' : All2 (RowAt H13) ps rs := hrs.mono fun v x h => rmono (h.mono s4c)
    refine ⟨⟨_, _, _, _, _, _, rfl⟩, sm_but (s4.trans s4c) zr b13, (b4.trans (.same s4c)).trans b13, ps.take m5 ++ [p12] ++ ps.drop m5, rs.take m5 ++ [⟨xn, xs, xh, ss, bb⟩] ++ rs.drop m5, ?_, ?_, book_ins bo ⟨hxn, hxs, hxh⟩⟩
    · rw [List.map_append, List.map_append]
      exact l13
    · exact ((hrs'.take m5).app (.one newr)).app (hrs'.drop m5)
  · rintro σ H' ⟨⟨v7, v8, v9, v10, v11, v12, rfl⟩, s4, b4, ps, rs, fr, hrs, bo⟩
    walk_at "go"
    refine w_tupL (SqL.of fr) fun bk H5 n5 s5 l5 => ?_
    have hrl : rs.length = n := by
      have := bo.pm.length_eq
      rw [List.length_map, List.length_take] at this
      omega
    have hrs' : All2 (RowAt H5) ps rs := hrs.mono fun v x h => h.mono s5
    refine k H5 ⟨H5, bk, rs, fun x => ns.findIdx (fun y => decide (y = x))⟩ (s4.trans s5) ⟨book_good hns hnd hok hn12 so bo, ps, l5, hrs.len, fun i p r h1 h2 => hrs'.at_ i p r h1 h2⟩ (Same.refl H5) ?_ fun r hr => ?_
    · show 1 ≤ rs.length
      omega
    · obtain ⟨i, _, h1, _⟩ := bo.ix r hr
      exact hok _ (List.mem_of_getElem? h1)
end
end Tg

namespace Tg
open PySem PySem.Spec PyProof.Rows L2
def PcOk (x : Str) : Prop := ∃ cs : List Nat, x = sOf cs ∧ cs.length ≤ 36 ∧ ∀ c ∈ cs, c < 128
def smB (n : Nat) (x : Str) : Bool := Nat.ble x.cps.toList.length n && x.cps.toList.all fun c => decide (c < 128)
theorem smB_ok {n : Nat} {x : Str} (h : smB n x = true) : x.cps.toList.length ≤ n ∧ ∀ c ∈ x.cps.toList, c < 128 := by
  obtain ⟨h1, h2⟩ := Bool.and_eq_true_iff.mp h
  exact ⟨Nat.le_of_ble_eq_true h1, fun c hc => of_decide_eq_true (List.all_eq_true.mp h2 c hc)⟩
theorem pc_lit {x : Str} (h : smB 36 x = true) : PcOk x := ⟨x.cps.toList, (sOf_eta x).symm, (smB_ok h).1, (smB_ok h).2⟩
theorem sOf_app (a b : List Nat) : sOf a ++ sOf b = sOf (a ++ b) := by
  show (⟨a.toArray ++ b.toArray⟩ : Str) = ⟨(a ++ b).toArray⟩
  simp
theorem pc_mid {a b x : Str} (ha : smB 10 a = true) (hb : smB 10 b = true) (hx : NmOk x) : PcOk (a ++ x ++ b) := by
  obtain ⟨cs, rfl, h1, h2, h3⟩ := hx
  obtain ⟨a1, a2⟩ := smB_ok ha
  obtain ⟨b1, b2⟩ := smB_ok hb
  refine ⟨a.cps.toList ++ cs ++ b.cps.toList, by rw [← sOf_app, ← sOf_app, sOf_eta, sOf_eta], by rw [List.length_append, List.length_append]; omega, fun c hc => ?_⟩
  rcases List.mem_append.mp hc with hc | hc
  · rcases List.mem_append.mp hc with hc | hc
    · exact a2 c hc
    · exact h3 c hc
  · exact b2 c hc
theorem nm_len {x : Str} (h : NmOk x) : x.length ≤ 8 := (nm_ne h).2.1
section
variable {P : Program} {w : World} {K : PySem.W.Frag} {mg : Str → Option Value} {base : Heap} {C ea : Addr}
theorem w_if_and2 {b1 b2 : Bool} {t : TT} {σ : L2.St} {H : Hp} {R : Bool → Hp → Prop} (h1 : b1 = true → ∀ R' : Bool → Hp → Prop, (∀ H', Same H H' → R' b2 H') → t σ H R') (k : ∀ H', Same H H' → R (b1 && b2) H') : if b1 = true then t σ H R else R false H := by
  cases b1 with
  | true => exact iteT (h1 rfl R k)
  | false => exact iteF (k H (Same.refl H))
def spPieceL : Sp := fun vs H Q _ => ∃ (s : V) (c : Int) (B : Bk) (lt : Addr) (ls : List Str), vs = [s, .int c, .ref B.b, .ref lt] ∧ B.Ok ∧ Same B.G H ∧ 1 ≤ B.rows.length ∧ (∀ r ∈ B.rows, NmOk r.name) ∧ H lt = some (.lst (ls.map V.str)) ∧ ls.length ≤ 1000 ∧ (∀ x ∈ ls, NmOk x) ∧
  ∀ (H' : Hp) (z : Str) (ls' : List Str), But lt H H' → H' lt = some (.lst (ls'.map V.str)) → ls'.length ≤ ls.length + 1 → (∀ x ∈ ls', NmOk x) → PcOk z → Q (.str z) H'
theorem c_l_piece (D : Defs K mg C) (T : Tx K mg C ea) : C8.Cal P w K mg base 2 "_law_piece" spPieceL [] := by
  refine D.d_l_piece.cal sc_l_piece (fun vs H Q E h => ?_) (fun f cdv A outer s H vs Q E hr h => ?_)
  · obtain ⟨s, c, B, lt, ls, rfl, _⟩ := h
    rfl
  obtain ⟨sc, c, B, lt, ls, rfl, hB, s0, hr1, hnm, hlt, hll, hlo, k⟩ := h
  have c_l_mixed : C8.Cal P w K mg base 1 "_law_mixed" spMixed [] := c_l_mixed D T
  have c_l_signs : C8.Cal P w K mg base 1 "_law_signs" spSigns [] := c_l_signs D T
  refine ⟨_, (pss_cons (ps_set (i := 4) sc_l_piece.nd rfl (Or.inl rfl) (C8.pe_c c_l_mixed hr (by decide) rfl (pa_cons (pv 1) (pa_cons pe_int pa_nil))))
      (pss_cons (ps_set (i := 5) sc_l_piece.nd rfl (Or.inl rfl) (pe_ix ix_tup (pe_ix ix_tup (pv 2) (pe_op op_modN (pv 4) (pe_callB call_lenQ (by rfl) T.b_len PySem.boot_len (pa_cons (pv 2) pa_nil))) (fun _ _ => rfl)) pe_int (fun _ _ => rfl)))
      (pss_cons (ps_set (i := 6) sc_l_piece.nd rfl (Or.inl rfl) (pe_lst (pa_cons pe_str (pa_cons pe_str (pa_cons pe_str (pa_cons pe_str (pa_cons pe_str (pa_cons pe_str (pa_cons pe_str (pa_cons pe_str (pa_cons pe_str (pa_cons pe_str (pa_cons pe_str (pa_cons pe_str (pa_cons pe_str (pa_cons pe_str pa_nil))))))))))))))))
      (pss_cons (ps_set (i := 6) sc_l_piece.nd rfl (Or.inl rfl) (pe_op op_cat (pv 6) (pe_lst (pa_cons pe_str (pa_cons pe_str (pa_cons (pe_op op_addS (pe_op op_addS pe_str (pv 5)) pe_str) (pa_cons (pe_op op_addS (pe_op op_addS pe_str (pv 5)) pe_str) (pa_cons pe_str (pa_cons pe_str pa_nil)))))))))
      (pss_cons (ps_set (i := 7) sc_l_piece.nd rfl (Or.inl rfl) (pe_op op_modN (pe_op op_fdivN (pv 4) pe_int) pe_int))
      (pss_cons (ps_if (pt_cmpR op_lt (pv 7) pe_int (nomark _)) (pss_cons (ps_expr (pe_bm PySem.F.plainAttrs_list PySem.F.slot_list_append PySem.F.type_list_append mt_append (pv 3) (pa_cons (pv 5) pa_nil)))
      (pss_one (ps_ret (pe_op op_addS (pe_op op_addS pe_str (pv 5)) pe_str)))) pss_nil)
      (pss_cons (ps_if (PW.pt (pw_and (pt_cmpR op_lt (pv 7) pe_int (nomark _)) (pw_and1 (pt_cmpR (op_neD (hu64 hr)) (pv 3) (pe_lst pa_nil) (nomark _))))) (pss_one (ps_ret (pe_op op_addS (pe_op op_addS pe_str (pe_bm0 PySem.F.plainAttrs_list PySem.F.slot_list_pop PySem.F.type_list_pop mt_pop (pv 3))) pe_str))) pss_nil)
      (pss_cons (ps_if (pt_cmpR op_gt (pv 7) pe_int (nomark _)) (pss_one (ps_ret (pe_bm PySem.F.plainAttrs_str PySem.F.slot_str_join PySem.F.type_str_join mt_joinQ pe_str (pa_cons (pe_lc (own := [("_law_k", 8)]) (g := gName 8) (by rfl) sc_l_piece.nd (pi_range2 (by rfl) T.b_range (pa_cons pe_int (pa_cons pe_int pa_nil))) (blkOk_by (own := [("_law_k", 8)]) (N := N_l_piece) (sc := defScope s_l_piece) (by decide +kernel)) (fun _ _ _ _ _ => pg_name (i := 8) sc_l_piece.nd rfl (Or.inl rfl)) (fun _ _ _ _ _ => pts_nil) (fun _ _ _ _ _ => (C8.pe_c c_l_signs hr (by decide) rfl (pa_cons (C8.pe_c c_l_mixed hr (by decide) rfl (pa_cons (pv 1) (pa_cons (pv 8) pa_nil))) pa_nil)))) pa_nil)))) pss_nil)
      (pss_one (ps_ret (pe_ix ix_list (pv 6) (pe_op op_modN (pe_op op_fdivN (pv 4) pe_int) pe_int) (fun _ _ => rfl)))))))))))), ?_⟩
  obtain ⟨ps, hb, hpl, hrow⟩ := hB.at_
  walk_at "go"
  refine ⟨c, 7, rfl, by decide, fun num hn0 => ?_⟩
  walk_at "go"
  refine w_lenT (SqT.of (s0 _ _ hb)) ?_
  rw [List.length_map]
  refine w_mod (by omega) fun r h1 h2 => ?_
  obtain ⟨jj, _, _, v, hv, hat⟩ := at_int (ys := ps.map V.ref) (n := ps.length) h1 h2 (by rw [List.length_map])
  obtain ⟨p, hp, rfl⟩ := map_get hv
  obtain ⟨row, hrw⟩ := get_of_len hpl hp
  obtain ⟨q1, q2, g1, g2, g3⟩ := hrow jj p row hp hrw
  have hnr := hnm row (List.mem_of_getElem? hrw)
  have hn8 := nm_len hnr
  refine w_ixT (SqT.of (s0 _ _ hb)) hat ?_
  walk_at "go"
  refine w_ixT (SqT.of (s0 _ _ g1)) (by exact rfl) ?_
  walk_at "go"
  refine w_mkL fun s14 H1 n1 t1 l1 => ?_
  walk_at "go"
  refine w_addS (szM ?_) ?_
  · show 1 + row.name.length ≤ _
    omega
  walk_at "go"
  refine w_addS (szM ?_) ?_
  · rw [str_app_len]
    show 1 + row.name.length + 2 ≤ _
    omega
  walk_at "go"
  refine w_addS (szM ?_) ?_
  · show 2 + row.name.length ≤ _
    omega
  walk_at "go"
  refine w_addS (szM ?_) ?_
  · rw [str_app_len]
    show 2 + row.name.length + 1 ≤ _
    omega
  walk_at "go"
  refine w_mkL fun s6 H2 n2 t2 l2 => ?_
  refine w_cat (t2 _ _ l1) l2 (szM (by decide : 14 + 6 ≤ 1000000)) fun so H3 n3 t3 l3 => ?_
  have t03 : Same H H3 := t1.trans (t2.trans t3)
  obtain ⟨ys, hys, hyo⟩ : ∃ ys : List Str, H3 so = some (.lst (ys.map V.str)) ∧ ys.length = 20 ∧ ∀ y ∈ ys, PcOk y := by
    refine ⟨([" ", "\n", "x<y", "&", "&l;", "&a;", "&amp;", "</ a>", "<>", "&l", "<abcdefghi>", "<zz", "a;", "l;"] : List Str) ++ [("<zzz>" : Str), "</zzz>", ("<" : Str) ++ row.name ++ "q>", ("</" : Str) ++ row.name ++ ">", "a", "</"], l3, rfl, fun y hy => ?_⟩
    rcases List.mem_append.mp hy with hy | hy
    · exact pc_lit (List.all_eq_true.mp (show (([" ", "\n", "x<y", "&", "&l;", "&a;", "&amp;", "</ a>", "<>", "&l", "<abcdefghi>", "<zz", "a;", "l;"] : List Str).all (smB 36)) = true from by decide +kernel) y hy)
    · rcases List.mem_cons.mp hy with rfl | hy
      · exact pc_lit (by decide +kernel)
      rcases List.mem_cons.mp hy with rfl | hy
      · exact pc_lit (by decide +kernel)
      rcases List.mem_cons.mp hy with rfl | hy
      · exact pc_mid (by decide +kernel) (by decide +kernel) hnr
      rcases List.mem_cons.mp hy with rfl | hy
      · exact pc_mid (by decide +kernel) (by decide +kernel) hnr
      rcases List.mem_cons.mp hy with rfl | hy
      · exact pc_lit (by decide +kernel)
      rw [List.mem_singleton.mp hy]
      exact pc_lit (by decide +kernel)
  obtain ⟨hy20, hyo⟩ := hyo
  have l3' := t03 _ _ hlt
  walk_at "go"
  refine w_div (by decide) (by decide) ?_
  walk_at "go"
  refine w_mod (by decide) fun way hw0 hw1 => ?_
  walk_at "go"
  refine w_2 (fun e => ?_) (fun e => ?_)
  · walk_at "go"
    refine w_tyL l3' ?_
    walk_at "go"
    refine w_app l3' (szM' (by rw [List.length_map]; omega)) fun H4 b4 l4 => ?_
    walk_at "go"
    refine w_addS (szM ?_) ?_
    · show 1 + row.name.length ≤ _
      omega
    walk_at "go"
    refine w_addS (szM ?_) ?_
    · rw [str_app_len]
      show 1 + row.name.length + 1 ≤ _
      omega
    refine k H4 _ (ls ++ [row.name]) ((But.same t03).trans b4) (by rw [List.map_append]; exact l4) (by rw [List.length_append]; exact Nat.le_refl _) (fun x hx => ?_) (pc_mid (by decide +kernel) (by decide +kernel) hnr)
    rcases List.mem_append.mp hx with hx | hx
    · exact hlo x hx
    · rw [List.mem_singleton.mp hx]
      exact hnr
  walk_at "go"
  refine w_if_and2 (b2 := !ls.isEmpty) (fun _ R' k' => ?_) fun H4 t4 => ?_
  · walk_at "go"
    refine w_mkL fun q4 H4 n4 t4 l4 => ?_
    refine w_neL0 (SqL.of (t4 _ _ l3')) l4 (fun y hy => (nm_ne (hlo y hy)).2.2) ?_
    walk_at "go"
    exact k' H4 t4
  have t04 := t03.trans t4
  have l4' := t4 _ _ l3'
  refine w_2 (fun e2 => ?_) (fun e2 => ?_)
  · obtain ⟨_, e3⟩ := Bool.and_eq_true_iff.mp e2
    walk_at "go"
    rcases List.eq_nil_or_concat ls with el | ⟨ls0, y, el⟩
    · rw [el] at e3
      cases e3
    · rw [List.concat_eq_append] at el
      have hyo2 : NmOk y := hlo y (by rw [el]; exact List.mem_append_right _ List.mem_cons_self)
      have hy8 := nm_len hyo2
      rw [el, List.map_append] at l4'
      refine w_tyL l4' ?_
      refine w_pop (y := V.str y) l4' ?_ fun H5 b5 l5 => ?_
      · rw [List.length_append]
        simp
      rw [show (List.map V.str ls0 ++ List.map V.str [y]).dropLast = List.map V.str ls0 from List.dropLast_concat] at l5
      refine w_addS (szM ?_) ?_
      · show 2 + y.length ≤ _
        omega
      walk_at "go"
      refine w_addS (szM ?_) ?_
      · rw [str_app_len]
        show 2 + y.length + 1 ≤ _
        omega
      refine k H5 _ ls0 ((But.same t04).trans b5) l5 ?_ (fun x hx => hlo x (by rw [el]; exact List.mem_append_left _ hx)) (pc_mid (by decide +kernel) (by decide +kernel) hyo2)
      rw [el, List.length_append]
      omega
  walk_at "go"
  refine w_2 (fun e3 => ?_) (fun e3 => ?_)
  · walk_at "go"
    refine w_lcR2 (by decide) ?_
    refine w_lcR (fun Dl j H' => H4 Dl = none ∧ Same H4 H' ∧ ∃ css : List (List Nat), H' Dl = some (.lst ((css.map sOf).map V.str)) ∧ css.flatten.length ≤ 9 * j ∧ css.length ≤ j ∧ ∀ c ∈ css.flatten, c < 128) (fun Dl hD => ⟨hD, sm_new hD, [], upd_same, Nat.zero_le _, Nat.zero_le _, fun c hc => by cases hc⟩) ?_ ?_
    · rintro Dl j H' hj ⟨hD, s6, css, hl, hc1, hc2, hc3⟩
      have hj4 : j < 4 := hj
      walk_at "go"
      refine ⟨rfl, ?_⟩
      walk_at "go"
      have e4 : (3 : Int) + ((j : Nat) : Int) = ((3 + j : Nat) : Int) := by omega
      rw [e4]
      refine ⟨c, 3 + j, rfl, by omega, fun r5 h5 => ?_⟩
      walk_at "go"
      refine ⟨r5, rfl, fun cs hcl hcb => ?_⟩
      refine ⟨_, hl, szM' (by rw [List.length_map, List.length_map]; omega), hD, sm_but s6 hD but_upd, css ++ [cs], by rw [List.map_append, List.map_append]; exact upd_same, ?_, ?_, fun d hd => ?_⟩
      · rw [List.flatten_append, List.length_append, show [cs].flatten = cs from List.append_nil cs]
        omega
      · rw [List.length_append]
        exact Nat.succ_le_succ hc2
      · rw [List.flatten_append] at hd
        rcases List.mem_append.mp hd with hd | hd
        · exact hc3 d hd
        · simp at hd
          exact hcb d hd
    · rintro Dl H5 ⟨hD, s6, css, hl, hc1, hc2, hc3⟩
      have hc1' : css.flatten.length ≤ 36 := hc1
      walk_at "go"
      refine w_join hl (by omega) ?_
      exact k H5 _ ls (But.same (t04.trans s6)) (s6 _ _ l4') (Nat.le_succ _) hlo ⟨_, rfl, hc1', hc3⟩
  · walk_at "go"
    refine w_div (by decide) (by decide) ?_
    walk_at "go"
    refine w_mod (by decide) fun r9 h9 h10 => ?_
    obtain ⟨j9, _, _, v9, hv9, hat9⟩ := at_int (ys := ys.map V.str) (n := 20) h9 h10 (by rw [List.length_map, hy20])
    obtain ⟨z9, hz9, rfl⟩ := map_get hv9
    refine w_ixL (SqL.of (t4 _ _ hys)) hat9 ?_
    exact k H4 z9 ls (But.same t04) l4' (Nat.le_succ _) hlo (hyo z9 (List.mem_of_getElem? hz9))
end
end Tg

namespace Tg
open PySem PySem.Spec PyProof.Rows L2
theorem cut_ints (cells : List Int) (lo : Int) : ∃ ds : List Int, cutV (cells.map V.int) (some lo) (some 63) = ds.map V.int ∧ ds.length ≤ 63 := by
  unfold cutV
  refine ⟨_, by rw [← List.map_drop, ← List.map_take], ?_⟩
  rw [List.length_take]
  have : HT.sIx (cells.map V.int).length (cells.map V.int).length (some 63) ≤ 63 := by
    have e : (63 : Int) = ((63 : Nat) : Int) := rfl
    rw [e, HT.sIx_nat]
    exact Nat.min_le_left _ _
  omega
theorem rep_len (n : Nat) (cs : List Nat) : (List.replicate n cs).flatten.length = n * cs.length := by simp
section
variable {P : Program} {w : World} {K : PySem.W.Frag} {mg : Str → Option Value} {base : Heap} {C ea : Addr}
def spText (K : PySem.W.Frag) : Sp := fun vs H Q _ => ∃ (s : Addr) (cells : List Int) (lo : Int) (B : Bk), vs = [.ref s, .int lo, .ref B.b] ∧ SqL K H s (cells.map V.int) ∧ B.Ok ∧ Same B.G H ∧ 1 ≤ B.rows.length ∧ (∀ r ∈ B.rows, NmOk r.name) ∧
  ∀ (H' : Hp) (cs : List Nat), Same H H' → cs.length ≤ 1900 → (∀ c ∈ cs, c < 128) → Q (.str (sOf cs)) H'
theorem c_l_text (D : Defs K mg C) (T : Tx K mg C ea) : C8.Cal P w K mg base 3 "_law_text" (spText K) [] := by
  refine D.d_l_text.cal sc_l_text (fun vs H Q E h => ?_) (fun f cdv A outer s H vs Q E hr h => ?_)
  · obtain ⟨s, cells, lo, B, rfl, _⟩ := h
    rfl
  obtain ⟨sc, cells, lo, B, rfl, hs, hB, s0, hr1, hnm, k⟩ := h
  have c_l_piece : C8.Cal P w K mg base 2 "_law_piece" spPieceL [] := c_l_piece D T
  have c_l_mixed : C8.Cal P w K mg base 1 "_law_mixed" spMixed [] := c_l_mixed D T
  refine ⟨_, (pss_cons (ps_set (i := 3) sc_l_text.nd rfl (Or.inl rfl) pe_str)
      (pss_cons (ps_set (i := 4) sc_l_text.nd rfl (Or.inl rfl) (pe_lst pa_nil))
      (pss_cons (ps_for PassesOwn.never rfl (pi_list (pe_slice sl_list (pv 0) (po_some (pv 1)) (po_some pe_int))) (pg_name (i := 5) sc_l_text.nd rfl (Or.inl rfl)) (pss_cons (ps_set (i := 6) sc_l_text.nd rfl (Or.inl rfl) (C8.pe_c c_l_piece hr (by decide) rfl (pa_cons (pv 0) (pa_cons (pv 5) (pa_cons (pv 2) (pa_cons (pv 4) pa_nil))))))
      (pss_cons (ps_set (i := 7) sc_l_text.nd rfl (Or.inl rfl) pe_int)
      (Evl.pss_cut (ps_if (pt_cmpR op_eq (pe_op op_modN (C8.pe_c c_l_mixed hr (by decide) rfl (pa_cons (pv 5) (pa_cons pe_int pa_nil))) pe_int) pe_int (nomark _)) (pss_one (ps_set (i := 7) sc_l_text.nd rfl (Or.inl rfl) (pe_op op_add pe_int (pe_op op_modN (C8.pe_c c_l_mixed hr (by decide) rfl (pa_cons (pv 5) (pa_cons pe_int pa_nil))) pe_int)))) pss_nil)
      (pss_one (ps_if (pt_cmpR op_lt (pe_callB call_lenS (by rfl) T.b_len PySem.boot_len (pa_cons (pv 3) pa_nil)) pe_int (nomark _)) (pss_one (ps_set (i := 3) sc_l_text.nd rfl (Or.inl rfl) (pe_op op_addS (pv 3) (pe_op op_mulS (pv 6) (pv 7))))) pss_nil))))))
      (pss_one (ps_ret (pv 3)))))), ?_⟩
  walk_at "go"
  refine w_mkL fun lt H1 n1 s1 l1 => ?_
  walk_at "go"
  refine w_slL (sq_same hs s1) fun p H2 n2 s2 l2 => ?_
  obtain ⟨ds, eds, hdl⟩ := cut_ints cells lo
  rw [eds] at l2
  have zp : p ≠ lt := fun z => by
    rw [z, l1] at n2
    cases n2
  refine w_forL (SqL.of l2) (fun i σ H' => ∃ (cs : List Nat) (ls : List Str), (∃ v5 v6 v7, σ = [some (.ref sc), some (.int lo), some (.ref B.b), some (.str (sOf cs)), some (.ref lt), v5, v6, v7]) ∧ Same H H' ∧ But lt H2 H' ∧ H' lt = some (.lst (ls.map V.str)) ∧ ls.length ≤ i ∧ (∀ x ∈ ls, NmOk x) ∧ cs.length ≤ 1900 ∧ ∀ c ∈ cs, c < 128)
    ⟨[], [], ⟨_, _, _, rfl⟩, s1.trans s2, fun b o _ h => h, s2 _ _ l1, Nat.le_refl _, fun x hx => (by cases hx), Nat.zero_le _, fun c hc => by cases hc⟩ ?_ ?_ ?_
  · rintro i σ H' hi ⟨cs, ls, _, _, b3, _⟩
    exact SqL.of (b3 _ _ zp l2)
  · rintro i v σ H' hv ⟨cs, ls, ⟨v5, v6, v7, rfl⟩, s3, b3, fl, hll, hlo, hcl, hcb⟩
    obtain ⟨cell, hcell, rfl⟩ := map_get hv
    have hil := (List.getElem?_eq_some_iff.mp hcell).1
    walk_at "go"
    refine ⟨.ref sc, cell, B, lt, ls, rfl, hB, s0.trans s3, hr1, hnm, fl, by omega, hlo, fun H4 z ls' b4 fl4 hl4 ho4 hz => ?_⟩
    obtain ⟨pc, rfl, hp1, hp2⟩ := hz
    have s4 : Same H H4 := fun b o q => b4 b o (fun z => by rw [z, n1] at q; cases q) (s3 b o q)
    walk_at "go"
    refine w_cut (M := fun σ H'' => ∃ t : Nat, 1 ≤ t ∧ t ≤ 25 ∧ H'' = H4 ∧ σ = [some (.ref sc), some (.int lo), some (.ref B.b), some (.str (sOf cs)), some (.ref lt), some (.int cell), some (.str (sOf pc)), some (.int (t : Nat))]) ?_ ?_
    · walk_at "go"
      refine ⟨cell, 9, rfl, by decide, fun r1 h1 => ?_⟩
      walk_at "go"
      refine w_mod (by decide) fun r2 h2 h3 => ?_
      walk_at "go"
      refine w_2 (fun e => ?_) (fun e => ?_)
      · walk_at "go"
        refine ⟨cell, 10, rfl, by decide, fun r4 h4 => ?_⟩
        walk_at "go"
        refine w_mod (by decide) fun r5 h5 h6 => ?_
        obtain ⟨t, rfl⟩ := Int.eq_ofNat_of_zero_le h5
        walk_at "go"
        have e2 : (2 : Int) + ((t : Nat) : Int) = ((2 + t : Nat) : Int) := by omega
        rw [e2]
        exact ⟨2 + t, by omega, by omega, rfl, rfl⟩
      · walk_at "go"
        exact ⟨1, by omega, by omega, rfl, rfl⟩
    · rintro σ H5 ⟨t, ht1, ht2, rfl, rfl⟩
      have no : ∃ (cs : List Nat) (ls : List Str), (∃ v5 v6 v7, [some (V.ref sc), some (.int lo), some (.ref B.b), some (.str (sOf cs)), some (.ref lt), some (.int cell), some (.str (sOf pc)), some (.int (t : Nat))] = [some (.ref sc), some (.int lo), some (.ref B.b), some (.str (sOf cs)), some (.ref lt), v5, v6, v7]) ∧ Same H H5 ∧ But lt H2 H5 ∧ H5 lt = some (.lst (ls.map V.str)) ∧ ls.length ≤ i + 1 ∧ (∀ x ∈ ls, NmOk x) ∧ cs.length ≤ 1900 ∧ ∀ c ∈ cs, c < 128 :=
        ⟨cs, ls', ⟨_, _, _, rfl⟩, s4, b3.trans b4, fl4, by omega, ho4, hcl, hcb⟩
      walk_at "go"
      refine w_lenS (szM (by rw [sOf_len]; omega)) ?_
      rw [sOf_len]
      walk_at "go"
      refine w_2 (fun e => ?_) (fun e => ?_)
      · have e' := of_decide_eq_true e
        have hrl := rep_len t pc
        have hmul : t * pc.length ≤ 25 * 36 := Nat.mul_le_mul ht2 hp1
        walk_at "go"
        refine w_mulS (mul_ok pc (by omega) (by omega)) ?_
        rw [mul_sOf pc ht1]
        refine w_addS (szM (by rw [sOf_len, sOf_len]; omega)) ?_
        rw [sOf_app]
        refine ⟨cs ++ (List.replicate t pc).flatten, ls', ⟨_, _, _, rfl⟩, s4, b3.trans b4, fl4, by omega, ho4, by rw [List.length_append]; omega, fun d hd => ?_⟩
        rcases List.mem_append.mp hd with hd | hd
        · exact hcb d hd
        · obtain ⟨l, hl, hd⟩ := List.mem_flatten.mp hd
          rw [List.eq_of_mem_replicate hl] at hd
          exact hp2 d hd
      · walk_at "go"
        exact ⟨cs, ls', ⟨_, _, _, rfl⟩, s4, b3.trans b4, fl4, by omega, ho4, hcl, hcb⟩
  · rintro σ H' ⟨cs, ls, ⟨v5, v6, v7, rfl⟩, s3, b3, fl, hll, hlo, hcl, hcb⟩
    walk_at "go"
    exact k H' cs s3 hcl hcb
end
end Tg

namespace Tg
open PySem PySem.Spec PyProof.Rows L2
section
variable {K : PySem.W.Frag} {H : Hp}
theorem mends_dp : ∀ {us : List V} {ms : List Mend}, All2 (MendAt H) us ms → DpAll K H us (ms.map mendD)
  | [], ms, h => by
    have : ms = [] := List.length_eq_zero_iff.mp h.len.symm
    rw [this]
    exact .nil
  | v :: vs, [], h => by
    have := h.len
    cases this
  | v :: vs, m :: ms, h => by
    obtain ⟨h1, h2⟩ := h.tail
    obtain ⟨p, rfl, hp⟩ := h1
    refine .cons ?_ (mends_dp h2)
    exact .tup (SqT.of hp) (.cons (.int _) (.cons (.int _) (.cons (.str _) (.cons (.str _) .nil))))
theorem read_dp {rows : List Row} {rk : Str → Nat} {cs : List Nat} {p t q : Addr} (hp : H p = some (.tup [.ref t, .ref q])) (ht : PartV H (.ref t) (.node "" (readAll rows rk cs).1)) (hq : MendsAt H q (readAll rows rk cs).2) : Dp K H (.ref p) (readD rows rk cs) := by
  obtain ⟨us, h1, h2⟩ := hq.ex
  exact .tup (SqT.of hp) (.cons (PartV.dp _ _ ht) (.cons (.lst (SqL.of h1) (mends_dp h2)) .nil))
end
section
variable {P : Program} {w : World} {K : PySem.W.Frag} {mg : Str → Option Value} {base : Heap} {C ea : Addr}
def spLaw (K : PySem.W.Frag) : Sp := fun vs H Q _ => ∃ (s : Addr) (cells : List Int), vs = [.ref s] ∧ SqL K H s (cells.map V.int) ∧ ∀ H', Q (.bl true) H'
theorem law_ok (D : Defs K mg C) (T : Tx K mg C ea) {f : Addr} {fd : FuncData} (F : Fun K "law" "law" s_law f fd) : FnOk P w K mg base CX0 28 f fd ["_law_script"] (spLaw K) := by
  refine F.ok sc_law (fun vs H Q E h => ?_) (fun cdv A outer s H vs Q E hr h => ?_)
  · obtain ⟨s, cells, rfl, _⟩ := h
    rfl
  obtain ⟨sc, cells, rfl, hs, k⟩ := h
  have c_l_book : C8.Cal P w K mg base 3 "_law_book" (spBook K) [] := c_l_book D T
  have c_l_text : C8.Cal P w K mg base 3 "_law_text" (spText K) [] := c_l_text D T
  have c_l_read : C8.Cal P w K mg base 23 "_law_read" spReadText [] := c_l_read D T
  have c_read_text : C8.Cal P w K mg base 27 "read_text" spReadText [] := c_read_text D T
  refine ⟨_, (pss_cons (ps_set (i := 1) sc_law.nd rfl (Or.inl rfl) (C8.pe_c c_l_book hr (by decide) rfl (pa_cons (pv 0) pa_nil)))
      (pss_cons (ps_set (i := 2) sc_law.nd rfl (Or.inl rfl) (C8.pe_c c_l_text hr (by decide) rfl (pa_cons (pv 0) (pa_cons pe_int (pa_cons (pv 1) pa_nil)))))
      (pss_cons (ps_set (i := 3) sc_law.nd rfl (Or.inl rfl) (C8.pe_c c_l_read hr (by decide) rfl (pa_cons (pv 1) (pa_cons (pv 2) pa_nil))))
      (pss_cons (ps_set (i := 4) sc_law.nd rfl (Or.inl rfl) (C8.pe_c c_read_text hr (by decide) rfl (pa_cons (pv 1) (pa_cons (pv 2) pa_nil))))
      (pss_cons (ps_if (PW.pt (pw_or (pt_not (pt_val (pe_callB call_isi (by rfl) T.b_isinstance (by decide +kernel) (pa_cons (pv 4) (pa_cons (pe_bltn rfl T.b_tuple (by decide +kernel) (v := .ty "tuple") rfl) pa_nil))))) (pw_or (pt_cmpR op_ne (pe_callB call_lenQ (by rfl) T.b_len PySem.boot_len (pa_cons (pv 4) pa_nil)) pe_int (nomark _)) (pw_or1 (pt_not (pt_val (pe_callB call_isi (by rfl) T.b_isinstance (by decide +kernel) (pa_cons (pe_ix ix_tup (pv 4) pe_int (fun _ _ => rfl)) (pa_cons (pe_bltn rfl T.b_list (by decide +kernel) (v := .ty "list") rfl) pa_nil))))))))) (pss_one (ps_ret pe_bl)) pss_nil)
      (pss_cons (ps_if (PW.pt (pw_or (pt_cmpR (op_neD (hu64 hr)) (pv 4) (pv 3) (nomark _)) (pw_or1 (pt_cmpR (op_neD (hu64 hr)) (pe_lc (own := [("_law_mend", 5)]) (g := gName 5) (by rfl) sc_law.nd (pi_list (pe_ix ix_tup (pv 4) pe_int (fun _ _ => rfl))) (blkOk_by (own := [("_law_mend", 5)]) (N := N_law) (sc := defScope s_law) (by decide +kernel)) (fun _ _ _ _ _ => pg_name (i := 5) sc_law.nd rfl (Or.inl rfl)) (fun _ _ _ _ _ => pts_one (pt_not (pt_val (pe_callB (r := rIsi K) call_isi (by rfl) T.b_isinstance (by decide +kernel) (pa_cons (pv 5) (pa_cons (pe_bltn rfl T.b_tuple (by decide +kernel) (v := .ty "tuple") rfl) pa_nil)))))) (fun _ _ _ _ _ => (pv 5))) (pe_lst pa_nil) (nomark _))))) (pss_one (ps_ret pe_bl)) pss_nil)
      (pss_cons (ps_expr (pe_bm0 PySem.F.plainAttrs_list PySem.F.slot_list_clear PySem.F.type_list_clear mt_clear (pe_ix ix_tup (pv 4) pe_int (fun _ _ => rfl))))
      (pss_one (ps_ret (pe_cmpR (op_eqD (hu64 hr)) (C8.pe_c c_read_text hr (by decide) rfl (pa_cons (pv 1) (pa_cons (pv 2) pa_nil))) (pv 3) (nomark _))))))))))), ?_⟩
  walk_at "go"
  refine ⟨sc, cells, rfl, hs, fun H1 B s1 hB sg hr1 hnm => ?_⟩
  walk_at "go"
  refine ⟨sc, cells, 15, B, rfl, sq_same hs s1, hB, sg, hr1, hnm, fun H2 cs s2 hcl hcb => ?_⟩
  have hsh := read_shaped hB.good hcb
  have hrf : PyData.eqv (readD B.rows B.rk cs) (readD B.rows B.rk cs) = true := SeqAt.eqv_refl _ (SeqAt.canLay_of_shaped hsh)
  have sg2 := sg.trans s2
  walk_at "go"
  refine ⟨B, cs, rfl, hB, sg2, by omega, hcb, fun H3 p t q s3 nq hp ht hq => ?_⟩
  have sg3 := sg2.trans s3
  walk_at "go"
  refine ⟨B, cs, rfl, hB, sg3, by omega, hcb, fun H4 p' t' q' s4 nq' hp' ht' hq' => ?_⟩
  have hp4 := s4 _ _ hp
  have ht4 := PartV.mono (tups_same s4) _ _ ht
  obtain ⟨us, hu, hus⟩ := hq.ex
  have hu4 := s4 _ _ hu
  have hq4 : MendsAt H4 q (readAll B.rows B.rk cs).2 := hq.keep (fun o h => s4 _ o h) (tups_same s4)
  obtain ⟨us', hu', hus'⟩ := hq'.ex
  have nqq : q ≠ q' := fun z => by
    rw [← z, hu] at nq'
    cases nq'
  walk_at "go"
  refine w_isiTT hp' ?_
  walk_at "go"
  rw [Bool.not_true]
  walk_at "go"
  refine w_lenT (SqT.of hp') ?_
  walk_at "go"
  rw [show (!decide ((([V.ref t', V.ref q'].length : Nat) : Int) = 2)) = false from (by decide : (!decide (((2 : Nat) : Int) = 2)) = false)]
  walk_at "go"
  refine w_ixT (SqT.of hp') (v := .ref q') rfl ?_
  walk_at "go"
  refine w_isiLL hu' ?_
  walk_at "go"
  rw [Bool.not_true]
  walk_at "go"
  refine w_neD (read_dp hp' ht' hq') (read_dp hp4 ht4 hq4) hsh hsh ?_
  rw [hrf, Bool.not_true]
  walk_at "go"
  refine w_ixT (SqT.of hp') (v := .ref q') rfl ?_
  walk_at "go"
  refine w_lcL (SqL.of hu') (fun Dl j H'' => H4 Dl = none ∧ Same H4 H'' ∧ H'' Dl = some (.lst ([].map V.str))) (fun Dl hD => ⟨hD, sm_new hD, upd_same⟩) (fun Dl j H'' _ h => SqL.of (h.2.1 _ _ hu')) ?_ ?_
  · rintro Dl j v H'' hj ⟨hD, s6, hl⟩
    obtain ⟨m, _, pm, rfl, hpm⟩ := hus'.get hj
    walk_at "go"
    refine ⟨rfl, ?_⟩
    walk_at "go"
    refine w_isiTT (s6 _ _ hpm) ?_
    walk_at "go"
    rw [Bool.not_true]
    walk_at "go"
    exact ⟨hD, s6, hl⟩
  rintro Dl H5 ⟨hD, s5, hl⟩
  walk_at "go"
  refine w_mkL fun q6 H6 n6 s6 l6 => ?_
  refine w_neL0 (ys := []) (SqL.of (s6 _ _ hl)) l6 (fun y hy => by cases hy) ?_
  walk_at "go"
  rw [show (!([] : List Str).isEmpty) = false from rfl]
  walk_at "go"
  have s46 := s5.trans s6
  refine w_ixT (SqT.of (s46 _ _ hp')) (v := .ref q') rfl ?_
  refine w_tyL (s46 _ _ hu') ?_
  refine w_clear (s46 _ _ hu') fun H7 b7 l7 => ?_
  have tu7 : Tups H6 H7 := tups_but (s46 _ _ hu') rfl b7
  have tu47 : Tups H4 H7 := (tups_same s46).trans tu7
  have sg7 : Same B.G H7 := fun b o h => b7 b o (fun z => by
    have := sg3 b o h
    rw [z, nq'] at this
    cases this) (s46 b o (s4 b o (sg3 b o h)))
  walk_at "go"
  refine ⟨B, cs, rfl, hB, sg7, by omega, hcb, fun H8 p8 t8 q8 s8 nq8 hp8 ht8 hq8 => ?_⟩
  have hq7 : MendsAt H8 q (readAll B.rows B.rk cs).2 := hq4.keep (fun o h => s8 _ _ (b7 _ _ nqq (s46 _ _ h))) (tu47.trans (tups_same s8))
  walk_at "go"
  refine w_eqD (read_dp hp8 ht8 hq8) (read_dp (s8 _ _ (tu47 _ _ hp4)) (PartV.mono (tu47.trans (tups_same s8)) _ _ ht4) hq7) hsh hsh ?_
  rw [hrf]
  exact k H8
end
end Tg

namespace Tg
open PySem PySem.Spec PyProof.Rows L2
section
variable {K : PySem.W.Frag} {h : Heap} {mg : Str → Option Value}
theorem glo_of (X : K.In h) (G : h.Ns mainGlobals mg) (c : He.SaysE fa fn K) (i j l : Nat) {x : Str} {st : Stmt} {ps : List Str} (hd : fn[i]? = some ⟨(x, none), x, x, defArgs st, defBody st, defScope st⟩) (hg : fa[j]? = some (.glo x)) (hk : fa[l]? = some (.keep x))
    (hb : ∀ (kV doc pm : Value) (an : Option Addr) (cdv ct : Value) (us : List Value), us.length = ps.length → bindArgs (PySem.W.fnOf x x (defArgs st) (defBody st) (defScope st) .none kV doc pm an cdv ct) ⟨us, []⟩ = pure (ps.zip us)) : Glo K mg x st ps := by
  obtain ⟨oc, od, osl, kV, doc, pm, an, cdv, ct, hl, hc⟩ := c.def_ i hd
  have F : Fun K x x st (He.ga K x) _ := fun_mk hl hc (He.keep_ok (c.fact l hk))
  exact ⟨_, _, F, He.glo_ok X G (c.fact j hg), F.binds hb⟩
theorem mth_of (c : He.SaysE fa fn K) (i j : Nat) {m qual : Str} {st : Stmt} {ps : List Str} (hd : fn[i]? = some ⟨("Reader", some m), m, qual, defArgs st, defBody st, defScope st⟩) (hg : fa[j]? = some (.meth "Reader" m))
    (hb : ∀ (kV doc pm : Value) (an : Option Addr) (cdv ct : Value) (us : List Value), us.length = ps.length → bindArgs (PySem.W.fnOf m qual (defArgs st) (defBody st) (defScope st) .none kV doc pm an cdv ct) ⟨us, []⟩ = pure (ps.zip us)) : Mth K (He.ga K "Reader") m qual st ps := by
  obtain ⟨oc, od, osl, kV, doc, pm, an, cdv, ct, hl, hc⟩ := c.def_ i hd
  have M := He.meth_ok (c.fact j hg)
  have F : Fun K m qual st (He.ma K (He.ga K "Reader") m) _ := fun_mk hl hc M.kp
  exact ⟨_, _, F, M, F.binds hb⟩
theorem ini_of (X : K.In h) (G : h.Ns mainGlobals mg) (c : He.SaysE fa fn K ∧ escB K = true) (i j l : Nat) {st : Stmt} {ps : List Str} (hd : fn[i]? = some ⟨("Reader", some "__init__"), "__init__", "Reader.__init__", defArgs st, defBody st, defScope st⟩) (hg : fa[j]? = some (.glo "Reader")) (hm : fa[l]? = some (.mkr "Reader"))
    (hb : ∀ (kV doc pm : Value) (an : Option Addr) (cdv ct : Value) (us : List Value), us.length = ps.length → bindArgs (PySem.W.fnOf "__init__" "Reader.__init__" (defArgs st) (defBody st) (defScope st) .none kV doc pm an cdv ct) ⟨us, []⟩ = pure (ps.zip us)) : Ini K mg (He.ga K "Reader") "Reader" st ps := by
  obtain ⟨oc, od, osl, kV, doc, pm, an, cdv, ct, hl, hc⟩ := c.1.def_ i hd
  have M := He.mkr_ok (c.1.fact l hm)
  have F : Fun K "__init__" "Reader.__init__" st (He.ma K (He.ga K "Reader") "__init__") _ := fun_mk hl hc (Bool.and_eq_true_iff.mp c.2).2
  exact ⟨_, _, F, M, He.glo_ok X G (c.1.fact j hg), F.binds hb⟩
theorem defs_of (X : K.In h) (G : h.Ns mainGlobals mg) (c : He.SaysE fa fn K ∧ escB K = true) : Defs K mg (He.ga K "Reader") :=
  ⟨glo_of X G c.1 0 0 92 rfl rfl rfl (fun _ _ _ _ _ _ us hl => match us, hl with | [_, _], _ => rfl),
    glo_of X G c.1 1 1 93 rfl rfl rfl (fun _ _ _ _ _ _ us hl => match us, hl with | [_, _], _ => rfl),
    glo_of X G c.1 2 2 94 rfl rfl rfl (fun _ _ _ _ _ _ us hl => match us, hl with | [_, _], _ => rfl),
    glo_of X G c.1 3 3 95 rfl rfl rfl (fun _ _ _ _ _ _ us hl => match us, hl with | [_, _], _ => rfl),
    glo_of X G c.1 4 4 96 rfl rfl rfl (fun _ _ _ _ _ _ us hl => match us, hl with | [_, _, _], _ => rfl),
    glo_of X G c.1 5 5 97 rfl rfl rfl (fun _ _ _ _ _ _ us hl => match us, hl with | [_, _], _ => rfl),
    glo_of X G c.1 6 6 98 rfl rfl rfl (fun _ _ _ _ _ _ us hl => match us, hl with | [_, _], _ => rfl),
    glo_of X G c.1 7 7 99 rfl rfl rfl (fun _ _ _ _ _ _ us hl => match us, hl with | [_, _], _ => rfl),
    glo_of X G c.1 8 8 100 rfl rfl rfl (fun _ _ _ _ _ _ us hl => match us, hl with | [_, _, _], _ => rfl),
    glo_of X G c.1 9 9 101 rfl rfl rfl (fun _ _ _ _ _ _ us hl => match us, hl with | [_, _, _], _ => rfl),
    glo_of X G c.1 10 10 102 rfl rfl rfl (fun _ _ _ _ _ _ us hl => match us, hl with | [_, _], _ => rfl),
    glo_of X G c.1 11 11 103 rfl rfl rfl (fun _ _ _ _ _ _ us hl => match us, hl with | [_, _, _], _ => rfl),
    glo_of X G c.1 12 12 104 rfl rfl rfl (fun _ _ _ _ _ _ us hl => match us, hl with | [_, _, _], _ => rfl),
    glo_of X G c.1 13 13 105 rfl rfl rfl (fun _ _ _ _ _ _ us hl => match us, hl with | [_, _, _], _ => rfl),
    glo_of X G c.1 14 14 106 rfl rfl rfl (fun _ _ _ _ _ _ us hl => match us, hl with | [_, _, _], _ => rfl),
    glo_of X G c.1 15 15 107 rfl rfl rfl (fun _ _ _ _ _ _ us hl => match us, hl with | [_, _], _ => rfl),
    glo_of X G c.1 16 16 108 rfl rfl rfl (fun _ _ _ _ _ _ us hl => match us, hl with | [_], _ => rfl),
    glo_of X G c.1 17 17 109 rfl rfl rfl (fun _ _ _ _ _ _ us hl => match us, hl with | [_], _ => rfl),
    glo_of X G c.1 18 18 110 rfl rfl rfl (fun _ _ _ _ _ _ us hl => match us, hl with | [_], _ => rfl),
    glo_of X G c.1 19 19 111 rfl rfl rfl (fun _ _ _ _ _ _ us hl => match us, hl with | [_, _], _ => rfl),
    glo_of X G c.1 20 20 112 rfl rfl rfl (fun _ _ _ _ _ _ us hl => match us, hl with | [_, _, _], _ => rfl),
    glo_of X G c.1 21 21 113 rfl rfl rfl (fun _ _ _ _ _ _ us hl => match us, hl with | [_], _ => rfl),
    ini_of X G c 22 70 71 rfl rfl rfl (fun _ _ _ _ _ _ us hl => match us, hl with | [_, _], _ => rfl),
    mth_of c.1 23 22 rfl rfl (fun _ _ _ _ _ _ us hl => match us, hl with | [_], _ => rfl),
    mth_of c.1 24 23 rfl rfl (fun _ _ _ _ _ _ us hl => match us, hl with | [_, _], _ => rfl),
    mth_of c.1 25 24 rfl rfl (fun _ _ _ _ _ _ us hl => match us, hl with | [_, _], _ => rfl),
    mth_of c.1 26 25 rfl rfl (fun _ _ _ _ _ _ us hl => match us, hl with | [_], _ => rfl),
    mth_of c.1 27 26 rfl rfl (fun _ _ _ _ _ _ us hl => match us, hl with | [_, _, _, _], _ => rfl),
    mth_of c.1 28 27 rfl rfl (fun _ _ _ _ _ _ us hl => match us, hl with | [_, _, _, _], _ => rfl),
    mth_of c.1 29 28 rfl rfl (fun _ _ _ _ _ _ us hl => match us, hl with | [_, _], _ => rfl),
    mth_of c.1 30 29 rfl rfl (fun _ _ _ _ _ _ us hl => match us, hl with | [_, _, _, _], _ => rfl),
    mth_of c.1 31 30 rfl rfl (fun _ _ _ _ _ _ us hl => match us, hl with | [_, _], _ => rfl),
    mth_of c.1 32 31 rfl rfl (fun _ _ _ _ _ _ us hl => match us, hl with | [_, _, _, _], _ => rfl),
    mth_of c.1 33 32 rfl rfl (fun _ _ _ _ _ _ us hl => match us, hl with | [_, _], _ => rfl),
    mth_of c.1 34 33 rfl rfl (fun _ _ _ _ _ _ us hl => match us, hl with | [_, _, _, _, _], _ => rfl),
    mth_of c.1 35 34 rfl rfl (fun _ _ _ _ _ _ us hl => match us, hl with | [_, _, _, _, _, _], _ => rfl),
    mth_of c.1 36 35 rfl rfl (fun _ _ _ _ _ _ us hl => match us, hl with | [_, _], _ => rfl),
    mth_of c.1 37 36 rfl rfl (fun _ _ _ _ _ _ us hl => match us, hl with | [_], _ => rfl),
    glo_of X G c.1 38 37 114 rfl rfl rfl (fun _ _ _ _ _ _ us hl => match us, hl with | [_, _], _ => rfl),
    glo_of X G c.1 39 38 115 rfl rfl rfl (fun _ _ _ _ _ _ us hl => match us, hl with | [_, _], _ => rfl),
    glo_of X G c.1 40 39 116 rfl rfl rfl (fun _ _ _ _ _ _ us hl => match us, hl with | [_, _], _ => rfl),
    glo_of X G c.1 41 40 117 rfl rfl rfl (fun _ _ _ _ _ _ us hl => match us, hl with | [_], _ => rfl),
    glo_of X G c.1 42 41 118 rfl rfl rfl (fun _ _ _ _ _ _ us hl => match us, hl with | [_], _ => rfl),
    glo_of X G c.1 43 42 119 rfl rfl rfl (fun _ _ _ _ _ _ us hl => match us, hl with | [_, _, _], _ => rfl),
    glo_of X G c.1 44 43 120 rfl rfl rfl (fun _ _ _ _ _ _ us hl => match us, hl with | [_], _ => rfl),
    glo_of X G c.1 45 44 121 rfl rfl rfl (fun _ _ _ _ _ _ us hl => match us, hl with | [_, _], _ => rfl),
    glo_of X G c.1 46 45 122 rfl rfl rfl (fun _ _ _ _ _ _ us hl => match us, hl with | [_, _], _ => rfl),
    glo_of X G c.1 47 46 123 rfl rfl rfl (fun _ _ _ _ _ _ us hl => match us, hl with | [_, _], _ => rfl),
    glo_of X G c.1 48 47 124 rfl rfl rfl (fun _ _ _ _ _ _ us hl => match us, hl with | [_, _, _], _ => rfl),
    glo_of X G c.1 49 48 125 rfl rfl rfl (fun _ _ _ _ _ _ us hl => match us, hl with | [_, _], _ => rfl),
    glo_of X G c.1 50 49 126 rfl rfl rfl (fun _ _ _ _ _ _ us hl => match us, hl with | [_, _, _], _ => rfl),
    glo_of X G c.1 51 50 127 rfl rfl rfl (fun _ _ _ _ _ _ us hl => match us, hl with | [_, _], _ => rfl),
    glo_of X G c.1 52 51 128 rfl rfl rfl (fun _ _ _ _ _ _ us hl => match us, hl with | [_, _, _], _ => rfl),
    glo_of X G c.1 53 52 129 rfl rfl rfl (fun _ _ _ _ _ _ us hl => match us, hl with | [_, _, _], _ => rfl),
    glo_of X G c.1 54 53 130 rfl rfl rfl (fun _ _ _ _ _ _ us hl => match us, hl with | [_, _], _ => rfl),
    glo_of X G c.1 55 54 131 rfl rfl rfl (fun _ _ _ _ _ _ us hl => match us, hl with | [_], _ => rfl),
    glo_of X G c.1 56 55 132 rfl rfl rfl (fun _ _ _ _ _ _ us hl => match us, hl with | [_], _ => rfl),
    glo_of X G c.1 57 56 133 rfl rfl rfl (fun _ _ _ _ _ _ us hl => match us, hl with | [_, _], _ => rfl),
    glo_of X G c.1 58 57 134 rfl rfl rfl (fun _ _ _ _ _ _ us hl => match us, hl with | [_, _], _ => rfl),
    glo_of X G c.1 59 58 135 rfl rfl rfl (fun _ _ _ _ _ _ us hl => match us, hl with | [_, _], _ => rfl),
    glo_of X G c.1 60 59 136 rfl rfl rfl (fun _ _ _ _ _ _ us hl => match us, hl with | [_], _ => rfl),
    glo_of X G c.1 61 60 137 rfl rfl rfl (fun _ _ _ _ _ _ us hl => match us, hl with | [_, _, _, _, _], _ => rfl),
    glo_of X G c.1 62 61 138 rfl rfl rfl (fun _ _ _ _ _ _ us hl => match us, hl with | [_, _, _, _], _ => rfl),
    glo_of X G c.1 63 62 139 rfl rfl rfl (fun _ _ _ _ _ _ us hl => match us, hl with | [_, _, _, _], _ => rfl),
    glo_of X G c.1 64 63 140 rfl rfl rfl (fun _ _ _ _ _ _ us hl => match us, hl with | [_, _], _ => rfl),
    glo_of X G c.1 65 64 141 rfl rfl rfl (fun _ _ _ _ _ _ us hl => match us, hl with | [_, _, _], _ => rfl),
    glo_of X G c.1 66 65 142 rfl rfl rfl (fun _ _ _ _ _ _ us hl => match us, hl with | [_, _], _ => rfl),
    glo_of X G c.1 67 66 143 rfl rfl rfl (fun _ _ _ _ _ _ us hl => match us, hl with | [_], _ => rfl),
    glo_of X G c.1 68 67 144 rfl rfl rfl (fun _ _ _ _ _ _ us hl => match us, hl with | [_, _, _, _], _ => rfl),
    glo_of X G c.1 69 68 145 rfl rfl rfl (fun _ _ _ _ _ _ us hl => match us, hl with | [_, _, _], _ => rfl),
    glo_of X G c.1 70 69 146 rfl rfl rfl (fun _ _ _ _ _ _ us hl => match us, hl with | [_], _ => rfl)⟩
theorem tx_of (X : K.In h) (G : h.Ns mainGlobals mg) (c : He.SaysE fa fn K ∧ escB K = true) : Tx K mg (He.ga K "Reader") (He.ga K "ESCAPES") := by
  refine ⟨He.free_ok X G (c.1.fact 78 (f := .free "len") rfl), He.free_ok X G (c.1.fact 79 (f := .free "tuple") rfl), He.free_ok X G (c.1.fact 80 (f := .free "reversed") rfl), He.free_ok X G (c.1.fact 81 (f := .free "range") rfl), He.free_ok X G (c.1.fact 82 (f := .free "any") rfl), He.free_ok X G (c.1.fact 83 (f := .free "enumerate") rfl), He.free_ok X G (c.1.fact 84 (f := .free "isinstance") rfl), He.free_ok X G (c.1.fact 85 (f := .free "int") rfl), He.free_ok X G (c.1.fact 86 (f := .free "list") rfl), He.free_ok X G (c.1.fact 87 (f := .free "sorted") rfl), He.free_ok X G (c.1.fact 88 (f := .free "str") rfl), ?_, ?_, ⟨_, He.glo_ok X G (c.1.fact 91 (f := .glo "ESCAPES") rfl), rfl⟩, fun H => ?_, He.cls_ok (c.1.fact 72 rfl), He.noat_ok (c.1.fact 73 rfl), He.noat_ok (c.1.fact 74 rfl), He.noat_ok (c.1.fact 75 rfl), He.noat_ok (c.1.fact 76 rfl), He.noat_ok (c.1.fact 77 rfl)⟩
  · obtain ⟨t, e⟩ := He.int_ok X G (c.1.fact 89 (f := .int "DEEPEST" 20) rfl)
    exact ⟨_, e, ⟨t, rfl⟩⟩
  · obtain ⟨t, e⟩ := He.str_ok X G (c.1.fact 90 (f := .str "LETTERS" "abcdefghijklmnopqrstuvwxyz") rfl)
    exact ⟨_, e, ⟨t, rfl⟩⟩
  · exact He.tupB_ok (Bool.and_eq_true_iff.mp c.2).1 H
theorem law_facts {P : Program} {w : World} {f : Addr} (X : K.In h) (G : h.Ns mainGlobals mg) (hfa : mg ("law" : Str) = some (.ref f)) (c : He.SaysE fa fn K ∧ escB K = true) :
    ∃ fd : FuncData, (∀ (s : Shared) (v : Value), BindsTo s fd ⟨[v], []⟩ [("_law_script", v)]) ∧ ∀ base : Heap, K.In base → base.Ns mainGlobals mg → FnOk P w K mg base CX0 28 f fd ["_law_script"] (spLaw K) := by
  have D := defs_of X G c
  have T := tx_of X G c
  obtain ⟨f2, fd, F, hm, _⟩ := D.d_law.ex
  have e := hfa.symm.trans hm
  cases e
  refine ⟨fd, fun s v => ?_, fun base _ _ => law_ok D T F⟩
  obtain ⟨oc, od, kV, doc, pm, an, cdv, ct, osl, rfl, lk, hcd⟩ := F.ex
  exact .of_eq rfl
end
end Tg
open PySem PySem.W PySem.Calls PyProof.Rows
theorem PySem.Challenge.cw_tagmend_k47_whole_reading_holds : PySem.Challenge.rw_tagmend_k47_whole_reading.Holds := by
  w_on; o_law
  refine HandSHeadRun.head_any (r := OpenLaw.row PySem.Challenge.rw_tagmend_k47_whole_reading) (q := view (OpenLaw.row PySem.Challenge.rw_tagmend_k47_whole_reading).prog [65]) (H := Tg.hk) (ob := Tg.ob) (M := 3000) (loose := Tg.nms) (d := HandSHeadRun.topDef (OpenLaw.row PySem.Challenge.rw_tagmend_k47_whole_reading).prog 65) (kwd := []) Tg.ob_eq
    (by kernel_rfl) (fun s => by kernel_rfl) Tg.run (by kernel_rfl) (by kernel_rfl) (by kernel_rfl) (by rfl) (by first | assumption | decide +kernel) (by decide +kernel) ⟨rfl, rfl, rfl, rfl, rfl, by decide +kernel⟩ ?hw ?hc
  case hw => w_witness2
  case hc =>
    refine L2.walk_ofE (l := PySem.Challenge.rw_tagmend_k47_whole_reading) (n := 63) (k := 28) (x := "_law_script") (CX := L2.CX0) rfl (by decide) (by kernel_rfl) ⟨rfl, by decide, by decide⟩ ?F (fun _ _ _ _ z => z)
    intro w mg fa h Y G hmg0
    obtain ⟨K, KX, c⟩ := Y
    have hmg : mg ("law" : PySem.Str) = some (.ref fa) := by
      have e : (HandSHeadRun.topDef (OpenLaw.row PySem.Challenge.rw_tagmend_k47_whole_reading).prog 65).name = ("law" : PySem.Str) := by kernel_rfl
      rw [← e]
      exact hmg0
    obtain ⟨fd, hb, hF⟩ := Tg.law_facts (P := (PySem.Challenge.rw_tagmend_k47_whole_reading).prog) (w := w) KX G hmg c
    exact ⟨K, fd, Tg.spLaw K, KX, hb, fun H a ns hl _ hS => ⟨a, ns, rfl, hS, fun _ => rfl⟩, hF⟩

